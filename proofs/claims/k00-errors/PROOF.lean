import PyProof.Rows.All
import HandS.ForMost
import HandS.Flow
import HandS.Wide
import HandS.Walk
import HandS.Exc
import HandS.IsInst
import HandS.HeadHook2
import PyProof.ReprRoads
import HandS.TupAny
import HandS.Style
import HandS.Conv
import HandS.Defaults
import HandS.WordsExc
import HandS.More
import HandS.Text
import HandS.Small
import HandS.RaiseMore
import PyProof.RowDictHeap
import HandS.Dict
import HandS.ExcInit
import KE.KExcSuper
import HandS.ExcValue
import KE.KExcIs
import HandS.HeadHook1
import HandS.EndBits
import HandS.Head0
import HandS.Head1
import HandS.Head2
import HandS.Words
import PySem.Challenge.RW_dialsums_k00_errors_keep_their_values
import HandS.HeadEnd
set_option Elab.async false
set_option linter.all false
set_option maxRecDepth 100000
set_option maxHeartbeats 4000000
/-! The tree layer, part 0: values as trees, a store of local mutable objects, the relation to the abstract heap. -/
namespace TL
open PySem PySem.Spec PyProof.Rows L2

/-- a value as a tree; hnd i: the i-th object of the store (it may change) -/
inductive D where
  | non | bl (b : Bool) | int (i : Int) | str (s : Str) | ty (n : String)
  | tup (ds : List D) | lst (ds : List D) | scr (ns : List Int)
  | dct (kvs : List (Key × D)) | ins (C : Str) (fs : List (Str × D))
  | cls (C : Str) | exc (C : Str) (d : D) | hnd (i : Nat) | any

/-- an object of the store -/
inductive O where
  | lst (ds : List D) | dct (kvs : List (Key × D)) | ins (C : Str) (fs : List (Str × D))

/-- where the store's objects stand; bad: what a tree must not lean on -/
structure G where
  bad : Addr → Prop
  hs : List Addr

abbrev Env1 := List (Option D)
/-- an exception object of the class cls, its own dict at dd -/
def ExO (cls : Value) (dd : Option Addr) (a : Addr) : HO := .ext fun h => ∃ (oe : Obj) (vs : Array Value), h.get? a = some oe ∧ Zc cls dd oe ∧ oe.data = .fields vs

section
variable (K : PySem.W.Frag) (g : G) (H : Hp)
def TupAt (a : Addr) (xs : List V) : Prop := (H a = some (.tup xs) ∧ ¬ g.bad a) ∨
    ∃ (o : Obj) (its : Array Value) (n : Nat), K.lookup a = some o ∧ o.cls = .type "tuple" ∧ o.data = .seq its n ∧ its.size ≤ sizeLine ∧ Vals xs its.toList
def ScrAt (a : Addr) (xs : List V) : Prop := ((∃ o, H a = some (.frz o (.lst xs))) ∧ ¬ g.bad a) ∨
    ∃ (o : Obj) (its : Array Value) (n : Nat), K.lookup a = some o ∧ o.cls = .type "list" ∧ o.dict = none ∧ o.data = .seq its n ∧ its.size ≤ sizeLine ∧ Vals xs its.toList
mutual
def RV : D → V → Prop
  | .non, v => v = .non
  | .bl b, v => v = .bl b
  | .int i, v => v = .int i
  | .str s, v => v = .str s
  | .ty n, v => v = .ty n
  | .tup ds, v => ∃ a xs, v = .ref a ∧ TupAt K g H a xs ∧ RVs ds xs
  | .lst ds, v => ∃ a xs, v = .ref a ∧ H a = some (.lst xs) ∧ ¬ g.bad a ∧ RVs ds xs
  | .scr ns, v => ∃ a, v = .ref a ∧ ScrAt K g H a (ns.map V.int)
  | .dct kvs, v => ∃ a ws, v = .ref a ∧ H a = some (.dK ws) ∧ ¬ g.bad a ∧ RKs kvs ws
  | .ins C fs, v => ∃ a dx ws, v = .ref a ∧ H a = some (.ins (He.ga K C) dx ws) ∧ ¬ g.bad a ∧ RFs fs ws
  | .cls C, v => v = .ref (He.ga K C)
  | .exc C d, v => ∃ a dd w, v = .ref a ∧ H a = some (ExO (.ref (He.ga K C)) (some dd) a) ∧ ¬ g.bad a ∧ H dd = some (.xd [("value", w)]) ∧ ¬ g.bad dd ∧ RV d w
  | .hnd i, v => ∃ a, v = .ref a ∧ g.hs[i]? = some a
  | .any, _ => True
def RVs : List D → List V → Prop
  | [], xs => xs = []
  | d :: ds, xs => ∃ v r, xs = v :: r ∧ RV d v ∧ RVs ds r
def RKs : List (Key × D) → List (Key × V) → Prop
  | [], xs => xs = []
  | (k, d) :: ds, xs => ∃ v r, xs = (k, v) :: r ∧ RV d v ∧ RKs ds r
def RFs : List (Str × D) → List (Str × V) → Prop
  | [], xs => xs = []
  | (k, d) :: ds, xs => ∃ v r, xs = (k, v) :: r ∧ RV d v ∧ RFs ds r
end
def RO : O → Addr → Prop
  | .lst ds, a => ∃ xs, H a = some (.lst xs) ∧ RVs K g H ds xs
  | .dct kvs, a => ∃ ws, H a = some (.dK ws) ∧ RKs K g H kvs ws
  | .ins C fs, a => ∃ dx ws, H a = some (.ins (He.ga K C) dx ws) ∧ RFs K g H fs ws
/-- the slots -/
def RS : List (Option D) → L2.St → Prop
  | [], σ => σ = []
  | none :: r, σ => ∃ o z, σ = o :: z ∧ RS r z
  | some d :: r, σ => ∃ v z, σ = some v :: z ∧ RV K g H d v ∧ RS r z
end

/-- the store stands in the heap -/
structure SR (K : PySem.W.Frag) (g : G) (S : List O) (H : Hp) : Prop where
  len : g.hs.length = S.length
  nd : g.hs.Nodup
  live : ∀ a ∈ g.hs, g.bad a
  trk : ∀ a, g.bad a → ∃ o, H a = some o
  rep : ∀ (i : Nat) (a : Addr) (o : O), g.hs[i]? = some a → S[i]? = some o → RO K g H o a

/-- from one state to a later one -/
structure Ext (g : G) (H : Hp) (g' : G) (H' : Hp) : Prop where
  keep : ∀ b o, H b = some o → b ∉ g.hs → H' b = some o
  good : ∀ b o, H b = some o → ¬ g.bad b → ¬ g'.bad b
  sub : ∀ b, g.bad b → g'.bad b
  pre : ∃ l, g'.hs = g.hs ++ l ∧ ∀ b ∈ l, H b = none

theorem Ext.refl (g : G) (H : Hp) : Ext g H g H := ⟨fun _ _ e _ => e, fun _ _ _ n => n, fun _ h => h, [], by simp, fun _ h => by cases h⟩
theorem Ext.trans {g g1 g2 : G} {H H1 H2 : Hp} (a : Ext g H g1 H1) (b : Ext g1 H1 g2 H2) (hl : ∀ x ∈ g.hs, ∃ o, H1 x = some o) : Ext g H g2 H2 := by
  obtain ⟨l, e1, f1⟩ := a.pre
  obtain ⟨m, e2, f2⟩ := b.pre
  have step : ∀ c o, H c = some o → c ∉ g.hs → H1 c = some o ∧ c ∉ g1.hs := fun c o e n => by
    refine ⟨a.keep c o e n, fun hm => ?_⟩
    rw [e1] at hm
    rcases List.mem_append.mp hm with h | h
    · exact n h
    · rw [f1 c h] at e
      cases e
  refine ⟨fun c o e n => ?_, fun c o e n => ?_, fun c h => b.sub c (a.sub c h), l ++ m, by rw [e2, e1, List.append_assoc], fun c hc => ?_⟩
  · obtain ⟨e', n'⟩ := step c o e n
    exact b.keep c o e' n'
  · by_cases hc : c ∈ g.hs
    · obtain ⟨o', e'⟩ := hl c hc
      exact b.good c o' e' (a.good c o e n)
    · exact b.good c o (step c o e hc).1 (a.good c o e n)
  · rcases List.mem_append.mp hc with h | h
    · exact f1 c h
    · cases q : H c with
      | none => rfl
      | some o =>
        by_cases hx : c ∈ g.hs
        · obtain ⟨o', e'⟩ := hl c hx
          rw [f2 c h] at e'
          cases e'
        · have z := (step c o q hx).1
          rw [f2 c h] at z
          cases z

/-- what is not bad stays, the handles too -/
structure Wk (g : G) (H : Hp) (g' : G) (H' : Hp) : Prop where
  keep : ∀ b o, H b = some o → ¬ g.bad b → H' b = some o
  good : ∀ b o, H b = some o → ¬ g.bad b → ¬ g'.bad b
  pre : ∀ (i : Nat) (a : Addr), g.hs[i]? = some a → g'.hs[i]? = some a
theorem Ext.wk {g g' : G} {H H' : Hp} (hl : ∀ a ∈ g.hs, g.bad a) (e : Ext g H g' H') : Wk g H g' H' := by
  refine ⟨fun b o q n => e.keep b o q fun m => n (hl _ m), e.good, fun i a h => ?_⟩
  obtain ⟨l, el, _⟩ := e.pre
  rw [el, List.getElem?_append_left (List.getElem?_eq_some_iff.mp h).1]
  exact h
section
variable {K : PySem.W.Frag} {g g' : G} {H H' : Hp}
theorem TupAt.wk (e : Wk g H g' H') {a : Addr} {xs : List V} (h : TupAt K g H a xs) : TupAt K g' H' a xs := by
  rcases h with ⟨h, n⟩ | h
  · exact .inl ⟨e.keep _ _ h n, e.good _ _ h n⟩
  · exact .inr h
theorem ScrAt.wk (e : Wk g H g' H') {a : Addr} {xs : List V} (h : ScrAt K g H a xs) : ScrAt K g' H' a xs := by
  rcases h with ⟨⟨o, h⟩, n⟩ | h
  · exact .inl ⟨⟨o, e.keep _ _ h n⟩, e.good _ _ h n⟩
  · exact .inr h
theorem TupAt.sq {a : Addr} {xs : List V} (h : TupAt K g H a xs) : SqT K H a xs := by
  rcases h with ⟨h, _⟩ | h
  · exact .inl (.inl h)
  · exact .inr h
theorem ScrAt.sq {a : Addr} {xs : List V} (h : ScrAt K g H a xs) : SqL K H a xs := by
  rcases h with ⟨⟨o, h⟩, _⟩ | h
  · exact .inl (.inr ⟨o, h⟩)
  · exact .inr h
mutual
theorem RV.wk (e : Wk g H g' H') : ∀ (d : D) (v : V), RV K g H d v → RV K g' H' d v
  | .non, _, h => by simp only [RV] at h ⊢; exact h
  | .bl _, _, h => by simp only [RV] at h ⊢; exact h
  | .int _, _, h => by simp only [RV] at h ⊢; exact h
  | .str _, _, h => by simp only [RV] at h ⊢; exact h
  | .ty _, _, h => by simp only [RV] at h ⊢; exact h
  | .tup ds, _, h => by
    simp only [RV] at h ⊢
    obtain ⟨a, xs, e1, e2, e3⟩ := h
    exact ⟨a, xs, e1, e2.wk e, RVs.wk e ds xs e3⟩
  | .lst ds, _, h => by
    simp only [RV] at h ⊢
    obtain ⟨a, xs, e1, e2, n, e3⟩ := h
    exact ⟨a, xs, e1, e.keep _ _ e2 n, e.good _ _ e2 n, RVs.wk e ds xs e3⟩
  | .scr ns, _, h => by
    simp only [RV] at h ⊢
    obtain ⟨a, e1, e2⟩ := h
    exact ⟨a, e1, e2.wk e⟩
  | .dct kvs, _, h => by
    simp only [RV] at h ⊢
    obtain ⟨a, xs, e1, e2, n, e3⟩ := h
    exact ⟨a, xs, e1, e.keep _ _ e2 n, e.good _ _ e2 n, RKs.wk e kvs xs e3⟩
  | .ins C fs, _, h => by
    simp only [RV] at h ⊢
    obtain ⟨a, dx, xs, e1, e2, n, e3⟩ := h
    exact ⟨a, dx, xs, e1, e.keep _ _ e2 n, e.good _ _ e2 n, RFs.wk e fs xs e3⟩
  | .cls _, _, h => by simp only [RV] at h ⊢; exact h
  | .exc C d, _, h => by
    simp only [RV] at h ⊢
    obtain ⟨a, dd, w, e1, e2, n, e3, n3, r⟩ := h
    exact ⟨a, dd, w, e1, e.keep _ _ e2 n, e.good _ _ e2 n, e.keep _ _ e3 n3, e.good _ _ e3 n3, RV.wk e d w r⟩
  | .hnd i, _, h => by
    simp only [RV] at h ⊢
    obtain ⟨a, e1, e2⟩ := h
    exact ⟨a, e1, e.pre i a e2⟩
  | .any, _, _ => by simp only [RV]
theorem RVs.wk (e : Wk g H g' H') : ∀ (ds : List D) (xs : List V), RVs K g H ds xs → RVs K g' H' ds xs
  | [], _, h => by simp only [RVs] at h ⊢; exact h
  | d :: ds, _, h => by
    simp only [RVs] at h ⊢
    obtain ⟨v, r, e1, e2, e3⟩ := h
    exact ⟨v, r, e1, RV.wk e d v e2, RVs.wk e ds r e3⟩
theorem RKs.wk (e : Wk g H g' H') : ∀ (ds : List (Key × D)) (xs : List (Key × V)), RKs K g H ds xs → RKs K g' H' ds xs
  | [], _, h => by simp only [RKs] at h ⊢; exact h
  | (k, d) :: ds, _, h => by
    simp only [RKs] at h ⊢
    obtain ⟨v, r, e1, e2, e3⟩ := h
    exact ⟨v, r, e1, RV.wk e d v e2, RKs.wk e ds r e3⟩
theorem RFs.wk (e : Wk g H g' H') : ∀ (ds : List (Str × D)) (xs : List (Str × V)), RFs K g H ds xs → RFs K g' H' ds xs
  | [], _, h => by simp only [RFs] at h ⊢; exact h
  | (k, d) :: ds, _, h => by
    simp only [RFs] at h ⊢
    obtain ⟨v, r, e1, e2, e3⟩ := h
    exact ⟨v, r, e1, RV.wk e d v e2, RFs.wk e ds r e3⟩
end
theorem RS.wk (e : Wk g H g' H') : ∀ (ρ : List (Option D)) (σ : L2.St), RS K g H ρ σ → RS K g' H' ρ σ
  | [], _, h => by simp only [RS] at h ⊢; exact h
  | none :: r, _, h => by
    simp only [RS] at h ⊢
    obtain ⟨o, z, e1, e2⟩ := h
    exact ⟨o, z, e1, RS.wk e r z e2⟩
  | some d :: r, _, h => by
    simp only [RS] at h ⊢
    obtain ⟨v, z, e1, e2, e3⟩ := h
    exact ⟨v, z, e1, RV.wk e d v e2, RS.wk e r z e3⟩
theorem TupAt.mono (hl : ∀ a ∈ g.hs, g.bad a) (e : Ext g H g' H') {a : Addr} {xs : List V} (h : TupAt K g H a xs) : TupAt K g' H' a xs := h.wk (e.wk hl)
theorem ScrAt.mono (hl : ∀ a ∈ g.hs, g.bad a) (e : Ext g H g' H') {a : Addr} {xs : List V} (h : ScrAt K g H a xs) : ScrAt K g' H' a xs := h.wk (e.wk hl)
theorem RV.mono (hl : ∀ a ∈ g.hs, g.bad a) (e : Ext g H g' H') (d : D) (v : V) (h : RV K g H d v) : RV K g' H' d v := RV.wk (e.wk hl) d v h
theorem RVs.mono (hl : ∀ a ∈ g.hs, g.bad a) (e : Ext g H g' H') (d : List D) (v : List V) (h : RVs K g H d v) : RVs K g' H' d v := RVs.wk (e.wk hl) d v h
theorem RKs.mono (hl : ∀ a ∈ g.hs, g.bad a) (e : Ext g H g' H') (d : List (Key × D)) (v : List (Key × V)) (h : RKs K g H d v) : RKs K g' H' d v := RKs.wk (e.wk hl) d v h
theorem RFs.mono (hl : ∀ a ∈ g.hs, g.bad a) (e : Ext g H g' H') (d : List (Str × D)) (v : List (Str × V)) (h : RFs K g H d v) : RFs K g' H' d v := RFs.wk (e.wk hl) d v h
theorem RS.mono (hl : ∀ a ∈ g.hs, g.bad a) (e : Ext g H g' H') (d : Env1) (v : L2.St) (h : RS K g H d v) : RS K g' H' d v := RS.wk (e.wk hl) d v h
theorem RS.get : ∀ {ρ : List (Option D)} {σ : L2.St} {i : Nat} {d : D}, RS K g H ρ σ → ρ[i]? = some (some d) → ∃ v, σ[i]? = some (some v) ∧ RV K g H d v
  | [], _, _, _, _, e => by simp at e
  | none :: r, _, 0, _, _, e => by simp at e
  | some d :: r, _, 0, _, h, e => by
    simp only [RS] at h
    obtain ⟨v, z, rfl, e2, _⟩ := h
    simp at e
    subst e
    exact ⟨v, rfl, e2⟩
  | none :: r, _, i + 1, _, h, e => by
    simp only [RS] at h
    obtain ⟨o, z, rfl, e2⟩ := h
    simpa using RS.get (i := i) e2 (by simpa using e)
  | some d :: r, _, i + 1, _, h, e => by
    simp only [RS] at h
    obtain ⟨v, z, rfl, _, e2⟩ := h
    simpa using RS.get (i := i) e2 (by simpa using e)
theorem RS.set {d : D} {v : V} (hv : RV K g H d v) : ∀ {ρ : List (Option D)} {σ : L2.St} (i : Nat), RS K g H ρ σ → RS K g H (ρ.set i (some d)) (σ.set i (some v))
  | [], _, i, h => by
    simp only [RS] at h
    subst h
    simp only [List.set_nil, RS]
  | none :: r, _, 0, h => by
    simp only [RS] at h
    obtain ⟨o, z, rfl, e2⟩ := h
    simp only [List.set_cons_zero, RS]
    exact ⟨v, z, rfl, hv, e2⟩
  | some d' :: r, _, 0, h => by
    simp only [RS] at h
    obtain ⟨v', z, rfl, _, e2⟩ := h
    simp only [List.set_cons_zero, RS]
    exact ⟨v, z, rfl, hv, e2⟩
  | none :: r, _, i + 1, h => by
    simp only [RS] at h
    obtain ⟨o, z, rfl, e2⟩ := h
    simp only [List.set_cons_succ, RS]
    exact ⟨o, _, rfl, RS.set hv i e2⟩
  | some d' :: r, _, i + 1, h => by
    simp only [RS] at h
    obtain ⟨v', z, rfl, e1, e2⟩ := h
    simp only [List.set_cons_succ, RS]
    exact ⟨v', _, rfl, e1, RS.set hv i e2⟩
theorem RS.unset : ∀ {ρ : List (Option D)} {σ : L2.St} (i : Nat), RS K g H ρ σ → RS K g H (ρ.set i none) (σ.set i none)
  | [], _, i, h => by
    simp only [RS] at h
    subst h
    simp only [List.set_nil, RS]
  | none :: r, _, 0, h => by
    simp only [RS] at h
    obtain ⟨o, z, rfl, e2⟩ := h
    simp only [List.set_cons_zero, RS]
    exact ⟨none, z, rfl, e2⟩
  | some d' :: r, _, 0, h => by
    simp only [RS] at h
    obtain ⟨v', z, rfl, _, e2⟩ := h
    simp only [List.set_cons_zero, RS]
    exact ⟨none, z, rfl, e2⟩
  | none :: r, _, i + 1, h => by
    simp only [RS] at h
    obtain ⟨o, z, rfl, e2⟩ := h
    simp only [List.set_cons_succ, RS]
    exact ⟨o, _, rfl, RS.unset i e2⟩
  | some d' :: r, _, i + 1, h => by
    simp only [RS] at h
    obtain ⟨v', z, rfl, e1, e2⟩ := h
    simp only [List.set_cons_succ, RS]
    exact ⟨v', _, rfl, e1, RS.unset i e2⟩
theorem RS.length : ∀ {ρ : List (Option D)} {σ : L2.St}, RS K g H ρ σ → σ.length = ρ.length
  | [], _, h => by simp only [RS] at h; subst h; rfl
  | none :: r, _, h => by
    simp only [RS] at h
    obtain ⟨o, z, rfl, e2⟩ := h
    simp [RS.length e2]
  | some d :: r, _, h => by
    simp only [RS] at h
    obtain ⟨o, z, rfl, _, e2⟩ := h
    simp [RS.length e2]
theorem RVs.length : ∀ {ds : List D} {xs : List V}, RVs K g H ds xs → xs.length = ds.length
  | [], _, h => by simp only [RVs] at h; subst h; rfl
  | d :: ds, _, h => by
    simp only [RVs] at h
    obtain ⟨v, r, rfl, _, e3⟩ := h
    simp [RVs.length e3]
theorem RVs.get : ∀ {ds : List D} {xs : List V} {i : Nat} {d : D}, RVs K g H ds xs → ds[i]? = some d → ∃ v, xs[i]? = some v ∧ RV K g H d v
  | [], _, _, _, _, e => by simp at e
  | d :: ds, _, 0, _, h, e => by
    simp only [RVs] at h
    obtain ⟨v, r, rfl, e2, _⟩ := h
    simp at e
    subst e
    exact ⟨v, rfl, e2⟩
  | d :: ds, _, i + 1, _, h, e => by
    simp only [RVs] at h
    obtain ⟨v, r, rfl, _, e2⟩ := h
    simpa using RVs.get (i := i) e2 (by simpa using e)
theorem RVs.append : ∀ {ds es : List D} {xs ys : List V}, RVs K g H ds xs → RVs K g H es ys → RVs K g H (ds ++ es) (xs ++ ys)
  | [], _, _, _, h, q => by simp only [RVs] at h; subst h; simpa using q
  | d :: ds, _, _, _, h, q => by
    simp only [RVs] at h
    obtain ⟨v, r, rfl, e2, e3⟩ := h
    simp only [List.cons_append, RVs]
    exact ⟨v, _, rfl, e2, RVs.append e3 q⟩
theorem RVs.one {d : D} {v : V} (h : RV K g H d v) : RVs K g H [d] [v] := by
  simp only [RVs]
  exact ⟨v, [], rfl, h, rfl⟩
theorem RVs.take : ∀ {ds : List D} {xs : List V} (n : Nat), RVs K g H ds xs → RVs K g H (ds.take n) (xs.take n)
  | _, _, 0, _ => by simp only [List.take_zero, RVs]
  | [], _, n + 1, h => by simp only [RVs] at h; subst h; simp only [List.take_nil, RVs]
  | d :: ds, _, n + 1, h => by
    simp only [RVs] at h
    obtain ⟨v, r, rfl, e2, e3⟩ := h
    simp only [List.take_succ_cons, RVs]
    exact ⟨v, _, rfl, e2, RVs.take n e3⟩
theorem RVs.drop : ∀ {ds : List D} {xs : List V} (n : Nat), RVs K g H ds xs → RVs K g H (ds.drop n) (xs.drop n)
  | _, _, 0, h => by simpa using h
  | [], _, n + 1, h => by simp only [RVs] at h; subst h; simp only [List.drop_nil, RVs]
  | d :: ds, _, n + 1, h => by
    simp only [RVs] at h
    obtain ⟨v, r, rfl, e2, e3⟩ := h
    simpa using RVs.drop n e3
theorem RVs.set {d : D} {v : V} (hv : RV K g H d v) : ∀ {ds : List D} {xs : List V} (i : Nat), RVs K g H ds xs → RVs K g H (ds.set i d) (xs.set i v)
  | [], _, i, h => by simp only [RVs] at h; subst h; simp only [List.set_nil, RVs]
  | d' :: ds, _, 0, h => by
    simp only [RVs] at h
    obtain ⟨v', r, rfl, _, e3⟩ := h
    simp only [List.set_cons_zero, RVs]
    exact ⟨v, r, rfl, hv, e3⟩
  | d' :: ds, _, i + 1, h => by
    simp only [RVs] at h
    obtain ⟨v', r, rfl, e2, e3⟩ := h
    simp only [List.set_cons_succ, RVs]
    exact ⟨v', _, rfl, e2, RVs.set hv i e3⟩
theorem RVs.eraseIdx : ∀ {ds : List D} {xs : List V} (i : Nat), RVs K g H ds xs → RVs K g H (ds.eraseIdx i) (xs.eraseIdx i)
  | [], _, i, h => by simp only [RVs] at h; subst h; simp only [List.eraseIdx_nil, RVs]
  | d' :: ds, _, 0, h => by
    simp only [RVs] at h
    obtain ⟨v', r, rfl, _, e3⟩ := h
    simpa using e3
  | d' :: ds, _, i + 1, h => by
    simp only [RVs] at h
    obtain ⟨v', r, rfl, e2, e3⟩ := h
    simp only [List.eraseIdx_cons_succ, RVs]
    exact ⟨v', _, rfl, e2, RVs.eraseIdx i e3⟩
theorem RVs.snoc {ds : List D} {xs : List V} {d : D} {v : V} (h : RVs K g H ds xs) (hv : RV K g H d v) : RVs K g H (ds ++ [d]) (xs ++ [v]) := h.append (RVs.one hv)
theorem RVs.reverse : ∀ {ds : List D} {xs : List V}, RVs K g H ds xs → RVs K g H ds.reverse xs.reverse
  | [], _, h => by simp only [RVs] at h; subst h; simp only [List.reverse_nil, RVs]
  | d :: ds, _, h => by
    simp only [RVs] at h
    obtain ⟨v, r, rfl, e2, e3⟩ := h
    simp only [List.reverse_cons]
    exact (RVs.reverse e3).snoc e2
end

/-! ### outcomes -/
inductive Out (α : Type) where
  | ok (a : α) (S : List O)
  | exc (C : Str) (d : D) (S : List O)
  | stuck
def Out.bind {α β : Type} (o : Out α) (k : α → List O → Out β) : Out β := match o with
  | .ok a S => k a S
  | .exc C d S => .exc C d S
  | .stuck => .stuck
/-- what a flying exception of the class C with the value d looks like -/
def RX (K : PySem.W.Frag) (g : G) (H : Hp) (C : Str) (d : D) (c : Value) (dd : Option Addr) : Prop :=
  c = .ref (He.ga K C) ∧ ∃ D w, dd = some D ∧ H D = some (.xd [("value", w)]) ∧ ¬ g.bad D ∧ RV K g H d w
def Post {α β : Type} (K : PySem.W.Frag) (W : WX) (R : G → Hp → α → β → Prop) (g : G) (H : Hp) (σ : L2.St) (Q : β → Hp → Prop) : Out α → Prop
  | .ok a S => ∀ g' H' b, Ext g H g' H' → SR K g' S H' → R g' H' a b → Q b H'
  | .exc C d S => ∀ g' H' c dd, Ext g H g' H' → SR K g' S H' → RX K g' H' C d c dd → W c dd σ H'
  | .stuck => False
section
variable {K : PySem.W.Frag} {W : WX} {g : G} {H : Hp} {σ : L2.St} {α β γ δ : Type}
theorem SR.hl {S : List O} (s : SR K g S H) : ∀ a ∈ g.hs, ∃ o, H a = some o := fun a ha => s.trk a (s.live a ha)
/-- the handles stay tracked -/
theorem Ext.hl {g' : G} {H' : Hp} {S : List O} (e : Ext g H g' H') (s : SR K g' S H') : ∀ a ∈ g.hs, ∃ o, H' a = some o := fun a ha => by
  obtain ⟨l, el, _⟩ := e.pre
  exact s.hl a (by rw [el]; exact List.mem_append_left _ ha)
theorem Ext.tr {g1 g2 : G} {H1 H2 : Hp} {S : List O} (a : Ext g H g1 H1) (s : SR K g1 S H1) (b : Ext g1 H1 g2 H2) : Ext g H g2 H2 := a.trans b (a.hl s)
theorem Post.later {R : G → Hp → α → β → Prop} {Q : β → Hp → Prop} {g1 : G} {H1 : Hp} {S1 : List O} (e : Ext g H g1 H1) (s : SR K g1 S1 H1) : ∀ {o : Out α}, Post K W R g H σ Q o → Post K W R g1 H1 σ Q o
  | .ok a S, h => fun g' H' b e' s' r => h g' H' b (e.tr s e') s' r
  | .exc C d S, h => fun g' H' c dd e' s' r => h g' H' c dd (e.tr s e') s' r
  | .stuck, h => h
theorem Post.bind {R : G → Hp → α → β → Prop} {R' : G → Hp → γ → δ → Prop} {Q : δ → Hp → Prop} {Q1 : β → Hp → Prop} {o : Out α} {k : α → List O → Out γ} (hp : Post K W R' g H σ Q (o.bind k))
    (h : ∀ a S1 g1 H1 b, Ext g H g1 H1 → SR K g1 S1 H1 → R g1 H1 a b → Post K W R' g1 H1 σ Q (k a S1) → Q1 b H1) : Post K W R g H σ Q1 o := by
  cases o with
  | ok a S => exact fun g1 H1 b e s r => h a S g1 H1 b e s r (Post.later e s hp)
  | exc C d S => exact hp
  | stuck => exact hp
theorem Post.imp {R : G → Hp → α → β → Prop} {Q Q' : β → Hp → Prop} (hq : ∀ b H', Q b H' → Q' b H') : ∀ {o : Out α}, Post K W R g H σ Q o → Post K W R g H σ Q' o
  | .ok a S, h => fun g' H' b e' s' r => hq _ _ (h g' H' b e' s' r)
  | .exc C d S, h => h
  | .stuck, h => h
end

/-! ### where code stands: what all contexts of one place have in common -/
structure Sg where
  P : Program
  w : World
  K : PySem.W.Frag
  mg : Str → Option Value
  base : Heap
  N : List Str
  scope : Scope
  cl : Str → Bool
  lv : Nat
  W : WX
structure Fits (z : Sg) (X : Cx) : Prop where
  prog : X.prog = z.P
  w : X.w = z.w
  K : X.K = z.K
  mg : X.mg = z.mg
  base : X.base = z.base
  N : X.N = z.N
  scope : X.env.scope = z.scope
  calm : X.calm = true
  nd : z.N.Nodup
  fn : ∀ x, z.cl x = true → X.fn x = true
  room : Room z.lv X.A
  gd : X.A.guards = some []
  takes : Takes X z.W
  own : PassesOwn (model X.prog X.w) X.A X.env X.xe
/-- a name that is stored here -/
def Sto (z : Sg) (x : Str) : Prop := z.scope.names.lookup x = some .local ∨ (z.scope.names.lookup x = some .cell ∧ z.cl x = true)
theorem Sto.loc {z : Sg} {x : Str} (h : Sto z x) : Loc z.scope x := h.elim .inl fun h => .inr h.1
def Gz (z : Sg) (x : Str) : Prop := z.scope.names.lookup x = some .globalImplicit
section
variable {z : Sg} {X : Cx}
theorem Fits.gl (f : Fits z X) {x : Str} (h : Gz z x) : Gl X x := by
  show X.env.scope.names.lookup x = some .globalImplicit
  rw [f.scope]
  exact h
theorem Fits.vis (f : Fits z X) {x : Str} (h : Vis z.scope x) : Vis X.env.scope x := by
  rw [f.scope]
  exact h
theorem Fits.loc (f : Fits z X) {x : Str} (h : Loc z.scope x) : Loc X.env.scope x := by
  rw [f.scope]
  exact h
theorem Fits.at (f : Fits z X) {x : Str} {i : Nat} (h : z.N[i]? = some x) : X.N[i]? = some x := by
  rw [f.N]
  exact h
theorem Fits.ndX (f : Fits z X) : X.N.Nodup := by
  rw [f.N]
  exact f.nd
theorem Fits.st (f : Fits z X) {x : Str} (h : Sto z x) : X.fn x = true ∨ X.env.scope.names.lookup x = some .local := by
  rcases h with h | h
  · exact .inr (by rw [f.scope]; exact h)
  · exact .inl (f.fn x h.2)
theorem Fits.hu (f : Fits z X) : X.A.units + 64 < cLine := f.room.units
theorem Fits.mgl (f : Fits z X) {x : Str} {u : Option Value} (h : z.mg x = u) : X.mg x = u := by
  rw [f.mg]
  exact h
end

/-! ### expressions -/
abbrev TEx := Env1 → List O → Out D
abbrev TAx := Env1 → List O → Out (List D)
abbrev TTx := Env1 → List O → Out Bool
abbrev rBool : G → Hp → Bool → Bool → Prop := fun _ _ a b => a = b
/-- a reading is right -/
def RdE (z : Sg) (τ : TE) (t : TEx) : Prop := ∀ g S ρ σ H Q, SR z.K g S H → RS z.K g H ρ σ → Post z.K z.W (RV z.K) g H σ Q (t ρ S) → τ σ H Q
def RdA (z : Sg) (τ : TA) (t : TAx) : Prop := ∀ g S ρ σ H Q, SR z.K g S H → RS z.K g H ρ σ → Post z.K z.W (RVs z.K) g H σ Q (t ρ S) → τ σ H Q
def RdT (z : Sg) (τ : TT) (t : TTx) : Prop := ∀ g S ρ σ H Q, SR z.K g S H → RS z.K g H ρ σ → Post z.K z.W rBool g H σ Q (t ρ S) → τ σ H Q
def DE (z : Sg) (e : Expr) (t : TEx) : Prop := ∃ τ, (∀ X, Fits z X → PE X e τ) ∧ RdE z τ t
def DA (z : Sg) (es : List Expr) (t : TAx) : Prop := ∃ τ, (∀ X, Fits z X → PA X es τ) ∧ RdA z τ t
def DT (z : Sg) (e : Expr) (t : TTx) : Prop := ∃ τ, (∀ X, Fits z X → PT X e τ) ∧ RdT z τ t

def eVar (i : Nat) : TEx := fun ρ S => match ρ[i]? with
  | some (some d) => .ok d S
  | _ => .stuck
def eC (d : D) : TEx := fun _ S => .ok d S
def eUn (f : D → List O → Out D) (a : TEx) : TEx := fun ρ S => (a ρ S).bind f
def eBin (f : D → D → List O → Out D) (a b : TEx) : TEx := fun ρ S => (a ρ S).bind fun x S1 => (b ρ S1).bind fun y S2 => f x y S2
def eArgs (f : List D → List O → Out D) (a : TAx) : TEx := fun ρ S => (a ρ S).bind f
def aNil : TAx := fun _ S => .ok [] S
def aCons (a : TEx) (r : TAx) : TAx := fun ρ S => (a ρ S).bind fun x S1 => (r ρ S1).bind fun xs S2 => .ok (x :: xs) S2
/-- a value-level operation is right by a rule -/
def OkU (K : PySem.W.Frag) (W : WX) (r : V → Hp → VK → Prop) (f : D → List O → Out D) : Prop :=
  ∀ g S H σ Q x v, SR K g S H → RV K g H x v → Post K W (RV K) g H σ Q (f x S) → r v H Q
def OkB (K : PySem.W.Frag) (W : WX) (r : R2) (f : D → D → List O → Out D) : Prop :=
  ∀ g S H σ Q x y v u, SR K g S H → RV K g H x v → RV K g H y u → Post K W (RV K) g H σ Q (f x y S) → r v u H Q
def OkL (K : PySem.W.Frag) (W : WX) (r : List V → Hp → VK → Prop) (f : List D → List O → Out D) : Prop :=
  ∀ g S H σ Q xs vs, SR K g S H → RVs K g H xs vs → Post K W (RV K) g H σ Q (f xs S) → r vs H Q
section
variable {z : Sg}
theorem de_c {e : Expr} {d : D} {v : V} (h : ∀ X, Fits z X → PE X e (tC v)) (r : ∀ g H, RV z.K g H d v) : DE z e (eC d) :=
  ⟨_, h, fun g S ρ σ H Q s _ p => p g H v (Ext.refl g H) s (r g H)⟩
theorem de_var {i : Nat} {e : Expr} (h : ∀ X, Fits z X → PE X e (tVar i)) : DE z e (eVar i) := by
  refine ⟨_, h, fun g S ρ σ H Q s rs p => ?_⟩
  unfold eVar at p
  split at p
  · rename_i d e
    obtain ⟨v, e1, e2⟩ := rs.get e
    exact ⟨v, e1, p g H v (Ext.refl g H) s e2⟩
  · exact p.elim
theorem da_nil : DA z [] aNil := ⟨_, fun _ _ => pa_nil, fun g S ρ σ H Q s _ p => p g H [] (Ext.refl g H) s (by simp only [RVs])⟩
theorem da_cons {e : Expr} {es : List Expr} {a : TEx} {r : TAx} (ha : DE z e a) (hr : DA z es r) (hs : ∀ env, starEach (e :: es) env = (false, eval e env) :: starEach es env := by intro _; rfl) : DA z (e :: es) (aCons a r) := by
  obtain ⟨τ, h1, q1⟩ := ha
  obtain ⟨τ2, h2, q2⟩ := hr
  refine ⟨_, fun X f => pa_cons (h1 X f) (h2 X f) (hs _), fun g S ρ σ H Q s rs p => ?_⟩
  refine q1 g S ρ σ H _ s rs (p.bind fun x S1 g1 H1 v e1 s1 r1 p1 => ?_)
  refine q2 g1 S1 ρ σ H1 _ s1 (rs.mono s.live e1) (p1.bind fun xs S2 g2 H2 vs e2 s2 r2 p2 => ?_)
  refine p2 g2 H2 (v :: vs) (Ext.refl _ _) s2 ?_
  simp only [RVs]
  exact ⟨v, vs, rfl, r1.mono s1.live e2, r2⟩
theorem rd_un {r : V → Hp → VK → Prop} {f : D → List O → Out D} {ta : TEx} {τ : TE} (ok : OkU z.K z.W r f) (q1 : RdE z τ ta) : RdE z (fun σ H Q => τ σ H fun x H1 => r x H1 Q) (eUn f ta) := fun g S ρ σ H Q s rs p =>
  q1 g S ρ σ H _ s rs (p.bind fun x S1 g1 H1 v e1 s1 r1 p1 => ok g1 S1 H1 σ Q x v s1 r1 p1)
theorem rd_bin {r : R2} {f : D → D → List O → Out D} {ta tb : TEx} {τ τ2 : TE} (ok : OkB z.K z.W r f) (q1 : RdE z τ ta) (q2 : RdE z τ2 tb) : RdE z (fun σ H Q => τ σ H fun x H1 => τ2 σ H1 fun y H2 => r x y H2 Q) (eBin f ta tb) := fun g S ρ σ H Q s rs p =>
  q1 g S ρ σ H _ s rs (p.bind fun x S1 g1 H1 v e1 s1 r1 p1 => q2 g1 S1 ρ σ H1 _ s1 (rs.mono s.live e1) (p1.bind fun y S2 g2 H2 u e2 s2 r2 p2 => ok g2 S2 H2 σ Q x y v u s2 (r1.mono s1.live e2) r2 p2))
theorem de_un {e a : Expr} {r : V → Hp → VK → Prop} {f : D → List O → Out D} {ta : TEx} (mk : ∀ X, Fits z X → ∀ τ : TE, PE X a τ → PE X e (fun σ H Q => τ σ H fun x H1 => r x H1 Q)) (ok : OkU z.K z.W r f) (ha : DE z a ta) : DE z e (eUn f ta) := by
  obtain ⟨τ, h1, q1⟩ := ha
  exact ⟨_, fun X fx => mk X fx τ (h1 X fx), rd_un ok q1⟩
theorem de_bin {e a b : Expr} {r : R2} {f : D → D → List O → Out D} {ta tb : TEx} (mk : ∀ X, Fits z X → ∀ τ τ' : TE, PE X a τ → PE X b τ' → PE X e (fun σ H Q => τ σ H fun x H1 => τ' σ H1 fun y H2 => r x y H2 Q)) (ok : OkB z.K z.W r f) (ha : DE z a ta) (hb : DE z b tb) :
    DE z e (eBin f ta tb) := by
  obtain ⟨τ, h1, q1⟩ := ha
  obtain ⟨τ2, h2, q2⟩ := hb
  exact ⟨_, fun X fx => mk X fx τ τ2 (h1 X fx) (h2 X fx), rd_bin ok q1 q2⟩
theorem de_args {e : Expr} {es : List Expr} {r : List V → Hp → VK → Prop} {f : List D → List O → Out D} {ta : TAx} (mk : ∀ X, Fits z X → ∀ τ : TA, PA X es τ → PE X e (fun σ H Q => τ σ H fun xs H1 => r xs H1 Q)) (ok : OkL z.K z.W r f) (ha : DA z es ta) : DE z e (eArgs f ta) := by
  obtain ⟨τ, h1, q1⟩ := ha
  refine ⟨_, fun X fx => mk X fx τ (h1 X fx), fun g S ρ σ H Q s rs p => ?_⟩
  exact q1 g S ρ σ H _ s rs (p.bind fun x S1 g1 H1 v e1 s1 r1 p1 => ok g1 S1 H1 σ Q x v s1 r1 p1)
end
end TL
set_option Elab.async false
set_option linter.all false
set_option maxRecDepth 100000
set_option maxHeartbeats 4000000
/-! The tree layer, part 1: new objects, operators, tests. -/
namespace TL
open PySem PySem.Spec PyProof.Rows L2

/-! ### new objects, handles -/
theorem Fits.op {z : Sg} {X : Cx} {α : PySem.W.Frag → Prop} (f : Fits z X) (h : α X.K) : α z.K := f.K ▸ h
section
variable {K : PySem.W.Frag} {g : G} {S : List O} {H : Hp} {σ : L2.St} {W : WX} {p : Addr} {o : HO}
theorem SR.unbad (s : SR K g S H) (hp : H p = none) : ¬ g.bad p := fun b => by
  obtain ⟨o, e⟩ := s.trk p b
  rw [hp] at e
  cases e
theorem same_new (hp : H p = none) : ∀ b u, H b = some u → upd H p o b = some u := fun b u e => by
  rw [upd_ne (ne_of_none e hp)]
  exact e
/-- nothing that was tracked is changed, no handle is new -/
theorem Ext.same {H' : Hp} (k : ∀ b u, H b = some u → H' b = some u) : Ext g H g H' := ⟨fun b u e _ => k b u e, fun _ _ _ n => n, fun _ h => h, [], by simp, fun _ h => by cases h⟩
theorem SR.same {H' : Hp} (s : SR K g S H) (k : ∀ b u, H b = some u → H' b = some u) : SR K g S H' := by
  refine ⟨s.len, s.nd, s.live, fun a h => ?_, fun i a o h1 h2 => ?_⟩
  · obtain ⟨u, e⟩ := s.trk a h
    exact ⟨u, k a u e⟩
  · have q := s.rep i a o h1 h2
    have e : Ext g H g H' := Ext.same k
    cases o with
    | lst ds =>
      obtain ⟨xs, e1, e2⟩ := q
      exact ⟨xs, k _ _ e1, e2.mono s.live e ds xs⟩
    | dct kvs =>
      obtain ⟨xs, e1, e2⟩ := q
      exact ⟨xs, k _ _ e1, e2.mono s.live e kvs xs⟩
    | ins C fs =>
      obtain ⟨dx, xs, e1, e2⟩ := q
      exact ⟨dx, xs, k _ _ e1, e2.mono s.live e fs xs⟩
/-- a new object that nobody changes -/
theorem Post.new {α β : Type} {R : G → Hp → α → β → Prop} {Q : β → Hp → Prop} {a : α} {b : β} (s : SR K g S H) (hp : H p = none) (h : Post K W R g H σ Q (.ok a S)) (r : Ext g H g (upd H p o) → R g (upd H p o) a b) : Q b (upd H p o) :=
  h g (upd H p o) b (Ext.same (same_new hp)) (s.same (same_new hp)) (r (Ext.same (same_new hp)))
theorem Post.here {α β : Type} {R : G → Hp → α → β → Prop} {Q : β → Hp → Prop} {a : α} {b : β} (s : SR K g S H) (h : Post K W R g H σ Q (.ok a S)) (r : R g H a b) : Q b H := h g H b (Ext.refl g H) s r
/-- the state with one handle more -/
def G.add (g : G) (p : Addr) : G := ⟨fun b => g.bad b ∨ b = p, g.hs ++ [p]⟩
theorem Ext.add {H' : Hp} (hp : H p = none) (k : ∀ b u, H b = some u → H' b = some u) : Ext g H (g.add p) H' :=
  ⟨fun b u e _ => k b u e, fun b u e n => fun h => h.elim n fun z => (by rw [z, hp] at e; cases e), fun _ h => .inl h, [p], rfl, fun b hb => by rw [List.mem_singleton.mp hb]; exact hp⟩
theorem RO.mono {g' : G} {H' : Hp} (hl : ∀ a ∈ g.hs, g.bad a) (e : Ext g H g' H') {a : Addr} (k : ∀ u, H a = some u → H' a = some u) : ∀ {o : O}, RO K g H o a → RO K g' H' o a
  | .lst ds, ⟨xs, e1, e2⟩ => ⟨xs, k _ e1, e2.mono hl e ds xs⟩
  | .dct kvs, ⟨xs, e1, e2⟩ => ⟨xs, k _ e1, e2.mono hl e kvs xs⟩
  | .ins C fs, ⟨dx, xs, e1, e2⟩ => ⟨dx, xs, k _ e1, e2.mono hl e fs xs⟩
theorem SR.add {H' : Hp} {ob : O} (s : SR K g S H) (hp : H p = none) (k : ∀ b u, H b = some u → H' b = some u) (hr : RO K (g.add p) H' ob p) (hn : ∃ u, H' p = some u) : SR K (g.add p) (S ++ [ob]) H' := by
  have e : Ext g H (g.add p) H' := Ext.add hp k
  refine ⟨by simp [G.add, s.len], ?_, fun a ha => ?_, fun a h => ?_, fun i a o h1 h2 => ?_⟩
  · refine List.nodup_append.mpr ⟨s.nd, by simp, fun a ha b hb => ?_⟩
    rw [List.mem_singleton.mp hb]
    rintro rfl
    exact s.unbad hp (s.live _ ha)
  · rcases List.mem_append.mp ha with h | h
    · exact .inl (s.live a h)
    · exact .inr (List.mem_singleton.mp h)
  · rcases h with h | rfl
    · obtain ⟨u, q⟩ := s.trk a h
      exact ⟨u, k a u q⟩
    · exact hn
  · by_cases hi : i < S.length
    · have h1' : g.hs[i]? = some a := by
        have h1 : (g.hs ++ [p])[i]? = some a := h1
        rwa [List.getElem?_append_left (by rw [s.len]; exact hi)] at h1
      have h2' : S[i]? = some o := by rwa [List.getElem?_append_left hi] at h2
      exact (s.rep i a o h1' h2').mono s.live e fun u q => k a u q
    · have hi2 : i = S.length := by
        have := (List.getElem?_eq_some_iff.mp h2).1
        simp at this
        omega
      subst hi2
      have h1 : (g.hs ++ [p])[S.length]? = some a := h1
      rw [← s.len] at h1
      simp at h1
      simp at h2
      subst h1 h2
      exact hr
/-- a new handle -/
theorem Post.newH {α β : Type} {R : G → Hp → α → β → Prop} {Q : β → Hp → Prop} {a : α} {b : β} {ob : O} (s : SR K g S H) (hp : H p = none) (h : Post K W R g H σ Q (.ok a (S ++ [ob]))) (hr : Ext g H (g.add p) (upd H p o) → RO K (g.add p) (upd H p o) ob p)
    (r : Ext g H (g.add p) (upd H p o) → R (g.add p) (upd H p o) a b) : Q b (upd H p o) :=
  have e : Ext g H (g.add p) (upd H p o) := Ext.add hp (same_new hp)
  h (g.add p) (upd H p o) b e (s.add hp (same_new hp) (hr e) ⟨o, upd_same⟩) (r e)
theorem RV.newH {S : List O} (s : SR K g S H) {H' : Hp} : RV K (g.add p) H' (.hnd S.length) (.ref p) := by
  simp only [RV]
  exact ⟨p, rfl, by rw [← s.len]; simp [G.add]⟩
/-- the object at a handle is written -/
theorem Ext.write {i : Nat} {a : Addr} {u : HO} (hi : g.hs[i]? = some a) : Ext g H g (upd H a u) :=
  ⟨fun b v e n => by rw [upd_ne (fun z => n (by rw [z]; exact List.mem_of_getElem? hi))]; exact e, fun _ _ _ n => n, fun _ h => h, [], by simp, fun _ h => by cases h⟩
theorem SR.write {i : Nat} {a : Addr} {u : HO} {ob : O} (s : SR K g S H) (hi : g.hs[i]? = some a) (hr : Ext g H g (upd H a u) → RO K g (upd H a u) ob a) : SR K g (S.set i ob) (upd H a u) := by
  have e : Ext g H g (upd H a u) := Ext.write hi
  refine ⟨by simp [s.len], s.nd, s.live, fun b h => ?_, fun j b o h1 h2 => ?_⟩
  · by_cases hb : b = a
    · exact ⟨u, by rw [hb, upd_same]⟩
    · obtain ⟨v, q⟩ := s.trk b h
      exact ⟨v, by rw [upd_ne hb]; exact q⟩
  · by_cases hj : j = i
    · subst hj
      have hlt : j < S.length := by
        have := (List.getElem?_eq_some_iff.mp h2).1
        simpa using this
      rw [List.getElem?_set_self hlt] at h2
      rw [hi] at h1
      cases h1
      cases h2
      exact hr e
    · rw [List.getElem?_set_ne (Ne.symm hj)] at h2
      have hb : b ≠ a := fun z => by
        subst z
        obtain ⟨l1, q1⟩ := List.getElem?_eq_some_iff.mp h1
        obtain ⟨l2, q2⟩ := List.getElem?_eq_some_iff.mp hi
        exact hj ((List.getElem_inj s.nd).mp (q1.trans q2.symm))
      exact (s.rep j b o h1 h2).mono s.live e fun v q => by rw [upd_ne hb]; exact q
theorem Post.write {α β : Type} {R : G → Hp → α → β → Prop} {Q : β → Hp → Prop} {x : α} {b : β} {i : Nat} {a : Addr} {u : HO} {ob : O} (s : SR K g S H) (hi : g.hs[i]? = some a) (h : Post K W R g H σ Q (.ok x (S.set i ob))) (hr : Ext g H g (upd H a u) → RO K g (upd H a u) ob a)
    (r : Ext g H g (upd H a u) → R g (upd H a u) x b) : Q b (upd H a u) := h g _ b (Ext.write hi) (s.write hi hr) (r (Ext.write hi))
end

/-! ### looking at a list, a tuple -/
/-- the members of a list (a handle's too) -/
def lstOf (S : List O) : D → Option (List D)
  | .lst ds => some ds
  | .scr ns => some (ns.map D.int)
  | .hnd i => (match S[i]? with
    | some (.lst ds) => some ds
    | _ => none)
  | _ => none
def tupOf : D → Option (List D)
  | .tup ds => some ds
  | _ => none
def seqOf (S : List O) (d : D) : Option (List D) := (lstOf S d).or (tupOf d)
section
variable {K : PySem.W.Frag} {g : G} {S : List O} {H : Hp}
theorem RVs.ints : ∀ ns : List Int, RVs K g H (ns.map D.int) (ns.map V.int)
  | [] => by simp only [List.map_nil, RVs]
  | n :: ns => by
    simp only [List.map_cons, RVs]
    exact ⟨_, _, rfl, by simp only [RV], RVs.ints ns⟩
theorem lst_at (s : SR K g S H) {d : D} {ds : List D} {v : V} (h : lstOf S d = some ds) (r : RV K g H d v) : ∃ a xs, v = .ref a ∧ SqL K H a xs ∧ RVs K g H ds xs := by
  cases d with
  | lst es =>
    cases h
    simp only [RV] at r
    obtain ⟨a, xs, e, h1, _, h2⟩ := r
    exact ⟨a, xs, e, .inl (.inl h1), h2⟩
  | scr ns =>
    cases h
    simp only [RV] at r
    obtain ⟨a, e, h1⟩ := r
    exact ⟨a, _, e, h1.sq, RVs.ints ns⟩
  | hnd i =>
    simp only [lstOf] at h
    split at h
    · rename_i es q
      cases h
      simp only [RV] at r
      obtain ⟨a, e, h1⟩ := r
      obtain ⟨xs, h2, h3⟩ := s.rep i a _ h1 q
      exact ⟨a, xs, e, .inl (.inl h2), h3⟩
    · cases h
  | _ => cases h
theorem tup_at {d : D} {ds : List D} {v : V} (h : tupOf d = some ds) (r : RV K g H d v) : ∃ a xs, v = .ref a ∧ SqT K H a xs ∧ RVs K g H ds xs := by
  cases d with
  | tup es =>
    cases h
    simp only [RV] at r
    obtain ⟨a, xs, e, h1, h2⟩ := r
    exact ⟨a, xs, e, h1.sq, h2⟩
  | _ => cases h
theorem seq_at (s : SR K g S H) {d : D} {ds : List D} {v : V} (h : seqOf S d = some ds) (r : RV K g H d v) : ∃ a xs, v = .ref a ∧ (SqL K H a xs ∨ SqT K H a xs) ∧ RVs K g H ds xs := by
  unfold seqOf at h
  cases e : lstOf S d with
  | some es =>
    rw [e] at h
    cases h
    obtain ⟨a, xs, h1, h2, h3⟩ := lst_at s e r
    exact ⟨a, xs, h1, .inl h2, h3⟩
  | none =>
    rw [e] at h
    obtain ⟨a, xs, h1, h2, h3⟩ := tup_at (show tupOf d = some ds from h) r
    exact ⟨a, xs, h1, .inr h2, h3⟩
end

/-! ### displays -/
def mkL (own : Bool) (ds : List D) (S : List O) : Out D := if ds.length ≤ sizeLine then (if own then .ok (.hnd S.length) (S ++ [.lst ds]) else .ok (.lst ds) S) else .stuck
def mkT (ds : List D) (S : List O) : Out D := if ds.length ≤ sizeLine then .ok (.tup ds) S else .stuck
section
variable {K : PySem.W.Frag} {g : G} {S : List O} {H : Hp} {σ : L2.St} {W : WX} {Q : VK}
theorem mkL_len {own : Bool} {ds : List D} (h : Post K W (RV K) g H σ Q (mkL own ds S)) : ds.length ≤ sizeLine := by
  unfold mkL at h
  split at h
  · assumption
  · exact h.elim
theorem mkL_ok {own : Bool} {ds : List D} {xs : List V} (s : SR K g S H) (r : RVs K g H ds xs) (h : Post K W (RV K) g H σ Q (mkL own ds S)) (p : Addr) (hp : H p = none) : Q (.ref p) (upd H p (.lst xs)) := by
  unfold mkL at h
  split at h
  · split at h
    · refine Post.newH s hp h (fun e => ⟨xs, upd_same, r.mono s.live e ds xs⟩) fun e => RV.newH s
    · refine Post.new s hp h fun e => ?_
      simp only [RV]
      exact ⟨p, xs, rfl, upd_same, s.unbad hp, r.mono s.live e ds xs⟩
  · exact h.elim
theorem mkT_len {ds : List D} (h : Post K W (RV K) g H σ Q (mkT ds S)) : ds.length ≤ sizeLine := by
  unfold mkT at h
  split at h
  · assumption
  · exact h.elim
theorem mkT_ok {ds : List D} {xs : List V} (s : SR K g S H) (r : RVs K g H ds xs) (h : Post K W (RV K) g H σ Q (mkT ds S)) (p : Addr) (hp : H p = none) : Q (.ref p) (upd H p (.tup xs)) := by
  unfold mkT at h
  split at h
  · refine Post.new s hp h fun e => ?_
    simp only [RV]
    exact ⟨p, xs, rfl, .inl ⟨upd_same, s.unbad hp⟩, r.mono s.live e ds xs⟩
  · exact h.elim
end
section
variable {z : Sg} {pos : Pos}
theorem de_lst (own : Bool) {es : List Expr} {a : TAx} (h : DA z es a) : DE z (.List es pos) (eArgs (mkL own) a) :=
  de_args (r := fun xs H Q => xs.length ≤ sizeLine ∧ ∀ p, H p = none → Q (.ref p) (upd H p (.lst xs))) (fun _ _ _ h => pe_lst h) (fun g S H σ Q xs vs s r p => ⟨by rw [r.length]; exact mkL_len p, fun q hq => mkL_ok s r p q hq⟩) h
theorem de_tup {es : List Expr} {a : TAx} {x1} (h : DA z es a) : DE z (.Tuple es x1 pos) (eArgs mkT a) :=
  de_args (r := fun xs H Q => xs.length ≤ sizeLine ∧ ∀ p, H p = none → Q (.ref p) (upd H p (.tup xs))) (fun _ _ _ h => pe_tup h) (fun g S H σ Q xs vs s r p => ⟨by rw [r.length]; exact mkT_len p, fun q hq => mkT_ok s r p q hq⟩) h
end

/-! ### constants -/
section
variable {z : Sg} {pos : Pos}
theorem de_int {i : Int} {j} : DE z (.Constant (.int i) j pos) (eC (.int i)) := de_c (fun _ _ => pe_int) fun _ _ => by simp only [RV]
theorem de_str {x : Str} {j} : DE z (.Constant (.str x) j pos) (eC (.str x)) := de_c (fun _ _ => pe_str) fun _ _ => by simp only [RV]
theorem de_bl {b : Bool} {j} : DE z (.Constant (.bool b) j pos) (eC (.bl b)) := de_c (fun _ _ => pe_bl) fun _ _ => by simp only [RV]
theorem de_non {j} : DE z (.Constant .none j pos) (eC .non) := de_c (fun _ _ => pe_non) fun _ _ => by simp only [RV]
theorem dv (i : Nat) {x : Str} (hN : z.N[i]? = some x := by rfl) (hv : Vis z.scope x := by first | exact Or.inl rfl | exact Or.inr (Or.inl rfl) | exact Or.inr (Or.inr rfl)) (hd : (x == ("__debug__" : Str)) = false := by decide)
    (hcd : (x == ("__classdict__" : Str)) = false := by decide) : DE z (.Name x pos) (eVar i) := de_var fun X f => pe_var (f.at hN) (f.vis hv) hd hcd
theorem de_gstr {x y : Str} (hm : ∃ t, z.mg x = some (.str y t)) (hg : Gz z x := by rfl) (hd : (x == ("__debug__" : Str)) = false := by decide) : DE z (.Name x pos) (eC (.str y)) := by
  obtain ⟨t, hm⟩ := hm
  exact de_c (fun X f => pe_glob (v := .str y) (f.gl hg) (f.mgl hm) ⟨t, rfl⟩ hd) fun _ _ => by simp only [RV]
theorem de_gint {x : Str} {i : Int} (hm : ∃ t, z.mg x = some (.int i t)) (hg : Gz z x := by rfl) (hd : (x == ("__debug__" : Str)) = false := by decide) : DE z (.Name x pos) (eC (.int i)) := by
  obtain ⟨t, hm⟩ := hm
  exact de_c (fun X f => pe_glob (v := .int i) (f.gl hg) (f.mgl hm) ⟨t, rfl⟩ hd) fun _ _ => by simp only [RV]
theorem de_gcls {x : Str} (hm : z.mg x = some (.ref (He.ga z.K x))) (hg : Gz z x := by rfl) (hd : (x == ("__debug__" : Str)) = false := by decide) : DE z (.Name x pos) (eC (.cls x)) :=
  de_c (fun X f => pe_glob (v := .ref _) (f.gl hg) (f.mgl hm) rfl hd) fun _ _ => by simp only [RV]
theorem de_gty {x : Str} {n : String} (hm : z.mg x = none) (hv : bootBuiltins x = some (.type n)) (hg : Gz z x := by rfl) (hn : x ≠ "__name__" := by decide) (hd : (x == ("__debug__" : Str)) = false := by decide) : DE z (.Name x pos) (eC (.ty n)) :=
  de_c (fun X f => pe_bltn (v := .ty n) (f.gl hg) (f.mgl hm) hv rfl hn hd) fun _ _ => by simp only [RV]
end

/-! ### operators of ints, texts, lists, tuples -/
def addD : D → D → List O → Out D
  | .int i, .int j, S => .ok (.int (i + j)) S
  | .str a, .str b, S => if a.length + b.length ≤ sizeLine then .ok (.str (a ++ b)) S else .stuck
  | .tup a, .tup b, S => if a.length + b.length ≤ sizeLine then .ok (.tup (a ++ b)) S else .stuck
  | _, _, _ => .stuck
def catD (own : Bool) : D → D → List O → Out D
  | .lst a, .lst b, S => mkL own (a ++ b) S
  | .hnd i, .lst b, S => (match S[i]? with
    | some (.lst a) => mkL own (a ++ b) S
    | _ => .stuck)
  | .lst a, .hnd i, S => (match S[i]? with
    | some (.lst b) => mkL own (a ++ b) S
    | _ => .stuck)
  | _, _, _ => .stuck
def subD : D → D → List O → Out D
  | .int i, .int j, S => .ok (.int (i - j)) S
  | _, _, _ => .stuck
instance (i j : Int) : Decidable (CMulW i j) := inferInstanceAs (Decidable (_ < _))
instance (i j : Int) : Decidable (CMul i j) := inferInstanceAs (Decidable (_ ∨ _))
instance (i j : Int) : Decidable (CDivW i j) := inferInstanceAs (Decidable (_ ∧ _))
def mulD : D → D → List O → Out D
  | .int i, .int j, S => if CMul i j ∨ CMulW i j then .ok (.int (i * j)) S else .stuck
  | _, _, _ => .stuck
def divD : D → D → List O → Out D
  | .int i, .int j, S => if CDivW i j then .ok (.int (i / j)) S else .stuck
  | _, _, _ => .stuck
def modD : D → D → List O → Out D
  | .int i, .int j, S => if 0 < j then .ok (.int (i % j)) S else .stuck
  | _, _, _ => .stuck
def negD : D → List O → Out D
  | .int i, S => .ok (.int (-i)) S
  | _, _ => .stuck
section
variable {z : Sg} {pos : Pos} {a b : Expr} {ta tb : TEx}
theorem rv_int {K : PySem.W.Frag} {g : G} {H : Hp} {i : Int} {v : V} (h : RV K g H (.int i) v) : v = .int i := by simpa only [RV] using h
theorem rv_str {K : PySem.W.Frag} {g : G} {H : Hp} {i : Str} {v : V} (h : RV K g H (.str i) v) : v = .str i := by simpa only [RV] using h
theorem rv_bl {K : PySem.W.Frag} {g : G} {H : Hp} {i : Bool} {v : V} (h : RV K g H (.bl i) v) : v = .bl i := by simpa only [RV] using h
theorem rv_non {K : PySem.W.Frag} {g : G} {H : Hp} {v : V} (h : RV K g H .non v) : v = .non := by simpa only [RV] using h
theorem RVs.nil_iff {K : PySem.W.Frag} {g : G} {H : Hp} {ds : List D} {xs : List V} (r : RVs K g H ds xs) : xs = [] ↔ ds = [] := by
  rw [← List.length_eq_zero_iff, ← List.length_eq_zero_iff, r.length]
theorem de_add (ha : DE z a ta) (hb : DE z b tb) : DE z (.BinOp a .Add b pos) (eBin addD ta tb) := by
  refine de_bin (fun X fx τ τ' h1 h2 => pe_op (op_add.or (op_add_str.or (fx.K ▸ op_catA))) h1 h2) (fun g S H σ Q x y v u s rx ry p => ?_) ha hb
  unfold addD at p
  split at p
  · exact .inl ⟨_, _, rv_int rx, rv_int ry, p.here s (by simp only [RV])⟩
  · split at p
    · exact .inr (.inl ⟨_, _, rv_str rx, rv_str ry, by assumption, p.here s (by simp only [RV])⟩)
    · exact p.elim
  · split at p
    · rename_i hz
      simp only [RV] at rx ry
      obtain ⟨pa, xs, rfl, h1, r1⟩ := rx
      obtain ⟨pb, ys, rfl, h2, r2⟩ := ry
      have l1 := r1.length
      have l2 := r2.length
      refine .inr (.inr ⟨pa, pb, xs, ys, rfl, rfl, h1.sq, h2.sq, by omega, fun e => ?_, fun _ e => ?_, fun _ _ q hq => ?_⟩)
      · have ea := r1.nil_iff.mp e
        subst ea
        refine p.here s ?_
        simp only [RV, List.nil_append]
        exact ⟨pb, ys, rfl, h2, r2⟩
      · have eb := r2.nil_iff.mp e
        subst eb
        refine p.here s ?_
        simp only [RV, List.append_nil]
        exact ⟨pa, xs, rfl, h1, r1⟩
      · refine p.new s hq fun e => ?_
        simp only [RV]
        exact ⟨q, _, rfl, .inl ⟨upd_same, s.unbad hq⟩, (r1.append r2).mono s.live e _ _⟩
    · exact p.elim
  · exact p.elim
theorem de_cat (own : Bool) (ha : DE z a ta) (hb : DE z b tb) : DE z (.BinOp a .Add b pos) (eBin (catD own) ta tb) := by
  refine de_bin (fun X fx τ τ' h1 h2 => pe_op op_cat h1 h2) (fun g S H σ Q x y v u s rx ry p => ?_) ha hb
  have key : ∀ (ds es : List D) (pa pb : Addr) (xs ys : List V), v = .ref pa → u = .ref pb → H pa = some (.lst xs) → H pb = some (.lst ys) → RVs z.K g H ds xs → RVs z.K g H es ys → Post z.K z.W (RV z.K) g H σ Q (mkL own (ds ++ es) S) → rCat v u H Q := by
    intro ds es pa pb xs ys e1 e2 h1 h2 r1 r2 q
    have l1 := r1.length
    have l2 := r2.length
    have l3 := mkL_len q
    rw [List.length_append] at l3
    exact ⟨pa, pb, xs, ys, e1, e2, h1, h2, by omega, fun l hl => mkL_ok s (r1.append r2) q l hl⟩
  unfold catD at p
  split at p
  · simp only [RV] at rx ry
    obtain ⟨pa, xs, e1, h1, _, r1⟩ := rx
    obtain ⟨pb, ys, e2, h2, _, r2⟩ := ry
    exact key _ _ pa pb xs ys e1 e2 h1 h2 r1 r2 p
  · simp only [RV] at rx ry
    obtain ⟨pa, e1, h1⟩ := rx
    obtain ⟨pb, ys, e2, h2, _, r2⟩ := ry
    split at p
    · rename_i q
      obtain ⟨xs, h3, r1⟩ := s.rep _ _ _ h1 q
      exact key _ _ pa pb xs ys e1 e2 h3 h2 r1 r2 p
    · exact p.elim
  · simp only [RV] at rx ry
    obtain ⟨pa, xs, e1, h1, _, r1⟩ := rx
    obtain ⟨pb, e2, h2⟩ := ry
    split at p
    · rename_i q
      obtain ⟨ys, h3, r2⟩ := s.rep _ _ _ h2 q
      exact key _ _ pa pb xs ys e1 e2 h1 h3 r1 r2 p
    · exact p.elim
  · exact p.elim
theorem de_sub (ha : DE z a ta) (hb : DE z b tb) : DE z (.BinOp a .Sub b pos) (eBin subD ta tb) := by
  refine de_bin (fun X fx τ τ' h1 h2 => pe_op op_sub h1 h2) (fun g S H σ Q x y v u s rx ry p => ?_) ha hb
  unfold subD at p
  split at p
  · exact ⟨_, _, rv_int rx, rv_int ry, p.here s (by simp only [RV])⟩
  · exact p.elim
theorem de_mul (ha : DE z a ta) (hb : DE z b tb) : DE z (.BinOp a .Mult b pos) (eBin mulD ta tb) := by
  refine de_bin (fun X fx τ τ' h1 h2 => pe_op (op_mul.or op_mulW) h1 h2) (fun g S H σ Q x y v u s rx ry p => ?_) ha hb
  unfold mulD at p
  split at p
  · split at p
    · rename_i hc
      rcases hc with hc | hc
      · exact .inl ⟨_, _, rv_int rx, rv_int ry, hc, p.here s (by simp only [RV])⟩
      · exact .inr ⟨_, _, rv_int rx, rv_int ry, hc, p.here s (by simp only [RV])⟩
    · exact p.elim
  · exact p.elim
def CPowB (i j : Int) : Prop := 0 ≤ j ∧ (Builtin.Int.intBits i : Int) * j ≤ 2 ^ 27
instance (i j : Int) : Decidable (CPowB i j) := inferInstanceAs (Decidable (_ ∧ _))
theorem op_powB {X : Cx} : OpR X (binaryOp .Pow) (rI CPowB fun i j => .int (i ^ j.toNat)) := opI fun _ _ _ _ _ _ _ hc q => pow_int hc.1 hc.2 q
def powD : D → D → List O → Out D
  | .int i, .int j, S => if CPowB i j then .ok (.int (i ^ j.toNat)) S else .stuck
  | _, _, _ => .stuck
theorem de_div (ha : DE z a ta) (hb : DE z b tb) : DE z (.BinOp a .FloorDiv b pos) (eBin divD ta tb) := by
  refine de_bin (fun X fx τ τ' h1 h2 => pe_op op_fdivW h1 h2) (fun g S H σ Q x y v u s rx ry p => ?_) ha hb
  unfold divD at p
  split at p
  · split at p
    · exact ⟨_, _, rv_int rx, rv_int ry, by assumption, p.here s (by simp only [RV])⟩
    · exact p.elim
  · exact p.elim
theorem de_mod (ha : DE z a ta) (hb : DE z b tb) : DE z (.BinOp a .Mod b pos) (eBin modD ta tb) := by
  refine de_bin (fun X fx τ τ' h1 h2 => pe_op op_mod h1 h2) (fun g S H σ Q x y v u s rx ry p => ?_) ha hb
  unfold modD at p
  split at p
  · split at p
    · exact ⟨_, _, rv_int rx, rv_int ry, by assumption, p.here s (by simp only [RV])⟩
    · exact p.elim
  · exact p.elim
theorem de_pow (ha : DE z a ta) (hb : DE z b tb) : DE z (.BinOp a .Pow b pos) (eBin powD ta tb) := by
  refine de_bin (fun X fx τ τ' h1 h2 => pe_op op_powB h1 h2) (fun g S H σ Q x y v u s rx ry p => ?_) ha hb
  unfold powD at p
  split at p
  · split at p
    · exact ⟨_, _, rv_int rx, rv_int ry, by assumption, p.here s (by simp only [RV])⟩
    · exact p.elim
  · exact p.elim
theorem de_neg (ha : DE z a ta) : DE z (.UnaryOp .USub a pos) (eUn negD ta) := by
  refine de_un (fun X fx τ h1 => pe_un un_neg h1) (fun g S H σ Q x v s rx p => ?_) ha
  unfold negD at p
  split at p
  · exact ⟨_, rv_int rx, p.here s (by simp only [RV])⟩
  · exact p.elim
end
end TL
set_option Elab.async false
set_option linter.all false
set_option maxRecDepth 100000
set_option maxHeartbeats 4000000
/-! The tree layer, part 2: tests, comparisons, and, or, not, conditional expressions. -/
namespace TL
open PySem PySem.Spec PyProof.Rows L2

def Out.test (o : Out D) : Out Bool := o.bind fun d S => match d with
  | .bl b => .ok b S
  | _ => .stuck
/-- an expression whose value is a bool, as a test -/
def tBl (t : TEx) : TTx := fun ρ S => (t ρ S).test
/-- by truth -/
def truD (S : List O) : D → Option Bool
  | .non => some false
  | .bl b => some b
  | .int i => some (i != 0)
  | .str y => if y.length ≤ sizeLine then some ((y.length : Int) != 0) else none
  | .tup ds => some (!ds.isEmpty)
  | .dct kvs => some (!kvs.isEmpty)
  | .hnd i => (match S[i]? with
    | some (.lst ds) => some (!ds.isEmpty)
    | some (.dct kvs) => some (!kvs.isEmpty)
    | _ => none)
  | .lst ds => some (!ds.isEmpty)
  | .scr ns => some (!ns.isEmpty)
  | _ => none
def tTru (t : TEx) : TTx := fun ρ S => (t ρ S).bind fun d S1 => match truD S1 d with
  | some b => .ok b S1
  | none => .stuck
def tAndT (a b : TTx) : TTx := fun ρ S => (a ρ S).bind fun c S1 => if c = true then b ρ S1 else .ok false S1
def tOrT (a b : TTx) : TTx := fun ρ S => (a ρ S).bind fun c S1 => if c = true then .ok true S1 else b ρ S1
def tNotT (a : TTx) : TTx := fun ρ S => (a ρ S).bind fun c S1 => .ok (!c) S1
def eAnd (a b : TEx) : TEx := fun ρ S => (a ρ S).bind fun d S1 => match truD S1 d with
  | some true => b ρ S1
  | some false => .ok d S1
  | none => .stuck
def eOr (a b : TEx) : TEx := fun ρ S => (a ρ S).bind fun d S1 => match truD S1 d with
  | some true => .ok d S1
  | some false => b ρ S1
  | none => .stuck
def eNot (a : TEx) : TEx := fun ρ S => (a ρ S).bind fun d S1 => match truD S1 d with
  | some b => .ok (.bl (!b)) S1
  | none => .stuck
def eIf (c : TTx) (a b : TEx) : TEx := fun ρ S => (c ρ S).bind fun k S1 => if k = true then a ρ S1 else b ρ S1

section
variable {K : PySem.W.Frag} {g : G} {S : List O} {H : Hp}
theorem emp_of {α β : Type} {xs : List α} {ys : List β} (h : xs.length = ys.length) : (!xs.isEmpty) = (!ys.isEmpty) := by
  cases xs <;> cases ys <;> simp_all
theorem RKs.length : ∀ {ds : List (Key × D)} {xs : List (Key × V)}, RKs K g H ds xs → xs.length = ds.length
  | [], _, h => by simp only [RKs] at h; subst h; rfl
  | (k, d) :: ds, _, h => by
    simp only [RKs] at h
    obtain ⟨v, r, rfl, _, e3⟩ := h
    simp [RKs.length e3]
theorem truD_ok (s : SR K g S H) {d : D} {v : V} {b : Bool} (r : RV K g H d v) (h : truD S d = some b) : TruV K v H b := by
  cases d with
  | non => rw [rv_non r]; cases h; rfl
  | bl c => rw [rv_bl r]; cases h; rfl
  | int i => rw [rv_int r]; cases h; rfl
  | str y =>
    rw [rv_str r]
    simp only [truD] at h
    split at h
    · cases h
      exact ⟨by assumption, rfl⟩
    · cases h
  | tup ds =>
    cases h
    simp only [RV] at r
    obtain ⟨a, xs, rfl, h1, h2⟩ := r
    exact .inr (.inl ⟨xs, h1.sq, emp_of h2.length.symm⟩)
  | lst ds =>
    cases h
    simp only [RV] at r
    obtain ⟨a, xs, rfl, h1, _, h2⟩ := r
    exact .inl ⟨xs, .inl (.inl h1), emp_of h2.length.symm⟩
  | scr ns =>
    cases h
    simp only [RV] at r
    obtain ⟨a, rfl, h1⟩ := r
    exact .inl ⟨_, h1.sq, emp_of (by simp)⟩
  | dct kvs =>
    cases h
    simp only [RV] at r
    obtain ⟨a, ws, rfl, h1, _, h2⟩ := r
    exact .inr (.inr ⟨ws, h1, emp_of h2.length.symm⟩)
  | hnd i =>
    simp only [RV] at r
    obtain ⟨a, rfl, h1⟩ := r
    simp only [truD] at h
    split at h
    · rename_i ds q
      cases h
      obtain ⟨xs, h2, h3⟩ := s.rep i a _ h1 q
      exact .inl ⟨xs, .inl (.inl h2), emp_of h3.length.symm⟩
    · rename_i kvs q
      cases h
      obtain ⟨xs, h2, h3⟩ := s.rep i a _ h1 q
      exact .inr (.inr ⟨xs, h2, emp_of h3.length.symm⟩)
    · cases h
  | _ => cases h
end

section
variable {z : Sg} {pos : Pos} {a b c : Expr} {ta tb tc : TEx}
theorem Post.test {K : PySem.W.Frag} {g : G} {H : Hp} {σ : L2.St} {Q : Bool → Hp → Prop} {o : Out D} (h : Post K W rBool g H σ Q o.test) : Post K W (RV K) g H σ (fun x H' => ∃ k, x = .bl k ∧ Q k H') o := by
  refine Post.bind (R' := rBool) (Q := Q) h fun d S1 g1 H1 v e s r p => ?_
  cases d with
  | bl k => exact ⟨k, rv_bl r, p.here s rfl⟩
  | _ => exact p.elim
/-- a test by its rule, from the value's own reading -/
theorem dt_of {e : Expr} {τ : TE} {t : TEx} (h : ∀ X, Fits z X → PT X e (tTest τ)) (q : RdE z τ t) : DT z e (tBl t) :=
  ⟨_, h, fun g S ρ σ H Q s rs p => q g S ρ σ H _ s rs p.test⟩
theorem dt_val {e : Expr} {t : TEx} (h : DE z e t) (he : ∀ env whole, isTrue e env whole = (do let v ← whole; standAt e.pos; holding [v] (truthy v)) := by intro _ _; rfl) : DT z e (tBl t) := by
  obtain ⟨τ, h1, q1⟩ := h
  exact ⟨_, fun X f => pt_val (h1 X f) (he _), fun g S ρ σ H Q s rs p => q1 g S ρ σ H _ s rs p.test⟩
theorem dt_tru {e : Expr} {t : TEx} (h : DE z e t) (he : ∀ env whole, isTrue e env whole = (do let v ← whole; standAt e.pos; holding [v] (truthy v)) := by intro _ _; rfl) : DT z e (tTru t) := by
  obtain ⟨τ, h1, q1⟩ := h
  refine ⟨_, fun X f => f.K ▸ pt_truth (h1 X f) (he _), fun g S ρ σ H Q s rs p => q1 g S ρ σ H _ s rs (p.bind fun d S1 g1 H1 v e1 s1 r1 p1 => ?_)⟩
  split at p1
  · exact ⟨_, truD_ok s1 r1 (by assumption), p1.here s1 rfl⟩
  · exact p1.elim
/-! and, or, not of tests -/
def DW (z : Sg) (e : Expr) (t : TTx) : Prop := ∃ τ, (∀ X, Fits z X → PW X e τ) ∧ RdT z τ t
theorem DW.dt {e : Expr} {t : TTx} (h : DW z e t) : DT z e t := by
  obtain ⟨τ, h1, q1⟩ := h
  exact ⟨τ, fun X f => (h1 X f).pt, q1⟩
variable {rest : List Expr} {t u : TTx}
theorem dw_and1 (ha : DT z a t) : DW z (.BoolOp .And [a] pos) t := by
  obtain ⟨τ, h1, q1⟩ := ha
  exact ⟨τ, fun X f => pw_and1 (h1 X f), q1⟩
theorem dw_or1 (ha : DT z a t) : DW z (.BoolOp .Or [a] pos) t := by
  obtain ⟨τ, h1, q1⟩ := ha
  exact ⟨τ, fun X f => pw_or1 (h1 X f), q1⟩
theorem dw_and (ha : DT z a t) (hb : DW z (.BoolOp .And (b :: rest) pos) u) : DW z (.BoolOp .And (a :: b :: rest) pos) (tAndT t u) := by
  obtain ⟨τ, h1, q1⟩ := ha
  obtain ⟨τ2, h2, q2⟩ := hb
  refine ⟨_, fun X f => pw_and (h1 X f) (h2 X f), fun g S ρ σ H Q s rs p => q1 g S ρ σ H _ s rs (p.bind fun k S1 g1 H1 k' e1 s1 r1 p1 => ?_)⟩
  have r1 : k = k' := r1
  subst r1
  show if k = true then τ2 σ H1 Q else Q false H1
  split
  · rename_i hk
    rw [if_pos hk] at p1
    exact q2 g1 S1 ρ σ H1 Q s1 (rs.mono s.live e1) p1
  · rename_i hk
    rw [if_neg hk] at p1
    exact p1.here s1 rfl
theorem dw_or (ha : DT z a t) (hb : DW z (.BoolOp .Or (b :: rest) pos) u) : DW z (.BoolOp .Or (a :: b :: rest) pos) (tOrT t u) := by
  obtain ⟨τ, h1, q1⟩ := ha
  obtain ⟨τ2, h2, q2⟩ := hb
  refine ⟨_, fun X f => pw_or (h1 X f) (h2 X f), fun g S ρ σ H Q s rs p => q1 g S ρ σ H _ s rs (p.bind fun k S1 g1 H1 k' e1 s1 r1 p1 => ?_)⟩
  have r1 : k = k' := r1
  subst r1
  show if k = true then Q true H1 else τ2 σ H1 Q
  split
  · rename_i hk
    rw [if_pos hk] at p1
    exact p1.here s1 rfl
  · rename_i hk
    rw [if_neg hk] at p1
    exact q2 g1 S1 ρ σ H1 Q s1 (rs.mono s.live e1) p1
theorem dt_not (ha : DT z a t) : DT z (.UnaryOp .Not a pos) (tNotT t) := by
  obtain ⟨τ, h1, q1⟩ := ha
  refine ⟨_, fun X f => pt_not (h1 X f), fun g S ρ σ H Q s rs p => q1 g S ρ σ H _ s rs (p.bind fun k S1 g1 H1 k' e1 s1 r1 p1 => ?_)⟩
  have r1 : k = k' := r1
  subst r1
  exact p1.here s1 rfl
/-! .. of values -/
theorem de_one {op} {t : TEx} (h : DE z a t) : DE z (.BoolOp op [a] pos) t := by
  obtain ⟨τ, h1, q1⟩ := h
  exact ⟨τ, fun X f => pe_one (h1 X f), q1⟩
theorem de_and (ha : DE z a ta) (hb : DE z (.BoolOp .And (b :: rest) pos) tb) : DE z (.BoolOp .And (a :: b :: rest) pos) (eAnd ta tb) := by
  obtain ⟨τ, h1, q1⟩ := ha
  obtain ⟨τ2, h2, q2⟩ := hb
  refine ⟨_, fun X f => f.K ▸ pe_andT (h1 X f) (h2 X f), fun g S ρ σ H Q s rs p => q1 g S ρ σ H _ s rs (p.bind fun d S1 g1 H1 v e1 s1 r1 p1 => ?_)⟩
  split at p1
  · exact ⟨true, truD_ok s1 r1 (by assumption), by rw [if_pos rfl]; exact q2 g1 S1 ρ σ H1 Q s1 (rs.mono s.live e1) p1⟩
  · exact ⟨false, truD_ok s1 r1 (by assumption), by rw [if_neg Bool.false_ne_true]; exact p1.here s1 r1⟩
  · exact p1.elim
theorem de_or (ha : DE z a ta) (hb : DE z (.BoolOp .Or (b :: rest) pos) tb) : DE z (.BoolOp .Or (a :: b :: rest) pos) (eOr ta tb) := by
  obtain ⟨τ, h1, q1⟩ := ha
  obtain ⟨τ2, h2, q2⟩ := hb
  refine ⟨_, fun X f => f.K ▸ pe_orT (h1 X f) (h2 X f), fun g S ρ σ H Q s rs p => q1 g S ρ σ H _ s rs (p.bind fun d S1 g1 H1 v e1 s1 r1 p1 => ?_)⟩
  split at p1
  · exact ⟨true, truD_ok s1 r1 (by assumption), by rw [if_pos rfl]; exact p1.here s1 r1⟩
  · exact ⟨false, truD_ok s1 r1 (by assumption), by rw [if_neg Bool.false_ne_true]; exact q2 g1 S1 ρ σ H1 Q s1 (rs.mono s.live e1) p1⟩
  · exact p1.elim
theorem de_not (ha : DE z a ta) : DE z (.UnaryOp .Not a pos) (eNot ta) := by
  obtain ⟨τ, h1, q1⟩ := ha
  refine ⟨_, fun X f => f.K ▸ pe_notT (h1 X f), fun g S ρ σ H Q s rs p => q1 g S ρ σ H _ s rs (p.bind fun d S1 g1 H1 v e1 s1 r1 p1 => ?_)⟩
  split at p1
  · exact ⟨_, truD_ok s1 r1 (by assumption), p1.here s1 (by simp only [RV])⟩
  · exact p1.elim
theorem de_if (hc : DT z c t) (ha : DE z a ta) (hb : DE z b tb) : DE z (.IfExp c a b pos) (eIf t ta tb) := by
  obtain ⟨τ, h1, q1⟩ := hc
  obtain ⟨τ2, h2, q2⟩ := ha
  obtain ⟨τ3, h3, q3⟩ := hb
  refine ⟨_, fun X f => pe_ifExp (h1 X f) (h2 X f) (h3 X f), fun g S ρ σ H Q s rs p => q1 g S ρ σ H _ s rs (p.bind fun k S1 g1 H1 k' e1 s1 r1 p1 => ?_)⟩
  have r1 : k = k' := r1
  subst r1
  show if k = true then τ2 σ H1 Q else τ3 σ H1 Q
  split
  · rename_i hk
    rw [if_pos hk] at p1
    exact q2 g1 S1 ρ σ H1 Q s1 (rs.mono s.live e1) p1
  · rename_i hk
    rw [if_neg hk] at p1
    exact q3 g1 S1 ρ σ H1 Q s1 (rs.mono s.live e1) p1
end

/-! ### comparisons -/
section
variable {z : Sg} {pos : Pos} {a b c : Expr} {ta tb tc : TEx}
theorem de_cmp {op : CmpOp} {r : R2} {f : D → D → List O → Out D} (ho : ∀ X, Fits z X → OpR X (compareOp op) r) (ok : OkB z.K z.W r f) (hm : behindInMarks op b = false) (ha : DE z a ta) (hb : DE z b tb) : DE z (.Compare a [op] [b] pos) (eBin f ta tb) :=
  de_bin (fun X f τ τ' h1 h2 => pe_cmpR (ho X f) h1 h2 hm) ok ha hb
theorem dt_cmp {op : CmpOp} {r : R2} {f : D → D → List O → Out D} (ho : ∀ X, Fits z X → OpR X (compareOp op) r) (ok : OkB z.K z.W r f) (hm : behindInMarks op b = false) (ha : DE z a ta) (hb : DE z b tb) : DT z (.Compare a [op] [b] pos) (tBl (eBin f ta tb)) := by
  obtain ⟨τ, h1, q1⟩ := ha
  obtain ⟨τ2, h2, q2⟩ := hb
  exact dt_of (fun X f => pt_cmpR (ho X f) (h1 X f) (h2 X f) hm) (rd_bin ok q1 q2)
/-- a op b op' c -/
def eChain (f f' : D → D → List O → Out D) (a b c : TEx) : TEx := fun ρ S => (a ρ S).bind fun x S1 => (b ρ S1).bind fun y S2 => (f x y S2).test.bind fun k S3 => if k = true then (c ρ S3).bind fun z S4 => f' y z S4 else .ok (.bl false) S3
theorem chain_q {τ τ2 τ3 : TE} {r r' : R2} {f f' : D → D → List O → Out D} (ok : OkB z.K z.W r f) (ok' : OkB z.K z.W r' f') (q1 : RdE z τ ta) (q2 : RdE z τ2 tb) (q3 : RdE z τ3 tc) : RdE z (tChain r r' τ τ2 τ3) (eChain f f' ta tb tc) := by
  intro g S ρ σ H Q s rs p
  refine q1 g S ρ σ H _ s rs (p.bind fun x S1 g1 H1 v e1 s1 r1 p1 => ?_)
  refine q2 g1 S1 ρ σ H1 _ s1 (rs.mono s.live e1) (p1.bind fun y S2 g2 H2 u e2 s2 r2 p2 => ?_)
  refine ok g2 S2 H2 σ _ x y v u s2 (r1.mono s1.live e2) r2 ?_
  refine Post.imp (fun z H' h => h) (Post.test (Q := fun k H3 => if k = true then τ3 σ H3 fun w' H4 => r' u w' H4 Q else Q (.bl false) H3) (p2.bind fun k S3 g3 H3 k' e3 s3 r3 p3 => ?_))
  have r3 : k = k' := r3
  subst r3
  show if k = true then _ else _
  split
  · rename_i hk
    rw [if_pos hk] at p3
    exact q3 g3 S3 ρ σ H3 _ s3 ((rs.mono s.live e1).mono s1.live e2 |>.mono s2.live e3) (p3.bind fun z S4 g4 H4 w e4 s4 r4 p4 => ok' g4 S4 H4 σ Q y z u w s4 ((r2.mono s2.live e3).mono s3.live e4) r4 p4)
  · rename_i hk
    rw [if_neg hk] at p3
    exact p3.here s3 (by simp only [RV])
theorem de_chain {op op' : CmpOp} {r r' : R2} {f f' : D → D → List O → Out D} (ho : ∀ X, Fits z X → OpR X (compareOp op) r) (ho' : ∀ X, Fits z X → OpR X (compareOp op') r') (ok : OkB z.K z.W r f) (ok' : OkB z.K z.W r' f') (ha : DE z a ta) (hb : DE z b tb) (hc : DE z c tc)
    (hm : lastMarks [op, op'] [b, c] = false := by with_unfolding_all rfl) : DE z (.Compare a [op, op'] [b, c] pos) (eChain f f' ta tb tc) := by
  obtain ⟨τ, h1, q1⟩ := ha
  obtain ⟨τ2, h2, q2⟩ := hb
  obtain ⟨τ3, h3, q3⟩ := hc
  exact ⟨_, fun X f => pe_chain (ho X f) (ho' X f) (h1 X f) (h2 X f) (h3 X f) hm, chain_q ok ok' q1 q2 q3⟩
theorem dt_chain {op op' : CmpOp} {r r' : R2} {f f' : D → D → List O → Out D} (ho : ∀ X, Fits z X → OpR X (compareOp op) r) (ho' : ∀ X, Fits z X → OpR X (compareOp op') r') (ok : OkB z.K z.W r f) (ok' : OkB z.K z.W r' f') (ha : DE z a ta) (hb : DE z b tb) (hc : DE z c tc)
    (hm : lastMarks [op, op'] [b, c] = false := by with_unfolding_all rfl) : DT z (.Compare a [op, op'] [b, c] pos) (tBl (eChain f f' ta tb tc)) := by
  obtain ⟨τ, h1, q1⟩ := ha
  obtain ⟨τ2, h2, q2⟩ := hb
  obtain ⟨τ3, h3, q3⟩ := hc
  exact dt_of (fun X f => pt_chain (ho X f) (ho' X f) (h1 X f) (h2 X f) (h3 X f) hm) (chain_q ok ok' q1 q2 q3)
end

/-! ### the trees that are plain data -/
mutual
def pd : D → Option PyData
  | .non => some .none
  | .bl b => some (.bool b)
  | .int i => some (.int i)
  | .str s => some (.str s)
  | .tup ds => (pds ds).map PyData.tuple
  | .lst ds => (pds ds).map PyData.list
  | .dct kvs => (pdk kvs).map PyData.dict
  | _ => none
def pds : List D → Option (List PyData)
  | [] => some []
  | d :: ds => (pd d).bind fun x => (pds ds).map fun xs => x :: xs
def pdk : List (Key × D) → Option (List (PyData × PyData))
  | [] => some []
  | (k, d) :: ds => (pd d).bind fun x => (pdk ds).map fun xs => ((match k with
    | .inl i => PyData.int i
    | .inr s => PyData.str s), x) :: xs
end
section
variable {K : PySem.W.Frag} {g : G} {H : Hp}
mutual
/-- a tree without dicts is the layer's own data -/
theorem pd_dp : ∀ (d : D) (v : V) (x : PyData), RV K g H d v → pd d = some x → x.hasDict = false → Dp K H v x
  | .non, _, _, r, e, _ => by rw [rv_non r]; simp only [pd] at e; cases e; exact .non
  | .bl b, _, _, r, e, _ => by rw [rv_bl r]; simp only [pd] at e; cases e; exact .bl b
  | .int i, _, _, r, e, _ => by rw [rv_int r]; simp only [pd] at e; cases e; exact .int i
  | .str s, _, _, r, e, _ => by rw [rv_str r]; simp only [pd] at e; cases e; exact .str s
  | .tup ds, _, _, r, e, hd => by
    simp only [pd] at e
    cases q : pds ds with
    | none => rw [q] at e; cases e
    | some xs =>
      rw [q] at e
      cases e
      simp only [RV] at r
      obtain ⟨a, vs, rfl, h1, h2⟩ := r
      exact .tup h1.sq (pds_dp ds vs xs h2 q (by simpa only [PyData.hasDict] using hd))
  | .lst ds, _, _, r, e, hd => by
    simp only [pd] at e
    cases q : pds ds with
    | none => rw [q] at e; cases e
    | some xs =>
      rw [q] at e
      cases e
      simp only [RV] at r
      obtain ⟨a, vs, rfl, h1, _, h2⟩ := r
      exact .lst (.inl (.inl h1)) (pds_dp ds vs xs h2 q (by simpa only [PyData.hasDict] using hd))
  | .dct kvs, _, _, _, e, hd => by
    simp only [pd] at e
    cases q : pdk kvs with
    | none => rw [q] at e; cases e
    | some xs =>
      rw [q] at e
      cases e
      simp only [PyData.hasDict] at hd
      cases hd
  | .ty _, _, _, _, e, _ => by simp only [pd] at e; cases e
  | .scr _, _, _, _, e, _ => by simp only [pd] at e; cases e
  | .ins _ _, _, _, _, e, _ => by simp only [pd] at e; cases e
  | .cls _, _, _, _, e, _ => by simp only [pd] at e; cases e
  | .exc _ _, _, _, _, e, _ => by simp only [pd] at e; cases e
  | .hnd _, _, _, _, e, _ => by simp only [pd] at e; cases e
  | .any, _, _, _, e, _ => by simp only [pd] at e; cases e
theorem pds_dp : ∀ (ds : List D) (vs : List V) (xs : List PyData), RVs K g H ds vs → pds ds = some xs → PyData.hasDictAll xs = false → DpAll K H vs xs
  | [], _, _, r, e, _ => by simp only [pds] at e; simp only [RVs] at r; cases e; subst r; exact .nil
  | d :: ds, _, _, r, e, hd => by
    simp only [pds] at e
    simp only [RVs] at r
    obtain ⟨v, vr, rfl, r1, r2⟩ := r
    cases q : pd d with
    | none => rw [q] at e; cases e
    | some x =>
      rw [q] at e
      cases q2 : pds ds with
      | none => rw [q2] at e; cases e
      | some xs =>
        rw [q2] at e
        cases e
        have hd' : (x.hasDict || PyData.hasDictAll xs) = false := by simpa only [PyData.hasDictAll] using hd
        rw [Bool.or_eq_false_iff] at hd'
        exact .cons (pd_dp d v x r1 q hd'.1) (pds_dp ds vr xs r2 q2 hd'.2)
end
end

/-- == of plain values, and of data -/
def eqD (x y : D) (S : List O) : Out D := match x, y with
  | .int i, .int j => .ok (.bl (decide (i = j))) S
  | .str i, .str j => .ok (.bl (decide (i = j))) S
  | .bl i, .bl j => .ok (.bl (decide (i = j))) S
  | _, _ => match pd x, pd y with
    | some p, some q => if SeqAt.shaped p = true ∧ SeqAt.shaped q = true then .ok (.bl (PyData.eqv p q)) S else .stuck
    | _, _ => .stuck
def neD (x y : D) (S : List O) : Out D := match x, y with
  | .int i, .int j => .ok (.bl (!decide (i = j))) S
  | .str i, .str j => .ok (.bl (!decide (i = j))) S
  | .bl i, .bl j => .ok (.bl (!decide (i = j))) S
  | _, _ => match pd x, pd y with
    | some p, some q => if SeqAt.shaped p = true ∧ SeqAt.shaped q = true then .ok (.bl (!PyData.eqv p q)) S else .stuck
    | _, _ => .stuck
def ltD : D → D → List O → Out D
  | .int i, .int j, S => .ok (.bl (decide (i < j))) S
  | .str i, .str j, S => .ok (.bl (decide (i.cps.toList < j.cps.toList))) S
  | _, _, _ => .stuck
def leD : D → D → List O → Out D
  | .int i, .int j, S => .ok (.bl (decide (i ≤ j))) S
  | _, _, _ => .stuck
def gtD : D → D → List O → Out D
  | .int i, .int j, S => .ok (.bl (decide (j < i))) S
  | _, _, _ => .stuck
def geD : D → D → List O → Out D
  | .int i, .int j, S => .ok (.bl (decide (j ≤ i))) S
  | _, _, _ => .stuck
/-- x is None -/
def isN : D → Option Bool
  | .non => some true
  | .any => none
  | _ => some false
def isND : D → D → List O → Out D
  | x, .non, S => (match isN x with
    | some b => .ok (.bl b) S
    | none => .stuck)
  | _, _, _ => .stuck
def notND : D → D → List O → Out D
  | x, .non, S => (match isN x with
    | some b => .ok (.bl (!b)) S
    | none => .stuck)
  | _, _, _ => .stuck
section
variable {K : PySem.W.Frag} {W : WX}
theorem hasDict_shaped {p : PyData} (h : SeqAt.shaped p = true) : p.hasDict = false := PyData.hasDict_of_canLay p (SeqAt.canLay_of_shaped h)
abbrev rEqA (K : PySem.W.Frag) : R2 := fun x y H Q => rEq x y H Q ∨ rEqD K x y H Q
abbrev rNeA (K : PySem.W.Frag) : R2 := fun x y H Q => rNe x y H Q ∨ rNeD K x y H Q
theorem ok_eq : OkB K W (rEqA K) eqD := by
  intro g S H σ Q x y v u s rx ry p
  unfold eqD at p
  split at p
  · rw [rv_int rx, rv_int ry]
    refine .inl ⟨rfl, p.here s ?_⟩
    simp only [RV, V.int.injEq]
  · rw [rv_str rx, rv_str ry]
    refine .inl ⟨rfl, p.here s ?_⟩
    simp only [RV, V.str.injEq]
  · rw [rv_bl rx, rv_bl ry]
    refine .inl ⟨rfl, p.here s ?_⟩
    simp only [RV, V.bl.injEq]
  · split at p
    · rename_i e1 e2
      split at p
      · rename_i hh
        exact .inr ⟨_, _, pd_dp _ _ _ rx e1 (hasDict_shaped hh.1), pd_dp _ _ _ ry e2 (hasDict_shaped hh.2), hh.1, hh.2, p.here s (by simp only [RV])⟩
      · exact p.elim
    · exact p.elim
theorem ok_ne : OkB K W (rNeA K) neD := by
  intro g S H σ Q x y v u s rx ry p
  unfold neD at p
  split at p
  · rw [rv_int rx, rv_int ry]
    refine .inl ⟨rfl, p.here s ?_⟩
    simp only [RV, V.int.injEq]
  · rw [rv_str rx, rv_str ry]
    refine .inl ⟨rfl, p.here s ?_⟩
    simp only [RV, V.str.injEq]
  · rw [rv_bl rx, rv_bl ry]
    refine .inl ⟨rfl, p.here s ?_⟩
    simp only [RV, V.bl.injEq]
  · split at p
    · rename_i e1 e2
      split at p
      · rename_i hh
        exact .inr ⟨_, _, pd_dp _ _ _ rx e1 (hasDict_shaped hh.1), pd_dp _ _ _ ry e2 (hasDict_shaped hh.2), hh.1, hh.2, p.here s (by simp only [RV])⟩
      · exact p.elim
    · exact p.elim
theorem ok_lt : OkB K W (fun x y H Q => rI0 (fun i j => .bl (decide (i < j))) x y H Q ∨ ∃ i j, x = .str i ∧ y = .str j ∧ Q (.bl (decide (i.cps.toList < j.cps.toList))) H) ltD := by
  intro g S H σ Q x y v u s rx ry p
  unfold ltD at p
  split at p
  · exact .inl ⟨_, _, rv_int rx, rv_int ry, p.here s (by simp only [RV])⟩
  · exact .inr ⟨_, _, rv_str rx, rv_str ry, p.here s (by simp only [RV])⟩
  · exact p.elim
theorem ok_le : OkB K W (rI0 fun i j => .bl (decide (i ≤ j))) leD := by
  intro g S H σ Q x y v u s rx ry p
  unfold leD at p
  split at p
  · exact ⟨_, _, rv_int rx, rv_int ry, p.here s (by simp only [RV])⟩
  · exact p.elim
theorem ok_gt : OkB K W (rI0 fun i j => .bl (decide (j < i))) gtD := by
  intro g S H σ Q x y v u s rx ry p
  unfold gtD at p
  split at p
  · exact ⟨_, _, rv_int rx, rv_int ry, p.here s (by simp only [RV])⟩
  · exact p.elim
theorem ok_ge : OkB K W (rI0 fun i j => .bl (decide (j ≤ i))) geD := by
  intro g S H σ Q x y v u s rx ry p
  unfold geD at p
  split at p
  · exact ⟨_, _, rv_int rx, rv_int ry, p.here s (by simp only [RV])⟩
  · exact p.elim
theorem isN_ok {g : G} {H : Hp} {x : D} {v : V} {b : Bool} (r : RV K g H x v) (h : isN x = some b) : decide (v = .non) = b := by
  cases x with
  | non => rw [rv_non r]; cases h; rfl
  | any => cases h
  | bl _ => rw [rv_bl r]; cases h; rfl
  | int _ => rw [rv_int r]; cases h; rfl
  | str _ => rw [rv_str r]; cases h; rfl
  | ty _ => simp only [RV] at r; subst r; cases h; rfl
  | cls _ => simp only [RV] at r; subst r; cases h; rfl
  | tup _ => simp only [RV] at r; obtain ⟨_, _, rfl, _⟩ := r; cases h; rfl
  | lst _ => simp only [RV] at r; obtain ⟨_, _, rfl, _⟩ := r; cases h; rfl
  | scr _ => simp only [RV] at r; obtain ⟨_, rfl, _⟩ := r; cases h; rfl
  | dct _ => simp only [RV] at r; obtain ⟨_, _, rfl, _⟩ := r; cases h; rfl
  | ins _ _ => simp only [RV] at r; obtain ⟨_, _, _, rfl, _⟩ := r; cases h; rfl
  | exc _ _ => simp only [RV] at r; obtain ⟨_, _, _, rfl, _⟩ := r; cases h; rfl
  | hnd _ => simp only [RV] at r; obtain ⟨_, rfl, _⟩ := r; cases h; rfl
theorem ok_isN : OkB K W (fun x y H Q => y = .non ∧ Q (.bl (decide (x = .non))) H) isND := by
  intro g S H σ Q x y v u s rx ry p
  unfold isND at p
  split at p
  · split at p
    · refine ⟨rv_non ry, p.here s ?_⟩
      simp only [RV, V.bl.injEq]
      exact isN_ok rx (by assumption)
    · exact p.elim
  · exact p.elim
theorem ok_notN : OkB K W (fun x y H Q => y = .non ∧ Q (.bl (!decide (x = .non))) H) notND := by
  intro g S H σ Q x y v u s rx ry p
  unfold notND at p
  split at p
  · split at p
    · refine ⟨rv_non ry, p.here s ?_⟩
      simp only [RV, V.bl.injEq]
      rw [isN_ok rx (by assumption)]
    · exact p.elim
  · exact p.elim
end
section
variable {z : Sg} {pos : Pos} {a b : Expr} {ta tb : TEx}
theorem op_eqA (X : Cx) (f : Fits z X) : OpR X (compareOp .Eq) (rEqA z.K) := f.K ▸ op_eq.or (op_eqD f.hu)
theorem op_neA (X : Cx) (f : Fits z X) : OpR X (compareOp .NotEq) (rNeA z.K) := f.K ▸ op_ne.or (op_neD f.hu)
theorem de_eq (ha : DE z a ta) (hb : DE z b tb) : DE z (.Compare a [.Eq] [b] pos) (eBin eqD ta tb) := de_cmp op_eqA ok_eq (nomark _) ha hb
theorem dt_eq (ha : DE z a ta) (hb : DE z b tb) : DT z (.Compare a [.Eq] [b] pos) (tBl (eBin eqD ta tb)) := dt_cmp op_eqA ok_eq (nomark _) ha hb
theorem de_ne (ha : DE z a ta) (hb : DE z b tb) : DE z (.Compare a [.NotEq] [b] pos) (eBin neD ta tb) := de_cmp op_neA ok_ne (nomark _) ha hb
theorem dt_ne (ha : DE z a ta) (hb : DE z b tb) : DT z (.Compare a [.NotEq] [b] pos) (tBl (eBin neD ta tb)) := dt_cmp op_neA ok_ne (nomark _) ha hb
theorem de_lt (ha : DE z a ta) (hb : DE z b tb) : DE z (.Compare a [.Lt] [b] pos) (eBin ltD ta tb) := de_cmp (fun _ _ => op_lt.or op_lt_str) ok_lt (nomark _) ha hb
theorem dt_lt (ha : DE z a ta) (hb : DE z b tb) : DT z (.Compare a [.Lt] [b] pos) (tBl (eBin ltD ta tb)) := dt_cmp (fun _ _ => op_lt.or op_lt_str) ok_lt (nomark _) ha hb
theorem de_le (ha : DE z a ta) (hb : DE z b tb) : DE z (.Compare a [.LtE] [b] pos) (eBin leD ta tb) := de_cmp (fun _ _ => op_le) ok_le (nomark _) ha hb
theorem dt_le (ha : DE z a ta) (hb : DE z b tb) : DT z (.Compare a [.LtE] [b] pos) (tBl (eBin leD ta tb)) := dt_cmp (fun _ _ => op_le) ok_le (nomark _) ha hb
theorem de_gt (ha : DE z a ta) (hb : DE z b tb) : DE z (.Compare a [.Gt] [b] pos) (eBin gtD ta tb) := de_cmp (fun _ _ => op_gt) ok_gt (nomark _) ha hb
theorem dt_gt (ha : DE z a ta) (hb : DE z b tb) : DT z (.Compare a [.Gt] [b] pos) (tBl (eBin gtD ta tb)) := dt_cmp (fun _ _ => op_gt) ok_gt (nomark _) ha hb
theorem de_ge (ha : DE z a ta) (hb : DE z b tb) : DE z (.Compare a [.GtE] [b] pos) (eBin geD ta tb) := de_cmp (fun _ _ => op_ge) ok_ge (nomark _) ha hb
theorem dt_ge (ha : DE z a ta) (hb : DE z b tb) : DT z (.Compare a [.GtE] [b] pos) (tBl (eBin geD ta tb)) := dt_cmp (fun _ _ => op_ge) ok_ge (nomark _) ha hb
theorem de_isN (ha : DE z a ta) (hb : DE z b tb) : DE z (.Compare a [.Is] [b] pos) (eBin isND ta tb) := de_cmp (fun _ _ => op_isN) ok_isN (nomark _) ha hb
theorem dt_isN (ha : DE z a ta) (hb : DE z b tb) : DT z (.Compare a [.Is] [b] pos) (tBl (eBin isND ta tb)) := dt_cmp (fun _ _ => op_isN) ok_isN (nomark _) ha hb
theorem de_notN (ha : DE z a ta) (hb : DE z b tb) : DE z (.Compare a [.IsNot] [b] pos) (eBin notND ta tb) := de_cmp (fun _ _ => op_notN) ok_notN (nomark _) ha hb
theorem dt_notN (ha : DE z a ta) (hb : DE z b tb) : DT z (.Compare a [.IsNot] [b] pos) (tBl (eBin notND ta tb)) := dt_cmp (fun _ _ => op_notN) ok_notN (nomark _) ha hb
end
end TL
set_option Elab.async false
set_option linter.all false
set_option maxRecDepth 100000
set_option maxHeartbeats 4000000
/-! The tree layer, part 3: statements, defs, calls. -/
namespace TL
open PySem PySem.Spec PyProof.Rows L2

/-! ### statements -/
inductive OutS where
  | nx (ρ : Env1) (S : List O)
  | rt (d : D) (S : List O)
  | bk (ρ : Env1) (S : List O)
  | ct (ρ : Env1) (S : List O)
  | exc (C : Str) (d : D) (ρ : Env1) (S : List O)
  | stuck
abbrev TSx := Env1 → List O → OutS
def PostS (K : PySem.W.Frag) (W : WX) (g : G) (H : Hp) (T : Ends) : OutS → Prop
  | .nx ρ S => ∀ g' H' σ', Ext g H g' H' → SR K g' S H' → RS K g' H' ρ σ' → T.nx σ' H'
  | .rt d S => ∀ g' H' v, Ext g H g' H' → SR K g' S H' → RV K g' H' d v → T.rt v H'
  | .bk ρ S => ∀ g' H' σ', Ext g H g' H' → SR K g' S H' → RS K g' H' ρ σ' → T.bk σ' H'
  | .ct ρ S => ∀ g' H' σ', Ext g H g' H' → SR K g' S H' → RS K g' H' ρ σ' → T.ct σ' H'
  | .exc C d ρ S => ∀ g' H' σ' c dd, Ext g H g' H' → SR K g' S H' → RS K g' H' ρ σ' → RX K g' H' C d c dd → W c dd σ' H'
  | .stuck => False
def RdS (z : Sg) (τ : TS) (t : TSx) : Prop := ∀ g S ρ σ H T, SR z.K g S H → RS z.K g H ρ σ → PostS z.K z.W g H T (t ρ S) → τ T σ H
def DS (z : Sg) (st : Stmt) (t : TSx) : Prop := ∃ τ, (∀ X, Fits z X → PS X st τ) ∧ RdS z τ t
def DSs (z : Sg) (st : List Stmt) (t : TSx) : Prop := ∃ τ, (∀ X, Fits z X → PSs X st τ) ∧ RdS z τ t
/-- an expression within a statement -/
def Out.stm {α : Type} (o : Out α) (ρ : Env1) (k : α → List O → OutS) : OutS := match o with
  | .ok a S => k a S
  | .exc C d S => .exc C d ρ S
  | .stuck => .stuck
section
variable {K : PySem.W.Frag} {W : WX} {g : G} {H : Hp} {T : Ends}
theorem PostS.later {g1 : G} {H1 : Hp} {S1 : List O} (e : Ext g H g1 H1) (s : SR K g1 S1 H1) : ∀ {o : OutS}, PostS K W g H T o → PostS K W g1 H1 T o
  | .nx ρ S, h => fun g' H' σ' e' s' r => h g' H' σ' (e.tr s e') s' r
  | .rt d S, h => fun g' H' σ' e' s' r => h g' H' σ' (e.tr s e') s' r
  | .bk ρ S, h => fun g' H' σ' e' s' r => h g' H' σ' (e.tr s e') s' r
  | .ct ρ S, h => fun g' H' σ' e' s' r => h g' H' σ' (e.tr s e') s' r
  | .exc C d ρ S, h => fun g' H' σ' c dd e' s' r x => h g' H' σ' c dd (e.tr s e') s' r x
  | .stuck, h => h
theorem PostS.stm {α β : Type} {R : G → Hp → α → β → Prop} {Q1 : β → Hp → Prop} {o : Out α} {ρ : Env1} {σ : L2.St} {S : List O} {k : α → List O → OutS} (hp : PostS K W g H T (o.stm ρ k)) (s : SR K g S H) (rs : RS K g H ρ σ)
    (h : ∀ a S1 g1 H1 b, Ext g H g1 H1 → SR K g1 S1 H1 → RS K g1 H1 ρ σ → R g1 H1 a b → PostS K W g1 H1 T (k a S1) → Q1 b H1) : Post K W R g H σ Q1 o := by
  cases o with
  | ok a S => exact fun g1 H1 b e s1 r => h a S g1 H1 b e s1 (rs.mono s.live e) r (PostS.later e s1 hp)
  | exc C d S => exact fun g1 H1 c dd e s1 r => hp g1 H1 σ c dd e s1 (rs.mono s.live e) r
  | stuck => exact hp
theorem PostS.here {ρ : Env1} {σ : L2.St} {S : List O} (h : PostS K W g H T (.nx ρ S)) (s : SR K g S H) (rs : RS K g H ρ σ) : T.nx σ H := h g H σ (Ext.refl g H) s rs
end

def sNext : TSx := fun ρ S => .nx ρ S
def OutS.seq (o : OutS) (u : TSx) : OutS := match o with
  | .nx ρ S => u ρ S
  | o => o
def sSeq (t u : TSx) : TSx := fun ρ S => (t ρ S).seq u
def sSet (i : Nat) (t : TEx) : TSx := fun ρ S => (t ρ S).stm ρ fun d S1 => .nx (ρ.set i (some d)) S1
def sExpr (t : TEx) : TSx := fun ρ S => (t ρ S).stm ρ fun _ S1 => .nx ρ S1
def sRet (t : TEx) : TSx := fun ρ S => (t ρ S).stm ρ fun d S1 => .rt d S1
def sRetN : TSx := fun _ S => .rt .non S
def sIf (c : TTx) (t u : TSx) : TSx := fun ρ S => (c ρ S).stm ρ fun k S1 => if k = true then t ρ S1 else u ρ S1
def sNever : TSx := fun _ _ => .stuck
def sBreak : TSx := fun ρ S => .bk ρ S
def sCont : TSx := fun ρ S => .ct ρ S
section
variable {z : Sg} {st : Stmt} {rest : List Stmt} {t u : TSx} {e c : Expr} {te : TEx} {tc : TTx} {pos : Pos}
theorem PostS.seq {K : PySem.W.Frag} {W : WX} {g : G} {H : Hp} {T : Ends} {o : OutS} {N : L2.St → Hp → Prop} (h : PostS K W g H T (o.seq u)) (hn : ∀ ρ S g1 H1 σ, Ext g H g1 H1 → SR K g1 S H1 → RS K g1 H1 ρ σ → PostS K W g1 H1 T (u ρ S) → N σ H1) : PostS K W g H { T with nx := N } o := by
  cases o with
  | nx ρ S => exact fun g1 H1 σ e s r => hn ρ S g1 H1 σ e s r (PostS.later e s h)
  | rt d S => exact h
  | bk ρ S => exact h
  | ct ρ S => exact h
  | exc C d ρ S => exact h
  | stuck => exact h
theorem dss_nil : DSs z [] sNext := ⟨_, fun _ _ => pss_nil, fun g S ρ σ H T s rs p => p.here s rs⟩
theorem dss_cons (h1 : DS z st t) (h2 : DSs z rest u) : DSs z (st :: rest) (sSeq t u) := by
  obtain ⟨τ, h1, q1⟩ := h1
  obtain ⟨τ2, h2, q2⟩ := h2
  refine ⟨_, fun X f => pss_cons (h1 X f) (h2 X f), fun g S ρ σ H T s rs p => ?_⟩
  exact q1 g S ρ σ H _ s rs (p.seq fun ρ1 S1 g1 H1 σ1 e1 s1 r1 p1 => q2 g1 S1 ρ1 σ1 H1 T s1 r1 p1)
theorem dss_one (h1 : DS z st t) : DSs z [st] t := by
  obtain ⟨τ, h1, q1⟩ := h1
  exact ⟨τ, fun X f => pss_one (h1 X f), q1⟩
theorem ds_never : DS z st sNever := ⟨_, fun _ _ => ps_never, fun g S ρ σ H T s rs p => p.elim⟩
theorem dss_never {sts : List Stmt} : DSs z sts sNever := ⟨_, fun _ _ => pss_never, fun g S ρ σ H T s rs p => p.elim⟩
theorem ds_pass : DS z (.Pass pos) sNext := ⟨_, fun _ _ => ps_pass, fun g S ρ σ H T s rs p => p.here s rs⟩
theorem ds_break : DS z (.Break pos) sBreak := ⟨_, fun _ _ => ps_break, fun g S ρ σ H T s rs p => p g H σ (Ext.refl _ _) s rs⟩
theorem ds_continue : DS z (.Continue pos) sCont := ⟨_, fun _ _ => ps_continue, fun g S ρ σ H T s rs p => p g H σ (Ext.refl _ _) s rs⟩
theorem ds_doc {x j p1} : DS z (.Expr (.Constant (.str x) j p1) pos) sNext := ⟨_, fun _ _ => ps_doc, fun g S ρ σ H T s rs p => p.here s rs⟩
theorem ds_set {i : Nat} {x : Str} {pos' : Pos} (he : DE z e te) (hi : z.N[i]? = some x := by rfl) (hx : Sto z x := by first | exact Or.inl rfl | exact Or.inr ⟨rfl, rfl⟩) (hs : ∀ env, swapsWith e (some (.Name x pos')) pos.line env = pure false := by intro _; rfl) : DS z (.Assign [.Name x pos'] e pos) (sSet i te) := by
  obtain ⟨τ, h1, q1⟩ := he
  refine ⟨_, fun X f => ps_set f.ndX (f.at hi) (f.loc hx.loc) (h1 X f) (hs _) (f.st hx), fun g S ρ σ H T s rs p => ?_⟩
  refine q1 g S ρ σ H _ s rs (p.stm s rs fun d S1 g1 H1 v e1 s1 rs1 r1 p1 => ?_)
  exact p1.here s1 (RS.set r1 i rs1)
theorem ds_expr (he : DE z e te) (hs : ∀ env, swapsWith e none pos.line env = pure false := by intro _; rfl) : DS z (.Expr e pos) (sExpr te) := by
  obtain ⟨τ, h1, q1⟩ := he
  refine ⟨_, fun X f => ps_expr (h1 X f) (hs _), fun g S ρ σ H T s rs p => ?_⟩
  exact q1 g S ρ σ H _ s rs (p.stm s rs fun d S1 g1 H1 v e1 s1 rs1 r1 p1 => p1.here s1 rs1)
theorem ds_ret (he : DE z e te) : DS z (.Return (some e) pos) (sRet te) := by
  obtain ⟨τ, h1, q1⟩ := he
  refine ⟨_, fun X f => ps_ret (h1 X f), fun g S ρ σ H T s rs p => ?_⟩
  exact q1 g S ρ σ H _ s rs (p.stm s rs fun d S1 g1 H1 v e1 s1 rs1 r1 p1 => p1 g1 H1 v (Ext.refl _ _) s1 r1)
theorem ds_retN : DS z (.Return none pos) sRetN := ⟨_, fun _ _ => ps_retN, fun g S ρ σ H T s rs p => p g H .non (Ext.refl _ _) s (by simp only [RV])⟩
theorem ds_if {a b : List Stmt} (hc : DT z c tc) (ha : DSs z a t) (hb : DSs z b u) : DS z (.If c a b pos) (sIf tc t u) := by
  obtain ⟨τ, h1, q1⟩ := hc
  obtain ⟨τ2, h2, q2⟩ := ha
  obtain ⟨τ3, h3, q3⟩ := hb
  refine ⟨_, fun X f => ps_if (h1 X f) (h2 X f) (h3 X f), fun g S ρ σ H T s rs p => ?_⟩
  refine q1 g S ρ σ H _ s rs (p.stm s rs fun k S1 g1 H1 k' e1 s1 rs1 r1 p1 => ?_)
  have r1 : k = k' := r1
  subst r1
  show if k = true then τ2 T σ H1 else τ3 T σ H1
  split
  · rename_i hk
    rw [if_pos hk] at p1
    exact q2 g1 S1 ρ σ H1 T s1 rs1 p1
  · rename_i hk
    rw [if_neg hk] at p1
    exact q3 g1 S1 ρ σ H1 T s1 rs1 p1
/-- a, b = x, y with plain local names -/
def sPar (i j : Nat) (t : TAx) : TSx := fun ρ S => (t ρ S).stm ρ fun ds S1 => match ds with
  | [x, y] => .nx ((ρ.set i (some x)).set j (some y)) S1
  | _ => .stuck
theorem ds_par {i j : Nat} {x y : Str} {a b : Expr} {ta : TAx} {px py pt : Pos} {kt k2 pt2} (ha : DA z [a, b] ta) (hij : i ≠ j := by decide) (hi : z.N[i]? = some x := by rfl) (hj : z.N[j]? = some y := by rfl)
    (hx : z.scope.names.lookup x = some .local := by rfl) (hy : z.scope.names.lookup y = some .local := by rfl)
    (hw : ∀ env, env.scope = z.scope → swappedStores [.Tuple [.Name x px, .Name y py] kt pt] (.Tuple [a, b] k2 pt2) env = pure (some [x, y]) := by intro env h; cases env; cases h; rfl)
    (hs : ∀ env, swapsWithSole [.Tuple [.Name x px, .Name y py] kt pt] (.Tuple [a, b] k2 pt2) pos.line env = pure false := by intro _; rfl) :
    DS z (.Assign [.Tuple [.Name x px, .Name y py] kt pt] (.Tuple [a, b] k2 pt2) pos) (sPar i j ta) := by
  obtain ⟨τ, h1, q1⟩ := ha
  refine ⟨_, fun X f => ps_par f.calm f.ndX (f.at hi) (f.at hj) hij (by rw [f.scope]; exact hx) (by rw [f.scope]; exact hy) (h1 X f) (hw _ f.scope) (hs _), fun g S ρ σ H T s rs p => ?_⟩
  refine q1 g S ρ σ H _ s rs (p.stm s rs fun ds S1 g1 H1 vs e1 s1 rs1 r1 p1 => ?_)
  split at p1
  · simp only [RVs] at r1
    obtain ⟨v, r, rfl, rv, w, r', rfl, rw', rfl⟩ := r1
    exact ⟨v, w, rfl, p1.here s1 (RS.set rw' j (RS.set rv i rs1))⟩
  · exact p1.elim
def sPar3 (i j l : Nat) (t : TAx) : TSx := fun ρ S => (t ρ S).stm ρ fun ds S1 => match ds with
  | [x, y, w] => .nx (((ρ.set i (some x)).set j (some y)).set l (some w)) S1
  | _ => .stuck
theorem ds_par3 {i j l : Nat} {x y w : Str} {a b c : Expr} {ta : TAx} {px py pz pt : Pos} {kt k2 pt2} (ha : DA z [a, b, c] ta) (hij : i ≠ j := by decide) (hil : i ≠ l := by decide) (hjl : j ≠ l := by decide)
    (hi : z.N[i]? = some x := by rfl) (hj : z.N[j]? = some y := by rfl) (hl : z.N[l]? = some w := by rfl)
    (hx : z.scope.names.lookup x = some .local := by rfl) (hy : z.scope.names.lookup y = some .local := by rfl) (hz : z.scope.names.lookup w = some .local := by rfl)
    (hw : ∀ env, env.scope = z.scope → swappedStores [.Tuple [.Name x px, .Name y py, .Name w pz] kt pt] (.Tuple [a, b, c] k2 pt2) env = pure (some [x, y, w]) := by intro env h; cases env; cases h; rfl)
    (hs : ∀ env, swapsWithSole [.Tuple [.Name x px, .Name y py, .Name w pz] kt pt] (.Tuple [a, b, c] k2 pt2) pos.line env = pure false := by intro _; rfl) :
    DS z (.Assign [.Tuple [.Name x px, .Name y py, .Name w pz] kt pt] (.Tuple [a, b, c] k2 pt2) pos) (sPar3 i j l ta) := by
  obtain ⟨τ, h1, q1⟩ := ha
  refine ⟨_, fun X f => ps_par3 f.calm f.ndX (f.at hi) (f.at hj) (f.at hl) hij hil hjl (by rw [f.scope]; exact hx) (by rw [f.scope]; exact hy) (by rw [f.scope]; exact hz) (h1 X f) (hw _ f.scope) (hs _), fun g S ρ σ H T s rs p => ?_⟩
  refine q1 g S ρ σ H _ s rs (p.stm s rs fun ds S1 g1 H1 vs e1 s1 rs1 r1 p1 => ?_)
  split at p1
  · simp only [RVs] at r1
    obtain ⟨v, r, rfl, rv, w, r', rfl, rw', w2, r'', rfl, rw2, rfl⟩ := r1
    exact ⟨v, w, w2, rfl, p1.here s1 (RS.set rw2 l (RS.set rw' j (RS.set rv i rs1)))⟩
  · exact p1.elim
end

/-! ### targets -/
abbrev TGx := D → Env1 → List O → OutS
/-- only the slots ws are written -/
def Off (ws : List Nat) (σ σ' : L2.St) : Prop := σ'.length = σ.length ∧ ∀ j, j ∉ ws → σ'[j]? = σ[j]?
theorem Off.refl (ws : List Nat) (σ : L2.St) : Off ws σ σ := ⟨rfl, fun _ _ => rfl⟩
theorem Off.trans {ws us : List Nat} {σ σ1 σ2 : L2.St} (a : Off ws σ σ1) (b : Off us σ1 σ2) : Off (ws ++ us) σ σ2 :=
  ⟨b.1.trans a.1, fun j hj => (b.2 j fun h => hj (List.mem_append_right _ h)).trans (a.2 j fun h => hj (List.mem_append_left _ h))⟩
def PostG (K : PySem.W.Frag) (W : WX) (g : G) (H : Hp) (σ : L2.St) (ws : List Nat) (N : L2.St → Hp → Prop) : OutS → Prop
  | .nx ρ S => ∀ g' H' σ', Ext g H g' H' → SR K g' S H' → RS K g' H' ρ σ' → Off ws σ σ' → N σ' H'
  | .exc C d ρ S => ∀ g' H' σ' c dd, Ext g H g' H' → SR K g' S H' → RS K g' H' ρ σ' → RX K g' H' C d c dd → W c dd σ' H'
  | _ => False
def DG (z : Sg) (tg : Expr) (ws : List Nat) (t : TGx) : Prop :=
  ∃ τ, (∀ X, Fits z X → PG X tg τ) ∧ ∀ g S ρ σ H d v N, SR z.K g S H → RS z.K g H ρ σ → RV z.K g H d v → PostG z.K z.W g H σ ws N (t d ρ S) → τ v σ H N
abbrev TGsx := List D → Env1 → List O → OutS
def DGs (z : Sg) (tgs : List Expr) (ws : List Nat) (t : TGsx) : Prop :=
  ∃ τ, (∀ X, Fits z X → PGs X tgs τ) ∧ ∀ g S ρ σ H ds vs N, SR z.K g S H → RS z.K g H ρ σ → RVs z.K g H ds vs → PostG z.K z.W g H σ ws N (t ds ρ S) → τ vs σ H N
/-- what a target may end in -/
def OutS.only (o : OutS) : OutS := match o with
  | .nx ρ S => .nx ρ S
  | .exc C d ρ S => .exc C d ρ S
  | _ => .stuck
theorem PostG.later {K : PySem.W.Frag} {W : WX} {g g1 : G} {H H1 : Hp} {S1 : List O} {σ σ1 : L2.St} {ws us : List Nat} {N : L2.St → Hp → Prop} (e : Ext g H g1 H1) (s : SR K g1 S1 H1) (hoff : Off us σ σ1) (hw : ∀ j ∈ us, j ∈ ws) : ∀ {o : OutS}, PostG K W g H σ ws N o → PostG K W g1 H1 σ1 ws N o
  | .nx ρ S, h => fun g' H' σ' e' s' r o' => h g' H' σ' (e.tr s e') s' r ⟨o'.1.trans hoff.1, fun j hj => (o'.2 j hj).trans (hoff.2 j fun z => hj (hw j z))⟩
  | .exc C d ρ S, h => fun g' H' σ' c dd e' s' r x => h g' H' σ' c dd (e.tr s e') s' r x
  | .rt _ _, h => h
  | .bk _ _, h => h
  | .ct _ _, h => h
  | .stuck, h => h
theorem PostS.only {K : PySem.W.Frag} {W : WX} {g : G} {H : Hp} {T : Ends} {σ : L2.St} {ws : List Nat} {o : OutS} {u : TSx} {N : L2.St → Hp → Prop} (h : PostS K W g H T (o.only.seq u))
    (hn : ∀ ρ S g1 H1 σ1, Ext g H g1 H1 → SR K g1 S H1 → RS K g1 H1 ρ σ1 → Off ws σ σ1 → PostS K W g1 H1 T (u ρ S) → N σ1 H1) : PostG K W g H σ ws N o := by
  cases o with
  | nx ρ S => exact fun g1 H1 σ1 e s r off => hn ρ S g1 H1 σ1 e s r off (PostS.later e s h)
  | exc C d ρ S => exact h
  | _ => exact h
def gNm (i : Nat) : TGx := fun d ρ S => .nx (ρ.set i (some d)) S
section
variable {z : Sg} {pos : Pos}
theorem dg_name {i : Nat} {x : Str} (hi : z.N[i]? = some x := by rfl) (hx : Sto z x := by first | exact Or.inl rfl | exact Or.inr ⟨rfl, rfl⟩) : DG z (.Name x pos) [i] (gNm i) :=
  ⟨_, fun X f => pg_name f.ndX (f.at hi) (f.loc hx.loc) (f.st hx), fun g S ρ σ H d v N s rs r p => p g H _ (Ext.refl _ _) s (RS.set r i rs) ⟨by simp, fun j hj => by
    have hj : j ≠ i := by simpa using hj
    rw [List.getElem?_set_ne (Ne.symm hj)]⟩⟩
def gsNil : TGsx := fun ds ρ S => match ds with
  | [] => .nx ρ S
  | _ => .stuck
def gsCons (t : TGx) (u : TGsx) : TGsx := fun ds ρ S => match ds with
  | d :: r => (t d ρ S).only.seq (u r)
  | [] => .stuck
theorem dgs_nil : DGs z [] [] gsNil := by
  refine ⟨_, fun _ _ => pgs_nil, fun g S ρ σ H ds vs N s rs r p => ?_⟩
  unfold gsNil at p
  split at p
  · simp only [RVs] at r
    exact ⟨r, p g H σ (Ext.refl _ _) s rs (Off.refl _ _)⟩
  · exact p.elim
theorem PostG.seq {K : PySem.W.Frag} {W : WX} {g : G} {H : Hp} {σ : L2.St} {ws us : List Nat} {o : OutS} {u : TSx} {N N1 : L2.St → Hp → Prop} (h : PostG K W g H σ (ws ++ us) N (o.only.seq u))
    (hn : ∀ ρ S g1 H1 σ1, Ext g H g1 H1 → SR K g1 S H1 → RS K g1 H1 ρ σ1 → PostG K W g1 H1 σ1 us N (u ρ S) → N1 σ1 H1) : PostG K W g H σ ws N1 o := by
  cases o with
  | nx ρ S =>
    refine fun g1 H1 σ1 e s r off => hn ρ S g1 H1 σ1 e s r ?_
    have h : PostG K W g H σ (ws ++ us) N (u ρ S) := h
    cases hu : u ρ S with
    | nx ρ2 S2 =>
      rw [hu] at h
      exact fun g' H' σ' e' s' r' o' => h g' H' σ' (e.tr s e') s' r' (off.trans o')
    | exc C d ρ2 S2 =>
      rw [hu] at h
      exact fun g' H' σ' c dd e' s' r' x => h g' H' σ' c dd (e.tr s e') s' r' x
    | _ =>
      rw [hu] at h
      exact h
  | exc C d ρ S => exact h
  | _ => exact h
theorem dgs_cons {e : Expr} {es : List Expr} {ws us : List Nat} {t : TGx} {u : TGsx} (h1 : DG z e ws t) (h2 : DGs z es us u) (hs : ∀ env, (assignEach (e :: es) env).map (·.2) = assign e env :: (assignEach es env).map (·.2) := by intro _; rfl) : DGs z (e :: es) (ws ++ us) (gsCons t u) := by
  obtain ⟨τ, h1, q1⟩ := h1
  obtain ⟨τ2, h2, q2⟩ := h2
  refine ⟨_, fun X f => pgs_cons (h1 X f) (h2 X f) (hs _), fun g S ρ σ H ds vs N s rs r p => ?_⟩
  unfold gsCons at p
  split at p
  · rename_i d ds'
    simp only [RVs] at r
    obtain ⟨v, vr, rfl, r1, r2⟩ := r
    exact ⟨v, vr, rfl, q1 g S ρ σ H d v _ s rs r1 (p.seq fun ρ1 S1 g1 H1 σ1 e1 s1 rs1 p1 => q2 g1 S1 ρ1 σ1 H1 ds' vr N s1 rs1 (r2.mono s.live e1) p1)⟩
  · exact p.elim
def gTp (n : Nat) (t : TGsx) : TGx := fun d ρ S => match tupOf d with
  | some ds => if ds.length = n then t ds ρ S else .stuck
  | none => .stuck
theorem dg_tup {es : List Expr} {k n : Nat} {ws : List Nat} {t : TGsx} (h : DGs z es ws t) (hn : ∀ env, (assignEach es env).length = n := by intro _; rfl) (hst : ∀ env, (assignEach es env).findIdx? (·.1) = none := by intro _; rfl) : DG z (.Tuple es k pos) ws (gTp n t) := by
  obtain ⟨τ, h1, q1⟩ := h
  refine ⟨_, fun X f => f.K ▸ pg_tup f.calm (h1 X f) (hn _) (hst _), fun g S ρ σ H d v N s rs r p => ?_⟩
  unfold gTp at p
  split at p
  · rename_i ds e
    split at p
    · rename_i hl
      obtain ⟨a, xs, rfl, hq, hr⟩ := tup_at e r
      exact ⟨a, xs, rfl, hq, by rw [hr.length]; exact hl, q1 g S ρ σ H ds xs N s rs hr p⟩
    · exact p.elim
  · exact p.elim
/-- target = value, the value any -/
def sAsg (t : TEx) (u : TGx) : TSx := fun ρ S => (t ρ S).stm ρ fun d S1 => (u d ρ S1).only
theorem ds_asg {tg e : Expr} {te : TEx} {u : TGx} {ws : List Nat} (he : DE z e te) (hg : DG z tg ws u) (hs : ∀ env, swapsWithSole [tg] e pos.line env = pure false := by intro _; rfl) (hw : ∀ env, env.scope = z.scope → swappedStores [tg] e env = pure none := by intro env h; first | rfl | (cases env; cases h; rfl))
    (h1 : ∀ env, (assignEach [tg] env).map (·.2) = [assign tg env] := by intro _; rfl) : DS z (.Assign [tg] e pos) (sAsg te u) := by
  obtain ⟨τ, h1', q1⟩ := he
  obtain ⟨τ2, h2, q2⟩ := hg
  refine ⟨_, fun X f => ps_asg (h1' X f) (h2 X f) (hs _) (hw _ f.scope) (h1 _), fun g S ρ σ H T s rs p => ?_⟩
  refine q1 g S ρ σ H _ s rs (p.stm s rs fun d S1 g1 H1 v e1 s1 rs1 r1 p1 => ?_)
  refine q2 g1 S1 ρ σ H1 d v T.nx s1 rs1 r1 ?_
  cases hu : u d ρ S1 with
  | nx ρ2 S2 =>
    rw [hu] at p1
    exact fun g' H' σ' e' s' r' _ => p1 g' H' σ' e' s' r'
  | exc C d ρ2 S2 =>
    rw [hu] at p1
    exact p1
  | _ =>
    rw [hu] at p1
    exact p1
end

/-! ### the end of a block of work: new handles become plain trees -/
mutual
def D.sub (f : Nat → D) : D → D
  | .hnd i => f i
  | .tup ds => .tup (D.subs f ds)
  | .lst ds => .lst (D.subs f ds)
  | .dct kvs => .dct (D.subk f kvs)
  | .ins C fs => .ins C (D.subf f fs)
  | .exc C d => .exc C (D.sub f d)
  | d => d
def D.subs (f : Nat → D) : List D → List D
  | [] => []
  | d :: ds => D.sub f d :: D.subs f ds
def D.subk (f : Nat → D) : List (Key × D) → List (Key × D)
  | [] => []
  | (k, d) :: ds => (k, D.sub f d) :: D.subk f ds
def D.subf (f : Nat → D) : List (Str × D) → List (Str × D)
  | [] => []
  | (k, d) :: ds => (k, D.sub f d) :: D.subf f ds
end
/-- what the handle i is read as when all from n on are dropped -/
def hfz (n : Nat) (S : List O) : Nat → Nat → D
  | 0, i => if i < n then .hnd i else .any
  | k + 1, i => if i < n then .hnd i else match S[i]? with
    | some (.lst ds) => .lst (D.subs (hfz n S k) ds)
    | some (.dct kvs) => .dct (D.subk (hfz n S k) kvs)
    | some (.ins C fs) => .ins C (D.subf (hfz n S k) fs)
    | none => .any
def ofz (f : Nat → D) : O → O
  | .lst ds => .lst (D.subs f ds)
  | .dct kvs => .dct (D.subk f kvs)
  | .ins C fs => .ins C (D.subf f fs)
/-- depth of what may stand in one another -/
abbrev fzd : Nat := 6
def dfz (n : Nat) (S : List O) (d : D) : D := if S.length ≤ n then d else D.sub (hfz n S fzd) d
def sfz (n : Nat) (S : List O) : List O := if S.length ≤ n then S else (S.take n).map (ofz (hfz n S fzd))
def rfz (n : Nat) (S : List O) (ρ : Env1) : Env1 := if S.length ≤ n then ρ else ρ.map fun o => o.map (D.sub (hfz n S fzd))
section
variable {K : PySem.W.Frag} {g g0 : G} {S : List O} {H H0 : Hp} {n : Nat}
/-- the handles from n on are forgotten -/
def G.cut (g0 : G) : G := g0
mutual
theorem RV.sub {f : Nat → D} (hb : ∀ b, g0.bad b → g.bad b) (hf : ∀ i a, g.hs[i]? = some a → RV K g0 H (f i) (.ref a)) : ∀ (d : D) (v : V), RV K g H d v → RV K g0 H (D.sub f d) v
  | .non, _, h => by simp only [D.sub, RV] at h ⊢; exact h
  | .bl _, _, h => by simp only [D.sub, RV] at h ⊢; exact h
  | .int _, _, h => by simp only [D.sub, RV] at h ⊢; exact h
  | .str _, _, h => by simp only [D.sub, RV] at h ⊢; exact h
  | .ty _, _, h => by simp only [D.sub, RV] at h ⊢; exact h
  | .tup ds, _, h => by
    simp only [D.sub, RV] at h ⊢
    obtain ⟨a, xs, e1, e2, e3⟩ := h
    refine ⟨a, xs, e1, ?_, RVs.sub hb hf ds xs e3⟩
    rcases e2 with ⟨q, nb⟩ | q
    · exact .inl ⟨q, fun z => nb (hb _ z)⟩
    · exact .inr q
  | .lst ds, _, h => by
    simp only [D.sub, RV] at h ⊢
    obtain ⟨a, xs, e1, e2, n, e3⟩ := h
    exact ⟨a, xs, e1, e2, fun z => n (hb _ z), RVs.sub hb hf ds xs e3⟩
  | .scr ns, _, h => by
    simp only [D.sub, RV] at h ⊢
    obtain ⟨a, e1, e2⟩ := h
    refine ⟨a, e1, ?_⟩
    rcases e2 with ⟨q, nb⟩ | q
    · exact .inl ⟨q, fun z => nb (hb _ z)⟩
    · exact .inr q
  | .dct kvs, _, h => by
    simp only [D.sub, RV] at h ⊢
    obtain ⟨a, xs, e1, e2, n, e3⟩ := h
    exact ⟨a, xs, e1, e2, fun z => n (hb _ z), RKs.sub hb hf kvs xs e3⟩
  | .ins C fs, _, h => by
    simp only [D.sub, RV] at h ⊢
    obtain ⟨a, dx, xs, e1, e2, n, e3⟩ := h
    exact ⟨a, dx, xs, e1, e2, fun z => n (hb _ z), RFs.sub hb hf fs xs e3⟩
  | .cls _, _, h => by simp only [D.sub, RV] at h ⊢; exact h
  | .exc C d, _, h => by
    simp only [D.sub, RV] at h ⊢
    obtain ⟨a, dd, w, e1, e2, n, e3, n3, r⟩ := h
    exact ⟨a, dd, w, e1, e2, fun z => n (hb _ z), e3, fun z => n3 (hb _ z), RV.sub hb hf d w r⟩
  | .hnd i, _, h => by
    simp only [RV] at h
    obtain ⟨a, rfl, e2⟩ := h
    simp only [D.sub]
    exact hf i a e2
  | .any, _, _ => by simp only [D.sub, RV]
theorem RVs.sub {f : Nat → D} (hb : ∀ b, g0.bad b → g.bad b) (hf : ∀ i a, g.hs[i]? = some a → RV K g0 H (f i) (.ref a)) : ∀ (ds : List D) (xs : List V), RVs K g H ds xs → RVs K g0 H (D.subs f ds) xs
  | [], _, h => by simp only [D.subs, RVs] at h ⊢; exact h
  | d :: ds, _, h => by
    simp only [D.subs, RVs] at h ⊢
    obtain ⟨v, r, e1, e2, e3⟩ := h
    exact ⟨v, r, e1, RV.sub hb hf d v e2, RVs.sub hb hf ds r e3⟩
theorem RKs.sub {f : Nat → D} (hb : ∀ b, g0.bad b → g.bad b) (hf : ∀ i a, g.hs[i]? = some a → RV K g0 H (f i) (.ref a)) : ∀ (ds : List (Key × D)) (xs : List (Key × V)), RKs K g H ds xs → RKs K g0 H (D.subk f ds) xs
  | [], _, h => by simp only [D.subk, RKs] at h ⊢; exact h
  | (k, d) :: ds, _, h => by
    simp only [D.subk, RKs] at h ⊢
    obtain ⟨v, r, e1, e2, e3⟩ := h
    exact ⟨v, r, e1, RV.sub hb hf d v e2, RKs.sub hb hf ds r e3⟩
theorem RFs.sub {f : Nat → D} (hb : ∀ b, g0.bad b → g.bad b) (hf : ∀ i a, g.hs[i]? = some a → RV K g0 H (f i) (.ref a)) : ∀ (ds : List (Str × D)) (xs : List (Str × V)), RFs K g H ds xs → RFs K g0 H (D.subf f ds) xs
  | [], _, h => by simp only [D.subf, RFs] at h ⊢; exact h
  | (k, d) :: ds, _, h => by
    simp only [D.subf, RFs] at h ⊢
    obtain ⟨v, r, e1, e2, e3⟩ := h
    exact ⟨v, r, e1, RV.sub hb hf d v e2, RFs.sub hb hf ds r e3⟩
end
theorem RS.sub {f : Nat → D} (hb : ∀ b, g0.bad b → g.bad b) (hf : ∀ i a, g.hs[i]? = some a → RV K g0 H (f i) (.ref a)) : ∀ (ρ : Env1) (σ : L2.St), RS K g H ρ σ → RS K g0 H (ρ.map fun o => o.map (D.sub f)) σ
  | [], _, h => by simp only [List.map_nil, RS] at h ⊢; exact h
  | none :: r, _, h => by
    simp only [List.map_cons, Option.map_none, RS] at h ⊢
    obtain ⟨o, z, e1, e2⟩ := h
    exact ⟨o, z, e1, RS.sub hb hf r z e2⟩
  | some d :: r, _, h => by
    simp only [List.map_cons, Option.map_some, RS] at h ⊢
    obtain ⟨v, z, e1, e2, e3⟩ := h
    exact ⟨v, z, e1, RV.sub hb hf d v e2, RS.sub hb hf r z e3⟩
theorem RO.sub {f : Nat → D} (hb : ∀ b, g0.bad b → g.bad b) (hf : ∀ i a, g.hs[i]? = some a → RV K g0 H (f i) (.ref a)) {a : Addr} : ∀ {o : O}, RO K g H o a → RO K g0 H (ofz f o) a
  | .lst ds, ⟨xs, e1, e2⟩ => ⟨xs, e1, e2.sub hb hf ds xs⟩
  | .dct kvs, ⟨xs, e1, e2⟩ => ⟨xs, e1, e2.sub hb hf kvs xs⟩
  | .ins C fs, ⟨dx, xs, e1, e2⟩ => ⟨dx, xs, e1, e2.sub hb hf fs xs⟩
/-- from the state at the start to the state with the new handles dropped -/
structure Cut (K : PySem.W.Frag) (g0 : G) (H0 : Hp) (S0 : List O) (g : G) (H : Hp) (S : List O) : Prop where
  e : Ext g0 H0 g H
  s0 : SR K g0 S0 H0
  s : SR K g S H
theorem Cut.hf (c : Cut K g0 H0 S g H S') : ∀ k i a, g.hs[i]? = some a → RV K g0 H (hfz S.length S' k i) (.ref a) := by
  obtain ⟨l, el, fl⟩ := c.e.pre
  have low : ∀ i a, i < S.length → g.hs[i]? = some a → RV K g0 H (.hnd i) (.ref a) := fun i a hi h => by
    simp only [RV]
    refine ⟨a, rfl, ?_⟩
    rw [el, List.getElem?_append_left (by rw [c.s0.len]; exact hi)] at h
    exact h
  have nb : ∀ i a, ¬ i < S.length → g.hs[i]? = some a → ¬ g0.bad a := fun i a hi h z => by
    have m : a ∈ l := by
      rw [el, List.getElem?_append_right (by rw [c.s0.len]; omega)] at h
      exact List.mem_of_getElem? h
    obtain ⟨o, q⟩ := c.s0.trk a z
    rw [fl a m] at q
    cases q
  intro k
  induction k with
  | zero =>
    intro i a h
    unfold hfz
    split
    · exact low i a (by assumption) h
    · simp only [RV]
  | succ k ih =>
    intro i a h
    unfold hfz
    split
    · exact low i a (by assumption) h
    · rename_i hi
      split
      · rename_i ds q
        obtain ⟨xs, h1, h2⟩ := c.s.rep i a _ h q
        simp only [RV]
        exact ⟨a, xs, rfl, h1, nb i a hi h, RVs.sub c.e.sub ih ds xs h2⟩
      · rename_i kvs q
        obtain ⟨xs, h1, h2⟩ := c.s.rep i a _ h q
        simp only [RV]
        exact ⟨a, xs, rfl, h1, nb i a hi h, RKs.sub c.e.sub ih kvs xs h2⟩
      · rename_i C fs q
        obtain ⟨dx, xs, h1, h2⟩ := c.s.rep i a _ h q
        simp only [RV]
        exact ⟨a, dx, xs, rfl, h1, nb i a hi h, RFs.sub c.e.sub ih fs xs h2⟩
      · simp only [RV]
variable {S' : List O}
theorem Cut.le (c : Cut K g0 H0 S g H S') : S.length ≤ S'.length := by
  obtain ⟨l, el, _⟩ := c.e.pre
  rw [← c.s0.len, ← c.s.len, el, List.length_append]
  omega
/-- with no new handle the two are one -/
theorem Cut.hs_eq (c : Cut K g0 H0 S g H S') (h : S'.length ≤ S.length) : g.hs = g0.hs := by
  obtain ⟨l, el, _⟩ := c.e.pre
  have q : l.length = 0 := by
    have h1 := c.s0.len
    have h2 := c.s.len
    rw [el, List.length_append] at h2
    omega
  rw [el, List.length_eq_zero_iff.mp q, List.append_nil]
mutual
theorem RV.anti (hb : ∀ b, g0.bad b → g.bad b) (hh : ∀ (i : Nat) (a : Addr), g.hs[i]? = some a → g0.hs[i]? = some a) : ∀ (d : D) (v : V), RV K g H d v → RV K g0 H d v
  | .non, _, h => by simp only [RV] at h ⊢; exact h
  | .bl _, _, h => by simp only [RV] at h ⊢; exact h
  | .int _, _, h => by simp only [RV] at h ⊢; exact h
  | .str _, _, h => by simp only [RV] at h ⊢; exact h
  | .ty _, _, h => by simp only [RV] at h ⊢; exact h
  | .tup ds, _, h => by
    simp only [RV] at h ⊢
    obtain ⟨a, xs, e1, e2, e3⟩ := h
    refine ⟨a, xs, e1, ?_, RVs.anti hb hh ds xs e3⟩
    rcases e2 with ⟨q, nb⟩ | q
    · exact .inl ⟨q, fun z => nb (hb _ z)⟩
    · exact .inr q
  | .lst ds, _, h => by
    simp only [RV] at h ⊢
    obtain ⟨a, xs, e1, e2, n, e3⟩ := h
    exact ⟨a, xs, e1, e2, fun z => n (hb _ z), RVs.anti hb hh ds xs e3⟩
  | .scr ns, _, h => by
    simp only [RV] at h ⊢
    obtain ⟨a, e1, e2⟩ := h
    refine ⟨a, e1, ?_⟩
    rcases e2 with ⟨q, nb⟩ | q
    · exact .inl ⟨q, fun z => nb (hb _ z)⟩
    · exact .inr q
  | .dct kvs, _, h => by
    simp only [RV] at h ⊢
    obtain ⟨a, xs, e1, e2, n, e3⟩ := h
    exact ⟨a, xs, e1, e2, fun z => n (hb _ z), RKs.anti hb hh kvs xs e3⟩
  | .ins C fs, _, h => by
    simp only [RV] at h ⊢
    obtain ⟨a, dx, xs, e1, e2, n, e3⟩ := h
    exact ⟨a, dx, xs, e1, e2, fun z => n (hb _ z), RFs.anti hb hh fs xs e3⟩
  | .cls _, _, h => by simp only [RV] at h ⊢; exact h
  | .exc C d, _, h => by
    simp only [RV] at h ⊢
    obtain ⟨a, dd, w, e1, e2, n, e3, n3, r⟩ := h
    exact ⟨a, dd, w, e1, e2, fun z => n (hb _ z), e3, fun z => n3 (hb _ z), RV.anti hb hh d w r⟩
  | .hnd i, _, h => by
    simp only [RV] at h ⊢
    obtain ⟨a, e1, e2⟩ := h
    exact ⟨a, e1, hh i a e2⟩
  | .any, _, _ => by simp only [RV]
theorem RVs.anti (hb : ∀ b, g0.bad b → g.bad b) (hh : ∀ (i : Nat) (a : Addr), g.hs[i]? = some a → g0.hs[i]? = some a) : ∀ (ds : List D) (xs : List V), RVs K g H ds xs → RVs K g0 H ds xs
  | [], _, h => by simp only [RVs] at h ⊢; exact h
  | d :: ds, _, h => by
    simp only [RVs] at h ⊢
    obtain ⟨v, r, e1, e2, e3⟩ := h
    exact ⟨v, r, e1, RV.anti hb hh d v e2, RVs.anti hb hh ds r e3⟩
theorem RKs.anti (hb : ∀ b, g0.bad b → g.bad b) (hh : ∀ (i : Nat) (a : Addr), g.hs[i]? = some a → g0.hs[i]? = some a) : ∀ (ds : List (Key × D)) (xs : List (Key × V)), RKs K g H ds xs → RKs K g0 H ds xs
  | [], _, h => by simp only [RKs] at h ⊢; exact h
  | (k, d) :: ds, _, h => by
    simp only [RKs] at h ⊢
    obtain ⟨v, r, e1, e2, e3⟩ := h
    exact ⟨v, r, e1, RV.anti hb hh d v e2, RKs.anti hb hh ds r e3⟩
theorem RFs.anti (hb : ∀ b, g0.bad b → g.bad b) (hh : ∀ (i : Nat) (a : Addr), g.hs[i]? = some a → g0.hs[i]? = some a) : ∀ (ds : List (Str × D)) (xs : List (Str × V)), RFs K g H ds xs → RFs K g0 H ds xs
  | [], _, h => by simp only [RFs] at h ⊢; exact h
  | (k, d) :: ds, _, h => by
    simp only [RFs] at h ⊢
    obtain ⟨v, r, e1, e2, e3⟩ := h
    exact ⟨v, r, e1, RV.anti hb hh d v e2, RFs.anti hb hh ds r e3⟩
end
theorem RS.anti (hb : ∀ b, g0.bad b → g.bad b) (hh : ∀ (i : Nat) (a : Addr), g.hs[i]? = some a → g0.hs[i]? = some a) : ∀ (ρ : Env1) (σ : L2.St), RS K g H ρ σ → RS K g0 H ρ σ
  | [], _, h => by simp only [RS] at h ⊢; exact h
  | none :: r, _, h => by
    simp only [RS] at h ⊢
    obtain ⟨o, z, e1, e2⟩ := h
    exact ⟨o, z, e1, RS.anti hb hh r z e2⟩
  | some d :: r, _, h => by
    simp only [RS] at h ⊢
    obtain ⟨v, z, e1, e2, e3⟩ := h
    exact ⟨v, z, e1, RV.anti hb hh d v e2, RS.anti hb hh r z e3⟩
theorem RO.anti (hb : ∀ b, g0.bad b → g.bad b) (hh : ∀ (i : Nat) (a : Addr), g.hs[i]? = some a → g0.hs[i]? = some a) {a : Addr} : ∀ {o : O}, RO K g H o a → RO K g0 H o a
  | .lst ds, ⟨xs, e1, e2⟩ => ⟨xs, e1, e2.anti hb hh ds xs⟩
  | .dct kvs, ⟨xs, e1, e2⟩ => ⟨xs, e1, e2.anti hb hh kvs xs⟩
  | .ins C fs, ⟨dx, xs, e1, e2⟩ => ⟨dx, xs, e1, e2.anti hb hh fs xs⟩
theorem Cut.ext (c : Cut K g0 H0 S g H S') : Ext g0 H0 g0 H := ⟨c.e.keep, fun _ _ _ n => n, fun _ h => h, [], by simp, fun _ h => by cases h⟩
theorem Cut.sr (c : Cut K g0 H0 S g H S') : SR K g0 (sfz S.length S') H := by
  obtain ⟨l, el, fl⟩ := id c.e.pre
  have trk : ∀ a, g0.bad a → ∃ o, H a = some o := fun a h => c.s.trk a (c.e.sub a h)
  unfold sfz
  split
  · rename_i hz
    have hh := c.hs_eq hz
    exact ⟨by rw [← hh, c.s.len], c.s0.nd, c.s0.live, trk, fun i a o h1 h2 => (c.s.rep i a o (by rw [hh]; exact h1) h2).anti c.e.sub fun _ _ q => by rw [← hh]; exact q⟩
  · refine ⟨?_, c.s0.nd, c.s0.live, trk, fun i a o h1 h2 => ?_⟩
    · rw [List.length_map, List.length_take, c.s0.len, Nat.min_eq_left c.le]
    · rw [List.getElem?_map] at h2
      have hi : i < S.length := by
        rw [← c.s0.len]
        exact (List.getElem?_eq_some_iff.mp h1).1
      rw [List.getElem?_take_of_lt hi] at h2
      cases q : S'[i]? with
      | none => rw [q] at h2; cases h2
      | some ob =>
        rw [q] at h2
        cases h2
        have h1' : g.hs[i]? = some a := by
          rw [el, List.getElem?_append_left (by rw [c.s0.len]; exact hi)]
          exact h1
        exact (c.s.rep i a ob h1' q).sub c.e.sub (c.hf fzd)
theorem Cut.rv (c : Cut K g0 H0 S g H S') {d : D} {v : V} (r : RV K g H d v) : RV K g0 H (dfz S.length S' d) v := by
  unfold dfz
  split
  · exact RV.anti c.e.sub (fun _ _ q => by rw [← c.hs_eq (by assumption)]; exact q) d v r
  · exact RV.sub c.e.sub (c.hf fzd) d v r
theorem Cut.rs (c : Cut K g0 H0 S g H S') {ρ : Env1} {σ : L2.St} (r : RS K g H ρ σ) : RS K g0 H (rfz S.length S' ρ) σ := by
  unfold rfz
  split
  · exact RS.anti c.e.sub (fun _ _ q => by rw [← c.hs_eq (by assumption)]; exact q) ρ σ r
  · exact RS.sub c.e.sub (c.hf fzd) ρ σ r
theorem Cut.rx (c : Cut K g0 H0 S g H S') {C : Str} {d : D} {cv : Value} {dd : Option Addr} (r : RX K g H C d cv dd) : RX K g0 H C (dfz S.length S' d) cv dd := by
  obtain ⟨e, Dd, w, e1, e2, n, r⟩ := r
  exact ⟨e, Dd, w, e1, e2, fun z => n (c.e.sub _ z), c.rv r⟩
end
def Out.cut (n : Nat) : Out D → Out D
  | .ok d S => .ok (dfz n S d) (sfz n S)
  | .exc C d S => .exc C (dfz n S d) (sfz n S)
  | .stuck => .stuck
def OutS.cut (n : Nat) : OutS → OutS
  | .nx ρ S => .nx (rfz n S ρ) (sfz n S)
  | .rt d S => .rt (dfz n S d) (sfz n S)
  | .bk ρ S => .bk (rfz n S ρ) (sfz n S)
  | .ct ρ S => .ct (rfz n S ρ) (sfz n S)
  | .exc C d ρ S => .exc C (dfz n S d) (rfz n S ρ) (sfz n S)
  | .stuck => .stuck
section
variable {K : PySem.W.Frag} {W : WX} {g : G} {H : Hp} {S : List O} {σ : L2.St}
theorem Post.cut {Q : VK} (s : SR K g S H) : ∀ {o : Out D}, Post K W (RV K) g H σ Q (o.cut S.length) → Post K W (RV K) g H σ Q o
  | .ok d S', h => fun g' H' v e s' r => have c : Cut K g H S g' H' S' := ⟨e, s, s'⟩; h g H' v c.ext c.sr (c.rv r)
  | .exc C d S', h => fun g' H' v dd e s' r => have c : Cut K g H S g' H' S' := ⟨e, s, s'⟩; h g H' v dd c.ext c.sr (c.rx r)
  | .stuck, h => h
theorem PostS.cut {T : Ends} (s : SR K g S H) : ∀ {o : OutS}, PostS K W g H T (o.cut S.length) → PostS K W g H T o
  | .nx ρ S', h => fun g' H' v e s' r => have c : Cut K g H S g' H' S' := ⟨e, s, s'⟩; h g H' v c.ext c.sr (c.rs r)
  | .rt d S', h => fun g' H' v e s' r => have c : Cut K g H S g' H' S' := ⟨e, s, s'⟩; h g H' v c.ext c.sr (c.rv r)
  | .bk ρ S', h => fun g' H' v e s' r => have c : Cut K g H S g' H' S' := ⟨e, s, s'⟩; h g H' v c.ext c.sr (c.rs r)
  | .ct ρ S', h => fun g' H' v e s' r => have c : Cut K g H S g' H' S' := ⟨e, s, s'⟩; h g H' v c.ext c.sr (c.rs r)
  | .exc C d ρ S', h => fun g' H' v cc dd e s' r x => have c : Cut K g H S g' H' S' := ⟨e, s, s'⟩; h g H' v cc dd c.ext c.sr (c.rs r) (c.rx x)
  | .stuck, h => h
end
/-- an expression, statements whose new handles are dropped behind them -/
def eCut (t : TEx) : TEx := fun ρ S => (t ρ S).cut S.length
def sCut (t : TSx) : TSx := fun ρ S => (t ρ S).cut S.length
theorem de_cut {z : Sg} {e : Expr} {t : TEx} (h : DE z e t) : DE z e (eCut t) := by
  obtain ⟨τ, h1, q1⟩ := h
  exact ⟨τ, h1, fun g S ρ σ H Q s rs p => q1 g S ρ σ H Q s rs (Post.cut s p)⟩
theorem ds_cut {z : Sg} {e : Stmt} {t : TSx} (h : DS z e t) : DS z e (sCut t) := by
  obtain ⟨τ, h1, q1⟩ := h
  exact ⟨τ, h1, fun g S ρ σ H Q s rs p => q1 g S ρ σ H Q s rs (PostS.cut s p)⟩
theorem dss_cut {z : Sg} {e : List Stmt} {t : TSx} (h : DSs z e t) : DSs z e (sCut t) := by
  obtain ⟨τ, h1, q1⟩ := h
  exact ⟨τ, h1, fun g S ρ σ H Q s rs p => q1 g S ρ σ H Q s rs (PostS.cut s p)⟩
end TL
set_option Elab.async false
set_option linter.all false
set_option maxRecDepth 100000
set_option maxHeartbeats 4000000
/-! The tree layer, part 4: what is gone over, for, while, comprehensions; defs and their calls. -/
namespace TL
open PySem PySem.Spec PyProof.Rows L2

/-! ### what is gone over -/
/-- J gives these trees, one after another, as long as what is no handle stays -/
def ItR (K : PySem.W.Frag) (g : G) (H : Hp) (ds : List D) (J : It) : Prop :=
  ∃ Gd Y, Walk J ds.length Gd Y ∧ (∀ g' H', Ext g H g' H' → Gd H') ∧
    ∀ i H1 x H2 g1 S1, i < ds.length → Ext g H g1 H1 → SR K g1 S1 H1 → Y i H1 x H2 → (∀ b u, H1 b = some u → H2 b = some u) ∧ ∃ d, ds[i]? = some d ∧ RV K g1 H2 d x
abbrev TIx := Env1 → List O → Out (List D)
def DI (z : Sg) (tg iter : Expr) (t : TIx) : Prop :=
  ∃ wi, (∀ X, Fits z X → PI X tg iter wi) ∧ ∀ g S ρ σ H R, SR z.K g S H → RS z.K g H ρ σ → Post z.K z.W (ItR z.K) g H σ R (t ρ S) → wi σ H R
/-- a list, a tuple that does not change -/
def fixD : D → Option (List D)
  | .lst ds => some ds
  | .tup ds => some ds
  | .scr ns => some (ns.map D.int)
  | _ => none
def iLst (t : TEx) : TIx := fun ρ S => (t ρ S).bind fun d S1 => match d with
  | .lst ds => .ok ds S1
  | .scr ns => .ok (ns.map D.int) S1
  | _ => .stuck
def iTp (t : TEx) : TIx := fun ρ S => (t ρ S).bind fun d S1 => match d with
  | .tup ds => .ok ds S1
  | _ => .stuck
/-- the signs of a text -/
def signs (x : Str) : List D := x.cps.toList.map fun c => D.str ⟨#[c]⟩
def iStx (t : TEx) : TIx := fun ρ S => (t ρ S).bind fun d S1 => match d with
  | .str x => .ok (signs x) S1
  | _ => .stuck
def rng (a b : Int) : List D := (List.range (b - a).toNat).map fun i => D.int (a + (i : Nat))
def iRg1 (t : TAx) : TIx := fun ρ S => (t ρ S).bind fun ds S1 => match ds with
  | [.int j] => if -(2 ^ 62) ≤ j ∧ j < 2 ^ 62 then .ok (rng 0 j) S1 else .stuck
  | _ => .stuck
def iRg2 (t : TAx) : TIx := fun ρ S => (t ρ S).bind fun ds S1 => match ds with
  | [.int i, .int j] => if -(2 ^ 62) ≤ i ∧ i < 2 ^ 62 ∧ -(2 ^ 62) ≤ j ∧ j < 2 ^ 62 then .ok (rng i j) S1 else .stuck
  | _ => .stuck
def enumD (ds : List D) : List D := ds.zipIdx.map fun p => D.tup [.int (p.2 : Nat), p.1]
def iEn (t : TAx) : TIx := fun ρ S => (t ρ S).bind fun ds S1 => match ds with
  | [.lst ds] => .ok (enumD ds) S1
  | _ => .stuck
def zipD (as bs : List D) : List D := (as.zip bs).map fun p => D.tup [p.1, p.2]
def iZp (t : TAx) : TIx := fun ρ S => (t ρ S).bind fun ds S1 => match ds with
  | [.lst as, .lst bs] => .ok (zipD as bs) S1

  | _ => .stuck
section
variable {z : Sg} {tg e : Expr} {t : TEx} {ta : TAx} {p pos : Pos}
theorem itr_at {K : PySem.W.Frag} {g : G} {H : Hp} {ds : List D} {xs : List V} {J : It} {Gd : Hp → Prop} (w : Walk J ds.length Gd (YAt xs)) (hG : ∀ g' H', Ext g H g' H' → Gd H') (hl : ∀ a ∈ g.hs, g.bad a) (r : RVs K g H ds xs) : ItR K g H ds J := by
  refine ⟨Gd, _, w, hG, fun i H1 x H2 g1 S1 hi e l1 y => ?_⟩
  obtain ⟨rfl, hx⟩ := y
  refine ⟨fun _ _ q => q, ds[i], List.getElem?_eq_getElem hi, ?_⟩
  obtain ⟨v, e1, e2⟩ := (r.mono hl e).get (List.getElem?_eq_getElem hi)
  rw [hx] at e1
  cases e1
  exact e2
theorem di_lst (h : DE z e t) : DI z tg e (iLst t) := by
  obtain ⟨τ, h1, q1⟩ := h
  refine ⟨_, fun X f => f.K ▸ pi_list (h1 X f), fun g S ρ σ H R s rs p => ?_⟩
  refine q1 g S ρ σ H _ s rs (p.bind fun d S1 g1 H1 v e1 s1 r1 p1 => ?_)
  split at p1
  · rename_i ds
    simp only [RV] at r1
    obtain ⟨a, xs, rfl, ha, hb, hr⟩ := r1
    have hG : ∀ g' H', Ext g1 H1 g' H' → SqL z.K H' a xs := fun g' H' e => .inl (.inl (e.keep _ _ ha fun m => hb (s1.live _ m)))
    refine ⟨a, rfl, ⟨xs, hG g1 H1 (Ext.refl _ _)⟩, p1.here s1 (itr_at (xs := xs) ?_ hG s1.live hr)⟩
    rw [← hr.length]
    exact walk_list
  · rename_i ns
    simp only [RV] at r1
    obtain ⟨a, rfl, ha⟩ := r1
    have hG : ∀ g' H', Ext g1 H1 g' H' → SqL z.K H' a (ns.map V.int) := fun g' H' e => (ha.mono s1.live e).sq
    refine ⟨a, rfl, ⟨_, hG g1 H1 (Ext.refl _ _)⟩, p1.here s1 (itr_at (xs := ns.map V.int) ?_ hG s1.live (RVs.ints ns))⟩
    rw [List.length_map, ← List.length_map (f := V.int)]
    exact walk_list
  · exact p1.elim
theorem di_tup (h : DE z e t) : DI z tg e (iTp t) := by
  obtain ⟨τ, h1, q1⟩ := h
  refine ⟨_, fun X f => f.K ▸ pi_tup (h1 X f), fun g S ρ σ H R s rs p => ?_⟩
  refine q1 g S ρ σ H _ s rs (p.bind fun d S1 g1 H1 v e1 s1 r1 p1 => ?_)
  split at p1
  · rename_i ds
    simp only [RV] at r1
    obtain ⟨a, xs, rfl, ha, hr⟩ := r1
    have hG : ∀ g' H', Ext g1 H1 g' H' → SqT z.K H' a xs := fun g' H' e => (ha.mono s1.live e).sq
    refine ⟨a, rfl, ⟨xs, hG g1 H1 (Ext.refl _ _)⟩, p1.here s1 (itr_at (xs := xs) ?_ hG s1.live hr)⟩
    rw [← hr.length]
    exact walk_tup
  · exact p1.elim
theorem di_str (h : DE z e t) : DI z tg e (iStx t) := by
  obtain ⟨τ, h1, q1⟩ := h
  refine ⟨_, fun X f => pi_str (h1 X f), fun g S ρ σ H R s rs p => ?_⟩
  refine q1 g S ρ σ H _ s rs (p.bind fun d S1 g1 H1 v e1 s1 r1 p1 => ?_)
  split at p1
  · rename_i x
    rw [rv_str r1]
    refine ⟨x, rfl, p1.here s1 ⟨fun _ => True, fun i H v H' => H' = H ∧ ∃ c, x.cps[i]? = some c ∧ v = .str ⟨#[c]⟩, ?_, fun _ _ _ => trivial, fun i H1 v H2 g2 S2 hi e2 _ y => ?_⟩⟩
    · rw [show (signs x).length = x.cps.size by simp [signs]]
      exact walk_str
    · obtain ⟨rfl, c, hc, rfl⟩ := y
      refine ⟨fun _ _ q => q, .str ⟨#[c]⟩, ?_, by simp only [RV]⟩
      rw [signs, List.getElem?_map, Array.getElem?_toList, hc]
      rfl
  · exact p1.elim
theorem rng_walk {K : PySem.W.Frag} {g : G} {H : Hp} (i j : Int) : ItR K g H (rng i j) (Itr i (j - i).toNat) := by
  refine ⟨fun _ => True, YFn fun k => .int (i + k), ?_, fun _ _ _ => trivial, fun k H1 v H2 g2 S2 hk e2 _ y => ?_⟩
  · rw [show (rng i j).length = (j - i).toNat by simp [rng]]
    exact walk_range
  · obtain ⟨rfl, rfl⟩ := y
    refine ⟨fun _ _ q => q, .int (i + k), ?_, by simp only [RV]⟩
    have hk : k < (j - i).toNat := by simpa [rng] using hk
    rw [rng, List.getElem?_map, List.getElem?_range hk]
    rfl
theorem di_rng1 {a : Expr} (h : DA z [a] ta) (hm : z.mg "range" = none) (hg : Gz z "range" := by rfl) (hs : ∀ env, starEach [a] env = [(false, eval a env)] := by intro _; rfl) : DI z tg (.Call (.Name "range" p) [a] [] pos) (iRg1 ta) := by
  obtain ⟨τ, h1, q1⟩ := h
  refine ⟨_, fun X f => pi_range1 (f.gl hg) (f.mgl hm) (h1 X f) (hs _), fun g S ρ σ H R s rs p => ?_⟩
  refine q1 g S ρ σ H _ s rs (p.bind fun d S1 g1 H1 v e1 s1 r1 p1 => ?_)
  split at p1
  · rename_i j
    simp only [RVs, RV] at r1
    obtain ⟨v', r, rfl, rfl, rfl⟩ := r1
    split at p1
    · rename_i hj
      refine ⟨j, rfl, hj.1, hj.2, p1.here s1 ?_⟩
      have q := rng_walk (K := z.K) (g := g1) (H := H1) 0 j
      rwa [show (j - 0).toNat = j.toNat by simp] at q
    · exact p1.elim
  · exact p1.elim
theorem di_rng2 {a b : Expr} (h : DA z [a, b] ta) (hm : z.mg "range" = none) (hg : Gz z "range" := by rfl) (hs : ∀ env, starEach [a, b] env = [(false, eval a env), (false, eval b env)] := by intro _; rfl) (hs2 : ∀ env, starEach [b] env = [(false, eval b env)] := by intro _; rfl) : DI z tg (.Call (.Name "range" p) [a, b] [] pos) (iRg2 ta) := by
  obtain ⟨τ, h1, q1⟩ := h
  refine ⟨_, fun X f => pi_range2 (f.gl hg) (f.mgl hm) (h1 X f) (hs _) (hs2 _), fun g S ρ σ H R s rs p => ?_⟩
  refine q1 g S ρ σ H _ s rs (p.bind fun d S1 g1 H1 v e1 s1 r1 p1 => ?_)
  split at p1
  · rename_i i j
    simp only [RVs, RV] at r1
    obtain ⟨v', r, rfl, rfl, v2, r2, rfl, rfl, rfl⟩ := r1
    split at p1
    · rename_i hj
      exact ⟨i, j, rfl, hj, p1.here s1 (rng_walk (K := z.K) (g := g1) (H := H1) i j)⟩
    · exact p1.elim
  · exact p1.elim
/-- a new pair at each turn -/
theorem itr_pair {K : PySem.W.Frag} {g : G} {H : Hp} {ds : List D} {J : It} {Gd : Hp → Prop} {fx fy : Nat → Option V} {n : Nat} (w : Walk J n Gd (YPair fx fy)) (hn : ds.length = n) (hG : ∀ g' H', Ext g H g' H' → Gd H')
    (hd : ∀ i x y g1 H1, fx i = some x → fy i = some y → Ext g H g1 H1 → ∃ a b, ds[i]? = some (.tup [a, b]) ∧ RV K g1 H1 a x ∧ RV K g1 H1 b y) : ItR K g H ds J := by
  subst hn
  refine ⟨Gd, _, w, hG, fun i H1 x H2 g1 S1 hi e l1 y => ?_⟩
  obtain ⟨T, x', y', rfl, hT, rfl, h1, h2⟩ := y
  obtain ⟨a, b, e1, ra, rb⟩ := hd i x' y' g1 H1 h1 h2 e
  have hsm : ∀ c u, H1 c = some u → upd H1 T (.tup [x', y']) c = some u := same_new hT
  have e2 : Ext g1 H1 g1 (upd H1 T (.tup [x', y'])) := Ext.same hsm
  refine ⟨hsm, _, e1, ?_⟩
  simp only [RV]
  refine ⟨T, _, rfl, .inl ⟨upd_same, l1.unbad hT⟩, ?_⟩
  simp only [RVs]
  exact ⟨x', _, rfl, ra.mono l1.live e2, y', _, rfl, rb.mono l1.live e2, rfl⟩
end
end TL
set_option Elab.async false
set_option linter.all false
set_option maxRecDepth 100000
set_option maxHeartbeats 4000000
/-! The tree layer, part 5: loops, comprehensions, defs and calls. -/
namespace TL
open PySem PySem.Spec PyProof.Rows L2

/-! ### enumerate, zip -/
section
variable {z : Sg} {tg e : Expr} {t : TEx} {ta : TAx} {p pos : Pos}
theorem di_enum {elts : List Expr} {kk : Nat} {tpos : Pos} (h : DA z [e] ta) (hm : z.mg "enumerate" = none) (hg : Gz z "enumerate" := by rfl) (hs : ∀ env, starEach [e] env = [(false, eval e env)] := by intro _; rfl) : DI z (.Tuple elts kk tpos) (.Call (.Name "enumerate" p) [e] [] pos) (iEn ta) := by
  obtain ⟨τ, h1, q1⟩ := h
  refine ⟨_, fun X f => f.K ▸ pi_enum (f.gl hg) (f.mgl hm) (h1 X f) (hs _), fun g S ρ σ H R s rs p => ?_⟩
  refine q1 g S ρ σ H _ s rs (p.bind fun d S1 g1 H1 v e1 s1 r1 p1 => ?_)
  split at p1
  · rename_i ds
    simp only [RVs, RV] at r1
    obtain ⟨v', r, rfl, ⟨a, xs, rfl, ha, hb, hr⟩, rfl⟩ := r1
    have hl := hr.length
    refine ⟨a, xs, rfl, .inl (.inl ha), p1.here s1 (itr_pair walk_enum (by simp [enumD, hl]) (fun g' H' e => .inl (.inl (e.keep _ _ ha fun m => hb (s1.live _ m)))) fun i x y g2 H2 h1 h2 e2 => ?_)⟩
    cases h1
    have hi : i < ds.length := by
      rw [← hl]
      exact (List.getElem?_eq_some_iff.mp h2).1
    obtain ⟨w, e3, e4⟩ := (hr.mono s1.live e2).get (List.getElem?_eq_getElem hi)
    rw [h2] at e3
    cases e3
    refine ⟨.int (i : Nat), ds[i], ?_, by simp only [RV], e4⟩
    simp [enumD, hi]
  · exact p1.elim
theorem di_zip {elts : List Expr} {kk : Nat} {tpos : Pos} {e2 : Expr} (h : DA z [e, e2] ta) (hm : z.mg "zip" = none) (hg : Gz z "zip" := by rfl) (hs : ∀ env, starEach [e, e2] env = (false, eval e env) :: starEach [e2] env := by intro _; rfl) (hpl : ∀ env, (backTo pos (starEach [e2] env)).any (·.1) = false := by intro _; rfl) :
    DI z (.Tuple elts kk tpos) (.Call (.Name "zip" p) [e, e2] [] pos) (iZp ta) := by
  obtain ⟨τ, h1, q1⟩ := h
  refine ⟨_, fun X f => f.K ▸ pi_zip (f.gl hg) (f.mgl hm) (h1 X f) (hs _) (hpl _), fun g S ρ σ H R s rs p => ?_⟩
  refine q1 g S ρ σ H _ s rs (p.bind fun d S1 g1 H1 v e1 s1 r1 p1 => ?_)
  split at p1
  · rename_i as bs
    simp only [RVs, RV] at r1
    obtain ⟨v', r, rfl, ⟨a, xs, rfl, ha, hb, hr⟩, v2, r2, rfl, ⟨b, ys, rfl, hb1, hb2, hr2⟩, rfl⟩ := r1
    have hl := hr.length
    have hl2 := hr2.length
    have hG1 : ∀ g' H', Ext g1 H1 g' H' → H' a = some (.lst xs) := fun g' H' e => e.keep _ _ ha fun m => hb (s1.live _ m)
    have hG2 : ∀ g' H', Ext g1 H1 g' H' → H' b = some (.lst ys) := fun g' H' e => e.keep _ _ hb1 fun m => hb2 (s1.live _ m)
    refine ⟨a, b, xs, ys, rfl, .inl (.inl ha), .inl (.inl hb1), p1.here s1 (itr_pair (walk_zip rfl) (by simp [zipD, hl, hl2]) (fun g' H' e => ⟨.inl (.inl (hG1 g' H' e)), .inl (.inl (hG2 g' H' e))⟩) fun i x y g2 H2 h1 h2 e2 => ?_)⟩
    have hi : i < as.length := by
      rw [← hl]
      exact (List.getElem?_eq_some_iff.mp h1).1
    have hj : i < bs.length := by
      rw [← hl2]
      exact (List.getElem?_eq_some_iff.mp h2).1
    obtain ⟨w, e3, e4⟩ := (hr.mono s1.live e2).get (List.getElem?_eq_getElem hi)
    rw [h1] at e3
    cases e3
    obtain ⟨w2, e5, e6⟩ := (hr2.mono s1.live e2).get (List.getElem?_eq_getElem hj)
    rw [h2] at e5
    cases e5
    refine ⟨as[i], bs[i], ?_, e4, e6⟩
    rw [zipD, List.getElem?_map, show (as.zip bs)[i]? = some (as[i], bs[i]) from List.getElem?_zip_eq_some.mpr ⟨List.getElem?_eq_getElem hi, List.getElem?_eq_getElem hj⟩]
    rfl
  · exact p1.elim
end

/-! ### for, while -/
def OutS.turn (o : OutS) (k : TSx) : OutS := match o with
  | .nx ρ S => k ρ S
  | .ct ρ S => k ρ S
  | .bk ρ S => .nx ρ S
  | o => o
def forL (tg : TGx) (tb : TSx) : List D → Env1 → List O → OutS
  | [], ρ, S => .nx ρ S
  | d :: ds, ρ, S => (tg d ρ S).only.seq fun ρ1 S1 => (tb ρ1 S1).turn (forL tg tb ds)
def sFor (ti : TIx) (tg : TGx) (tb : TSx) : TSx := fun ρ S => (ti ρ S).stm ρ fun ds S1 => forL tg tb ds ρ S1
theorem PostS.turn {K : PySem.W.Frag} {W : WX} {g : G} {H : Hp} {T : Ends} {o : OutS} {u : TSx} {N : L2.St → Hp → Prop} (h : PostS K W g H T (o.turn u)) (hn : ∀ ρ S g1 H1 σ, Ext g H g1 H1 → SR K g1 S H1 → RS K g1 H1 ρ σ → PostS K W g1 H1 T (u ρ S) → N σ H1) :
    PostS K W g H { T with nx := N, ct := N, bk := T.nx } o := by
  cases o with
  | nx ρ S => exact fun g1 H1 σ e s r => hn ρ S g1 H1 σ e s r (PostS.later e s h)
  | ct ρ S => exact fun g1 H1 σ e s r => hn ρ S g1 H1 σ e s r (PostS.later e s h)
  | rt d S => exact h
  | bk ρ S => exact h
  | exc C d ρ S => exact h
  | stuck => exact h
section
variable {z : Sg} {pos : Pos}
theorem ds_for {tg iter : Expr} {body : List Stmt} {ws : List Nat} {ti : TIx} {t : TGx} {tb : TSx} (hi : DI z tg iter ti) (hg : DG z tg ws t) (hb : DSs z body tb) (hs : ∀ env x, foldedSetIterable iter env x = pure x := by intro _ _; rfl) : DS z (.For tg iter body [] pos) (sFor ti t tb) := by
  obtain ⟨wi, h1, q1⟩ := hi
  obtain ⟨τg, h2, q2⟩ := hg
  obtain ⟨τb, h3, q3⟩ := hb
  refine ⟨_, fun X f => ps_for f.own f.calm (h1 X f) (h2 X f) (h3 X f) (hs _), fun g S ρ σ H T s rs p => ?_⟩
  refine q1 g S ρ σ H _ s rs (p.stm s rs fun ds S1 g1 H1 J e1 s1 rs1 r1 p1 => ?_)
  obtain ⟨Gd, Y, w, hG, hY⟩ := r1
  refine for_it w (fun i σ' H' => ∃ g' S' ρ', Ext g1 H1 g' H' ∧ SR z.K g' S' H' ∧ RS z.K g' H' ρ' σ' ∧ PostS z.K z.W g' H' T (forL t tb (ds.drop i) ρ' S')) ⟨g1, S1, ρ, Ext.refl _ _, s1, rs1, p1⟩ (fun i σ' H' _ h => ?_) (fun i x σ' H' H2 hi h y => ?_) fun σ' H' h => ?_
  · obtain ⟨g', S', ρ', e', s', rs', p'⟩ := h
    exact hG g' H' e'
  · obtain ⟨g', S', ρ', e', s', rs', p'⟩ := h
    obtain ⟨hk, d, hd, rd⟩ := hY i H' x H2 g' S' hi e' s' y
    have e2 : Ext g' H' g' H2 := Ext.same hk
    have s2 : SR z.K g' S' H2 := s'.same hk
    have eq : ds.drop i = d :: ds.drop (i + 1) := by
      obtain ⟨hl, hv⟩ := List.getElem?_eq_some_iff.mp hd
      rw [List.drop_eq_getElem_cons hl, hv]
    rw [eq] at p'
    have p2 : PostS z.K z.W g' H2 T (forL t tb (d :: ds.drop (i + 1)) ρ' S') := PostS.later e2 s2 p'
    refine q2 g' S' ρ' σ' H2 d x _ s2 (rs'.mono s'.live e2) rd (PostS.only p2 fun ρ3 S3 g3 H3 σ3 e3 s3 r3 _ p3 => ?_)
    refine q3 g3 S3 ρ3 σ3 H3 _ s3 r3 (p3.turn fun ρ4 S4 g4 H4 σ4 e4 s4 r4 p4 => ?_)
    exact ⟨g4, S4, ρ4, (((e'.tr s' e2).tr s2 e3).tr s3 e4), s4, r4, p4⟩
  · obtain ⟨g', S', ρ', e', s', rs', p'⟩ := h
    rw [List.drop_length] at p'
    exact p'.here s' rs'
/-- a while, so many turns at most -/
def whileL (c : TTx) (tb : TSx) : Nat → Env1 → List O → OutS
  | 0, _, _ => .stuck
  | n + 1, ρ, S => (c ρ S).stm ρ fun k S1 => if k = true then (tb ρ S1).turn (whileL c tb n) else .nx ρ S1
def sWhile (n : Env1 → List O → Nat) (c : TTx) (tb : TSx) : TSx := fun ρ S => whileL c tb (n ρ S) ρ S
theorem ds_while (n : Env1 → List O → Nat) {c : Expr} {body : List Stmt} {tc : TTx} {tb : TSx} (hc : DT z c tc) (hb : DSs z body tb) : DS z (.While c body [] pos) (sWhile n tc tb) := by
  obtain ⟨τc, h1, q1⟩ := hc
  obtain ⟨τb, h2, q2⟩ := hb
  refine ⟨_, fun X f => ps_while f.own (h1 X f) (h2 X f), fun g S ρ σ H T s rs p => ?_⟩
  refine ⟨fun m σ' H' => ∃ g' S' ρ', SR z.K g' S' H' ∧ RS z.K g' H' ρ' σ' ∧ PostS z.K z.W g' H' T (whileL tc tb m ρ' S'), ⟨_, g, S, ρ, s, rs, p⟩, fun m σ' H' h => ?_⟩
  obtain ⟨g', S', ρ', s', rs', p'⟩ := h
  cases m with
  | zero => exact p'.elim
  | succ m =>
    refine q1 g' S' ρ' σ' H' _ s' rs' (PostS.stm p' s' rs' fun k S1 g1 H1 k' e1 s1 rs1 r1 p1 => ?_)
    have r1 : k = k' := r1
    subst r1
    show if k = true then _ else _
    split
    · rename_i hk
      rw [if_pos hk] at p1
      refine ⟨fun σ2 H2 => ∃ g2 S2 ρ2, SR z.K g2 S2 H2 ∧ RS z.K g2 H2 ρ2 σ2 ∧ PostS z.K z.W g2 H2 T (whileL tc tb m ρ2 S2), fun σ2 H2 h2 => ⟨m, Nat.lt_succ_self _, h2⟩, ?_⟩
      exact q2 g1 S1 ρ' σ' H1 _ s1 rs1 (p1.turn fun ρ4 S4 g4 H4 σ4 e4 s4 r4 p4 => ⟨g4, S4, ρ4, s4, r4, p4⟩)
    · rename_i hk
      rw [if_neg hk] at p1
      exact p1.here s1 rs1
end

/-! ### list comprehensions -/
def wipeD (ρ : Env1) : List Nat → Env1
  | [] => ρ
  | v :: vs => (wipeD ρ vs).set v none
theorem RS.wipe {K : PySem.W.Frag} {g : G} {H : Hp} {ρ : Env1} {σ : L2.St} (r : RS K g H ρ σ) : ∀ vs : List Nat, RS K g H (wipeD ρ vs) (L2.wipe σ vs)
  | [] => r
  | v :: vs => RS.unset v (RS.wipe r vs)
theorem wipe_at (σ : L2.St) : ∀ (vs : List Nat) (j : Nat), (L2.wipe σ vs)[j]? = if j ∈ vs ∧ j < σ.length then some none else σ[j]?
  | [], j => by simp [L2.wipe]
  | v :: vs, j => by
    have ih := wipe_at σ vs j
    have hl := L2.wipe_length σ vs
    show ((L2.wipe σ vs).set v none)[j]? = _
    by_cases hj : v = j
    · subst hj
      by_cases hl2 : v < σ.length
      · rw [List.getElem?_set_self (by rw [hl]; exact hl2), if_pos ⟨List.mem_cons_self, hl2⟩]
      · rw [List.getElem?_eq_none (by simp [hl]; omega), if_neg (fun h => hl2 h.2), List.getElem?_eq_none (by omega)]
    · rw [List.getElem?_set_ne hj, ih]
      by_cases h1 : j ∈ vs ∧ j < σ.length
      · rw [if_pos h1, if_pos ⟨List.mem_cons_of_mem _ h1.1, h1.2⟩]
      · rw [if_neg h1, if_neg]
        rintro ⟨h2, h3⟩
        rcases List.mem_cons.mp h2 with h2 | h2
        · exact hj h2.symm
        · exact h1 ⟨h2, h3⟩
theorem wipe_off {vs ws : List Nat} {σ σ' : L2.St} (h : Off ws (L2.wipe σ vs) σ') (hw : ∀ j ∈ ws, j ∈ vs) : L2.wipe σ' vs = L2.wipe σ vs := by
  have hl : σ'.length = σ.length := by rw [h.1, L2.wipe_length]
  refine List.ext_getElem? fun j => ?_
  rw [wipe_at, wipe_at, hl]
  by_cases h1 : j ∈ vs ∧ j < σ.length
  · rw [if_pos h1, if_pos h1]
  · rw [if_neg h1, if_neg h1]
    by_cases h2 : j ∈ ws
    · have h3 : ¬ j < σ.length := fun h4 => h1 ⟨hw j h2, h4⟩
      rw [List.getElem?_eq_none (by omega), List.getElem?_eq_none (by omega)]
    · rw [h.2 j h2, wipe_at, if_neg h1]
/-- no exception may come -/
def Out.nox {α : Type} : Out α → Out α
  | .ok a S => .ok a S
  | _ => .stuck
def OutS.nox (o : OutS) : Out Env1 := match o with
  | .nx ρ S => .ok ρ S
  | _ => .stuck
theorem Post.bindN {K : PySem.W.Frag} {W W2 : WX} {g gA : G} {H HA : Hp} {σ σ2 : L2.St} {α β γ δ : Type} {R : G → Hp → α → β → Prop} {R' : G → Hp → γ → δ → Prop} {Q : δ → Hp → Prop} {Q1 : β → Hp → Prop} {o : Out α} {k : α → List O → Out γ} (hp : Post K W R' gA HA σ Q (o.nox.bind k))
    (h : ∀ a S1 g1 H1 b, Ext g H g1 H1 → SR K g1 S1 H1 → R g1 H1 a b → Post K W R' gA HA σ Q (k a S1) → Q1 b H1) : Post K W2 R g H σ2 Q1 o := by
  cases o with
  | ok a S => exact fun g1 H1 b e s r => h a S g1 H1 b e s r hp
  | exc C d S => exact hp.elim
  | stuck => exact hp
theorem PostG.nox {K : PySem.W.Frag} {W W2 : WX} {g gA : G} {H HA : Hp} {σ σ2 : L2.St} {ws : List Nat} {γ δ : Type} {R' : G → Hp → γ → δ → Prop} {Q : δ → Hp → Prop} {o : OutS} {k : Env1 → List O → Out γ} {N : L2.St → Hp → Prop} (hp : Post K W R' gA HA σ Q (o.nox.bind k))
    (h : ∀ ρ S1 g1 H1 σ1, Ext g H g1 H1 → SR K g1 S1 H1 → RS K g1 H1 ρ σ1 → Off ws σ2 σ1 → Post K W R' gA HA σ Q (k ρ S1) → N σ1 H1) : PostG K W2 g H σ2 ws N o := by
  cases o with
  | nx ρ S => exact fun g1 H1 σ1 e s r off => h ρ S g1 H1 σ1 e s r off hp
  | _ => exact hp.elim
theorem Out.bind_assoc {α β γ : Type} (o : Out α) (k : α → List O → Out β) (k2 : β → List O → Out γ) : (o.bind k).bind k2 = o.bind fun a S => (k a S).bind k2 := by
  cases o <;> rfl
/-- the turns of a comprehension -/
def compL (vs : List Nat) (tg : TGx) (tt : TTx) (te : TEx) : List D → List D → Env1 → List O → Out (List D)
  | [], acc, _, S => .ok acc S
  | d :: ds, acc, ρ, S => (tg d (wipeD ρ vs) S).nox.bind fun ρ1 S1 => (tt ρ1 S1).nox.bind fun k S2 => if k = true then (te ρ1 S2).nox.bind fun y S3 => compL vs tg tt te ds (acc ++ [y]) ρ S3 else compL vs tg tt te ds acc ρ S2
def eLc (own : Bool) (vs : List Nat) (ti : TIx) (tg : TGx) (tt : TTx) (te : TEx) : TEx := fun ρ S => (ti ρ S).bind fun ds S1 => if ds.length ≤ sizeLine then (compL vs tg tt te ds [] ρ S1).bind (mkL own) else .stuck
/-- the place of a comprehension's block -/
def Sg.blk (z : Sg) (scope : Scope) : Sg := { z with scope := relS scope z.scope, cl := fun x => scope.names.lookup x == some .cell, W := fun _ _ _ _ => False }
theorem Fits.blk {z : Sg} {X : Cx} (f : Fits z X) (scope : Scope) (s : Shared) (H : Hp) (C : Addr) (cl : List (Str × Addr)) (fp : List Addr) : Fits (z.blk scope) (X.blk s H scope (compEnvC scope cl C X.env) fp) :=
  ⟨f.prog, f.w, f.K, f.mg, f.base, f.N, (by show relabel scope X.env = relS scope z.scope; rw [← f.scope]; rfl), f.calm, f.nd, fun x h => h, f.room, f.gd, takes0, PassesOwn.never⟩
def DTs (z : Sg) (ifs : List Expr) (t : TTx) : Prop := ∃ τ, (∀ X, Fits z X → PTs X ifs τ) ∧ RdT z τ t
def tYesD : TTx := fun _ S => .ok true S
theorem dts_nil {z : Sg} : DTs z [] tYesD := ⟨_, fun _ _ => pts_nil, fun g S ρ σ H Q s rs p => p.here s rfl⟩
theorem dts_one {z : Sg} {c : Expr} {t : TTx} (h : DT z c t) : DTs z [c] t := by
  obtain ⟨τ, h1, q1⟩ := h
  exact ⟨τ, fun X f => pts_one (h1 X f), q1⟩
/-- D forgotten as bad -/
def G.off (g : G) (p : Addr) : G := ⟨fun b => g.bad b ∧ b ≠ p, g.hs⟩
def G.on (g : G) (p : Addr) : G := ⟨fun b => g.bad b ∨ b = p, g.hs⟩
section
variable {K : PySem.W.Frag} {g g1 : G} {S : List O} {H H1 : Hp} {p : Addr} {u : HO}
theorem Ext.on (hp : H p = none) : Ext g H (g.on p) (upd H p u) :=
  ⟨fun b v e _ => same_new hp b v e, fun b v e n => fun h => h.elim n fun q => (by rw [q, hp] at e; cases e), fun _ h => .inl h, [], (List.append_nil _).symm, fun _ h => by cases h⟩
theorem SR.on (s : SR K g S H) (hp : H p = none) : SR K (g.on p) S (upd H p u) := by
  refine ⟨s.len, s.nd, fun a h => .inl (s.live a h), fun a h => ?_, fun i a o h1 h2 => (s.rep i a o h1 h2).mono s.live (Ext.on hp) fun v q => same_new hp _ _ q⟩
  rcases h with h | rfl
  · obtain ⟨v, q⟩ := s.trk a h
    exact ⟨v, same_new hp _ _ q⟩
  · exact ⟨u, upd_same⟩
theorem Wk.wr (hb : g.bad p) : Wk g H g (upd H p u) := ⟨fun b v e n => by rw [upd_ne (fun q => n (by rw [q]; exact hb))]; exact e, fun _ _ _ n => n, fun _ _ h => h⟩
/-- the object at a bad place that is no handle is written -/
theorem SR.wr (s : SR K g S H) (hb : g.bad p) (hn : p ∉ g.hs) : SR K g S (upd H p u) := by
  refine ⟨s.len, s.nd, s.live, fun a h => ?_, fun i a o h1 h2 => ?_⟩
  · by_cases ha : a = p
    · exact ⟨u, by rw [ha, upd_same]⟩
    · obtain ⟨v, q⟩ := s.trk a h
      exact ⟨v, by rw [upd_ne ha]; exact q⟩
  · have ha : a ≠ p := fun q => hn (by rw [← q]; exact List.mem_of_getElem? h1)
    have q := s.rep i a o h1 h2
    cases o with
    | lst ds =>
      obtain ⟨xs, e1, e2⟩ := q
      exact ⟨xs, by rw [upd_ne ha]; exact e1, e2.wk (Wk.wr hb) ds xs⟩
    | dct kvs =>
      obtain ⟨xs, e1, e2⟩ := q
      exact ⟨xs, by rw [upd_ne ha]; exact e1, e2.wk (Wk.wr hb) kvs xs⟩
    | ins C fs =>
      obtain ⟨dx, xs, e1, e2⟩ := q
      exact ⟨dx, xs, by rw [upd_ne ha]; exact e1, e2.wk (Wk.wr hb) fs xs⟩
end
/-- the new list stands at Dp, bad for all others, and may be written -/
structure LcAt (K : PySem.W.Frag) (g0 : G) (H0 : Hp) (Dp : Addr) (g : G) (H : Hp) (S : List O) (acc : List D) : Prop where
  keep : ∀ b o, H0 b = some o → b ∉ g0.hs → H b = some o
  good : ∀ b o, H0 b = some o → ¬ g0.bad b → ¬ g.bad b
  sub : ∀ b, g0.bad b → g.bad b
  pre : ∃ l, g.hs = g0.hs ++ l ∧ ∀ b ∈ l, H0 b = none ∧ b ≠ Dp
  s : SR K g S H
  at_ : ∃ xs, H Dp = some (.lst xs) ∧ RVs K g H acc xs
  bd : g.bad Dp
section
variable {K : PySem.W.Frag} {g0 g g1 : G} {H0 H H1 : Hp} {Dp : Addr} {S S1 : List O} {acc : List D}
theorem LcAt.ext (l : LcAt K g0 H0 Dp g H S acc) : Ext g0 H0 g H := by
  obtain ⟨m, e, f⟩ := l.pre
  exact ⟨l.keep, l.good, l.sub, m, e, fun b hb => (f b hb).1⟩
theorem LcAt.nh (l : LcAt K g0 H0 Dp g H S acc) (hd : Dp ∉ g0.hs) : Dp ∉ g.hs := by
  obtain ⟨m, e, f⟩ := l.pre
  rw [e]
  intro h
  rcases List.mem_append.mp h with h | h
  · exact hd h
  · exact (f _ h).2 rfl
theorem LcAt.later (l : LcAt K g0 H0 Dp g H S acc) (s0 : SR K g0 S1 H0) (hd : Dp ∉ g0.hs) {S2 : List O} (e : Ext g H g1 H1) (s1 : SR K g1 S2 H1) : LcAt K g0 H0 Dp g1 H1 S2 acc := by
  obtain ⟨m, em, fm⟩ := l.pre
  obtain ⟨m2, em2, fm2⟩ := e.pre
  have nh := l.nh hd
  obtain ⟨xs, h1, h2⟩ := l.at_
  have st : ∀ b o, H0 b = some o → b ∉ g0.hs → b ∉ g.hs := fun b o q n h => by
    rw [em] at h
    rcases List.mem_append.mp h with h | h
    · exact n h
    · rw [(fm b h).1] at q
      cases q
  refine ⟨fun b o q n => e.keep b o (l.keep b o q n) (st b o q n), fun b o q n => ?_, fun b h => e.sub b (l.sub b h), ⟨m ++ m2, by rw [em2, em, List.append_assoc], fun b hb => ?_⟩, s1, ⟨xs, e.keep _ _ h1 nh, h2.mono l.s.live e _ _⟩, e.sub _ l.bd⟩
  · have n0 : b ∉ g0.hs := fun h => n (s0.live b h)
    exact e.good b o (l.keep b o q n0) (l.good b o q n)
  · rcases List.mem_append.mp hb with h | h
    · exact fm b h
    · refine ⟨?_, fun q => ?_⟩
      · cases q : H0 b with
        | none => rfl
        | some o =>
          by_cases hx : b ∈ g0.hs
          · obtain ⟨o', e'⟩ := l.s.hl b (by rw [em]; exact List.mem_append_left _ hx)
            rw [fm2 b h] at e'
            cases e'
          · have z := l.keep b o q hx
            rw [fm2 b h] at z
            cases z
      · rw [q] at h
        rw [fm2 _ h] at h1
        cases h1
theorem LcAt.push (l : LcAt K g0 H0 Dp g H S acc) (hn : H0 Dp = none) (hd : Dp ∉ g0.hs) {y : D} {v : V} {xs : List V} (h1 : H Dp = some (.lst xs)) (ry : RV K g H y v) : LcAt K g0 H0 Dp g (upd H Dp (.lst (xs ++ [v]))) S (acc ++ [y]) := by
  obtain ⟨xs', h1', h2⟩ := l.at_
  rw [h1] at h1'
  cases h1'
  have w : Wk g H g (upd H Dp (.lst (xs ++ [v]))) := Wk.wr l.bd
  refine ⟨fun b o q n => by rw [upd_ne (ne_of_none q hn)]; exact l.keep b o q n, l.good, l.sub, l.pre, l.s.wr l.bd (l.nh hd), ⟨_, upd_same, ?_⟩, l.bd⟩
  exact (h2.wk w _ _).snoc (ry.wk w _ _)
/-- the list is given out -/
theorem LcAt.fin {W : WX} {σ : L2.St} {Q : VK} {own : Bool} (l : LcAt K g0 H0 Dp g H S acc) (s0 : SR K g0 S1 H0) (hn : H0 Dp = none) (hd : Dp ∉ g0.hs) (p : Post K W (RV K) g0 H0 σ Q (mkL own acc S)) : Q (.ref Dp) H := by
  obtain ⟨m, em, fm⟩ := l.pre
  obtain ⟨xs, h1, h2⟩ := l.at_
  have nh := l.nh hd
  unfold mkL at p
  split at p
  · split at p
    · refine p ⟨g.bad, g.hs ++ [Dp]⟩ H _ ⟨l.keep, l.good, l.sub, m ++ [Dp], by rw [em, List.append_assoc], fun b hb => ?_⟩ ?_ ?_
      · rcases List.mem_append.mp hb with h | h
        · exact (fm b h).1
        · rw [List.mem_singleton.mp h]
          exact hn
      · have wk : ∀ (i : Nat) (a : Addr), g.hs[i]? = some a → (g.hs ++ [Dp])[i]? = some a := fun i a h => by
          rw [List.getElem?_append_left (List.getElem?_eq_some_iff.mp h).1]
          exact h
        refine ⟨by simp [l.s.len], ?_, fun a ha => ?_, l.s.trk, fun i a o e1 e2 => ?_⟩
        · refine List.nodup_append.mpr ⟨l.s.nd, by simp, fun a ha b hb => ?_⟩
          rw [List.mem_singleton.mp hb]
          rintro rfl
          exact nh ha
        · rcases List.mem_append.mp ha with h | h
          · exact l.s.live a h
          · rw [List.mem_singleton.mp h]
            exact l.bd
        · by_cases hi : i < S.length
          · have e1' : g.hs[i]? = some a := by
              have e1 : (g.hs ++ [Dp])[i]? = some a := e1
              rwa [List.getElem?_append_left (by rw [l.s.len]; exact hi)] at e1
            have e2' : S[i]? = some o := by rwa [List.getElem?_append_left hi] at e2
            exact RO.anti (g := g) (g0 := ⟨g.bad, g.hs ++ [Dp]⟩) (fun _ h => h) wk (l.s.rep i a o e1' e2')
          · have hi2 : i = S.length := by
              have := (List.getElem?_eq_some_iff.mp e2).1
              simp at this
              omega
            subst hi2
            have e1 : (g.hs ++ [Dp])[S.length]? = some a := e1
            rw [← l.s.len] at e1
            simp at e1
            simp at e2
            subst e1 e2
            exact ⟨xs, h1, RVs.anti (g := g) (g0 := ⟨g.bad, g.hs ++ [Dp]⟩) (fun _ h => h) wk _ _ h2⟩
      · simp only [RV]
        exact ⟨Dp, rfl, by rw [← l.s.len]; simp⟩
    · have hb : ∀ b, (G.off g Dp).bad b → g.bad b := fun b h => h.1
      have hh : ∀ (i : Nat) (a : Addr), g.hs[i]? = some a → (G.off g Dp).hs[i]? = some a := fun _ _ h => h
      refine p (g.off Dp) H _ ⟨l.keep, fun b o q n h => l.good b o q n h.1, fun b h => ⟨l.sub b h, fun q => ?_⟩, m, em, fun b hb => (fm b hb).1⟩ ?_ ?_
      · obtain ⟨o, z⟩ := s0.trk b h
        rw [q, hn] at z
        cases z
      · exact ⟨l.s.len, l.s.nd, fun a ha => ⟨l.s.live a ha, fun q => nh (by rw [← q]; exact ha)⟩, fun a h => l.s.trk a h.1, fun i a o e1 e2 => RO.anti hb hh (l.s.rep i a o e1 e2)⟩
      · simp only [RV]
        exact ⟨Dp, xs, rfl, h1, fun h => h.2 rfl, RVs.anti hb hh _ _ h2⟩
  · exact p.elim
end
section
variable {z : Sg} {pos : Pos}
theorem de_lc (own : Bool) (ow : List (Str × Nat)) {elt tg iter : Expr} {ifs : List Expr} {scope : Scope} {ws : List Nat} {ti : TIx} {t : TGx} {tt : TTx} {te : TEx} (hi : DI z tg iter ti) (hg : DG (z.blk scope) tg ws t) (ht : DTs (z.blk scope) ifs tt) (he : DE (z.blk scope) elt te)
    (ok : blkC z.N z.scope scope ow = true := by decide +kernel) (hw : ∀ j ∈ ws, j ∈ ow.map (·.2) := by decide) (hs : ∀ env x, foldedSetIterable iter env x = pure x := by intro _ _; rfl) :
    DE z (.ListComp elt [⟨tg, iter, ifs, 0⟩] scope pos) (eLc own (ow.map (·.2)) ti t tt te) := by
  obtain ⟨wi, h1, q1⟩ := hi
  obtain ⟨τg, h2, q2⟩ := hg
  obtain ⟨τt, h3, q3⟩ := ht
  obtain ⟨τe, h4, q4⟩ := he
  refine ⟨tLc wi τg τt τe (ow.map (·.2)), fun X f => pe_lc f.calm f.ndX (h1 X f) (by rw [f.N, f.scope]; exact blkOk_by ok) (fun s H C cl fp => h2 _ (f.blk scope s H C cl fp)) (fun s H C cl fp => h3 _ (f.blk scope s H C cl fp)) (fun s H C cl fp => h4 _ (f.blk scope s H C cl fp)) (hs _), fun g S ρ σ H Q s rs p => ?_⟩
  refine q1 g S ρ σ H _ s rs (p.bind fun ds S1 g1 H1 J e1 s1 r1 p1 => ?_)
  split at p1
  · rename_i hlen
    obtain ⟨Gd, Y, w, hG, hY⟩ := r1
    intro Dp hn
    have hd : Dp ∉ g1.hs := fun h => s1.unbad hn (s1.live _ h)
    have rs1 := rs.mono s.live e1
    have l0 : LcAt z.K g1 H1 Dp (g1.on Dp) (upd H1 Dp (.lst [])) S1 [] :=
      ⟨fun b o q _ => same_new hn b o q, (Ext.on (u := .lst []) hn).good, fun _ h => .inl h, ⟨[], by simp [G.on], fun _ h => by cases h⟩, s1.on hn, ⟨[], upd_same, by simp only [RVs]⟩, .inr rfl⟩
    have bnd : ∀ {i : Nat} {acc : List D}, acc.length ≤ i → i < ds.length → acc.length < sizeLine := fun h1 h2 => by omega
    refine lc_it w (fun i H' => ∃ g' S' acc, LcAt z.K g1 H1 Dp g' H' S' acc ∧ RS z.K g' H' ρ σ ∧ acc.length ≤ i ∧ Post z.K z.W (RV z.K) g1 H1 σ Q ((compL (ow.map (·.2)) t tt te (ds.drop i) acc ρ S').bind (mkL own)))
      ⟨_, S1, [], l0, rs1.mono s1.live (Ext.on hn), Nat.le_refl _, p1⟩ (fun i H' _ h => ?_) (fun i x H' H2 hi h y => ?_) fun H' h => ?_
    · obtain ⟨g', S', acc, l, _⟩ := h
      exact hG g' H' l.ext
    · obtain ⟨g', S', acc, l, rs', hacc, p'⟩ := h
      obtain ⟨hk, d, hdx, rd⟩ := hY i H' x H2 g' S' hi l.ext l.s y
      have e2 : Ext g' H' g' H2 := Ext.same hk
      have l2 := l.later s1 hd e2 (l.s.same hk)
      have rs2 := rs'.mono l.s.live e2
      have eq : ds.drop i = d :: ds.drop (i + 1) := by
        obtain ⟨hl, hv⟩ := List.getElem?_eq_some_iff.mp hdx
        rw [List.drop_eq_getElem_cons hl, hv]
      rw [eq] at p'
      unfold compL at p'
      rw [Out.bind_assoc] at p'
      refine q2 g' S' _ _ H2 d x _ l2.s (rs2.wipe _) rd (PostG.nox p' fun ρ3 S3 g3 H3 σ3 e3 s3 r3 off p3 => ?_)
      refine ⟨wipe_off off hw, ?_⟩
      have l3 := l2.later s1 hd e3 s3
      have rs3 := rs2.mono l2.s.live e3
      rw [Out.bind_assoc] at p3
      refine q3 g3 S3 ρ3 σ3 H3 _ s3 r3 (Post.bindN p3 fun k S4 g4 H4 k' e4 s4 r4 p4 => ?_)
      have r4 : k = k' := r4
      subst r4
      have l4 := l3.later s1 hd e4 s4
      have rs4 := rs3.mono l3.s.live e4
      show if k = true then _ else _
      split
      · rename_i hkt
        rw [if_pos hkt, Out.bind_assoc] at p4
        refine q4 g4 S4 ρ3 σ3 H4 _ s4 (r3.mono s3.live e4) (Post.bindN p4 fun yv S5 g5 H5 v e5 s5 r5 p5 => ?_)
        have l5 := l4.later s1 hd e5 s5
        obtain ⟨xs, hx1, hx2⟩ := l5.at_
        refine ⟨xs, hx1, by rw [hx2.length]; exact bnd hacc hi, g5, S5, acc ++ [yv], l5.push hn hd hx1 r5, ?_, by simp; omega, p5⟩
        exact (rs4.mono l4.s.live e5).wk (Wk.wr l5.bd) _ _
      · rename_i hkf
        rw [if_neg hkf] at p4
        exact ⟨g4, S4, acc, l4, rs4, by omega, p4⟩
    · obtain ⟨g', S', acc, l, _, _, p'⟩ := h
      rw [List.drop_length] at p'
      exact l.fin s1 hn hd p'
  · exact p1.elim
end
end TL
set_option Elab.async false
set_option linter.all false
set_option maxRecDepth 100000
set_option maxHeartbeats 4000000
/-! The tree layer, part 6: defs and their calls. -/
namespace TL
open PySem PySem.Spec PyProof.Rows L2

/-- what a def does: from its arguments and the store -/
abbrev TF := List D → List O → Out D
/-- a def's wish about what it raises -/
abbrev wX (E : XK) : WX := fun c dd _ H => E c dd H
structure TFn (P : Program) (w : World) (K : PySem.W.Frag) (mg : Str → Option Value) (base : Heap) (k : Nat) (f : Addr) (fd : FuncData) (ps : List Str) (F : TF) : Prop where
  run : ∀ (A : Around) (outer : List Env) (s : Shared) (H : Hp) (args : Args) (us : List Value) (vs : List V) (Q : VK) (E : XK) (g : G) (S : List O) (ds : List D), Room k A → A.guards = some [] → Env0 P w K mg base A outer s H → BindsTo s fd args (ps.zip us) → Vals vs us →
    vs.length = ps.length → SR K g S H → RVs K g H ds vs → Post K (wX E) (RV K) g H [] Q (F ds S) → codeAny (model P w) A (.call (.ref f) args) (CR (CX P w) outer P w H s Q E) s
def OutS.fin (o : OutS) : Out D := match o with
  | .nx _ S => .ok .non S
  | .rt d S => .ok d S
  | .exc C d _ S => .exc C d S
  | _ => .stuck
def startD (N : List Str) (ds : List D) : Env1 := ds.map some ++ List.replicate (N.length - ds.length) none
def bodyF (n : Nat) (N : List Str) (t : TSx) : TF := fun ds S => if ds.length = n then (t (startD N ds) S).fin else .stuck
section
variable {K : PySem.W.Frag} {W : WX} {g : G} {H : Hp}
theorem RS.none : ∀ n : Nat, RS K g H (List.replicate n Option.none) (List.replicate n Option.none)
  | 0 => by simp only [List.replicate_zero, RS]
  | n + 1 => by
    simp only [List.replicate_succ, RS]
    exact ⟨_, _, rfl, RS.none n⟩
theorem RS.start : ∀ {ds : List D} {vs : List V} {r : Env1} {q : L2.St}, RVs K g H ds vs → RS K g H r q → RS K g H (ds.map some ++ r) (vs.map some ++ q)
  | [], _, _, _, h, k => by simp only [RVs] at h; subst h; exact k
  | d :: ds, _, _, _, h, k => by
    simp only [RVs] at h
    obtain ⟨v, r, rfl, e2, e3⟩ := h
    simp only [List.map_cons, List.cons_append, RS]
    exact ⟨v, _, rfl, e2, RS.start e3 k⟩
theorem startD_ok {N : List Str} {ds : List D} {vs : List V} (r : RVs K g H ds vs) : RS K g H (startD N ds) (L2.start N vs) := by
  unfold startD L2.start
  rw [r.length]
  exact RS.start r (RS.none _)
theorem PostS.fin {E : XK} {Q : VK} : ∀ {o : OutS}, Post K (wX E) (RV K) g H [] Q o.fin → PostS K (wX E) g H { nx := fun _ H' => Q .non H', rt := Q } o
  | .nx ρ S, h => fun g' H' σ' e s r => h g' H' .non e s (by simp only [RV])
  | .rt d S, h => fun g' H' v e s r => h g' H' v e s r
  | .exc C d ρ S, h => fun g' H' σ' c dd e s r x => h g' H' c dd e s x
  | .bk _ _, h => h.elim
  | .ct _ _, h => h.elim
  | .stuck, h => h.elim
end
section
variable {P : Program} {w : World} {K : PySem.W.Frag} {mg : Str → Option Value} {base : Heap} {x qual : Str} {params : Arguments} {body : List Stmt} {scope : Scope} {dvs : List V} {kws : List (Str × V)} {f : Addr} {fd : FuncData} {N ps : List Str} {k : Nat}
/-- the place of a def's body -/
def Sg.of (P : Program) (w : World) (K : PySem.W.Frag) (mg : Str → Option Value) (base : Heap) (N : List Str) (scope : Scope) (k : Nat) (E : XK) : Sg := ⟨P, w, K, mg, base, N, scope, fun _ => true, k, wX E⟩
theorem fits_of {qual : Str} {cdv : Value} {A : Around} {outer : List Env} {s : Shared} {H : Hp} {E : XK} (S : FnScope N ps scope) (hr : Room k (A.deeper (envOfC qual scope s.heap.objs.size f cdv))) (hg : A.guards = some []) :
    Fits (Sg.of P w K mg base N scope k E) (cxOf (CX P w) P w K mg base N qual scope f cdv A outer s H E) :=
  ⟨rfl, rfl, rfl, rfl, rfl, rfl, rfl, rfl, S.nd, fun _ _ => rfl, hr, hg, takes_of rfl rfl rfl rfl, passes_of rfl⟩
/-- THE RULE for a def -/
theorem tfn_of {t : TSx} (F : FunD K x qual params body scope dvs kws f fd) (S : FnScope N ps scope) (hb : ∀ E, DSs (Sg.of P w K mg base N scope k E) body t) : TFn P w K mg base (k + 1) f fd ps (bodyF ps.length N t) := by
  obtain ⟨oc, od, dV, kV, doc, pm, an, cdv, ct, osl, rfl, lk, hcd, _, _⟩ := F.ex
  refine ⟨fun A outer s H args us vs Q E g St ds hr hgd e0 hbd rv hlen hs rvs hp => ?_⟩
  have KX : K.In s.heap := e0.mod.kin.keeps fun b o q => (e0.bs b o q).1
  have lim : s.heap.NoLimit := e0.mod.nolimit.keeps fun b o q => (e0.bs b o q).1
  have hkd : ∀ y ∈ ps.zip us, scope.names.lookup y.1 = some .local ∨ (scope.names.lookup y.1 = some .cell ∧ ((cellsFrom (s.heap.objs.size + 1) scope.names []).lookup y.1).isSome = true) := fun y hy => by
    rcases S.par y.1 (List.of_mem_zip (a := y.1) (b := y.2) hy).1 with q | q
    · exact .inl q
    · exact .inr ⟨q, PySem.W.cellsFrom_some _ _ _ (.inl q)⟩
  refine codeAny_call_function hr.depth (KX _ _ lk) rfl S.co S.gen rfl (PySem.W.codeRec_of KX hcd) (hbd _ _ _ _ ?_)
  refine wpAny_newFunctionEnv_cells S.kind hkd fun env he s1 hx => ?_
  subst he
  refine ⟨lim.keeps hx.toInCall.keep, codeAny_func ?_⟩
  obtain ⟨τ, ht, hq⟩ := hb E
  have I : Inv (cxOf (CX P w) P w K mg base N qual scope f cdv A outer s H E) [] (L2.start N vs) H s1 := inv_start S hr.hd e0 hlen rv hx
  have hp' : PostS K (wX E) g H { nx := fun _ H' => Q .non H', rt := Q } (t (startD N ds) St) := by
    unfold bodyF at hp
    rw [if_pos (by rw [← rvs.length]; exact hlen)] at hp
    exact PostS.fin hp
  have rd := hq g St (startD N ds) (L2.start N vs) H { nx := fun _ H' => Q .non H', rt := Q } hs (startD_ok rvs) hp'
  refine wpAny_mono ((ht _ (fits_of S (hr.deeper _) hgd)).run [] s1 _ H _ I rd) (fun fl s' hfl => ?_) fun e s' he => he
  have fin : ∀ {σ' : L2.St} {H' : Hp} {v : V} {u : Value}, Inv (cxOf (CX P w) P w K mg base N qual scope f cdv A outer s H E) [] σ' H' s' → RelV v u → Q v H' → CE outer P w H s Q u s' := fun {σ' H' v u} J r q => ⟨v, H', J.os, J.bare, J.base, J.hok, r, q⟩
  cases fl with
  | ret u =>
    obtain ⟨v, σ', H', J, r, q⟩ := hfl
    exact fin J r q
  | next =>
    obtain ⟨σ', H', J, q⟩ := hfl
    exact fin (v := V.non) (u := Value.none) J rfl q
  | brk =>
    obtain ⟨_, _, _, q⟩ := hfl
    exact q.elim
  | cont =>
    obtain ⟨_, _, _, q⟩ := hfl
    exact q.elim
theorem TFn.mono {j : Nat} {F : TF} (h : TFn P w K mg base j f fd ps F) (hj : j ≤ k) : TFn P w K mg base k f fd ps F := ⟨fun A outer s H args us vs Q E g S ds hr => h.run A outer s H args us vs Q E g S ds (hr.mono hj)⟩
/-- another reading of what it does -/
theorem TFn.imp {F F' : TF} (h : TFn P w K mg base k f fd ps F) (q : ∀ ds S, F' ds S = .stuck ∨ F' ds S = F ds S) : TFn P w K mg base k f fd ps F' := ⟨fun A outer s H args us vs Q E g S ds hr hg e0 hb r hl hs hd hp => by
  rcases q ds S with e | e
  · rw [e] at hp
    exact hp.elim
  · rw [e] at hp
    exact h.run A outer s H args us vs Q E g S ds hr hg e0 hb r hl hs hd hp⟩
/-- its new handles are dropped -/
theorem TFn.cut {F : TF} (h : TFn P w K mg base k f fd ps F) : TFn P w K mg base k f fd ps (fun ds S => (F ds S).cut S.length) := ⟨fun A outer s H args us vs Q E g S ds hr hg e0 hb r hl hs hd hp => h.run A outer s H args us vs Q E g S ds hr hg e0 hb r hl hs hd (Post.cut hs hp)⟩
end

/-! ### a call -/
theorem Post.wx {K : PySem.W.Frag} {W : WX} {g : G} {H : Hp} {σ : L2.St} {Q : VK} : ∀ {o : Out D}, Post K W (RV K) g H σ Q o → Post K (wX fun c dd H' => W c dd σ H') (RV K) g H [] Q o
  | .ok _ _, h => h
  | .exc _ _ _, h => h
  | .stuck, h => h
/-- what a call asks -/
def tCallD (K : PySem.W.Frag) (W : WX) (ps : List Str) (F : TF) (σ : L2.St) (vs : List V) (H : Hp) (Q : VK) : Prop :=
  vs.length = ps.length ∧ ∃ g S ds, SR K g S H ∧ RVs K g H ds vs ∧ Post K W (RV K) g H σ Q (F ds S)
section
variable {z : Sg} {X : Cx} {k : Nat} {f : Addr} {fd : FuncData} {ps : List Str} {F : TF} {ds : List Value} {dvs : List V} {dfl : List D}
theorem run_tfn {pins : List (Addr × Obj)} {σ : L2.St} {H : Hp} {s : Shared} {Q : VK} {us : List Value} {vs : List V} (Fn : TFn z.P z.w z.K z.mg z.base k f fd ps F) (fx : Fits z X) (hk : k ≤ z.lv) (hb : Binds z.K fd ps ds) (hd : Vals dvs ds) (I : Inv X pins σ H s) (r : Vals vs us)
    (q : tCallD z.K z.W ps F σ (vs ++ dvs) H Q) : wpAny (model X.prog X.w) X.A (call (.ref f) us) (EP X pins σ Q) X.xe s := by
  obtain ⟨hl, g, S, es, hs, rv, hp⟩ := q
  have r2 : Vals (vs ++ dvs) (us ++ ds) := r.append hd
  have e0 := I.env0
  have KX := I.kIn
  have fin : ∀ (rr : Result) (s' : Shared), CR (CX X.prog X.w) X.stack X.prog X.w H s Q (fun c dd H' => z.W c dd σ H') rr s' → (match rr with | .ok (.ret u) => EP X pins σ Q u s' | .ok _ => False | .error e => X.xe e s') := by
    intro rr s' hq
    cases rr with
    | error e => exact fx.takes e s' (XE.of_call I (fun _ _ _ q => q) hq)
    | ok fl =>
      cases fl with
      | ret u => exact I.after hq
      | _ => exact hq
  rw [fx.prog, fx.w, fx.K, fx.mg, fx.base] at e0
  rw [fx.K] at KX
  rw [fx.prog, fx.w] at fin ⊢
  refine wpAny_call (codeAny_mono (Fn.run X.A X.stack s H ⟨us, []⟩ (us ++ ds) (vs ++ dvs) Q _ g S es (fx.room.mono hk) fx.gd e0 (hb s us KX (by rw [← r2.length]; exact hl)) r2 hl hs rv hp.wx) fun rr s' hq => ?_)
  have z := fin rr s' hq
  cases rr with
  | error e => exact z
  | ok fl =>
    cases fl with
    | ret u => exact z
    | _ => exact z.elim
/-- f(e, ..), f a def of the module -/
theorem de_call {x : Str} {e : Expr} {es : List Expr} {p pos : Pos} {ta : TAx} (Fn : TFn z.P z.w z.K z.mg z.base k f fd ps F) (hk : k ≤ z.lv) (hm : z.mg x = some (.ref f)) (kp : PySem.W.keepIn z.K (.ref f) = true) (hb : Binds z.K fd ps ds) (hd : Vals dvs ds) (hdf : ∀ g H, RVs z.K g H dfl dvs)
    (ha : DA z (e :: es) ta) (hg : Gz z x := by rfl) (hdb : (x == ("__debug__" : Str)) = false := by decide) (he : ∀ env, starEach (e :: es) env = (false, eval e env) :: starEach es env := by intro _; rfl) (hpl : ∀ env, (backTo pos (starEach es env)).any (·.1) = false := by intro _; rfl) :
    DE z (.Call (.Name x p) (e :: es) [] pos) (eArgs (fun vs S => if (vs ++ dfl).length = ps.length then F (vs ++ dfl) S else .stuck) ta) := by
  obtain ⟨τ, h1, q1⟩ := ha
  refine ⟨fun σ H Q => τ σ H fun vs H1 => tCallD z.K z.W ps F σ (vs ++ dvs) H1 Q, fun X fx => ⟨fun pins s σ H Q I h => ?_⟩, fun g S ρ σ H Q s rs p => ?_⟩
  · refine wpAny_Call_Name_kw (ld_glob I (fx.gl hg) (fx.mgl hm) ?_ hdb)
    have kp' : PySem.W.keepIn X.K (.ref f) = true := by rw [fx.K]; exact kp
    exact PySem.W.callWith_K (h₀ := X.base) I.ok.mod.kin kp' (thn ((h1 X fx).run pos pins s σ H _ I h) fun us s1 ⟨vs, H1, I1, r, q⟩ => ⟨I1.kIn, run_tfn Fn fx hk hb hd I1 r q⟩) (he _) (hpl _)
  · refine q1 g S ρ σ H _ s rs (p.bind fun xs S1 g1 H1 vs e1 s1 r1 p1 => ?_)
    split at p1
    · rename_i hl
      refine ⟨?_, g1, S1, xs ++ dfl, s1, r1.append (hdf g1 H1), p1⟩
      rw [← hl, (r1.append (hdf g1 H1)).length]
    · exact p1.elim
/-- f(), f a def of the module -/
theorem de_call0 {x : Str} {p pos : Pos} (Fn : TFn z.P z.w z.K z.mg z.base k f fd ps F) (hk : k ≤ z.lv) (hm : z.mg x = some (.ref f)) (kp : PySem.W.keepIn z.K (.ref f) = true) (hb : Binds z.K fd ps ds) (hd : Vals dvs ds) (hdf : ∀ g H, RVs z.K g H dfl dvs)
    (hg : Gz z x := by rfl) (hdb : (x == ("__debug__" : Str)) = false := by decide) : DE z (.Call (.Name x p) [] [] pos) (fun _ S => if dfl.length = ps.length then F dfl S else .stuck) := by
  refine ⟨fun σ H Q => tCallD z.K z.W ps F σ dvs H Q, fun X fx => ⟨fun pins s σ H Q I h => ?_⟩, fun g S ρ σ H Q s rs p => ?_⟩
  · refine wpAny_Call_Name_kw (ld_glob I (fx.gl hg) (fx.mgl hm) ?_ hdb)
    have kp' : PySem.W.keepIn X.K (.ref f) = true := by rw [fx.K]; exact kp
    exact PySem.W.callWith_K0 I.kIn kp' (run_tfn (us := []) (vs := []) Fn fx hk hb hd I .nil h)
  · split at p
    · rename_i hl
      refine ⟨?_, g, S, dfl, s, hdf g H, p⟩
      rw [← hl, (hdf g H).length]
    · exact p.elim
end
end TL
set_option Elab.async false
set_option linter.all false
set_option maxRecDepth 100000
set_option maxHeartbeats 4000000
/-! The tree layer, part 7: built-in functions, items, slices, methods. -/
namespace TL
open PySem PySem.Spec PyProof.Rows L2

section
variable {z : Sg} {e a b : Expr} {es : List Expr} {ta : TAx} {t tb : TEx} {p pos : Pos}
theorem de_callB {id : String} {x : Str} {r : List V → Hp → VK → Prop} {f : List D → List O → Out D} (hc : ∀ X, Fits z X → CallR X (.builtin id) r) (ok : OkL z.K z.W r f) (hv : bootBuiltins x = some (.builtin id)) (hm : z.mg x = none) (ha : DA z (e :: es) ta)
    (hg : Gz z x := by rfl) (hn : x ≠ "__name__" := by decide) (hd : (x == ("__debug__" : Str)) = false := by decide) (hs : ∀ env, starEach (e :: es) env = (false, eval e env) :: starEach es env := by intro _; rfl) (hp : ∀ env, (backTo pos (starEach es env)).any (·.1) = false := by intro _; rfl) :
    DE z (.Call (.Name x p) (e :: es) [] pos) (eArgs f ta) :=
  de_args (fun X fx τ h => pe_callB (hc X fx) (fx.gl hg) (fx.mgl hm) hv h hn hd (hs _) (hp _)) ok ha
theorem de_callTy {T : String} {x : Str} {r : List V → Hp → VK → Prop} {f : List D → List O → Out D} (hc : ∀ X, Fits z X → CallR X (.type T) r) (ok : OkL z.K z.W r f) (hv : bootBuiltins x = some (.type T)) (hm : z.mg x = none) (ha : DA z (e :: es) ta)
    (hg : Gz z x := by rfl) (hn : x ≠ "__name__" := by decide) (hd : (x == ("__debug__" : Str)) = false := by decide) (hs : ∀ env, starEach (e :: es) env = (false, eval e env) :: starEach es env := by intro _; rfl) (hp : ∀ env, (backTo pos (starEach es env)).any (·.1) = false := by intro _; rfl) :
    DE z (.Call (.Name x p) (e :: es) [] pos) (eArgs f ta) :=
  de_args (fun X fx τ h => pe_callTy (hc X fx) (fx.gl hg) (fx.mgl hm) hv h hn hd (hs _) (hp _)) ok ha
end

/-! ### len, int, abs, max, min -/
def lenD (ds : List D) (S : List O) : Out D := match ds with
  | [.str y] => if y.length ≤ sizeLine then .ok (.int y.length) S else .stuck
  | [.dct kvs] => .ok (.int kvs.length) S
  | [d] => (match seqOf S d with
    | some xs => .ok (.int xs.length) S
    | none => .stuck)
  | _ => .stuck
def intD (ds : List D) (S : List O) : Out D := match ds with
  | [.int i] => .ok (.int i) S
  | [.bl b] => .ok (.int (if b then 1 else 0)) S
  | _ => .stuck
def absD (ds : List D) (S : List O) : Out D := match ds with
  | [.int i] => .ok (.int (if i < 0 then -i else i)) S
  | _ => .stuck
def max2D (ds : List D) (S : List O) : Out D := match ds with
  | [.int i, .int j] => .ok (.int (if j > i then j else i)) S
  | _ => .stuck
def min2D (ds : List D) (S : List O) : Out D := match ds with
  | [.int i, .int j] => .ok (.int (if j < i then j else i)) S
  | _ => .stuck
section
variable {K : PySem.W.Frag} {W : WX} {g : G} {H : Hp}
theorem rvs1 {d : D} {vs : List V} (h : RVs K g H [d] vs) : ∃ v, vs = [v] ∧ RV K g H d v := by
  simp only [RVs] at h
  obtain ⟨v, r, rfl, h1, rfl⟩ := h
  exact ⟨v, rfl, h1⟩
theorem rvs2 {d e : D} {vs : List V} (h : RVs K g H [d, e] vs) : ∃ v u, vs = [v, u] ∧ RV K g H d v ∧ RV K g H e u := by
  simp only [RVs] at h
  obtain ⟨v, r, rfl, h1, u, r2, rfl, h2, rfl⟩ := h
  exact ⟨v, u, rfl, h1, h2⟩
abbrev rLenA (K : PySem.W.Frag) : List V → Hp → VK → Prop := fun xs H Q => (∃ x n, xs = [x] ∧ LenV K x H n ∧ Q (.int n) H) ∨ ∃ (a : Addr) (kvs : List (Key × V)), xs = [.ref a] ∧ kvs = kvs ∧ H a = some (.dK kvs) ∧ Q (.int kvs.length) H
theorem ok_len : OkL K W (rLenA K) lenD := by
  intro g S H σ Q xs vs s r p
  unfold lenD at p
  split at p
  · split at p
    · obtain ⟨v, rfl, rr⟩ := rvs1 r
      exact .inl ⟨v, _, rfl, by rw [rv_str rr]; exact ⟨by assumption, rfl⟩, p.here s (by simp only [RV])⟩
    · exact p.elim
  · rename_i kvs
    obtain ⟨v, rfl, rr⟩ := rvs1 r
    simp only [RV] at rr
    obtain ⟨a, ws, rfl, h1, _, h2⟩ := rr
    exact .inr ⟨a, ws, rfl, rfl, h1, p.here s (by simp only [RV, h2.length])⟩
  · split at p
    · rename_i ds q
      obtain ⟨v, rfl, rr⟩ := rvs1 r
      obtain ⟨a, ws, rfl, h1, h2⟩ := seq_at s q rr
      refine .inl ⟨_, ws.length, rfl, ?_, p.here s (by simp only [RV, h2.length])⟩
      rcases h1 with h1 | h1
      · exact .inl ⟨ws, h1, rfl⟩
      · exact .inr ⟨ws, h1, rfl⟩
    · exact p.elim
  · exact p.elim
theorem ok_int : OkL K W (fun xs H Q => (∃ i, xs = [.int i] ∧ Q (.int i) H) ∨ ∃ k, xs = [.bl k] ∧ Q (.int (if k then 1 else 0)) H) intD := by
  intro g S H σ Q xs vs s r p
  unfold intD at p
  split at p
  · obtain ⟨v, rfl, rr⟩ := rvs1 r
    exact .inl ⟨_, by rw [rv_int rr], p.here s (by simp only [RV])⟩
  · obtain ⟨v, rfl, rr⟩ := rvs1 r
    exact .inr ⟨_, by rw [rv_bl rr], p.here s (by simp only [RV])⟩
  · exact p.elim
theorem ok_abs : OkL K W (fun xs H Q => ∃ i, xs = [.int i] ∧ Q (.int (if i < 0 then -i else i)) H) absD := by
  intro g S H σ Q xs vs s r p
  unfold absD at p
  split at p
  · obtain ⟨v, rfl, rr⟩ := rvs1 r
    exact ⟨_, by rw [rv_int rr], p.here s (by simp only [RV])⟩
  · exact p.elim
theorem ok_max2 : OkL K W (fun xs H Q => ∃ i j, xs = [.int i, .int j] ∧ Q (.int (if j > i then j else i)) H) max2D := by
  intro g S H σ Q xs vs s r p
  unfold max2D at p
  split at p
  · obtain ⟨v, u, rfl, r1, r2⟩ := rvs2 r
    exact ⟨_, _, by rw [rv_int r1, rv_int r2], p.here s (by simp only [RV])⟩
  · exact p.elim
theorem ok_min2 : OkL K W (fun xs H Q => ∃ i j, xs = [.int i, .int j] ∧ Q (.int (if j < i then j else i)) H) min2D := by
  intro g S H σ Q xs vs s r p
  unfold min2D at p
  split at p
  · obtain ⟨v, u, rfl, r1, r2⟩ := rvs2 r
    exact ⟨_, _, by rw [rv_int r1, rv_int r2], p.here s (by simp only [RV])⟩
  · exact p.elim
end
section
variable {z : Sg} {e : Expr} {es : List Expr} {ta : TAx} {t : TEx} {p pos : Pos}
theorem de_len {e : Expr} (hm : z.mg "len" = none) (ha : DA z [e] ta) (hg : Gz z "len" := by rfl) (hs : ∀ env, starEach [e] env = (false, eval e env) :: starEach [] env := by intro _; rfl) : DE z (.Call (.Name "len" p) [e] [] pos) (eArgs lenD ta) :=
  de_callB (fun X f => f.K ▸ call_len.or (fun pins s σ H xs us Q I r h => by
    obtain ⟨a, kvs, e1, _, e2, q⟩ := h
    exact call_lenD pins s σ H xs us Q I r ⟨a, kvs, e1, e2, q⟩)) ok_len boot_len hm ha hg (by decide) (by decide) hs
theorem de_intc {e : Expr} (hm : z.mg "int" = none) (ha : DA z [e] ta) (hg : Gz z "int" := by rfl) (hs : ∀ env, starEach [e] env = (false, eval e env) :: starEach [] env := by intro _; rfl) : DE z (.Call (.Name "int" p) [e] [] pos) (eArgs intD ta) :=
  de_callTy (fun X f => call_int1) ok_int (by decide +kernel) hm ha hg (by decide) (by decide) hs
theorem de_abs {e : Expr} (hm : z.mg "abs" = none) (ha : DA z [e] ta) (hg : Gz z "abs" := by rfl) (hs : ∀ env, starEach [e] env = (false, eval e env) :: starEach [] env := by intro _; rfl) : DE z (.Call (.Name "abs" p) [e] [] pos) (eArgs absD ta) :=
  de_callB (fun X f => call_abs) ok_abs (by decide +kernel) hm ha hg (by decide) (by decide) hs
theorem de_max2 {a b : Expr} (hm : z.mg "max" = none) (ha : DA z [a, b] ta) (hg : Gz z "max" := by rfl) (hs : ∀ env, starEach [a, b] env = (false, eval a env) :: starEach [b] env := by intro _; rfl) (hp : ∀ env, (backTo pos (starEach [b] env)).any (·.1) = false := by intro _; rfl) : DE z (.Call (.Name "max" p) [a, b] [] pos) (eArgs max2D ta) :=
  de_callB (fun X f => call_max2 f.calm) ok_max2 (by decide +kernel) hm ha hg (by decide) (by decide) hs hp
theorem de_min2 {a b : Expr} (hm : z.mg "min" = none) (ha : DA z [a, b] ta) (hg : Gz z "min" := by rfl) (hs : ∀ env, starEach [a, b] env = (false, eval a env) :: starEach [b] env := by intro _; rfl) (hp : ∀ env, (backTo pos (starEach [b] env)).any (·.1) = false := by intro _; rfl) : DE z (.Call (.Name "min" p) [a, b] [] pos) (eArgs min2D ta) :=
  de_callB (fun X f => call_min2 f.calm) ok_min2 (by decide +kernel) hm ha hg (by decide) (by decide) hs hp
end

/-! ### isinstance against built-in types -/
def tyD (S : List O) : D → Option String
  | .non => some "NoneType"
  | .bl _ => some "bool"
  | .int _ => some "int"
  | .str _ => some "str"
  | .tup _ => some "tuple"
  | .lst _ => some "list"
  | .scr _ => some "list"
  | .dct _ => some "dict"
  | .hnd i => (match S[i]? with
    | some (.lst _) => some "list"
    | some (.dct _) => some "dict"
    | _ => none)
  | _ => none
abbrev tyL : List String := ["NoneType", "bool", "int", "str", "tuple", "list", "dict"]
abbrev tyR : List String := ["bool", "int", "str", "tuple", "list", "dict"]
def isTy (a n : String) : Option Bool := if a ∈ tyL ∧ n ∈ tyR then some (decide (a = n) || (decide (a = "bool") && decide (n = "int"))) else none
theorem isTy_all : ∀ a ∈ tyL, ∀ n ∈ tyR, kitB a n = some (decide (a = n) || (decide (a = "bool") && decide (n = "int"))) := by decide +kernel
theorem isTy_ok {K : PySem.W.Frag} {a n : String} {b : Bool} (h : isTy a n = some b) : PySem.W.kitOne K (.type a) (.type n) = some b := by
  unfold isTy at h
  split at h
  · rename_i q
    cases h
    exact kit_ty (isTy_all a q.1 n q.2)
  · cases h
theorem tyD_ok {K : PySem.W.Frag} {g : G} {S : List O} {H : Hp} (s : SR K g S H) {d : D} {v : V} {a : String} (r : RV K g H d v) (h : tyD S d = some a) : TyX K H v (.type a) := by
  cases d with
  | non => rw [rv_non r]; cases h; exact .base .non
  | bl c => rw [rv_bl r]; cases h; exact .base (.bl c)
  | int i => rw [rv_int r]; cases h; exact .base (.int i)
  | str y => rw [rv_str r]; cases h; exact .base (.str y)
  | tup ds =>
    cases h
    simp only [RV] at r
    obtain ⟨p, xs, rfl, h1, _⟩ := r
    rcases h1 with ⟨h1, _⟩ | ⟨o, its, n, h1, h2, _⟩
    · exact .base (.tup h1)
    · exact .kTuple h1 h2
  | lst ds =>
    cases h
    simp only [RV] at r
    obtain ⟨p, xs, rfl, h1, _⟩ := r
    exact .base (.lst h1)
  | scr ns =>
    cases h
    simp only [RV] at r
    obtain ⟨p, rfl, h1⟩ := r
    rcases h1 with ⟨⟨o, h1⟩, _⟩ | ⟨o, its, n, h1, h2, _⟩
    · exact .base (.frz h1)
    · exact .kList h1 h2
  | dct kvs =>
    cases h
    simp only [RV] at r
    obtain ⟨p, ws, rfl, h1, _⟩ := r
    exact .base (.dK h1)
  | hnd i =>
    simp only [RV] at r
    obtain ⟨p, rfl, h1⟩ := r
    simp only [tyD] at h
    split at h
    · rename_i ds q
      cases h
      obtain ⟨xs, h2, _⟩ := s.rep i p _ h1 q
      exact .base (.lst h2)
    · rename_i kvs q
      cases h
      obtain ⟨ws, h2, _⟩ := s.rep i p _ h1 q
      exact .base (.dK h2)
    · cases h
  | _ => cases h
def isiD (ds : List D) (S : List O) : Out D := match ds with
  | [d, .ty n] => (match tyD S d with
    | some a => (match isTy a n with
      | some b => .ok (.bl b) S
      | none => .stuck)
    | none => .stuck)
  | _ => .stuck
theorem ok_isi {K : PySem.W.Frag} {W : WX} : OkL K W (rIsi K) isiD := by
  intro g S H σ Q xs vs s r p
  unfold isiD at p
  split at p
  · split at p
    · rename_i a q
      split at p
      · rename_i b q2
        obtain ⟨v, u, rfl, r1, r2⟩ := rvs2 r
        simp only [RV] at r2
        subst r2
        exact ⟨v, _, _, _, b, rfl, .ty _, tyD_ok s r1 q, isTy_ok q2, p.here s (by simp only [RV])⟩
      · exact p.elim
    · exact p.elim
  · exact p.elim
section
variable {z : Sg} {a b : Expr} {ta : TAx} {p pos : Pos}
theorem de_isi (hm : z.mg "isinstance" = none) (ha : DA z [a, b] ta) (hg : Gz z "isinstance" := by rfl) (hs : ∀ env, starEach [a, b] env = (false, eval a env) :: starEach [b] env := by intro _; rfl) (hp : ∀ env, (backTo pos (starEach [b] env)).any (·.1) = false := by intro _; rfl) : DE z (.Call (.Name "isinstance" p) [a, b] [] pos) (eArgs isiD ta) :=
  de_callB (fun X f => f.K ▸ call_isi) ok_isi (by decide +kernel) hm ha hg (by decide) (by decide) hs hp
end

/-! ### all, any, sum; list, tuple -/
def blsOf : List D → Option (List Bool)
  | [] => some []
  | .bl b :: r => (blsOf r).map (b :: ·)
  | _ => none
def intsOf : List D → Option (List Int)
  | [] => some []
  | .int i :: r => (intsOf r).map (i :: ·)
  | _ => none
def strsOf : List D → Option (List Str)
  | [] => some []
  | .str i :: r => (strsOf r).map (i :: ·)
  | _ => none
section
variable {K : PySem.W.Frag} {g : G} {H : Hp}
theorem bls_vals : ∀ {ds : List D} {bs : List Bool} {xs : List V}, blsOf ds = some bs → RVs K g H ds xs → xs = bs.map V.bl
  | [], _, _, e, r => by simp only [blsOf] at e; simp only [RVs] at r; cases e; subst r; rfl
  | .bl b :: ds, _, _, e, r => by
    simp only [blsOf] at e
    simp only [RVs, RV] at r
    obtain ⟨v, q, rfl, rfl, r2⟩ := r
    cases h : blsOf ds with
    | none => rw [h] at e; cases e
    | some bs =>
      rw [h] at e
      cases e
      rw [bls_vals h r2]
      rfl
  | .non :: _, _, _, e, _ => by simp only [blsOf] at e; cases e
  | .int _ :: _, _, _, e, _ => by simp only [blsOf] at e; cases e
  | .str _ :: _, _, _, e, _ => by simp only [blsOf] at e; cases e
  | .ty _ :: _, _, _, e, _ => by simp only [blsOf] at e; cases e
  | .tup _ :: _, _, _, e, _ => by simp only [blsOf] at e; cases e
  | .lst _ :: _, _, _, e, _ => by simp only [blsOf] at e; cases e
  | .scr _ :: _, _, _, e, _ => by simp only [blsOf] at e; cases e
  | .dct _ :: _, _, _, e, _ => by simp only [blsOf] at e; cases e
  | .ins _ _ :: _, _, _, e, _ => by simp only [blsOf] at e; cases e
  | .cls _ :: _, _, _, e, _ => by simp only [blsOf] at e; cases e
  | .exc _ _ :: _, _, _, e, _ => by simp only [blsOf] at e; cases e
  | .hnd _ :: _, _, _, e, _ => by simp only [blsOf] at e; cases e
  | .any :: _, _, _, e, _ => by simp only [blsOf] at e; cases e
theorem ints_vals : ∀ {ds : List D} {bs : List Int} {xs : List V}, intsOf ds = some bs → RVs K g H ds xs → xs = bs.map V.int
  | [], _, _, e, r => by simp only [intsOf] at e; simp only [RVs] at r; cases e; subst r; rfl
  | .int b :: ds, _, _, e, r => by
    simp only [intsOf] at e
    simp only [RVs, RV] at r
    obtain ⟨v, q, rfl, rfl, r2⟩ := r
    cases h : intsOf ds with
    | none => rw [h] at e; cases e
    | some bs =>
      rw [h] at e
      cases e
      rw [ints_vals h r2]
      rfl
  | .non :: _, _, _, e, _ => by simp only [intsOf] at e; cases e
  | .bl _ :: _, _, _, e, _ => by simp only [intsOf] at e; cases e
  | .str _ :: _, _, _, e, _ => by simp only [intsOf] at e; cases e
  | .ty _ :: _, _, _, e, _ => by simp only [intsOf] at e; cases e
  | .tup _ :: _, _, _, e, _ => by simp only [intsOf] at e; cases e
  | .lst _ :: _, _, _, e, _ => by simp only [intsOf] at e; cases e
  | .scr _ :: _, _, _, e, _ => by simp only [intsOf] at e; cases e
  | .dct _ :: _, _, _, e, _ => by simp only [intsOf] at e; cases e
  | .ins _ _ :: _, _, _, e, _ => by simp only [intsOf] at e; cases e
  | .cls _ :: _, _, _, e, _ => by simp only [intsOf] at e; cases e
  | .exc _ _ :: _, _, _, e, _ => by simp only [intsOf] at e; cases e
  | .hnd _ :: _, _, _, e, _ => by simp only [intsOf] at e; cases e
  | .any :: _, _, _, e, _ => by simp only [intsOf] at e; cases e
theorem strs_vals : ∀ {ds : List D} {bs : List Str} {xs : List V}, strsOf ds = some bs → RVs K g H ds xs → xs = bs.map V.str
  | [], _, _, e, r => by simp only [strsOf] at e; simp only [RVs] at r; cases e; subst r; rfl
  | .str b :: ds, _, _, e, r => by
    simp only [strsOf] at e
    simp only [RVs, RV] at r
    obtain ⟨v, q, rfl, rfl, r2⟩ := r
    cases h : strsOf ds with
    | none => rw [h] at e; cases e
    | some bs =>
      rw [h] at e
      cases e
      rw [strs_vals h r2]
      rfl
  | .non :: _, _, _, e, _ => by simp only [strsOf] at e; cases e
  | .bl _ :: _, _, _, e, _ => by simp only [strsOf] at e; cases e
  | .int _ :: _, _, _, e, _ => by simp only [strsOf] at e; cases e
  | .ty _ :: _, _, _, e, _ => by simp only [strsOf] at e; cases e
  | .tup _ :: _, _, _, e, _ => by simp only [strsOf] at e; cases e
  | .lst _ :: _, _, _, e, _ => by simp only [strsOf] at e; cases e
  | .scr _ :: _, _, _, e, _ => by simp only [strsOf] at e; cases e
  | .dct _ :: _, _, _, e, _ => by simp only [strsOf] at e; cases e
  | .ins _ _ :: _, _, _, e, _ => by simp only [strsOf] at e; cases e
  | .cls _ :: _, _, _, e, _ => by simp only [strsOf] at e; cases e
  | .exc _ _ :: _, _, _, e, _ => by simp only [strsOf] at e; cases e
  | .hnd _ :: _, _, _, e, _ => by simp only [strsOf] at e; cases e
  | .any :: _, _, _, e, _ => by simp only [strsOf] at e; cases e
end
theorem blsOf_map (bs : List Bool) : blsOf (bs.map D.bl) = some bs := by
  induction bs with
  | nil => rfl
  | cons b r ih => simp only [List.map_cons, blsOf, ih]; rfl
theorem intsOf_map (bs : List Int) : intsOf (bs.map D.int) = some bs := by
  induction bs with
  | nil => rfl
  | cons b r ih => simp only [List.map_cons, intsOf, ih]; rfl
theorem strsOf_map (bs : List Str) : strsOf (bs.map D.str) = some bs := by
  induction bs with
  | nil => rfl
  | cons b r ih => simp only [List.map_cons, strsOf, ih]; rfl
def allD (ds : List D) (S : List O) : Out D := match ds with
  | [d] => (match (lstOf S d).bind blsOf with
    | some bs => .ok (.bl (bs.all id)) S
    | none => .stuck)
  | _ => .stuck
def anyD (ds : List D) (S : List O) : Out D := match ds with
  | [d] => (match (lstOf S d).bind blsOf with
    | some bs => .ok (.bl (bs.any id)) S
    | none => .stuck)
  | _ => .stuck
def sumD (ds : List D) (S : List O) : Out D := match ds with
  | [d] => (match (lstOf S d).bind intsOf with
    | some bs => .ok (.int bs.sum) S
    | none => .stuck)
  | _ => .stuck
def listD (own : Bool) (ds : List D) (S : List O) : Out D := match ds with
  | [d] => (match seqOf S d with
    | some xs => mkL own xs S
    | none => .stuck)
  | _ => .stuck
def tupleD (ds : List D) (S : List O) : Out D := match ds with
  | [.tup xs] => .ok (.tup xs) S
  | [d] => (match lstOf S d with
    | some xs => mkT xs S
    | none => .stuck)
  | _ => .stuck
section
variable {K : PySem.W.Frag} {W : WX}
theorem ok_all : OkL K W (rAll K) allD := by
  intro g S H σ Q xs vs s r p
  unfold allD at p
  split at p
  · split at p
    · rename_i d bs q
      obtain ⟨v, rfl, rr⟩ := rvs1 r
      obtain ⟨ds, h1, h2⟩ := Option.bind_eq_some_iff.mp q
      obtain ⟨a, ws, rfl, h3, h4⟩ := lst_at s h1 rr
      rw [bls_vals h2 h4] at h3
      exact ⟨a, bs, rfl, h3, p.here s (by simp only [RV])⟩
    · exact p.elim
  · exact p.elim
theorem ok_any : OkL K W (rAny K) anyD := by
  intro g S H σ Q xs vs s r p
  unfold anyD at p
  split at p
  · split at p
    · rename_i d bs q
      obtain ⟨v, rfl, rr⟩ := rvs1 r
      obtain ⟨ds, h1, h2⟩ := Option.bind_eq_some_iff.mp q
      obtain ⟨a, ws, rfl, h3, h4⟩ := lst_at s h1 rr
      rw [bls_vals h2 h4] at h3
      exact ⟨a, bs, rfl, h3, p.here s (by simp only [RV])⟩
    · exact p.elim
  · exact p.elim
theorem ok_sum : OkL K W (rSum K) sumD := by
  intro g S H σ Q xs vs s r p
  unfold sumD at p
  split at p
  · split at p
    · rename_i d bs q
      obtain ⟨v, rfl, rr⟩ := rvs1 r
      obtain ⟨ds, h1, h2⟩ := Option.bind_eq_some_iff.mp q
      obtain ⟨a, ws, rfl, h3, h4⟩ := lst_at s h1 rr
      rw [ints_vals h2 h4] at h3
      exact ⟨a, bs, rfl, h3, p.here s (by simp only [RV])⟩
    · exact p.elim
  · exact p.elim
theorem ok_list (own : Bool) : OkL K W (fun xs H Q => ∃ p ys, xs = [.ref p] ∧ (SqL K H p ys ∨ SqT K H p ys) ∧ ∀ l, H l = none → Q (.ref l) (upd H l (.lst ys))) (listD own) := by
  intro g S H σ Q xs vs s r p
  unfold listD at p
  split at p
  · split at p
    · rename_i d ds q
      obtain ⟨v, rfl, rr⟩ := rvs1 r
      obtain ⟨a, ws, rfl, h3, h4⟩ := seq_at s q rr
      exact ⟨a, ws, rfl, h3, fun l hl => mkL_ok s h4 p l hl⟩
    · exact p.elim
  · exact p.elim
theorem ok_tuple : OkL K W (fun xs H Q => ∃ p ys, xs = [.ref p] ∧ ((SqL K H p ys ∧ ∀ l, H l = none → Q (.ref l) (upd H l (.tup ys))) ∨ (SqT K H p ys ∧ Q (.ref p) H))) tupleD := by
  intro g S H σ Q xs vs s r p
  unfold tupleD at p
  split at p
  · obtain ⟨v, rfl, rr⟩ := rvs1 r
    obtain ⟨a, ws, rfl, h3, h4⟩ := tup_at rfl rr
    exact ⟨a, ws, rfl, .inr ⟨h3, p.here s rr⟩⟩
  · split at p
    · rename_i d _ ds q
      obtain ⟨v, rfl, rr⟩ := rvs1 r
      obtain ⟨a, ws, rfl, h3, h4⟩ := lst_at s q rr
      exact ⟨a, ws, rfl, .inl ⟨h3, fun l hl => mkT_ok s h4 p l hl⟩⟩
    · exact p.elim
  · exact p.elim
end
section
variable {z : Sg} {e : Expr} {ta : TAx} {p pos : Pos}
theorem de_all (hm : z.mg "all" = none) (ha : DA z [e] ta) (hg : Gz z "all" := by rfl) (hs : ∀ env, starEach [e] env = (false, eval e env) :: starEach [] env := by intro _; rfl) : DE z (.Call (.Name "all" p) [e] [] pos) (eArgs allD ta) :=
  de_callB (fun X f => f.K ▸ cr_all f.calm) ok_all (by decide +kernel) hm ha hg (by decide) (by decide) hs
theorem de_any (hm : z.mg "any" = none) (ha : DA z [e] ta) (hg : Gz z "any" := by rfl) (hs : ∀ env, starEach [e] env = (false, eval e env) :: starEach [] env := by intro _; rfl) : DE z (.Call (.Name "any" p) [e] [] pos) (eArgs anyD ta) :=
  de_callB (fun X f => f.K ▸ cr_any f.calm) ok_any (by decide +kernel) hm ha hg (by decide) (by decide) hs
theorem de_sumc (hm : z.mg "sum" = none) (ha : DA z [e] ta) (hg : Gz z "sum" := by rfl) (hs : ∀ env, starEach [e] env = (false, eval e env) :: starEach [] env := by intro _; rfl) : DE z (.Call (.Name "sum" p) [e] [] pos) (eArgs sumD ta) :=
  de_callB (fun X f => f.K ▸ cr_sum f.calm) ok_sum (by decide +kernel) hm ha hg (by decide) (by decide) hs
theorem de_list (own : Bool) (hm : z.mg "list" = none) (ha : DA z [e] ta) (hg : Gz z "list" := by rfl) (hs : ∀ env, starEach [e] env = (false, eval e env) :: starEach [] env := by intro _; rfl) : DE z (.Call (.Name "list" p) [e] [] pos) (eArgs (listD own) ta) :=
  de_callTy (fun X f => f.K ▸ call_list_of) (ok_list own) (by decide +kernel) hm ha hg (by decide) (by decide) hs
theorem de_tuple (hm : z.mg "tuple" = none) (ha : DA z [e] ta) (hg : Gz z "tuple" := by rfl) (hs : ∀ env, starEach [e] env = (false, eval e env) :: starEach [] env := by intro _; rfl) : DE z (.Call (.Name "tuple" p) [e] [] pos) (eArgs tupleD ta) :=
  de_callTy (fun X f => f.K ▸ call_tuple_of) ok_tuple (by decide +kernel) hm ha hg (by decide) (by decide) hs
instance (i j : Int) : Decidable (RgOk i j) := inferInstanceAs (Decidable (_ ∧ _))
/-- list(range(..)) -/
def lsRgD (own : Bool) (ds : List D) (S : List O) : Out D := match ds with
  | [.int j] => if RgOk 0 j then mkL own (rng 0 j) S else .stuck
  | [.int i, .int j] => if RgOk i j then mkL own (rng i j) S else .stuck
  | _ => .stuck
def eListRg (own : Bool) (t : TAx) : TEx := fun ρ S => (t ρ S).bind (lsRgD own)
theorem rng_vals {K : PySem.W.Frag} {g : G} {H : Hp} (i j : Int) : RVs K g H (rng i j) (rgV i j) := by
  unfold rng rgV
  generalize (j - i).toNat = n
  have key : ∀ l : List Nat, RVs K g H (l.map fun k => D.int (i + (k : Nat))) (l.map fun k => V.int (i + (k : Nat))) := by
    intro l
    induction l with
    | nil => simp only [List.map_nil, RVs]
    | cons k l ih =>
      simp only [List.map_cons, RVs]
      exact ⟨_, _, rfl, by simp only [RV], ih⟩
  exact key _
theorem de_listRg1 (own : Bool) {a : Expr} {t : TEx} {p2 pos2 : Pos} (hm : z.mg "list" = none) (hm2 : z.mg "range" = none) (ha : DE z a t) (hg : Gz z "list" := by rfl) (hg2 : Gz z "range" := by rfl) (hs : ∀ env, starEach [a] env = (false, eval a env) :: starEach [] env := by intro _; rfl)
    (hs2 : ∀ env, starEach [.Call (.Name "range" p2) [a] [] pos2] env = (false, eval (.Call (.Name "range" p2) [a] [] pos2) env) :: starEach [] env := by intro _; rfl) :
    DE z (.Call (.Name "list" p) [.Call (.Name "range" p2) [a] [] pos2] [] pos) (eListRg own (aCons t aNil)) := by
  obtain ⟨τ, h1, q1⟩ := ha
  refine ⟨_, fun X f => pe_listRg f.calm (f.gl hg) (f.mgl hm) (prg_1 (f.gl hg2) (f.mgl hm2) (h1 X f) (hs _)) (hs2 _), fun g S ρ σ H Q s rs p => ?_⟩
  unfold eListRg aCons aNil at p
  rw [Out.bind_assoc] at p
  refine q1 g S ρ σ H _ s rs (p.bind fun d S1 g1 H1 v e1 s1 r1 p1 => ?_)
  cases d with
  | int j =>
    have p1 : Post z.K z.W (RV z.K) g1 H1 σ Q (if RgOk 0 j then mkL own (rng 0 j) S1 else .stuck) := p1
    split at p1
    · exact ⟨j, rv_int r1, by assumption, fun l hl => mkL_ok s1 (rng_vals 0 j) p1 l hl⟩
    · exact p1.elim
  | _ => exact p1.elim
end
end TL
set_option Elab.async false
set_option linter.all false
set_option maxRecDepth 100000
set_option maxHeartbeats 4000000
/-! The tree layer, part 8: subscripts, slices, stores into a list, methods of texts and lists. -/
namespace TL
open PySem PySem.Spec PyProof.Rows L2

/-! ### x[i] -/
section
variable {K : PySem.W.Frag} {g : G} {H : Hp}
theorem RVs.at {ds : List D} {xs : List V} {i : Int} {d : D} (r : RVs K g H ds xs) (h : atI ds i = some d) : ∃ v, atI xs i = some v ∧ RV K g H d v := by
  have hl := r.length
  unfold atI at h ⊢
  rw [hl]
  cases e : ixN ds.length i with
  | none => rw [e] at h; cases h
  | some j =>
    rw [e] at h
    exact r.get h
theorem RVs.cut {ds : List D} {xs : List V} (r : RVs K g H ds xs) (lo hi : Option Int) : RVs K g H ((ds.drop (HT.sIx ds.length 0 lo)).take (HT.sIx ds.length ds.length hi - HT.sIx ds.length 0 lo)) (cutV xs lo hi) := by
  unfold cutV
  rw [← r.length]
  exact (r.drop _).take _
end
def ixD (x i : D) (S : List O) : Out D := match x, i with
  | .str y, .int k => if y.length ≤ sizeLine then (match atI y.cps.toList k with
    | some c => .ok (.str ⟨#[c]⟩) S
    | none => .stuck) else .stuck
  | d, .int k => (match seqOf S d with
    | some ds => (match atI ds k with
      | some e => .ok e S
      | none => .stuck)
    | none => .stuck)
  | _, _ => .stuck
theorem ok_ix {K : PySem.W.Frag} {W : WX} : OkB K W (rIx K) ixD := by
  intro g S H σ Q x y v u s rx ry p
  unfold ixD at p
  split at p
  · split at p
    · split at p
      · rename_i k hz _ c q
        exact .inr (.inr ⟨_, _, c, rv_str rx, rv_int ry, hz, q, p.here s (by simp only [RV])⟩)
      · exact p.elim
    · exact p.elim
  · split at p
    · rename_i ds q
      split at p
      · rename_i e q2
        obtain ⟨a, xs, rfl, h1, h2⟩ := seq_at s q rx
        obtain ⟨w, h3, h4⟩ := h2.at q2
        rcases h1 with h1 | h1
        · exact .inl ⟨a, xs, _, w, rfl, rv_int ry, h1, h3, p.here s h4⟩
        · exact .inr (.inl ⟨a, xs, _, w, rfl, rv_int ry, h1, h3, p.here s h4⟩)
      · exact p.elim
    · exact p.elim
  · exact p.elim
section
variable {z : Sg} {a b : Expr} {ta tb : TEx} {pos : Pos}
theorem de_ix (ha : DE z a ta) (hb : DE z b tb) (hs : PlainIx b := by intro _ _; rfl) : DE z (.Subscript a b pos) (eBin ixD ta tb) :=
  de_bin (fun X fx τ τ' h1 h2 => fx.K ▸ pe_ix ix_seq h1 h2 hs) ok_ix ha hb
end

/-! ### x[lo:hi] -/
abbrev TOx := Env1 → List O → Out (Option Int)
def DO (z : Sg) (e : Option Expr) (t : TOx) : Prop :=
  ∃ τ, (∀ X, Fits z X → PO X e τ) ∧ ∀ g S ρ σ H (Q : Option Int → Hp → Prop), SR z.K g S H → RS z.K g H ρ σ → Post z.K z.W (fun _ _ (a b : Option Int) => a = b) g H σ Q (t ρ S) → τ σ H Q
def oNil : TOx := fun _ S => .ok none S
def oSome (t : TEx) : TOx := fun ρ S => (t ρ S).bind fun d S1 => match d with
  | .int i => .ok (some i) S1
  | _ => .stuck
section
variable {z : Sg} {e : Expr} {t : TEx}
theorem do_nil : DO z none oNil := ⟨_, fun _ _ => po_none, fun g S ρ σ H Q s _ p => p g H none (Ext.refl g H) s rfl⟩
theorem do_some (h : DE z e t) : DO z (some e) (oSome t) := by
  obtain ⟨τ, h1, q1⟩ := h
  refine ⟨_, fun X f => po_some (h1 X f), fun g S ρ σ H Q s rs p => ?_⟩
  refine q1 g S ρ σ H _ s rs (p.bind fun d S1 g1 H1 v e1 s1 r1 p1 => ?_)
  cases d with
  | int i => exact ⟨i, rv_int r1, p1 g1 H1 _ (Ext.refl _ _) s1 rfl⟩
  | _ => exact p1.elim
end
def cutD (ds : List D) (lo hi : Option Int) : List D := (ds.drop (HT.sIx ds.length 0 lo)).take (HT.sIx ds.length ds.length hi - HT.sIx ds.length 0 lo)
def slD (own : Bool) (x : D) (lo hi : Option Int) (S : List O) : Out D := match x with
  | .str y => if y.length ≤ sizeLine then .ok (.str (cutS y lo hi)) S else .stuck
  | .tup ds => .ok (.tup (cutD ds lo hi)) S
  | d => (match lstOf S d with
    | some ds => mkL own (cutD ds lo hi) S
    | none => .stuck)
abbrev rSl (K : PySem.W.Frag) : V → Option Int → Option Int → Hp → VK → Prop := fun x lo hi H Q => rSlA K x lo hi H Q ∨ rSlL K x lo hi H Q ∨ rSlS x lo hi H Q
theorem cutD_whole {ds : List D} {lo hi : Option Int} (h : HT.sIx ds.length 0 lo = 0 ∧ HT.sIx ds.length ds.length hi = ds.length) : cutD ds lo hi = ds := by
  unfold cutD
  rw [h.1, h.2]
  simp
theorem ok_sl (own : Bool) {K : PySem.W.Frag} {W : WX} {g : G} {S : List O} {H : Hp} {σ : L2.St} {Q : VK} {x : D} {v : V} {lo hi : Option Int} (s : SR K g S H) (r : RV K g H x v) (p : Post K W (RV K) g H σ Q (slD own x lo hi S)) : rSl K v lo hi H Q := by
  unfold slD at p
  split at p
  · split at p
    · exact .inr (.inr ⟨_, rv_str r, by assumption, p.here s (by simp only [RV])⟩)
    · exact p.elim
  · rename_i ds
    have r' := r
    simp only [RV] at r
    obtain ⟨a, xs, rfl, h1, h2⟩ := r
    refine .inl ⟨a, xs, rfl, h1.sq, fun w => ?_, fun _ q hq => ?_⟩
    · rw [h2.length] at w
      rw [cutD_whole w] at p
      exact p.here s r'
    · refine p.new s hq fun e => ?_
      simp only [RV]
      exact ⟨q, _, rfl, .inl ⟨upd_same, s.unbad hq⟩, (h2.cut lo hi).mono s.live e _ _⟩
  · split at p
    · rename_i ds q
      obtain ⟨a, xs, rfl, h1, h2⟩ := lst_at s q r
      exact .inr (.inl ⟨a, xs, rfl, h1, fun l hl => mkL_ok s (h2.cut lo hi) p l hl⟩)
    · exact p.elim
def eSl (own : Bool) (t : TEx) (a b : TOx) : TEx := fun ρ S => (t ρ S).bind fun x S1 => (a ρ S1).bind fun lo S2 => (b ρ S2).bind fun hi S3 => slD own x lo hi S3
section
variable {z : Sg} {e : Expr} {lo hi : Option Expr} {t : TEx} {a b : TOx} {pos p2 : Pos}
theorem de_sl (own : Bool) (he : DE z e t) (hl : DO z lo a) (hh : DO z hi b) : DE z (.Subscript e (.Slice lo hi none p2) pos) (eSl own t a b) := by
  obtain ⟨τ, h1, q1⟩ := he
  obtain ⟨τ2, h2, q2⟩ := hl
  obtain ⟨τ3, h3, q3⟩ := hh
  refine ⟨_, fun X f => pe_slice (sl_tupA.or (sl_list.or sl_str)) (h1 X f) (h2 X f) (h3 X f) |> (f.K ▸ ·), fun g S ρ σ H Q s rs p => ?_⟩
  refine q1 g S ρ σ H _ s rs (p.bind fun x S1 g1 H1 v e1 s1 r1 p1 => ?_)
  refine q2 g1 S1 ρ σ H1 _ s1 (rs.mono s.live e1) (p1.bind fun i S2 g2 H2 i' e2 s2 r2 p2 => ?_)
  cases r2
  refine q3 g2 S2 ρ σ H2 _ s2 ((rs.mono s.live e1).mono s1.live e2) (p2.bind fun j S3 g3 H3 j' e3 s3 r3 p3 => ?_)
  cases r3
  exact ok_sl own s3 ((r1.mono s1.live e2).mono s2.live e3) p3
end

/-! ### x[i] = v -/
def putLD (ds : List D) (k : Int) (v : D) : Option (List D) := match ixN ds.length k with
  | some j => some (ds.set j v)
  | none => none
def setD (x i v : D) (S : List O) : Option (List O) := match x, i with
  | .hnd n, .int k => (match S[n]? with
    | some (.lst ds) => (match putLD ds k v with
      | some es => some (S.set n (.lst es))
      | none => none)
    | _ => none)
  | _, _ => none
def gSb (a b : TEx) : TGx := fun v ρ S => (a ρ S).stm ρ fun x S1 => (b ρ S1).stm ρ fun i S2 => match setD x i v S2 with
  | some S3 => .nx ρ S3
  | none => .stuck
section
variable {z : Sg} {a b : Expr} {ta tb : TEx} {pos : Pos}
theorem PostG.stm {K : PySem.W.Frag} {W : WX} {g : G} {H : Hp} {σ : L2.St} {ws : List Nat} {N : L2.St → Hp → Prop} {α β : Type} {R : G → Hp → α → β → Prop} {Q1 : β → Hp → Prop} {o : Out α} {ρ : Env1} {S : List O} {k : α → List O → OutS} (hp : PostG K W g H σ ws N (o.stm ρ k)) (s : SR K g S H) (rs : RS K g H ρ σ)
    (h : ∀ a S1 g1 H1 b, Ext g H g1 H1 → SR K g1 S1 H1 → RS K g1 H1 ρ σ → R g1 H1 a b → PostG K W g1 H1 σ ws N (k a S1) → Q1 b H1) : Post K W R g H σ Q1 o := by
  cases o with
  | ok a S => exact fun g1 H1 b e s1 r => h a S g1 H1 b e s1 (rs.mono s.live e) r (PostG.later (us := []) e s1 (Off.refl _ _) (by simp) hp)
  | exc C d S => exact fun g1 H1 c dd e s1 r => hp g1 H1 σ c dd e s1 (rs.mono s.live e) r
  | stuck => exact hp
theorem dg_sub (ha : DE z a ta) (hb : DE z b tb) (hx : ∀ env v, assign (.Subscript a b pos) env v = (do
      let ov ← holding [v] (eval a env)
      let iv ← holding [v, ov] (eval b env)
      standAt pos
      holding [v, ov, iv] (setItem ov iv v)
      release [v, ov, iv] []) := by intro _ _; rfl) : DG z (.Subscript a b pos) [] (gSb ta tb) := by
  obtain ⟨τ, h1, q1⟩ := ha
  obtain ⟨τ2, h2, q2⟩ := hb
  refine ⟨_, fun X f => pg_sub (h1 X f) (h2 X f) set_list (hx _), fun g S ρ σ H d v N s rs r p => ?_⟩
  refine q1 g S ρ σ H _ s rs (p.stm s rs fun x S1 g1 H1 w e1 s1 rs1 r1 p1 => ?_)
  refine q2 g1 S1 ρ σ H1 _ s1 rs1 (p1.stm s1 rs1 fun i S2 g2 H2 u e2 s2 rs2 r2 p2 => ?_)
  have rx := r1.mono s1.live e2
  have rv := (r.mono s.live e1).mono s1.live e2
  split at p2
  · rename_i S3 q
    unfold setD at q
    split at q
    · rename_i n k
      split at q
      · rename_i ds q3
        split at q
        · rename_i es q4
          cases q
          unfold putLD at q4
          split at q4
          · rename_i j q5
            cases q4
            simp only [RV] at rx
            obtain ⟨a, rfl, h3⟩ := rx
            obtain ⟨xs, h4, h5⟩ := s2.rep n a _ h3 q3
            refine ⟨a, xs, k, j, rfl, rv_int r2, h4, by rw [h5.length]; exact q5, ?_⟩
            have e3 : Ext g2 H2 g2 (upd H2 a (.lst (xs.set j v))) := Ext.write h3
            refine p2 g2 _ σ e3 (s2.write h3 fun e => ⟨_, upd_same, (h5.set rv j).mono s2.live e _ _⟩) (rs2.mono s2.live e3) (Off.refl _ _)
          · cases q4
        · cases q
      · cases q
    · cases q
  · exact p2.elim
end

/-! ### methods of texts; text of an int -/
def upperD (x : D) (S : List O) : Out D := match x with
  | .str y => if y.length ≤ 5592405 then .ok (.str (Txt.upper y)) S else .stuck
  | _ => .stuck
def lowerD (x : D) (S : List O) : Out D := match x with
  | .str y => if y.length ≤ 5592405 then .ok (.str (Txt.lower y)) S else .stuck
  | _ => .stuck
def strD (ds : List D) (S : List O) : Out D := match ds with
  | [.int i] => if i.natAbs.log2 < 1920 then .ok (.str (toString i)) S else .stuck
  | [.str y] => .ok (.str y) S
  | _ => .stuck
def wordsD (own : Bool) (x : D) (S : List O) : Out D := match x with
  | .str y => if y.length + 2 ≤ sizeLine then mkL own ((Txt.words y).map D.str) S else .stuck
  | _ => .stuck
def splitD (own : Bool) (x u : D) (S : List O) : Out D := match x, u with
  | .str y, .str w => if (w.length == 0) = false ∧ y.length + 2 ≤ sizeLine then mkL own ((Txt.split y w).map D.str) S else .stuck
  | _, _ => .stuck
def joinD (x u : D) (S : List O) : Out D := match x with
  | .str y => (match (seqOf S u).bind strsOf with
    | some ys => if (ys.map (·.length)).sum + ys.length * y.length ≤ 16777216 then .ok (.str (Txt.join y ys)) S else .stuck
    | none => .stuck)
  | _ => .stuck
section
variable {z : Sg} {a b e : Expr} {ta tb : TEx} {apos pos p : Pos} {t : TAx}
theorem de_upper (ha : DE z a ta) (hb : ∀ env, attributeBase a "upper" env (eval a env) = eval a env := by intro _; rfl) (hl : (apos.endLine == pos.line) = true := by rfl) : DE z (.Call (.Attribute a "upper" apos) [] [] pos) (eUn upperD ta) := by
  refine de_un (r := fun x H Q => (∃ y, x = .str y) ∧ ∃ y, x = .str y ∧ ([] : List V) = [] ∧ y.length ≤ 5592405 ∧ Q (.str (Txt.upper y)) H) (fun X fx τ h1 => pe_upper h1 (hb _) hl) (fun g S H σ Q x v s rx p => ?_) ha
  unfold upperD at p
  split at p
  · split at p
    · exact ⟨⟨_, rv_str rx⟩, _, rv_str rx, rfl, by assumption, p.here s (by simp only [RV])⟩
    · exact p.elim
  · exact p.elim
theorem de_lower (ha : DE z a ta) (hb : ∀ env, attributeBase a "lower" env (eval a env) = eval a env := by intro _; rfl) (hl : (apos.endLine == pos.line) = true := by rfl) : DE z (.Call (.Attribute a "lower" apos) [] [] pos) (eUn lowerD ta) := by
  refine de_un (r := fun x H Q => (∃ y, x = .str y) ∧ ∃ y, x = .str y ∧ ([] : List V) = [] ∧ y.length ≤ 5592405 ∧ Q (.str (Txt.lower y)) H) (fun X fx τ h1 => pe_lower h1 (hb _) hl) (fun g S H σ Q x v s rx p => ?_) ha
  unfold lowerD at p
  split at p
  · split at p
    · exact ⟨⟨_, rv_str rx⟩, _, rv_str rx, rfl, by assumption, p.here s (by simp only [RV])⟩
    · exact p.elim
  · exact p.elim
theorem strs_vals2 {K : PySem.W.Frag} {g : G} {H : Hp} (ys : List Str) : RVs K g H (ys.map D.str) (ys.map V.str) := by
  induction ys with
  | nil => simp only [List.map_nil, RVs]
  | cons y ys ih =>
    simp only [List.map_cons, RVs]
    exact ⟨_, _, rfl, by simp only [RV], ih⟩
theorem de_words (own : Bool) (ha : DE z a ta) (hb : ∀ env, attributeBase a "split" env (eval a env) = eval a env := by intro _; rfl) (hl : (apos.endLine == pos.line) = true := by rfl) : DE z (.Call (.Attribute a "split" apos) [] [] pos) (eUn (wordsD own) ta) := by
  refine de_un (r := fun x H Q => (∃ y, x = .str y) ∧ ∃ y, x = .str y ∧ ([] : List V) = [] ∧ y.length + 2 ≤ sizeLine ∧ rNewStrs (Txt.words y) H Q) (fun X fx τ h1 => pe_words h1 (hb _) hl) (fun g S H σ Q x v s rx p => ?_) ha
  unfold wordsD at p
  split at p
  · split at p
    · exact ⟨⟨_, rv_str rx⟩, _, rv_str rx, rfl, by assumption, fun q hq => mkL_ok s (strs_vals2 _) p q hq⟩
    · exact p.elim
  · exact p.elim
/-- the receiver is looked at ahead of the argument -/
def strGd (x : D) (o : Out D) : Out D := match x with
  | .str _ => o
  | _ => .stuck
def eBinS (f : D → D → List O → Out D) (a b : TEx) : TEx := fun ρ S => (a ρ S).bind fun x S1 => strGd x ((b ρ S1).bind fun y S2 => f x y S2)
theorem de_m1 {e : Expr} {r : V → List V → Hp → VK → Prop} {f : D → D → List O → Out D} (mk : ∀ X, Fits z X → ∀ τ τ' : TE, PE X a τ → PE X b τ' → PE X e (tM1 r τ τ')) (ok : OkB z.K z.W (fun x y H Q => r x [y] H Q) f) (ha : DE z a ta) (hb : DE z b tb) : DE z e (eBinS f ta tb) := by
  obtain ⟨τ, h1, q1⟩ := ha
  obtain ⟨τ2, h2, q2⟩ := hb
  refine ⟨_, fun X fx => mk X fx τ τ2 (h1 X fx) (h2 X fx), fun g S ρ σ H Q s rs p => ?_⟩
  refine q1 g S ρ σ H _ s rs (p.bind fun x S1 g1 H1 v e1 s1 r1 p1 => ?_)
  cases x with
  | str y => exact ⟨⟨_, rv_str r1⟩, q2 g1 S1 ρ σ H1 _ s1 (rs.mono s.live e1) (p1.bind fun u S2 g2 H2 w e2 s2 r2 p2 => ok g2 S2 H2 σ Q _ _ _ _ s2 (r1.mono s1.live e2) r2 p2)⟩
  | _ => exact p1.elim
theorem de_split (own : Bool) (ha : DE z a ta) (hb : DE z b tb) (hs : ∀ env, starEach [b] env = [(false, eval b env)] := by intro _; rfl) (hbs : ∀ env, attributeBase a "split" env (eval a env) = eval a env := by intro _; rfl) (hl : (apos.endLine == pos.line) = true := by rfl) : DE z (.Call (.Attribute a "split" apos) [b] [] pos) (eBinS (splitD own) ta tb) := by
  refine de_m1 (fun X f τ τ' h1 h2 => pe_split h1 h2 (hs _) (hbs _) hl) (fun g S H σ Q x y v u s rx ry p => ?_) ha hb
  unfold splitD at p
  split at p
  · split at p
    · rename_i hc
      exact ⟨_, _, rv_str rx, by rw [rv_str ry], hc.1, hc.2, fun q hq => mkL_ok s (strs_vals2 _) p q hq⟩
    · exact p.elim
  · exact p.elim
theorem de_join (ha : DE z a ta) (hb : DE z b tb) (hs : ∀ env, starEach [b] env = [(false, eval b env)] := by intro _; rfl) (hbs : ∀ env, attributeBase a "join" env (eval a env) = eval a env := by intro _; rfl) (hl : (apos.endLine == pos.line) = true := by rfl) : DE z (.Call (.Attribute a "join" apos) [b] [] pos) (eBinS joinD ta tb) := by
  refine de_m1 (fun X f τ τ' h1 h2 => f.K ▸ pe_join h1 h2 (hs _) (hbs _) hl) (fun g S H σ Q x y v u s rx ry p => ?_) ha hb
  unfold joinD at p
  split at p
  · split at p
    · rename_i ys q
      split at p
      · rename_i hc
        obtain ⟨ds, q1, q2⟩ := Option.bind_eq_some_iff.mp q
        obtain ⟨l, xs, rfl, h1, h2⟩ := seq_at s q1 ry
        rw [strs_vals q2 h2] at h1
        exact ⟨_, l, ys, rv_str rx, rfl, h1, hc, p.here s (by simp only [RV])⟩
      · exact p.elim
    · exact p.elim
  · exact p.elim
theorem de_strc {e : Expr} {t : TAx} (hm : z.mg "str" = none) (ha : DA z [e] t) (hg : Gz z "str" := by rfl) (hs : ∀ env, starEach [e] env = (false, eval e env) :: starEach [] env := by intro _; rfl) : DE z (.Call (.Name "str" p) [e] [] pos) (eArgs strD t) := by
  refine de_callTy (fun X f => call_str_int.or SkE.call_str_str) (fun g S H σ Q xs vs s r p => ?_) (by decide +kernel) hm ha hg (by decide) (by decide) hs
  unfold strD at p
  split at p
  · split at p
    · obtain ⟨v, rfl, rr⟩ := rvs1 r
      exact .inl ⟨_, by rw [rv_int rr], by assumption, p.here s (by simp only [RV])⟩
    · exact p.elim
  · obtain ⟨v, rfl, rr⟩ := rvs1 r
    exact .inr ⟨_, by rw [rv_str rr], p.here s (by simp only [RV])⟩
  · exact p.elim
end
end TL
set_option Elab.async false
set_option linter.all false
set_option maxRecDepth 100000
set_option maxHeartbeats 4000000
/-! The tree layer, part 9: repr of data, dicts within. -/
namespace TL
open PySem PySem.Spec PyProof.Rows L2

def encK : Key → PyData
  | .inl i => .int i
  | .inr s => .str s
section
variable {X : Cx} {pins : List (Addr × Obj)} {σ : L2.St} {H : Hp} {s : Shared} {g : G}
theorem not_sys {os : Obj} (hk : X.K.lookup sysModules = some os) (I : Inv X pins σ H s) {a : Addr} {o : HO} (h : H a = some o) : a ≠ sysModules := fun e => by
  subst e
  have := (I.bs _ _ (I.ok.mod.kin _ _ hk)).2
  rw [h] at this
  cases this
mutual
theorem rv_reads {os : Obj} (hk : X.K.lookup sysModules = some os) (I : Inv X pins σ H s) : ∀ (d : D) (v : V) (u : Value) (x : PyData), RV X.K g H d v → RelV v u → pd d = some x → ∃ as, Reads s.heap u x as ∧ sysModules ∉ as
  | .non, _, _, _, r, ru, e => by
    rw [rv_non r] at ru
    simp only [pd] at e
    cases e
    cases ru
    exact ⟨[], Reads.none, by simp⟩
  | .bl b, _, _, _, r, ru, e => by
    rw [rv_bl r] at ru
    simp only [pd] at e
    cases e
    cases ru
    exact ⟨[], Reads.bool b, by simp⟩
  | .int i, _, _, _, r, ru, e => by
    rw [rv_int r] at ru
    simp only [pd] at e
    cases e
    obtain ⟨t, rfl⟩ := ru
    exact ⟨[], Reads.int i t, by simp⟩
  | .str y, _, _, _, r, ru, e => by
    rw [rv_str r] at ru
    simp only [pd] at e
    cases e
    obtain ⟨t, rfl⟩ := ru
    exact ⟨[], Reads.str y t, by simp⟩
  | .tup ds, _, _, _, r, ru, e => by
    simp only [pd] at e
    cases q : pds ds with
    | none => rw [q] at e; cases e
    | some xs =>
      rw [q] at e
      cases e
      simp only [RV] at r
      obtain ⟨a, vs, rfl, h1, h2⟩ := r
      cases ru
      obtain ⟨its, rv, ⟨o, ho, hc, n, hd⟩, _⟩ := I.tuple h1.sq
      obtain ⟨as, h3, h4⟩ := rvs_reads hk I ds vs its xs h2 rv q
      exact ⟨as, Reads.tuple ho hc hd h3, h4⟩
  | .lst ds, _, _, _, r, ru, e => by
    simp only [pd] at e
    cases q : pds ds with
    | none => rw [q] at e; cases e
    | some xs =>
      rw [q] at e
      cases e
      simp only [RV] at r
      obtain ⟨a, vs, rfl, h1, _, h2⟩ := r
      cases ru
      obtain ⟨its, rv, ⟨o, n, ho, hc, _, hd⟩, _⟩ := I.list (.inl (.inl h1))
      obtain ⟨as, h3, h4⟩ := rvs_reads hk I ds vs its xs h2 rv q
      refine ⟨a :: as, Reads.list ho hc hd h3, fun m => ?_⟩
      rcases List.mem_cons.mp m with m | m
      · exact not_sys hk I h1 m.symm
      · exact h4 m
  | .dct kvs, _, _, _, r, ru, e => by
    simp only [pd] at e
    cases q : pdk kvs with
    | none => rw [q] at e; cases e
    | some xs =>
      rw [q] at e
      cases e
      simp only [RV] at r
      obtain ⟨a, ws, rfl, h1, _, h2⟩ := r
      cases ru
      obtain ⟨_, _, vs, rv, hd⟩ := I.hok a _ h1
      obtain ⟨as, h3, h4⟩ := rks_reads hk I kvs ws vs xs h2 rv q
      refine ⟨_, PyProof.V.reads_dictOf (enc := encK) (fun k key hkey => ?_) hd h3, fun m => ?_⟩
      · rcases keyIs_shape hkey with ⟨i, t, rfl, rfl⟩ | ⟨y, t, rfl, rfl⟩
        · exact Reads.int i t
        · exact Reads.str y t
      · rcases List.mem_cons.mp m with m | m
        · exact not_sys hk I h1 m.symm
        · exact h4 m
  | .ty _, _, _, _, _, _, e => by simp only [pd] at e; cases e
  | .scr _, _, _, _, _, _, e => by simp only [pd] at e; cases e
  | .ins _ _, _, _, _, _, _, e => by simp only [pd] at e; cases e
  | .cls _, _, _, _, _, _, e => by simp only [pd] at e; cases e
  | .exc _ _, _, _, _, _, _, e => by simp only [pd] at e; cases e
  | .hnd _, _, _, _, _, _, e => by simp only [pd] at e; cases e
  | .any, _, _, _, _, _, e => by simp only [pd] at e; cases e
theorem rvs_reads {os : Obj} (hk : X.K.lookup sysModules = some os) (I : Inv X pins σ H s) : ∀ (ds : List D) (vs : List V) (us : List Value) (xs : List PyData), RVs X.K g H ds vs → Vals vs us → pds ds = some xs → ∃ as, ReadsAll s.heap us xs as ∧ sysModules ∉ as
  | [], _, _, _, r, ru, e => by
    simp only [RVs] at r
    subst r
    cases ru
    simp only [pds] at e
    cases e
    exact ⟨[], ReadsAll.nil, by simp⟩
  | d :: ds, _, _, _, r, ru, e => by
    simp only [RVs] at r
    obtain ⟨v, r', rfl, h1, h2⟩ := r
    cases ru with
    | cons r1 r2 =>
      simp only [pds] at e
      cases q : pd d with
      | none => rw [q] at e; cases e
      | some x =>
        rw [q] at e
        cases q2 : pds ds with
        | none => rw [q2] at e; cases e
        | some xs =>
          rw [q2] at e
          cases e
          obtain ⟨as, a1, a2⟩ := rv_reads hk I d v _ x h1 r1 q
          obtain ⟨bs, b1, b2⟩ := rvs_reads hk I ds r' _ xs h2 r2 q2
          exact ⟨as ++ bs, ReadsAll.cons a1 b1, fun m => (List.mem_append.mp m).elim a2 b2⟩
theorem rks_reads {os : Obj} (hk : X.K.lookup sysModules = some os) (I : Inv X pins σ H s) : ∀ (ds : List (Key × D)) (ws : List (Key × V)) (vs : List (Key × Value)) (xs : List (PyData × PyData)), RKs X.K g H ds ws → KV ws vs → pdk ds = some xs → ∃ as, PyProof.V.PairsRead s.heap encK vs xs as ∧ sysModules ∉ as
  | [], _, _, _, r, ru, e => by
    simp only [RKs] at r
    subst r
    cases ru
    simp only [pdk] at e
    cases e
    exact ⟨[], .nil, by simp⟩
  | (k, d) :: ds, _, _, _, r, ru, e => by
    simp only [RKs] at r
    obtain ⟨v, r', rfl, h1, h2⟩ := r
    cases ru with
    | cons r1 r2 =>
      rename_i y _
      obtain ⟨k', u⟩ := y
      obtain ⟨ek, r1⟩ := r1
      have ek : k = k' := ek
      subst ek
      simp only [pdk] at e
      cases q : pd d with
      | none => rw [q] at e; cases e
      | some x =>
        rw [q] at e
        cases q2 : pdk ds with
        | none => rw [q2] at e; cases e
        | some xs =>
          rw [q2] at e
          cases e
          obtain ⟨as, a1, a2⟩ := rv_reads hk I d v _ x h1 r1 q
          obtain ⟨bs, b1, b2⟩ := rks_reads hk I ds r' _ xs h2 r2 q2
          refine ⟨as ++ bs, ?_, fun m => (List.mem_append.mp m).elim a2 b2⟩
          cases k <;> exact .cons a1 b1
end
end

def reprOk (x : PyData) : Bool := x.showable && decide (x.depth ≤ 32) && decide (x.shown.length ≤ sizeLine)
def reprD (ds : List D) (S : List O) : Out D := match ds with
  | [d] => (match pd d with
    | some x => if reprOk x = true then .ok (.str x.shown) S else .stuck
    | none => .stuck)
  | _ => .stuck
/-- the reading of repr -/
def rRepr (K : PySem.W.Frag) : List V → Hp → VK → Prop := fun xs H Q => ∃ d v x g, xs = [v] ∧ RV K g H d v ∧ pd d = some x ∧ reprOk x = true ∧ Q (.str x.shown) H
theorem call_reprD {X : Cx} {os : Obj} (hk : X.K.lookup sysModules = some os) (hu : X.A.units + 64 < cLine) (hgd : X.A.guards = some []) : CallR X (.builtin "repr") (rRepr X.K) := by
  intro pins s σ H xs us Q I r h
  obtain ⟨d, v, x, g, rfl, rv, hx, ok, q⟩ := h
  obtain ⟨u, rfl, ru⟩ := vals1 r
  unfold reprOk at ok
  rw [Bool.and_eq_true, Bool.and_eq_true, decide_eq_true_eq, decide_eq_true_eq] at ok
  obtain ⟨⟨ok1, ok2⟩, ok3⟩ := ok
  obtain ⟨as, h1, h2⟩ := rv_reads hk I d v u x rv ru hx
  have fin : ∀ h' w tk, (∀ b o, s.heap.get? b = some o → h'.get? b = some o) → EP X pins σ Q (.str x.shown w) { s with heap := h', toks := tk } := fun h' w tk k =>
    ⟨.str x.shown, H, I.kept (t' := tk) fun b o e => k b o e, ⟨w, rfl⟩, q⟩
  cases h1 with
  | none => exact PySem.P.repr_of_none (by simpa only [PyData.shown] using fin s.heap s.toks (s.toks + 1) fun _ _ e => e)
  | bool b => exact PySem.P.repr_of_bool (by simpa only [PyData.shown] using fin s.heap s.toks (s.toks + 1) fun _ _ e => e)
  | int i t => exact PySem.P.repr_of_int (by simpa [PyData.showable] using ok1) (by simpa only [PyData.shown] using fin s.heap s.toks (s.toks + 1) fun _ _ e => e)
  | str y t => exact PySem.P.repr_of_str (by simpa only [PyData.shown] using fin s.heap s.toks (s.toks + 1) fun _ _ e => e) (by simpa only [PyData.shown] using ok3)
  | list a b c e => exact PySem.repr_of_reads' (.list a b c e) ok1 (fun _ => h2) hgd (by omega) (fun _ _ e => e) fin ok3
  | tuple a b c e => exact PySem.repr_of_reads' (.tuple a b c e) ok1 (fun _ => h2) hgd (by omega) (fun _ _ e => e) fin ok3
  | dict a b c e f => exact PySem.repr_of_reads' (.dict a b c e f) ok1 (fun _ => h2) hgd (by omega) (fun _ _ e => e) fin ok3
section
variable {z : Sg} {e : Expr} {ta : TAx} {p pos : Pos}
theorem de_repr (hk : ∃ os, z.K.lookup sysModules = some os) (hm : z.mg "repr" = none) (ha : DA z [e] ta) (hg : Gz z "repr" := by rfl) (hs : ∀ env, starEach [e] env = (false, eval e env) :: starEach [] env := by intro _; rfl) : DE z (.Call (.Name "repr" p) [e] [] pos) (eArgs reprD ta) := by
  obtain ⟨os, hk⟩ := hk
  refine de_callB (r := rRepr z.K) (fun X f => f.K ▸ call_reprD (f.K ▸ hk) f.hu f.gd) (fun g S H σ Q xs vs s r p => ?_) (by decide +kernel) hm ha hg (by decide) (by decide) hs
  unfold reprD at p
  split at p
  · rename_i d
    split at p
    · rename_i x q
      split at p
      · rename_i ok
        obtain ⟨v, rfl, rr⟩ := rvs1 r
        exact ⟨d, v, x, g, rfl, rr, q, ok, p.here s (by simp only [RV])⟩
      · exact p.elim
    · exact p.elim
  · exact p.elim
end
end TL
set_option Elab.async false
set_option linter.all false
set_option maxRecDepth 100000
set_option maxHeartbeats 4000000
/-! The tree layer, part 10: a tuple turned about. -/
namespace TLR
open PySem PyProof.Rows
open PySem.SeqAt
open PySem.AutoSeq1 (wpAny_loadPart')
open PySem.MeetsSeq PySem.MeetsSeq2 PySem.MeetsSeq3 HT
variable {prog : Program} {w : World} {A : Around} {E : Value → Shared → Prop} {s : Shared}
theorem adj_back (n : Nat) : Builtin.Slice.sliceAdjust none none (-1) (n : Int) = ((n : Int) - 1, -1) := by
  unfold Builtin.Slice.sliceAdjust
  simp
theorem places_back (n : Nat) : Builtin.Slice.slicePlaces ((n : Int) - 1) (-1) (-1) = n := by
  unfold Builtin.Slice.slicePlaces
  have h1 : ¬ ((-1 : Int) > 0) := by omega
  have h2 : ((n : Int) - 1 - -1 - 1) / (-(-1 : Int)) = (n : Int) - 1 := by
    rw [show (-(-1 : Int)) = 1 from rfl, Int.ediv_one]
    omega
  simp only [h1, if_false]
  rw [h2]
  split <;> omega
theorem filter_same {α β : Type} {f h : α → Option β} : ∀ (l : List α), (∀ m ∈ l, f m = h m) → l.filterMap f = l.filterMap h
  | [], _ => rfl
  | a :: l, q => by
    rw [List.filterMap_cons, List.filterMap_cons, q a (List.mem_cons_self ..), filter_same l fun m hm => q m (List.mem_cons_of_mem _ hm)]
theorem pick_back (xs : Array Value) : ((List.range xs.size).filterMap fun (m : Nat) => xs[(((xs.size : Nat) : Int) - 1 + (m : Int) * (-1)).toNat]?) = xs.toList.reverse := by
  have e : ∀ l : List Nat, (∀ m ∈ l, m < xs.size) → (l.filterMap fun (m : Nat) => xs[(((xs.size : Nat) : Int) - 1 + (m : Int) * (-1)).toNat]?) = l.filterMap fun m => xs.toList.reverse[m]? := by
    intro l hl
    refine filter_same l fun m hm => ?_
    have hm := hl m hm
    rw [List.getElem?_reverse (by simpa using hm), Array.getElem?_toList]
    congr 1
    have : xs.toList.length = xs.size := by simp
    omega
  rw [e _ (fun m hm => List.mem_range.mp hm)]
  generalize hr : xs.toList.reverse = r
  have hl : xs.size = r.length := by rw [← hr]; simp
  rw [hl]
  clear hr hl e
  induction r with
  | nil => rfl
  | cons x r ih =>
    rw [List.length_cons, List.range_succ_eq_map, List.filterMap_cons, List.filterMap_map]
    simp only [List.getElem?_cons_zero]
    congr 1
theorem applied_back {sl : Addr} {vl vu vs : Value} {n : Nat} {Q : Int × Int × Nat → Shared → Prop} (hs : s.heap.IsSliceOf sl vl vu vs) (pl : IsPart vl none) (pu : IsPart vu none) (ps : IsPart vs (some (-1)))
    (h : Q ((n : Int) - 1, -1, n) s) : wpAny (model prog w) A (Builtin.Slice.sliceApplied (.ref sl) (pure (n : Int))) Q E s := by
  obtain ⟨os, hos, hcs, hds⟩ := id hs
  cases pl
  cases pu
  cases ps with
  | int i t =>
  unfold Builtin.Slice.sliceApplied Builtin.Slice.sliceFields
  refine wpAny_bind (wpAny_bind (wpAny_field hos hds (x := Value.none) rfl (wpAny_bind (wpAny_field hos hds (x := Value.none) rfl (wpAny_bind (wpAny_field hos hds (x := .int (-1) t) rfl (wpAny_pure ?_)))))))
  refine wpAny_bind (slicePart_int ?_)
  show wpAny _ _ (if ((-1 : Int) == 0) = true then _ else _) _ _ s
  rw [if_neg (by decide)]
  refine wpAny_bind (slicePart_none (wpAny_bind (slicePart_none (wpAny_bind (wpAny_pure ?_)))))
  show wpAny _ _ (match Builtin.Slice.sliceAdjust none none (-1) (n : Int) with | (lo, hi) => pure (lo, (-1 : Int), Builtin.Slice.slicePlaces lo hi (-1))) _ _ s
  rw [adj_back n]
  show wpAny _ _ (pure ((n : Int) - 1, (-1 : Int), Builtin.Slice.slicePlaces ((n : Int) - 1) (-1) (-1))) _ _ s
  rw [places_back]
  exact wpAny_pure h
theorem getItem_tuple_back {t sl : Addr} {items : Array Value} {vl vu vs : Value} {Q : Value → Shared → Prop} (ht : IsTup s.heap t items) (hs : s.heap.IsSliceOf sl vl vu vs) (pl : IsPart vl none) (pu : IsPart vu none) (ps : IsPart vs (some (-1)))
    (h : Q (.ref s.heap.objs.size) { s with heap := s.heap.push { cls := .type "tuple", data := .seq items.toList.reverse.toArray } })
    (hsz : items.size ≤ sizeLine) : wpAny (model prog w) A (getItem (.ref t) (.ref sl)) Q E s := by
  have htake : sizeOk (.seq items.toList.reverse.toArray) := by
    show items.toList.reverse.toArray.size ≤ sizeLine
    rw [List.size_toArray, List.length_reverse, Array.length_toList]
    exact hsz
  obtain ⟨os, hos, hcs, hds⟩ := id hs
  have hTs : s.TypeIs (.ref sl) "slice" := ⟨os, hos, hcs⟩
  unfold getItem
  try with_reducible refine wpAny_holding ?_
  first | refine wpAny_bind (wpAny_pure ?_) | skip
  refine wpAny_bind (wpAny_sequenceKey ht.typeIs (by decide) ?_)
  refine wpAny_bind (wpAny_callSpecial?_slot (name := Str.ofString "__getitem__") ht.typeIs PyProof.Rows.slot_tuple_getitem
    (wpAny_call_entry PyProof.Rows.slot_tuple_getitem ht.typeIs entry_tuple_getitem ?_ (args_tuple_getitem _ _)))
  show wpAny _ _ (Builtin.Tuple.tupleItemsOf (.ref t) >>= _) _ _ s
  refine wpAny_bind (tupleItemsOf_ ht ?_)
  refine wpAny_bind (wpAny_typeOf hTs ?_)
  rw [if_pos (by decide)]
  refine wpAny_bind (applied_back hs pl pu ps ?_)
  have hno : ¬ ((((items.size : Nat) : Int) - 1 == 0 && (-1 : Int) == 1 && items.size == items.size) = true) := by
    intro q
    rw [Bool.and_eq_true, Bool.and_eq_true] at q
    exact absurd q.1.2 (by decide)
  show wpAny _ _ (if (((items.size : Nat) : Int) - 1 == 0 && (-1 : Int) == 1 && items.size == items.size) = true then _ else _) _ _ s
  rw [if_neg hno, pick_back]
  first
    | exact wpAny_bind (m := Builtin.Tuple.tupleExact _) (wpAny_newObj_type (wpAny_pure ⟨_, rfl, wpAny_pure h⟩) htake)
    | exact wpAny_bind (m := Builtin.Tuple.tupleExact _) (wpAny_newObj_type (wpAny_bind (wpAny_pure (wpAny_pure ⟨_, rfl, wpAny_pure h⟩))) htake)
    | exact wpAny_bind (wpAny_bind (m := Builtin.Tuple.tupleExact _) (wpAny_newObj_type (wpAny_pure (wpAny_pure ⟨_, rfl, wpAny_pure h⟩)) htake))
    | exact wpAny_bind (wpAny_bind (m := Builtin.Tuple.tupleExact _) (wpAny_newObj_type (wpAny_pure ⟨_, rfl, wpAny_pure h⟩) htake))
end TLR
namespace TL
open PySem PySem.Spec PyProof.Rows L2
def tBackT (K : PySem.W.Frag) (te : TE) : TE := fun σ H Q => te σ H fun x H1 => ∃ a xs, x = .ref a ∧ SqT K H1 a xs ∧ ∀ p, H1 p = none → Q (.ref p) (upd H1 p (.tup xs.reverse))
theorem pe_backT {X : Cx} {e : Expr} {te : TE} {k : Nat} {p1 p2 p3 pos : Pos} (he : PE X e te) : PE X (.Subscript e (.Slice none none (some (.UnaryOp .USub (.Constant (.int 1) k p1) p2)) p3) pos) (tBackT X.K te) := by
  refine ⟨fun pins s σ H Q I h => ?_⟩
  refine Subscript_ (thn (he.run pins s σ H _ I h) fun v s1 ⟨x, H1, I1, r1, q1⟩ => ?_)
  obtain ⟨a, xs, ex, hx, q⟩ := q1
  subst ex
  cases r1
  have hst : PO X (some (.UnaryOp .USub (.Constant (.int 1) k p1) p2)) (tPart (tUn (rU fun i => .int (-i)) (tC (.int 1)))) := po_some (pe_un un_neg pe_int)
  refine wpAny_Slice (thn (po_none.run pins s1 σ H1 (fun o H2 => o = none ∧ H2 = H1) I1 ⟨rfl, rfl⟩) fun vl s2 ⟨l, H2, I2, pl, el, e2⟩ => ?_)
  subst el e2
  refine thn (po_none.run pins s2 σ H2 (fun o H3 => o = none ∧ H3 = H2) I2 ⟨rfl, rfl⟩) fun vu s3 ⟨u, H3, I3, pu, eu, e3⟩ => ?_
  subst eu e3
  refine thn (hst.run pins s3 σ H3 (fun o H4 => o = some (-1) ∧ H4 = H3) I3 ⟨1, rfl, -1, rfl, rfl, rfl⟩) fun vs s4 ⟨o, H4, I4, ps, eo, e4⟩ => ?_
  subst eo e4
  have I5 : Inv X pins σ H4 { s4 with heap := s4.heap.push { cls := .type "slice", data := .fields #[vl, vu, vs] } } := I4.kept (t' := s4.toks) fun b ob q => Heap.get?_push_of_some _ q
  obtain ⟨its, r, ht, hz⟩ := I5.tuple hx
  have hlen := r.length
  show wpAny (model X.prog X.w) X.A (subscriptTail e (.Slice none none (some (.UnaryOp .USub (.Constant (.int 1) k p1) p2)) p3) (.ref a) (.ref s4.heap.objs.size)) (EP X pins σ Q) X.xe { s4 with heap := s4.heap.push { cls := .type "slice", data := .fields #[vl, vu, vs] } }
  refine tail_any (ops := [.ref a, .ref s4.heap.objs.size]) ht.typeIs (PyProof.Rows.slot_tuple_getitem.lookup) ?_ (by with_unfolding_all rfl)
  refine TLR.getItem_tuple_back ht (Heap.IsSliceOf.new _ vl vu vs) pl pu ps ?_ (by rw [List.size_toArray]; omega)
  refine ⟨.ref _, _, I5.laid (t' := s4.toks) (o := .tup xs.reverse) (fun b ob q => Heap.get?_push_of_some _ q) (Nat.le_refl _) ?_, rfl, q _ (I5.hok.fresh (Nat.le_refl _))⟩
  exact ⟨by rw [List.length_reverse]; exact hz, its.reverse, r.reverse, IsTup.new _ _⟩
def backD (x : D) (S : List O) : Out D := match x with
  | .tup ds => .ok (.tup ds.reverse) S
  | _ => .stuck
theorem de_backT {z : Sg} {e : Expr} {t : TEx} {k : Nat} {p1 p2 p3 pos : Pos} (he : DE z e t) : DE z (.Subscript e (.Slice none none (some (.UnaryOp .USub (.Constant (.int 1) k p1) p2)) p3) pos) (eUn backD t) := by
  refine de_un (r := fun x H1 Q => ∃ a xs, x = .ref a ∧ SqT z.K H1 a xs ∧ ∀ p, H1 p = none → Q (.ref p) (upd H1 p (.tup xs.reverse))) (fun X f τ h => f.K ▸ pe_backT h) (fun g S H σ Q x v s rx p => ?_) he
  unfold backD at p
  split at p
  · rename_i ds
    simp only [RV] at rx
    obtain ⟨a, xs, rfl, h1, h2⟩ := rx
    refine ⟨a, xs, rfl, h1.sq, fun q hq => p.new s hq fun e => ?_⟩
    simp only [RV]
    exact ⟨q, _, rfl, .inl ⟨upd_same, s.unbad hq⟩, h2.reverse.mono s.live e _ _⟩
  · exact p.elim
end TL
set_option Elab.async false
set_option linter.all false
set_option maxRecDepth 100000
set_option maxHeartbeats 4000000
/-! The tree layer, part 11: dicts. -/
namespace TL
open PySem PySem.Spec PyProof.Rows L2

/-! ### an object that is new and still worked at -/
structure NwAt (K : PySem.W.Frag) (g0 : G) (H0 : Hp) (Dp : Addr) (g : G) (H : Hp) (S : List O) : Prop where
  keep : ∀ b o, H0 b = some o → b ∉ g0.hs → H b = some o
  good : ∀ b o, H0 b = some o → ¬ g0.bad b → ¬ g.bad b
  sub : ∀ b, g0.bad b → g.bad b
  pre : ∃ l, g.hs = g0.hs ++ l ∧ ∀ b ∈ l, H0 b = none ∧ b ≠ Dp
  s : SR K g S H
  bd : g.bad Dp
section
variable {K : PySem.W.Frag} {g0 g g1 : G} {H0 H H1 : Hp} {Dp : Addr} {S S1 S2 : List O}
theorem NwAt.start (s : SR K g0 S H0) (hn : H0 Dp = none) {u : HO} : NwAt K g0 H0 Dp (g0.on Dp) (upd H0 Dp u) S :=
  ⟨fun b o q _ => same_new hn b o q, (Ext.on (u := u) hn).good, fun _ h => .inl h, ⟨[], by simp [G.on], fun _ h => by cases h⟩, s.on hn, .inr rfl⟩
theorem NwAt.ext (l : NwAt K g0 H0 Dp g H S) : Ext g0 H0 g H := by
  obtain ⟨m, e, f⟩ := l.pre
  exact ⟨l.keep, l.good, l.sub, m, e, fun b hb => (f b hb).1⟩
theorem NwAt.nh (l : NwAt K g0 H0 Dp g H S) (hd : Dp ∉ g0.hs) : Dp ∉ g.hs := by
  obtain ⟨m, e, f⟩ := l.pre
  rw [e]
  intro h
  rcases List.mem_append.mp h with h | h
  · exact hd h
  · exact (f _ h).2 rfl
theorem NwAt.later (l : NwAt K g0 H0 Dp g H S) (s0 : SR K g0 S1 H0) (hd : Dp ∉ g0.hs) (e : Ext g H g1 H1) (s1 : SR K g1 S2 H1) : NwAt K g0 H0 Dp g1 H1 S2 ∧ H1 Dp = H Dp := by
  obtain ⟨m, em, fm⟩ := l.pre
  obtain ⟨m2, em2, fm2⟩ := e.pre
  have nh := l.nh hd
  obtain ⟨u, hu⟩ := l.s.trk Dp l.bd
  have st : ∀ b o, H0 b = some o → b ∉ g0.hs → b ∉ g.hs := fun b o q n h => by
    rw [em] at h
    rcases List.mem_append.mp h with h | h
    · exact n h
    · rw [(fm b h).1] at q
      cases q
  refine ⟨⟨fun b o q n => e.keep b o (l.keep b o q n) (st b o q n), fun b o q n => ?_, fun b h => e.sub b (l.sub b h), ⟨m ++ m2, by rw [em2, em, List.append_assoc], fun b hb => ?_⟩, s1, e.sub _ l.bd⟩, ?_⟩
  · have n0 : b ∉ g0.hs := fun h => n (s0.live b h)
    exact e.good b o (l.keep b o q n0) (l.good b o q n)
  · rcases List.mem_append.mp hb with h | h
    · exact fm b h
    · refine ⟨?_, fun q => ?_⟩
      · cases q : H0 b with
        | none => rfl
        | some o =>
          by_cases hx : b ∈ g0.hs
          · obtain ⟨o', e'⟩ := l.s.hl b (by rw [em]; exact List.mem_append_left _ hx)
            rw [fm2 b h] at e'
            cases e'
          · have z := l.keep b o q hx
            rw [fm2 b h] at z
            cases z
      · rw [q] at h
        rw [fm2 _ h] at hu
        cases hu
  · rw [hu]
    exact e.keep _ _ hu nh
theorem NwAt.wr (l : NwAt K g0 H0 Dp g H S) (hn : H0 Dp = none) (hd : Dp ∉ g0.hs) {u : HO} : NwAt K g0 H0 Dp g (upd H Dp u) S :=
  ⟨fun b o q n => by rw [upd_ne (ne_of_none q hn)]; exact l.keep b o q n, l.good, l.sub, l.pre, l.s.wr l.bd (l.nh hd), l.bd⟩
theorem NwAt.wk (l : NwAt K g0 H0 Dp g H S) {u : HO} : Wk g H g (upd H Dp u) := Wk.wr l.bd
/-- given out as a handle -/
theorem NwAt.finH {W : WX} {σ : L2.St} {Q : VK} {ob : O} (l : NwAt K g0 H0 Dp g H S) (hn : H0 Dp = none) (hd : Dp ∉ g0.hs) (ho : RO K g H ob Dp) (p : Post K W (RV K) g0 H0 σ Q (.ok (.hnd S.length) (S ++ [ob]))) : Q (.ref Dp) H := by
  obtain ⟨m, em, fm⟩ := l.pre
  have nh := l.nh hd
  refine p ⟨g.bad, g.hs ++ [Dp]⟩ H _ ⟨l.keep, l.good, l.sub, m ++ [Dp], by rw [em, List.append_assoc], fun b hb => ?_⟩ ?_ ?_
  · rcases List.mem_append.mp hb with h | h
    · exact (fm b h).1
    · rw [List.mem_singleton.mp h]
      exact hn
  · have wk : ∀ (i : Nat) (a : Addr), g.hs[i]? = some a → (g.hs ++ [Dp])[i]? = some a := fun i a h => by
      rw [List.getElem?_append_left (List.getElem?_eq_some_iff.mp h).1]
      exact h
    refine ⟨by simp [l.s.len], ?_, fun a ha => ?_, l.s.trk, fun i a o e1 e2 => ?_⟩
    · refine List.nodup_append.mpr ⟨l.s.nd, by simp, fun a ha b hb => ?_⟩
      rw [List.mem_singleton.mp hb]
      rintro rfl
      exact nh ha
    · rcases List.mem_append.mp ha with h | h
      · exact l.s.live a h
      · rw [List.mem_singleton.mp h]
        exact l.bd
    · by_cases hi : i < S.length
      · have e1' : g.hs[i]? = some a := by
          have e1 : (g.hs ++ [Dp])[i]? = some a := e1
          rwa [List.getElem?_append_left (by rw [l.s.len]; exact hi)] at e1
        have e2' : S[i]? = some o := by rwa [List.getElem?_append_left hi] at e2
        exact RO.anti (g := g) (g0 := ⟨g.bad, g.hs ++ [Dp]⟩) (fun _ h => h) wk (l.s.rep i a o e1' e2')
      · have hi2 : i = S.length := by
          have := (List.getElem?_eq_some_iff.mp e2).1
          simp at this
          omega
        subst hi2
        have e1 : (g.hs ++ [Dp])[S.length]? = some a := e1
        rw [← l.s.len] at e1
        simp at e1
        simp at e2
        subst e1 e2
        exact RO.anti (g := g) (g0 := ⟨g.bad, g.hs ++ [Dp]⟩) (fun _ h => h) wk ho
  · simp only [RV]
    exact ⟨Dp, rfl, by rw [← l.s.len]; simp⟩
/-- given out as a value -/
theorem NwAt.finV {W : WX} {σ : L2.St} {Q : VK} {d : D} (l : NwAt K g0 H0 Dp g H S) (s0 : SR K g0 S1 H0) (hn : H0 Dp = none) (hd : Dp ∉ g0.hs) (hr : RV K (g.off Dp) H d (.ref Dp)) (p : Post K W (RV K) g0 H0 σ Q (.ok d S)) : Q (.ref Dp) H := by
  obtain ⟨m, em, fm⟩ := l.pre
  have nh := l.nh hd
  have hb : ∀ b, (G.off g Dp).bad b → g.bad b := fun b h => h.1
  have hh : ∀ (i : Nat) (a : Addr), g.hs[i]? = some a → (G.off g Dp).hs[i]? = some a := fun _ _ h => h
  refine p (g.off Dp) H _ ⟨l.keep, fun b o q n h => l.good b o q n h.1, fun b h => ⟨l.sub b h, fun q => ?_⟩, m, em, fun b hb => (fm b hb).1⟩ ?_ hr
  · obtain ⟨o, z⟩ := s0.trk b h
    rw [q, hn] at z
    cases z
  · exact ⟨l.s.len, l.s.nd, fun a ha => ⟨l.s.live a ha, fun q => nh (by rw [← q]; exact ha)⟩, fun a h => l.s.trk a h.1, fun i a o e1 e2 => RO.anti hb hh (l.s.rep i a o e1 e2)⟩
end

theorem Post.bindL {K : PySem.W.Frag} {W : WX} {g gA : G} {H HA : Hp} {σ : L2.St} {S : List O} {α β γ δ : Type} {R : G → Hp → α → β → Prop} {R' : G → Hp → γ → δ → Prop} {Q : δ → Hp → Prop} {Q1 : β → Hp → Prop} {o : Out α} {k : α → List O → Out γ} (hp : Post K W R' gA HA σ Q (o.bind k))
    (e0 : Ext gA HA g H) (s0 : SR K g S H) (h : ∀ a S1 g1 H1 b, Ext g H g1 H1 → SR K g1 S1 H1 → R g1 H1 a b → Post K W R' gA HA σ Q (k a S1) → Q1 b H1) : Post K W R g H σ Q1 o := by
  cases o with
  | ok a S => exact fun g1 H1 b e s r => h a S g1 H1 b e s r hp
  | exc C d S =>
    have hp : Post K W R' gA HA σ Q (.exc C d S) := hp
    exact fun g1 H1 c dd e s r => hp g1 H1 c dd (e0.tr s0 e) s r
  | stuck => exact hp

/-! ### keys, looking, putting -/
def keyOf : D → Option Key
  | .int i => some (.inl i)
  | .str s => some (.inr s)
  | _ => none
def getK : List (Key × D) → Key → Option D
  | [], _ => none
  | (j, d) :: r, k => if j = k then some d else getK r k
def hasK (kvs : List (Key × D)) (k : Key) : Bool := kvs.any fun kv => decide (kv.1 = k)
def putG (kvs : List (Key × D)) (k : Key) (v : D) : List (Key × D) :=
  if hasK kvs k = true then kvs.map (fun kv => if kv.1 = k then (kv.1, v) else kv) else kvs ++ [(k, v)]
def mergeG (kvs more : List (Key × D)) : List (Key × D) := more.foldl (fun acc kv => putG acc kv.1 kv.2) kvs
def dctOf (S : List O) : D → Option (List (Key × D))
  | .dct kvs => some kvs
  | .hnd i => (match S[i]? with
    | some (.dct kvs) => some kvs
    | _ => none)
  | _ => none
section
variable {K : PySem.W.Frag} {g : G} {H : Hp} {S : List O}
theorem keyOf_rv {d : D} {k : Key} {v : V} (h : keyOf d = some k) (r : RV K g H d v) : v = kV k := by
  cases d with
  | int i => cases h; exact rv_int r
  | str i => cases h; exact rv_str r
  | _ => cases h
theorem RKs.get : ∀ {kvs : List (Key × D)} {ws : List (Key × V)} (k : Key), RKs K g H kvs ws → (match getK kvs k with
    | some d => ∃ v, valV ws k = some v ∧ RV K g H d v
    | none => valV ws k = none)
  | [], _, k, h => by
    simp only [RKs] at h
    subst h
    exact valV_nil
  | (j, d) :: r, _, k, h => by
    simp only [RKs] at h
    obtain ⟨v, r', rfl, h1, h2⟩ := h
    unfold getK
    by_cases e : j = k
    · rw [if_pos e]
      exact ⟨v, valV_pos e, h1⟩
    · rw [if_neg e]
      have := RKs.get k h2
      rw [valV_neg (p := (j, v)) e]
      exact this
theorem RKs.has : ∀ {kvs : List (Key × D)} {ws : List (Key × V)} (k : Key), RKs K g H kvs ws → (ws.any fun kv => decide (kv.1 = k)) = hasK kvs k
  | [], _, k, h => by
    simp only [RKs] at h
    subst h
    rfl
  | (j, d) :: r, _, k, h => by
    simp only [RKs] at h
    obtain ⟨v, r', rfl, h1, h2⟩ := h
    have := RKs.has k h2
    unfold hasK at this ⊢
    rw [List.any_cons, List.any_cons, this]
theorem RKs.put {d : D} {v : V} (k : Key) (rv : RV K g H d v) : ∀ {kvs : List (Key × D)} {ws : List (Key × V)}, RKs K g H kvs ws → RKs K g H (kvs.map (fun kv => if kv.1 = k then (kv.1, d) else kv)) (ws.map (fun kv => if kv.1 = k then (kv.1, v) else kv))
  | [], _, h => by
    simp only [RKs] at h
    subst h
    simp only [List.map_nil, RKs]
  | (j, e) :: r, _, h => by
    simp only [RKs] at h
    obtain ⟨w, r', rfl, h1, h2⟩ := h
    have q := RKs.put k rv h2
    rw [List.map_cons, List.map_cons]
    by_cases ej : j = k
    · simp only [ej, if_true, RKs]
      exact ⟨v, _, rfl, rv, by simpa only [ej, if_true] using q⟩
    · simp only [ej, if_false, RKs]
      exact ⟨w, _, rfl, h1, q⟩
theorem RKs.snoc {d : D} {v : V} (k : Key) (rv : RV K g H d v) : ∀ {kvs : List (Key × D)} {ws : List (Key × V)}, RKs K g H kvs ws → RKs K g H (kvs ++ [(k, d)]) (ws ++ [(k, v)])
  | [], _, h => by
    simp only [RKs] at h
    subst h
    simp only [List.nil_append, RKs]
    exact ⟨v, [], rfl, rv, rfl⟩
  | (j, e) :: r, _, h => by
    simp only [RKs] at h
    obtain ⟨w, r', rfl, h1, h2⟩ := h
    simp only [List.cons_append, RKs]
    exact ⟨w, _, rfl, h1, RKs.snoc k rv h2⟩
theorem RKs.putG {d : D} {v : V} (k : Key) (rv : RV K g H d v) {kvs : List (Key × D)} {ws : List (Key × V)} (h : RKs K g H kvs ws) : RKs K g H (putG kvs k d) (putK ws k v) := by
  unfold TL.putG putK
  rw [h.has k]
  split
  · exact h.put k rv
  · exact h.snoc k rv
theorem RKs.merge : ∀ {more : List (Key × D)} {ms : List (Key × V)} {kvs : List (Key × D)} {ws : List (Key × V)}, RKs K g H more ms → RKs K g H kvs ws → RKs K g H (mergeG kvs more) (mergeK ws ms)
  | [], _, _, _, h, h0 => by
    simp only [RKs] at h
    subst h
    exact h0
  | (k, d) :: r, _, _, _, h, h0 => by
    simp only [RKs] at h
    obtain ⟨v, r', rfl, h1, h2⟩ := h
    show RKs K g H (mergeG (TL.putG _ k d) r) (mergeK (putK _ k v) r')
    exact RKs.merge (more := r) (ms := r') h2 (h0.putG k h1)
theorem dct_at (s : SR K g S H) {d : D} {kvs : List (Key × D)} {v : V} (h : dctOf S d = some kvs) (r : RV K g H d v) : ∃ a ws, v = .ref a ∧ H a = some (.dK ws) ∧ RKs K g H kvs ws := by
  cases d with
  | dct es =>
    cases h
    simp only [RV] at r
    obtain ⟨a, ws, e, h1, _, h2⟩ := r
    exact ⟨a, ws, e, h1, h2⟩
  | hnd i =>
    simp only [dctOf] at h
    split at h
    · rename_i es q
      cases h
      simp only [RV] at r
      obtain ⟨a, e, h1⟩ := r
      obtain ⟨ws, h2, h3⟩ := s.rep i a _ h1 q
      exact ⟨a, ws, e, h2, h3⟩
    · cases h
  | _ => cases h
end

/-! ### displays -/
def mkD (own : Bool) (kvs : List (Key × D)) (S : List O) : Out D := if own then .ok (.hnd S.length) (S ++ [.dct kvs]) else .ok (.dct kvs) S
section
variable {z : Sg} {pos : Pos}
theorem de_dct0 (own : Bool) : DE z (.Dict [] [] pos) (fun _ S => mkD own [] S) := by
  refine ⟨_, fun X f => pe_dnewK, fun g S ρ σ H Q s rs p q hq => ?_⟩
  have p : Post z.K z.W (RV z.K) g H σ Q (mkD own [] S) := p
  unfold mkD at p
  split at p
  · exact Post.newH s hq p (fun e => ⟨[], upd_same, by simp only [RKs]⟩) fun e => RV.newH s
  · refine Post.new s hq p fun e => ?_
    simp only [RV]
    exact ⟨q, [], rfl, upd_same, s.unbad hq, by simp only [RKs]⟩
end
/-- the pairs of a display -/
abbrev TPx := Env1 → List O → Out (List (Key × D))
def RdP (z : Sg) (τ : List (TE × TE)) (t : TPx) : Prop := ∀ g S ρ σ H (Q : List (V × V) → Hp → Prop), SR z.K g S H → RS z.K g H ρ σ → Post z.K z.W (fun g' H' (ks : List (Key × D)) (ps : List (V × V)) => ∃ ws, ps = ws.map (fun kv => (kV kv.1, kv.2)) ∧ RKs z.K g' H' ks ws) g H σ Q (t ρ S) → tPairs τ σ H Q
def DPs (z : Sg) (pos : Pos) (keys : List (Option Expr)) (vals : List Expr) (t : TPx) : Prop := ∃ τ, (∀ X, Fits z X → PPs X pos keys vals τ) ∧ RdP z τ t
def pNil : TPx := fun _ S => .ok [] S
def pCons (a b : TEx) (r : TPx) : TPx := fun ρ S => (a ρ S).bind fun x S1 => (b ρ S1).bind fun y S2 => (r ρ S2).bind fun ks S3 => match keyOf x with
  | some k => .ok ((k, y) :: ks) S3
  | none => .stuck
section
variable {z : Sg} {pos : Pos} {k v : Expr} {ks : List (Option Expr)} {vs : List Expr} {a b : TEx} {r : TPx}
theorem dp_nil : DPs z pos [] [] pNil := ⟨_, fun _ _ => pps_nil, fun g S ρ σ H Q s rs p => p.here s ⟨[], rfl, by simp only [RKs]⟩⟩
theorem dp_cons (h1 : DE z k a) (h2 : DE z v b) (h3 : DPs z pos ks vs r) : DPs z pos (some k :: ks) (v :: vs) (pCons a b r) := by
  obtain ⟨τ, h1, q1⟩ := h1
  obtain ⟨τ2, h2, q2⟩ := h2
  obtain ⟨τ3, h3, q3⟩ := h3
  refine ⟨_, fun X f => pps_cons (h1 X f) (h2 X f) (h3 X f), fun g S ρ σ H Q s rs p => ?_⟩
  refine q1 g S ρ σ H _ s rs (p.bind fun x S1 g1 H1 u e1 s1 r1 p1 => ?_)
  refine q2 g1 S1 ρ σ H1 _ s1 (rs.mono s.live e1) (p1.bind fun y S2 g2 H2 w e2 s2 r2 p2 => ?_)
  refine q3 g2 S2 ρ σ H2 _ s2 ((rs.mono s.live e1).mono s1.live e2) (p2.bind fun es S3 g3 H3 ps e3 s3 r3 p3 => ?_)
  obtain ⟨ws, rfl, r3⟩ := r3
  split at p3
  · rename_i k' ek
    refine p3.here s3 ⟨(k', w) :: ws, ?_, ?_⟩
    · rw [keyOf_rv ek r1]
      rfl
    · simp only [RKs]
      exact ⟨w, ws, rfl, r2.mono s2.live e3 _ _, r3⟩
  · exact p3.elim
def eDct (own : Bool) (t : TPx) : TEx := fun ρ S => (t ρ S).bind fun ks S1 => if ks.length ≤ 15 then mkD own (mergeG [] ks) S1 else .stuck
theorem de_dct (own : Bool) {keys : List (Option Expr)} {t : TPx} (h : DPs z pos keys vs t) (hall : keys.all (·.isSome) = true := by rfl) (hl : keys.length = vs.length := by rfl) (h0 : keys ≠ [] := by exact fun e => nomatch e) (h15 : keys.length ≤ 15 := by decide) : DE z (.Dict keys vs pos) (eDct own t) := by
  obtain ⟨τ, h1, q1⟩ := h
  refine ⟨_, fun X f => pe_disp (h1 X f) hall hl h0 h15, fun g S ρ σ H Q s rs p Dp hn => ?_⟩
  have hd : Dp ∉ g.hs := fun h => s.unbad hn (s.live _ h)
  have l0 : NwAt z.K g H Dp (g.on Dp) (upd H Dp (.dK [])) S := NwAt.start s hn
  unfold eDct at p
  refine q1 (g.on Dp) S ρ σ _ _ l0.s (rs.mono s.live (Ext.on hn)) (Post.bindL p l0.ext l0.s fun ks S1 g1 H1 ps e1 s1 r1 p1 => ?_)
  obtain ⟨ws, rfl, r1⟩ := r1
  obtain ⟨l1, hD⟩ := l0.later s hd e1 s1
  rw [upd_same] at hD
  split at p1
  · rename_i hk
    refine ⟨hD, ws, rfl, by rw [r1.length]; exact hk, ?_⟩
    have rm : RKs z.K g1 H1 (mergeG [] ks) (mergeK [] ws) := RKs.merge r1 (by simp only [RKs])
    have l2 := l1.wr (u := .dK (mergeK [] ws)) hn hd
    have rm2 := rm.wk (l1.wk (u := .dK (mergeK [] ws))) _ _
    unfold mkD at p1
    split at p1
    · exact l2.finH (ob := .dct (mergeG [] ks)) hn hd ⟨_, upd_same, rm2⟩ p1
    · refine l2.finV s hn hd ?_ p1
      simp only [RV]
      exact ⟨Dp, _, rfl, upd_same, fun h => h.2 rfl, RKs.anti (g := g1) (g0 := g1.off Dp) (fun b h => h.1) (fun _ _ h => h) _ _ rm2⟩
  · exact p1.elim
end

/-! ### looking up -/
def dgetD (x y : D) (S : List O) : Out D := match dctOf S x, keyOf y with
  | some kvs, some k => (match getK kvs k with
    | some d => .ok d S
    | none => .stuck)
  | _, _ => .stuck
def dinD (y x : D) (S : List O) : Out D := match dctOf S x, keyOf y with
  | some kvs, some k => .ok (.bl (hasK kvs k)) S
  | _, _ => .stuck
def dninD (y x : D) (S : List O) : Out D := match dctOf S x, keyOf y with
  | some kvs, some k => .ok (.bl (!hasK kvs k)) S
  | _, _ => .stuck
theorem getK_has : ∀ (kvs : List (Key × D)) (k : Key), (getK kvs k).isSome = hasK kvs k
  | [], _ => rfl
  | (j, d) :: r, k => by
    have := getK_has r k
    have e1 : getK ((j, d) :: r) k = if j = k then some d else getK r k := rfl
    have e2 : hasK ((j, d) :: r) k = (decide (j = k) || hasK r k) := rfl
    rw [e1, e2, ← this]
    by_cases e : j = k
    · simp [e]
    · simp [e]
section
variable {z : Sg} {a b : Expr} {ta tb : TEx} {pos : Pos}
theorem de_dget (ha : DE z a ta) (hb : DE z b tb) (hs : NoSl b := by intro _ _; rfl) : DE z (.Subscript a b pos) (eBin dgetD ta tb) := by
  refine de_bin (r := fun x y H2 Q => ∃ p v, x = .ref p ∧ DGet H2 p y (some v) ∧ Q v H2) (fun X fx τ τ' h1 h2 => pe_dget (by have := fx.hu; omega) h1 h2 hs) (fun g S H σ Q x y v u s rx ry p => ?_) ha hb
  unfold dgetD at p
  split at p
  · rename_i kvs k e1 e2
    obtain ⟨l, ws, rfl, h1, h2⟩ := dct_at s e1 rx
    have hg := h2.get k
    split at p
    · rename_i d q
      rw [q] at hg
      obtain ⟨w, h3, h4⟩ := hg
      exact ⟨l, w, rfl, .inl ⟨ws, k, .inl h1, keyOf_rv e2 ry, h3.symm⟩, p.here s h4⟩
    · exact p.elim
  · exact p.elim
end
end TL
set_option Elab.async false
set_option linter.all false
set_option maxRecDepth 100000
set_option maxHeartbeats 4000000
/-! The tree layer, part 12: an error's own __init__, by super and one field. -/
namespace TLI
open PySem PySem.W PySem.Calls PyProof.Rows PySem.HandSPX
/-! ### the text of that def -/
def iScope : Scope := { kind := .function, names := [("self", .local), ("value", .local), ("__class__", .free), ("super", .globalImplicit)], isGenerator := false, isCoroutine := false, more := [] }
def iArgs (q1 q2 : Pos) : Arguments := { posonlyargs := [], args := [{ arg := "self", annotation := none, pos := q1 }, { arg := "value", annotation := none, pos := q2 }], vararg := none, kwonlyargs := [], kw_defaults := [], kwarg := none, defaults := [] }
def iBody (p0 p1 p2 p3 p4 p5 p6 p7 p8 p9 : Pos) : List Stmt := [.Expr (.Call (.Attribute (.Call (.Name "super" p0) [] [] p1) "__init__" p2) [.Name "value" p3] [] p4) p5, .Assign [.Attribute (.Name "self" p6) "value" p7] (.Name "value" p8) p9]
structure IFn (K : Frag) (P : Program) (D f : Addr) : Prop where
  fn : ∃ (cc cda : Addr) (oc : Value) (od : Option Addr) (osl : Array (Option Value)) (name qual : Str) (q1 q2 p0 p1 p2 p3 p4 p5 p6 p7 p8 p9 : Pos) (kV doc pm ct : Value) (an : Option Addr),
    (p2.endLine == p4.line) = true ∧
    K.lookup f = some ⟨oc, od, .func (ksFn name qual (iArgs q1 q2) (iBody p0 p1 p2 p3 p4 p5 p6 p7 p8 p9) iScope .none kV doc pm an (.ref cda) ct cc), osl⟩ ∧ codeIn K (.ref cda) qual = true ∧
    (∃ (ccl : Value) (cdd : Option Addr) (vs : Array Value) (ccs : Array (Option Value)) (file : Str) (tf : Tok), K.lookup cda = some ⟨ccl, cdd, .fields vs, ccs⟩ ∧ vs[2]? = some (.str file tf) ∧ ((P.main.file : Str) == file) = true) ∧
    (∃ (cl : Value) (cld : Option Addr) (csl : Array (Option Value)), K.lookup cc = some ⟨cl, cld, .cell (some (.ref D)), csl⟩)
  clsD : ∃ cdD, clsIn K D = some cdD
  opq : nsIn K cStatics "thirdparty.any" = some none
  top : (P.main.scope.names.lookup ("super" : Str)).isSome = false
  ty : typeIn K (.ref f) = some (.type "function")
structure ICls (K : Frag) (D f C : Addr) : Prop where
  oex : L2.OexC K C
  ini : findIn K (.ref C) "__init__" = some (some (.ref f))
  subD : mroIn K C (.ref D) = some true
  sup : ks_superIn K C D "__init__" = some (some (.builtin "ValueError.__init__"))
  subV : subIn K (.ref C) (.type "ValueError") = some true
  nov : findIn K (.ref C) "value" = some none
section
variable {prog : Program} {w : World} {A : Around} {E : Value → Shared → Prop} {h b0 : Heap} {g : Array GenState} {d : Drawn} {t : Nat} {os : OsState} {K : Frag} {mg : Str → Option Value} {D f C e t0 : Addr} {u : Value} {R : Result → Shared → Prop}
theorem call_back {uu e t0 : Addr} {rest : List Value} {Q : Value → Shared → Prop} {nm q : Str} {C N : Addr} {bs bm : List Value} {hdct : Bool} {sn : List Str} {sub : List Value} {ab : Bool} {col : Option Bool} {dd : Option Addr} {k0 k1 k2 k3 k5 : Option Value}
    (hC : h.get? C = some (excClassObj nm q C N bs bm hdct sn sub ab col dd k0 k1 k2 k3 k5 "ValueError.__new__")) (he : h.get? e = some (excO C t0)) (hu : h.get? uu = some (kxs_mw "ValueError.__init__" e)) (hrest : rest.length ≤ sizeLine)
    (hq : ∀ h' t1, (∀ b o, b ≠ e → h.get? b = some o → h'.get? b = some o) → h'.get? e = some (excO C t1) → Q .none ⟨h', g, d, t, os⟩) :
    wpAny (model prog w) A (call (.ref uu) rest) Q E ⟨h, g, d, t, os⟩ := by
  have FB : ExcBaseFacts "ValueError" "ValueError.__new__" "ValueError.__init__" _ := F.excBase_ValueError
  refine wpAny_call (codeAny_of_tree ?_)
  show wpAny _ A.in1 (callAny (.ref uu) ⟨rest, []⟩) _ _ _
  simp only [callAny]
  refine wpAny_bind (wpAny_load hu ?_)
  simp only [kxs_mw, show (Value.type "method-wrapper" == Value.type "method" || Value.type "method-wrapper" == Value.type "builtin_function_or_method" || Value.type "method-wrapper" == Value.type "method-wrapper") = true by decide, if_true]
  refine KFB.if_so (by decide) ?_
  refine wpAny_bind (check_bound_init FB.toExcCallFacts hC he rfl ?_)
  refine wpAny_bind (wpAny_pure (wpAny_pure ?_))
  refine ⟨plainId_quiet FB.init.plain _, codeAny_builtin FB.initEntry ?_⟩
  exact exc_init_tree (cls := .ref C) (t0 := t0) (dv := none) (c2 := .none) (c3 := .none) (b4 := .bool false) he hrest fun h' k e' _ => hq h' _ k e'
theorem at_meth {c : Code} {env : Env} {o : PySem.Expr} {e1 : PySem.Expr} {name : Str} {apos pos : Pos} {Q : Value → Shared → Prop} {s : Shared} (hline : (apos.endLine == pos.line) = true) (hs : starEach [e1] env = [(false, eval e1 env)])
    (h : _root_.PySem.wpAt (model prog w) A c (attributeBase o name env (eval o env)) (fun ov s₁ => ∀ pl, wpAny (model prog w) A (getMethod ov name pl) (fun fx s₂ => wpAny (model prog w) A (callWith pos fx.1 fx.2 [(false, eval e1 env)] []) Q E s₂) E s₁) E s) :
    _root_.PySem.wpAt (model prog w) A c (eval (.Call (.Attribute o name apos) [e1] [] pos) env) Q E s := by
  have hb : backTo pos (starEach [e1] env) = [(false, eval e1 env)] := by rw [hs]; rfl
  rw [arm_eval_Call, hb]
  refine _root_.PySem.wpAt_bind (_root_.PySem.wpAt_mono h (fun ov s₁ h₁ => _root_.PySem.wpAt_of_wpAny ?_) fun _ _ x => x)
  refine wpAny_bind (wpAny_standAt ?_)
  have hpos : methodCallPos true o env apos pos = pure pos := by unfold methodCallPos; simp [hline]
  show wpAny _ _ (holding [ov] (calleeOf true o env ov name) >>= fun x => methodCallPos true o env apos pos >>= fun cp => callWith cp x.1 x.2 [(false, eval e1 env)] []) _ _ _
  rw [hpos]
  unfold calleeOf
  rw [if_pos rfl]
  exact wpAny_bind (wpAny_holding (wpAny_mono (h₁ _) (fun fx s₂ h₂ => wpAny_bind (wpAny_pure h₂)) fun _ _ x => x))
theorem init_run (Fn : IFn K prog D f) (T : ICls K D f C) (X0 : K.In b0) (G0 : b0.Ns mainGlobals mg) (hsu : mg "super" = none) (B0 : ∃ mb, b0.Ns builtinsNs mb ∧ ∀ x : Str, x ≠ "__name__" → mb x = bootBuiltins x) (L0 : b0.NoLimit)
    (hroom : A.depth < recursionLimit) (hb : ∀ b o, b0.get? b = some o → h.get? b = some o ∧ b ≠ e) (he : h.get? e = some (excO C t0))
    (hq : ∀ h' t1 tk' dx, (∀ b o, b ≠ e → h.get? b = some o → h'.get? b = some o) → h.get? dx = none → dx ≠ e → h'.get? e = some { cls := .ref C, dict := some dx, data := .fields #[.ref t1, .none, .none, .none, .bool false, .none] } →
      h'.Ns1 dx (fun y => if y = "value" then some u else none) → R (.ok (.ret .none)) ⟨h', g, d, tk', os⟩) :
    codeAny (model prog w) A (.call (.ref f) ⟨[.ref e, u], []⟩) R ⟨h, g, d, t, os⟩ := by
  obtain ⟨cc, cda, oc, od, osl, name, qual, q1, q2, p0, p1, p2, p3, p4, p5, p6, p7, p8, p9, kV, doc, pm, ct, an, hline, hf, hcd, ⟨ccl, cdd, vs, ccs, file, tf, hcda, hvs, hfile⟩, ⟨cl, cld, csl, hcc⟩⟩ := Fn.fn
  obtain ⟨cdD, hD⟩ := Fn.clsD
  obtain ⟨nm, q, N, bs, bm, sn, sub, ab, col, dd, k0, k1, k2, k3, k5, hCl, hbm⟩ := T.oex.cls
  have hcl : clsIn K C = some { name := nm, bases := bs, mro := .ref C :: bm, ns := N, qualname := q, hasDict := true, slotNames := sn, subclasses := sub, abstract := ab, collection := col, hasDel := false } := by unfold clsIn; rw [hCl] <;> rfl
  obtain ⟨mb, hmb, hbt⟩ := B0
  have up0 : ∀ {h1 : Heap}, (∀ b o, b ≠ e → h.get? b = some o → h1.get? b = some o) → ∀ b o, b0.get? b = some o → h1.get? b = some o := fun k b o z => k b o (hb b o z).2 (hb b o z).1
  have Xh : ∀ {h1 : Heap}, (∀ b o, b ≠ e → h.get? b = some o → h1.get? b = some o) → K.In h1 := fun k => X0.keeps (up0 k)
  have X := Xh (h1 := h) fun _ _ _ z => z
  refine ks_codeAny_call_defAt (fd := ksFn name qual (iArgs q1 q2) (iBody p0 p1 p2 p3 p4 p5 p6 p7 p8 p9) iScope .none kV doc pm an (.ref cda) ct cc) (body := iBody p0 p1 p2 p3 p4 p5 p6 p7 p8 p9) (binds := [("self", .ref e), ("value", u)]) hroom (X _ _ hf) rfl
    (L0.keeps (up0 fun _ _ _ z => z)) (codeRec_of X hcd) rfl (BindsTo.of_eq rfl) (show ∀ x ∈ iScope.names, x.2 ≠ .cell by decide) (locs rfl) (fun h₁ hns hk₁ => ?_)
  have Lne : h.objs.size ≠ e := Nat.ne_of_gt (Heap.lt_size he)
  have k1 : ∀ b o, b ≠ e → h.get? b = some o → h₁.get? b = some o := fun b o _ z => hk₁ b o z
  have he1 : h₁.get? e = some (excO C t0) := hk₁ _ _ he
  have eC : e ≠ C := fun z => by
    subst z
    have := X _ _ hCl
    rw [he] at this
    cases this
  obtain ⟨oD, hD1, hD2⟩ : ∃ oD, h₁.get? D = some oD ∧ oD.data = .cls cdD := by
    unfold clsIn at hD
    split at hD
    · rename_i c d cd' sl ho
      cases hD
      exact ⟨_, Xh k1 _ _ ho, rfl⟩
    · cases hD
  have X1 := Xh k1
  refine ks_wpAt_execs_cons (ks_wpAt_Expr_any (at_meth hline rfl ?_) rfl rfl)
  refine ks_wpAt_super_base (of := ⟨oc, od, _, osl⟩) (ar := { arg := "self", annotation := none, pos := q1 }) rfl rfl rfl rfl (X1 _ _ hf) rfl rfl rfl (X1 _ _ hcda) rfl hvs hfile Fn.top ?_
  refine ks_loadName_global rfl rfl (loadGlobal_builtin (G0.keeps (up0 k1)) hsu (hmb.keeps (up0 k1)) ((hbt "super" (by decide)).trans (by decide +kernel)) ⟨rfl, ?_⟩)
  refine wpAny_loadName_free rfl rfl rfl ⟨_, X1 _ _ hcc, rfl⟩ ?_
  refine wpAny_loadName_local rfl rfl hns rfl ?_
  refine ks_wpAny_isType_cls hD1 hD2 ⟨rfl, ?_⟩
  refine ks_wpAny_call_super hD1 hD2 he1 rfl (fun c => nofun) (looks_mroIn X1 T.subD) (fun h2 hso k2 pl => ?_)
  have k12 : ∀ b o, b ≠ e → h.get? b = some o → h2.get? b = some o := fun b o n z => k2 _ _ (k1 _ _ n z)
  have he2 : h2.get? e = some (excO C t0) := k2 _ _ he1
  have X2 := Xh k12
  have hns2 : h2.Ns h.objs.size (fun x => ([("self", Value.ref e), ("value", u)] : List (Str × Value)).reverse.lookup x) := hns.keeps k2
  have hsup := T.sup
  unfold ks_superIn at hsup
  rw [hcl] at hsup
  refine kxs_getMethod kxs_ValueError hso (looks_opaque X2 Fn.opq) (l₀ := .ref C :: bm) (fun A Q E s k q => wpAny_bind ((looks_clsIn X2 hcl) A _ E s k (wpAny_pure q))) rfl X2 hsup ?_ eC (by decide) ?_
  · have I : InstAt h2 e (excO C t0) C none := ⟨he2, rfl, rfl, trivial⟩
    exact I.type.andThen (looks_subIn X2 T.subV)
  have hmw : (h2.push (kxs_mw "ValueError.__init__" e)).get? h2.objs.size = some (kxs_mw "ValueError.__init__" e) := Heap.get?_push_at rfl rfl
  have k3 : ∀ b o, h2.get? b = some o → (h2.push (kxs_mw "ValueError.__init__" e)).get? b = some o := fun b o z => Heap.get?_push_of_some _ z
  have he3 := k3 _ _ he2
  have hns3 := hns2.keeps k3
  refine kxs_callWith (i := "ValueError.__init__") (x := e) (args := [(false, eval (.Name "value" p3) _)]) rfl ?_
  refine evalArgs_plain (Calls.spliced_cons (ldc rfl rfl hns3 rfl (Calls.spliced_nil ⟨hmw, ?_⟩)))
  have k13 : ∀ b o, b ≠ e → h.get? b = some o → (h2.push (kxs_mw "ValueError.__init__" e)).get? b = some o := fun b o n z => k3 _ _ (k12 _ _ n z)
  refine call_back ((Xh k13) _ _ hCl) he3 hmw (by show 1 ≤ sizeLine; decide) fun h4 t1 k4 he4 => ?_
  have hns4 : h4.Ns h.objs.size (fun x => ([("self", Value.ref e), ("value", u)] : List (Str × Value)).reverse.lookup x) := by
    obtain ⟨o, es, ep, z, r⟩ := hns3
    exact ⟨o, es, ep, k4 _ _ Lne z, r⟩
  have k14 : ∀ b o, b ≠ e → h.get? b = some o → h4.get? b = some o := fun b o n z => k4 _ _ n (k13 _ _ n z)
  have X4 := Xh k14
  refine ks_wpAt_execs_cons (ks_wpAt_Assign_Attr (_root_.PySem.wpAt_of_wpAny (ldc rfl rfl hns4 rfl (ldc rfl rfl hns4 rfl ?_))) rfl)
  refine set_plain X4 (ox := excO C t1) (od := none) ⟨he4, rfl, rfl, trivial⟩ T.oex.sa ?_
  refine exc_osa X4 he4 hcl (show refsVE (.ref C :: bm) = true from hbm) rfl T.nov (fun h5 tk5 dx k5' dn dne hx hn => ?_)
  show _root_.PySem.wpAt _ _ _ (execs [] _) _ _ _
  refine _root_.PySem.wpAt_of_wpAny (wpAny_pure ?_)
  refine hq h5 t1 tk5 dx (fun b o n z => k5' _ _ n (k14 _ _ n z)) ?_ dne hx hn
  cases z : h.get? dx with
  | none => rfl
  | some o => exact absurd (Heap.lt_size (k14 _ _ dne z)) (Nat.not_lt.mpr dn)
end
end TLI
set_option Elab.async false
set_option linter.all false
set_option maxRecDepth 100000
set_option maxHeartbeats 4000000
/-! The tree layer, part 13: errors of own classes as values: made, asked, read. -/
namespace TL
open PySem PySem.Spec PyProof.Rows L2
section
variable {X : Cx} {C D f : Addr} {pins : List (Addr × Obj)} {σ : L2.St} {H : Hp} {s : Shared}
/-- two new objects at once -/
theorem laid2 {h' : Heap} {a dd : Addr} {o o2 : HO} {t' : Nat} (I : Inv X pins σ H s) (k : ∀ b u, s.heap.get? b = some u → h'.get? b = some u) (ha : s.heap.get? a = none) (hd : s.heap.get? dd = none) (ne : dd ≠ a)
    (n1 : ObjOk X.prog X.w (upd H dd o2) h' dd o2) (n2 : ObjOk X.prog X.w (upd (upd H dd o2) a o) h' a o) : Inv X pins σ (upd (upd H dd o2) a o) { s with heap := h', toks := t' } := by
  have na : H a = none := I.hok.gone ha
  have nd : H dd = none := I.hok.gone hd
  have na2 : upd H dd o2 a = none := by rw [upd_ne (Ne.symm ne)]; exact na
  have gone : ∀ b u, s.heap.get? b = some u → b ≠ a ∧ b ≠ dd := fun b u q => And.intro (fun z => nomatch (show none = some u from by rw [← ha, ← z, q])) (fun z => nomatch (show none = some u from by rw [← hd, ← z, q]))
  refine I.un { keep := fun b u q _ _ _ => k b u q, slot := fun b u q _ _ _ => ⟨u.slots, k b u q⟩, free := fun b u q n _ => ?_, there := fun b u q _ => ⟨u, k b u q⟩, tups := fun b xs q => ?_, frzs := fun b u xs q => ?_, tbls := fun b ps q => ⟨#[], ?_⟩ } ?_
  · rw [upd_ne (gone b u q).1, upd_ne (gone b u q).2]
    exact n
  · rw [upd_ne (ne_of_none q na), upd_ne (ne_of_none q nd)]
    exact q
  · rw [upd_ne (ne_of_none q na), upd_ne (ne_of_none q nd)]
    exact q
  · rw [upd_ne (ne_of_none q na), upd_ne (ne_of_none q nd), q]
    simp
  · exact HOk.laidN (HOk.laidN I.hok k nd n1) (fun _ _ z => z) na2 n2
def tMkE (C : Addr) (te : TE) : TE := fun σ H Q => te σ H fun v H1 => ∀ a dd, H1 a = none → H1 dd = none → dd ≠ a → Q (.ref a) (upd (upd H1 dd (.xd [("value", v)])) a (ExO (.ref C) (some dd) a))
theorem pe_mkE {x : Str} {e : Expr} {te : TE} {p pos : Pos} {k : Nat} (Fn : TLI.IFn X.K X.prog D f) (T : TLI.ICls X.K D f C) (hsu : X.mg "super" = none) (hr : Room (k + 1) X.A) (gC : X.mg x = some (.ref C)) (hg : Gl X x) (he : PE X e te)
    (hs : starEach [e] X.env = (false, eval e X.env) :: starEach [] X.env := by rfl) (hdb : (x == ("__debug__" : Str)) = false := by decide) : PE X (.Call (.Name x p) [e] [] pos) (tMkE C te) := by
  refine ⟨fun pins s σ H Q I h => ?_⟩
  obtain ⟨nm, q, N, bs, bm, sn, sub, ab, col, dd, k0, k1, k2, k3, k5, hC, hbm⟩ := T.oex.cls
  refine wpAny_Call_Name_kw (ld_glob I hg gC ?_ hdb)
  refine PySem.W.callWith_K (h₀ := X.base) I.ok.mod.kin T.oex.kC ?_ hs (by rfl)
  rw [hs]
  show wpAny _ _ (spliced ((false, eval e X.env) :: backTo pos (starEach [] X.env))) _ _ s
  refine Calls.spliced_cons (thn (he.run pins s σ H _ I h) fun u s1 ⟨v, H1, I1, r1, q1⟩ => ?_)
  refine Calls.spliced_nil ⟨I1.kIn, ?_⟩
  show wpAny _ _ (call (.ref C) [u]) _ _ _
  obtain ⟨hp, g, dr, tk, os⟩ := s1
  have hsz : hp.objs.size ≤ hp.objs.size + 1 := Nat.le_succ _
  have kk : ∀ b o, hp.get? b = some o → ((hp.push (PySem.W.kdv_tup [u])).push (PySem.HandSPX.excO C hp.objs.size)).get? b = some o := fun b o e => Heap.get?_push_of_some _ (Heap.get?_push_of_some _ e)
  have hget : ((hp.push (PySem.W.kdv_tup [u])).push (PySem.HandSPX.excO C hp.objs.size)).get? (hp.objs.size + 1) = some (PySem.HandSPX.excO C hp.objs.size) := by heap_get
  have hne : hp.get? (hp.objs.size + 1) = none := by
    cases z : hp.get? (hp.objs.size + 1) with
    | none => rfl
    | some o => exact absurd (Heap.lt_size z) (Nat.not_lt.mpr (Nat.le_succ _))
  refine wpAny_call (PySem.HandSPX.call_own F.excBase_ValueError (fun Y => PySem.HandSPX.refsVE_contains Y bm hbm) (I1.kIn _ _ hC) (PySem.W.looks_findIn I1.kIn T.ini) (fun self => PySem.W.bind_fn I1.kIn self Fn.ty) (by show 1 ≤ sizeLine; decide) ?_)
  refine TLI.init_run (C := C) (e := hp.objs.size + 1) (t0 := hp.objs.size) (b0 := X.base) Fn T I1.ok.mod.kin I1.ok.mod.glob hsu I1.ok.mod.blt I1.ok.mod.nolimit (hr.make C [u] []).depth (fun b o z => ⟨kk _ _ (I1.bk _ _ z), fun y => ?_⟩) hget
    (fun h' t1 tk' dx k5 nd dne hx hn => ?_)
  · have := I1.bk _ _ z
    rw [y, hne] at this
    cases this
  · have k6 : ∀ b o, hp.get? b = some o → h'.get? b = some o := fun b o z => k5 b o (fun y => by rw [y, hne] at z; cases z) (kk _ _ z)
    have nd' : hp.get? dx = none := by
      cases z : hp.get? dx with
      | none => rfl
      | some o =>
        rw [kk _ _ z] at nd
        cases nd
    have ha : H1 (hp.objs.size + 1) = none := I1.hok.gone hne
    have hd : H1 dx = none := I1.hok.gone nd'
    have hxo : ∃ o, h'.get? dx = some o := by
      obtain ⟨o, _, _, e', _⟩ := hn
      exact ⟨o, e'⟩
    refine ⟨rfl, .ref (hp.objs.size + 1), _, laid2 (t' := tk') (o := ExO (.ref C) (some dx) (hp.objs.size + 1)) (o2 := .xd [("value", v)]) I1 k6 hne nd' dne ⟨_, hn, relO_put (fs := []) r1 fun g => True.intro⟩ ?_, rfl, q1 _ _ ha hd dne⟩
    exact ⟨⟨_, _, hx, ⟨rfl, rfl⟩, rfl⟩, ⟨_, hx⟩, fun h1 h2 ⟨oe, vs, e1, e2⟩ kp => ⟨oe, vs, kp _ e1, e2⟩⟩
end

/-! ### over trees -/
def mkE (C : Str) (d : D) (S : List O) : Out D := .ok (.exc C d) S
theorem de_mkE {z : Sg} {D f : Addr} {x : Str} {e : Expr} {t : TEx} {p pos : Pos} (Fn : TLI.IFn z.K z.P D f) (T : TLI.ICls z.K D f (He.ga z.K x)) (hsu : z.mg "super" = none) (gC : z.mg x = some (.ref (He.ga z.K x))) (hl : 1 ≤ z.lv) (he : DE z e t) (hg : Gz z x := by rfl)
    (hs : ∀ env, starEach [e] env = (false, eval e env) :: starEach [] env := by intro _; rfl) (hdb : (x == ("__debug__" : Str)) = false := by decide) : DE z (.Call (.Name x p) [e] [] pos) (eUn (mkE x) t) := by
  refine de_un (r := fun v H1 Q => ∀ a dd, H1 a = none → H1 dd = none → dd ≠ a → Q (.ref a) (upd (upd H1 dd (.xd [("value", v)])) a (ExO (.ref (He.ga z.K x)) (some dd) a))) (fun X fx τ h => ?_) (fun g S H σ Q d v s rx p a dd na nd ne => ?_) he
  · exact pe_mkE (k := 0) (fx.prog ▸ fx.K ▸ Fn) (fx.K ▸ T) (fx.mgl hsu) (fx.room.mono (by omega)) (fx.mgl gC) (fx.gl hg) h (hs _) hdb
  · have e1 : ∀ b u, H b = some u → upd (upd H dd (.xd [("value", v)])) a (ExO (.ref (He.ga z.K x)) (some dd) a) b = some u := fun b u q => by
      rw [upd_ne (ne_of_none q na), upd_ne (ne_of_none q nd)]
      exact q
    refine p g _ _ (Ext.same e1) (s.same e1) ?_
    simp only [RV]
    exact ⟨a, dd, v, rfl, upd_same, s.unbad na, by rw [upd_ne ne]; exact upd_same, s.unbad nd, rx.mono s.live (Ext.same e1) _ _⟩
end TL
set_option Elab.async false
set_option linter.all false
set_option maxRecDepth 100000
set_option maxHeartbeats 4000000
/-! The tree layer, part 14: isinstance and fields of errors. -/
namespace TL
open PySem PySem.Spec PyProof.Rows L2

abbrev veB : List Value := [.type "ValueError", .type "Exception", .type "BaseException", .type "object"]
abbrev dErr : Str := "DialError"
/-- what the classes of errors say -/
structure ExC (K : PySem.W.Frag) (C : Str) : Prop where
  ic : TLI.ICls K (He.ga K dErr) (He.ma K (He.ga K dErr) "__init__") (He.ga K C)
  mro : ∃ cd, PySem.W.clsIn K (He.ga K C) = some cd ∧ cd.mro = .ref (He.ga K C) :: (if C = dErr then veB else .ref (He.ga K dErr) :: veB) ∧ cd.hasDict = true
  ty : PySem.W.typeIn K (.ref (He.ga K C)) = some (.type "type")
  gat : PySem.W.findIn K (.ref (He.ga K C)) "__getattribute__" = some (some (.builtin "BaseException.__getattribute__"))
  gtr : PySem.W.findIn K (.ref (He.ga K C)) "__getattr__" = some none
  cla : PySem.W.findIn K (.ref (He.ga K C)) "__class__" = some (some (.builtin "object.__class__"))
structure ExF (K : PySem.W.Frag) (ex : List Str) : Prop where
  nd : (ex.map (He.ga K)).Nodup
  de : dErr ∈ ex
  one : ∀ C ∈ ex, ExC K C
  spg : PySem.W.specialIn K (.builtin "object.__class__") "__get__" = some (some (.builtin "getset_descriptor.__get__"))
  tak : PySem.W.takesIn K (.builtin "object.__class__") = some true
section
variable {K : PySem.W.Frag} {ex : List Str} {B C : Str}
theorem ga_eq : ∀ {ex : List Str}, (ex.map (He.ga K)).Nodup → B ∈ ex → C ∈ ex → (He.ga K B = He.ga K C ↔ B = C)
  | [], _, h, _ => by cases h
  | x :: ex, nd, hB, hC => by
    rw [List.map_cons, List.nodup_cons] at nd
    refine ⟨fun e => ?_, fun e => by rw [e]⟩
    rcases List.mem_cons.mp hB with rfl | hB
    · rcases List.mem_cons.mp hC with rfl | hC
      · rfl
      · exact absurd (by rw [e]; exact List.mem_map_of_mem hC) nd.1
    · rcases List.mem_cons.mp hC with h | hC
      · rw [h] at e
        exact absurd (by rw [← e]; exact List.mem_map_of_mem hB) nd.1
      · exact (ga_eq nd.2 hB hC).mp e
theorem ExF.sub (F : ExF K ex) (hC : C ∈ ex) (c : Value) : PySem.W.subIn K (.ref (He.ga K C)) c = some ((.ref (He.ga K C) :: (if C = dErr then veB else .ref (He.ga K dErr) :: veB)).contains c) := by
  obtain ⟨cd, h1, h2, _⟩ := (F.one C hC).mro
  show PySem.W.mroIn K (He.ga K C) c = _
  unfold PySem.W.mroIn
  rw [h1, Option.bind_some, h2]
  rfl
def isErr (C B : Str) : Bool := decide (C = B) || decide (B = dErr)
theorem ExF.kit (F : ExF K ex) (hC : C ∈ ex) (hB : B ∈ ex) : PySem.W.kitOne K (.ref (He.ga K C)) (.ref (He.ga K B)) = some (isErr C B) := by
  have e1 : (Value.ref (He.ga K C) == Value.ref (He.ga K B)) = decide (C = B) := by
    by_cases h : C = B
    · rw [h]; simp
    · have : ¬ He.ga K C = He.ga K B := fun z => h ((ga_eq F.nd hC hB).mp z)
      simp [h, this]
  have e2 : (Value.ref (He.ga K dErr) == Value.ref (He.ga K B)) = decide (B = dErr) := by
    by_cases h : B = dErr
    · rw [h]; simp
    · have : ¬ He.ga K dErr = He.ga K B := fun z => h ((ga_eq F.nd F.de hB).mp z).symm
      simp [h, this]
  unfold PySem.W.kitOne
  rw [e1]
  by_cases h : C = B
  · simp [h, isErr]
  · obtain ⟨cd, h1, _⟩ := (F.one B hB).mro
    simp only [h, decide_false, Bool.false_eq_true, if_false, PySem.W.kitCls, h1, Option.isSome_some, (F.one B hB).ty, beq_self_eq_true, Bool.and_self, if_true]
    rw [F.sub hC]
    congr 1
    rw [List.contains_cons]
    have e1' : (Value.ref (He.ga K B) == Value.ref (He.ga K C)) = decide (C = B) := by rw [← e1]; exact Bool.beq_comm ..
    have e2' : (Value.ref (He.ga K B) == Value.ref (He.ga K dErr)) = decide (B = dErr) := by rw [← e2]; exact Bool.beq_comm ..
    have nv : ∀ a : Addr, veB.contains (.ref a) = false := fun a => rfl
    unfold isErr
    rw [e1']
    split
    · rename_i hd
      rw [nv]
      have : ¬ B = dErr := fun z => h (hd.trans z.symm)
      simp [this]
    · rw [List.contains_cons, e2', nv]
      simp
def tyErr (n : String) : Option Bool := if n ∈ ["ValueError", "Exception"] then some true else if n ∈ tyR then some false else none
theorem tyErr_all : ∀ n ∈ (["ValueError", "Exception"] : List String) ++ tyR, PySem.W.kitMeta n = true ∧ veB.contains (.type n) = decide (n ∈ (["ValueError", "Exception"] : List String)) := by decide +kernel
theorem ExF.kitT (F : ExF K ex) (hC : C ∈ ex) {n : String} {b : Bool} (h : tyErr n = some b) : PySem.W.kitOne K (.ref (He.ga K C)) (.type n) = some b := by
  have key : n ∈ (["ValueError", "Exception"] : List String) ++ tyR ∧ b = decide (n ∈ (["ValueError", "Exception"] : List String)) := by
    unfold tyErr at h
    split at h
    · rename_i q
      cases h
      exact ⟨List.mem_append_left _ q, by simp [q]⟩
    · rename_i q
      split at h
      · rename_i q2
        cases h
        exact ⟨List.mem_append_right _ q2, by simp [q]⟩
      · cases h
  obtain ⟨k1, rfl⟩ := key
  obtain ⟨m1, m2⟩ := tyErr_all n k1
  unfold PySem.W.kitOne
  rw [if_neg (show ¬ ((Value.ref (He.ga K C) == Value.type n) = true) from Bool.false_ne_true)]
  simp only [PySem.W.kitCls, m1, if_true]
  rw [F.sub hC, ← m2]
  congr 1
  split
  · rfl
  · rfl
def noErr (a : String) : Bool := a ∈ tyL
theorem noErr_all : ∀ a ∈ tyL, ((PySem.fastBuiltinMro a).any fun l => l.all fun v => match v with
    | .type _ => true
    | _ => false) = true := by decide +kernel
theorem kit_no {a : String} (h : a ∈ tyL) (F : ExF K ex) (hB : B ∈ ex) : PySem.W.kitOne K (.type a) (.ref (He.ga K B)) = some false := by
  have h1 := noErr_all a h
  unfold PySem.W.kitOne
  rw [if_neg (show ¬ ((Value.type a == Value.ref (He.ga K B)) = true) from Bool.false_ne_true)]
  obtain ⟨cd, h2, _⟩ := (F.one B hB).mro
  simp only [PySem.W.kitCls, h2, Option.isSome_some, (F.one B hB).ty, beq_self_eq_true, Bool.and_self, if_true]
  cases e : PySem.fastBuiltinMro a with
  | none => rw [e] at h1; cases h1
  | some l =>
    rw [e] at h1
    show (PySem.fastBuiltinMro a).map (·.contains (Value.ref (He.ga K B))) = some false
    rw [e]
    show some (l.contains _) = some false
    congr 1
    have h1 : (l.all fun v => match v with
      | .type _ => true
      | _ => false) = true := h1
    rw [List.all_eq_true] at h1
    refine Bool.eq_false_iff.mpr fun z => ?_
    have := h1 _ (List.contains_iff_mem.mp z)
    cases this
end

/-! ### the rules -/
section
variable {X : Cx} {ex : List Str} {C : Str}
def rIsE2 (K : PySem.W.Frag) (ex : List Str) : List V → Hp → VK → Prop := fun xs H Q => ∃ (a dd : Addr) (fs : List (Str × V)) (C : Str) (c : V) (cv : Value) (b : Bool), xs = [.ref a, c] ∧ C ∈ ex ∧ H a = some (ExO (.ref (He.ga K C)) (some dd) a) ∧ H dd = some (.xd fs) ∧ ClsV c cv ∧ PySem.W.kitOne K (.ref (He.ga K C)) cv = some b ∧ Q (.bl b) H
theorem exO_inst {pins : List (Addr × Obj)} {σ : L2.St} {H : Hp} {s : Shared} {a dd : Addr} {fs : List (Str × V)} (I : Inv X pins σ H s) (ha : H a = some (ExO (.ref (He.ga X.K C)) (some dd) a)) (hd : H dd = some (.xd fs)) :
    ∃ ox od mA, PySem.W.InstAt s.heap a ox (He.ga X.K C) (some od) ∧ s.heap.get? dd = some od ∧ s.heap.Ns1 dd mA ∧ (∀ f, RelO (fs.lookup f) (mA f)) ∧ ∀ name, PySem.W.lookIn name od = some (mA name) := by
  obtain ⟨⟨oe, vs, h1, ⟨h2, h3⟩, h4⟩, _, _⟩ := (show ObjOk X.prog X.w H s.heap a (.ext _) from I.hok a _ ha)
  obtain ⟨mA, hns, hr⟩ := (show ObjOk X.prog X.w H s.heap dd (.xd fs) from I.hok dd _ hd)
  obtain ⟨od, ho, hl⟩ := lookIn_ns hns
  exact ⟨oe, od, mA, ⟨h1, h2, by unfold PySem.W.notCls; rw [h4] <;> rfl, by rw [h3]; exact ho⟩, ho, hns, hr, hl⟩
theorem call_isE2 (F : ExF X.K ex) : CallR X (.builtin "isinstance") (rIsE2 X.K ex) := by
  intro pins s σ H xs us Q I r h
  obtain ⟨a, dd, fs, C, c, cv, b, rfl, hC, ha, hd, k, e, q⟩ := h
  obtain ⟨u1, u2, rfl, r1, r2⟩ := vals2 r
  cases r1
  have e2 := k.eq r2
  subst e2
  obtain ⟨ox, od, mA, J, _⟩ := exO_inst I ha hd
  have G := F.one C hC
  obtain ⟨cd, hcd, hm, _⟩ := G.mro
  have hob : PySem.W.mroIn X.K (He.ga X.K C) (.type "object") = some true := by
    have := F.sub hC (.type "object")
    have this : PySem.W.mroIn X.K (He.ga X.K C) (.type "object") = _ := this
    rw [this]
    congr 1
    split <;> rfl
  exact PySem.W.kia_one (PySem.W.kitx_exc (x := a) (ox := ox) (od := some od) (by rw [hcd]; rfl) G.gat G.gtr G.ic.oex.exC G.cla F.spg F.tak hob) I.kIn J e (fun z => nomatch z) fun tk => ⟨.bl b, H, I.tok tk, rfl, q⟩
def tFldE (K : PySem.W.Frag) (ex : List Str) (n : Str) (te : TE) : TE := fun σ H Q => te σ H fun x H1 => ∃ (a dd : Addr) (fs : List (Str × V)) (C : Str) (v : V), x = .ref a ∧ C ∈ ex ∧ H1 a = some (ExO (.ref (He.ga K C)) (some dd) a) ∧ H1 dd = some (.xd fs) ∧ PySem.W.findIn K (.ref (He.ga K C)) n = some none ∧ fs.lookup n = some v ∧ Q v H1
theorem pe_fldE {e : Expr} {te : TE} {pos : Pos} {n : Str} (F : ExF X.K ex) (he : PE X e te) (hb : attributeBase e n X.env (eval e X.env) = eval e X.env := by rfl) : PE X (.Attribute e n pos) (tFldE X.K ex n te) := by
  refine ⟨fun pins s σ H Q I h => ?_⟩
  refine attr_of hb (thn (he.run pins s σ H _ I h) fun u s1 ⟨x, H1, I1, rx, a, dd, fs, C, v, ex1, hC, ha, hd, hno, hl, q⟩ => ?_)
  subst ex1
  obtain rfl : u = Value.ref a := rx
  obtain ⟨ox, od, mA, J, ho, hns, hr, hlk⟩ := exO_inst I1 ha hd
  have G := F.one C hC
  obtain ⟨u, hu, ru⟩ := RelO.some_of (v := v) (o := mA n) (by rw [← hl]; exact hr n)
  obtain ⟨cd, hcd, hm, hdi⟩ := G.mro
  have hdI : PySem.W.hasDictIn X.K (He.ga X.K C) = true := by
    unfold PySem.W.hasDictIn
    rw [hcd]
    exact hdi
  exact HandSPX.exc_get I1.kIn J G.gat G.gtr G.ic.oex.exC (PySem.W.findObj_own hdI hno rfl (by rw [hlk, hu])) (handed_of ru) ⟨v, H1, I1.tok _, ru, q⟩
end

/-! ### over trees -/
def isiE (ex : List Str) (ds : List D) (S : List O) : Out D := match ds with
  | [.exc C _, .cls B] => if C ∈ ex ∧ B ∈ ex then .ok (.bl (isErr C B)) S else .stuck
  | [.exc C _, .ty n] => if C ∈ ex then (match tyErr n with
    | some b => .ok (.bl b) S
    | none => .stuck) else .stuck
  | _ => .stuck
def valE (ex : List Str) (x : D) (S : List O) : Out D := match x with
  | .exc C d => if C ∈ ex then .ok d S else .stuck
  | _ => .stuck
section
variable {z : Sg} {ex : List Str} {a b : Expr} {ta : TAx} {t : TEx} {p pos : Pos}
theorem de_isE (F : ExF z.K ex) (hm : z.mg "isinstance" = none) (ha : DA z [a, b] ta) (hg : Gz z "isinstance" := by rfl) (hs : ∀ env, starEach [a, b] env = (false, eval a env) :: starEach [b] env := by intro _; rfl) (hp : ∀ env, (backTo pos (starEach [b] env)).any (·.1) = false := by intro _; rfl) :
    DE z (.Call (.Name "isinstance" p) [a, b] [] pos) (eArgs (isiE ex) ta) := by
  refine de_callB (r := rIsE2 z.K ex) (fun X f => f.K ▸ call_isE2 (f.K ▸ F)) (fun g S H σ Q xs vs s r p => ?_) (by decide +kernel) hm ha hg (by decide) (by decide) hs hp
  unfold isiE at p
  split at p
  · split at p
    · rename_i C d B hc
      obtain ⟨v, u, rfl, r1, r2⟩ := rvs2 r
      simp only [RV] at r1 r2
      obtain ⟨l, dd, w, rfl, h1, _, h2, _, _⟩ := r1
      subst r2
      exact ⟨l, dd, _, C, _, _, _, rfl, hc.1, h1, h2, .own _, F.kit hc.1 hc.2, p.here s (by simp only [RV])⟩
    · exact p.elim
  · split at p
    · rename_i C d n hc
      split at p
      · rename_i k q
        obtain ⟨v, u, rfl, r1, r2⟩ := rvs2 r
        simp only [RV] at r1 r2
        obtain ⟨l, dd, w, rfl, h1, _, h2, _, _⟩ := r1
        subst r2
        exact ⟨l, dd, _, C, _, _, _, rfl, hc, h1, h2, .ty _, F.kitT hc q, p.here s (by simp only [RV])⟩
      · exact p.elim
    · exact p.elim
  · exact p.elim
theorem de_valE (F : ExF z.K ex) {e : Expr} (he : DE z e t) (hb : ∀ env, attributeBase e "value" env (eval e env) = eval e env := by intro _; rfl) : DE z (.Attribute e "value" pos) (eUn (valE ex) t) := by
  refine de_un (r := fun x H1 Q => ∃ (a dd : Addr) (fs : List (Str × V)) (C : Str) (v : V), x = .ref a ∧ C ∈ ex ∧ H1 a = some (ExO (.ref (He.ga z.K C)) (some dd) a) ∧ H1 dd = some (.xd fs) ∧ PySem.W.findIn z.K (.ref (He.ga z.K C)) "value" = some none ∧ fs.lookup (Str.ofString "value") = some v ∧ Q v H1)
    (fun X f τ h => f.K ▸ pe_fldE (f.K ▸ F) h (hb _)) (fun g S H σ Q x v s rx p => ?_) he
  unfold valE at p
  split at p
  · split at p
    · rename_i C d hc
      simp only [RV] at rx
      obtain ⟨l, dd, w, rfl, h1, _, h2, _, h3⟩ := rx
      exact ⟨l, dd, _, C, w, rfl, hc, h1, h2, (F.one C hc).ic.nov, rfl, p.here s h3⟩
    · exact p.elim
  · exact p.elim
end
end TL
set_option Elab.async false
set_option linter.all false
set_option maxRecDepth 100000
set_option maxHeartbeats 4000000
/-! The tree layer, part 15: a law's end. -/
namespace TL
open PySem PySem.Spec PyProof.Rows L2

abbrev G0 : G := ⟨fun _ => False, []⟩
theorem SR.empty {K : PySem.W.Frag} {H : Hp} : SR K G0 [] H := ⟨rfl, List.nodup_nil, fun a h => (by cases h), fun a h => h.elim, fun i a o h => (by simp at h)⟩
section
variable {P : Program} {w : World} {K : PySem.W.Frag} {mg mb : Str → Option Value} {k : Nat} {fa a : Addr} {fd : FuncData} {x : Str} {F : TF} {s1 : Shared} {vs : List Value} {ns : List Int}
/-- the law's def, called with the script -/
theorem law_tfn (KX : K.In s1.heap) (hns : s1.heap.Ns mainGlobals mg) (hmb : s1.heap.Ns builtinsNs mb) (hbb : ∀ y : Str, y ≠ "__name__" → mb y = bootBuiltins y) (nol : s1.heap.NoLimit) (gens : s1.gens = #[])
    (hobj : s1.heap.get? a = some { cls := .type "list", data := .seq vs.toArray }) (hi : IntsAre vs ns) (hlen : ns.length ≤ sizeLine) (room : Room k callerA)
    (hF : ∀ base : Heap, K.In base → base.Ns mainGlobals mg → TFn P w K mg base k fa fd [x] F) (hbind : ∀ (s : Shared) (u : Value), BindsTo s fd ⟨[u], []⟩ [(x, u)])
    (hval : ∃ S, F [.scr ns] [] = .ok (.bl true) S) :
    codeAny (model P w) callerA (.call (.ref fa) ⟨[.ref a], []⟩) (fun r s' => r = .ok (.ret (.bool true)) ∧ OldK s1.heap s'.heap ∧ s'.os = s1.os ∧ AllBare s'.gens) s1 := by
  obtain ⟨S1, hval⟩ := hval
  have rints := vals_ints hi
  have same := hi.length
  -- the abstract heap at the start: the script alone, if it is none of the module's objects
  have go : ∀ H : Hp, (∀ b, H b = none ∨ (b = a ∧ K.lookup a = none ∧ H b = some (.frz { cls := .type "list", data := .seq vs.toArray } (.lst (ns.map V.int))))) → ScrAt K G0 H a (ns.map V.int) →
      codeAny (model P w) callerA (.call (.ref fa) ⟨[.ref a], []⟩) (fun r s' => r = .ok (.ret (.bool true)) ∧ OldK s1.heap s'.heap ∧ s'.os = s1.os ∧ AllBare s'.gens) s1 := by
    intro H only scr
    have hb : ∀ {b : Addr} {o : Obj}, s1.heap.get? b = some o → (b = a → K.lookup a = none → False) → (hidT s1.heap H).get? b = some o := fun {b o} e n => hidT_get e (by
      rcases only b with z | ⟨z1, z2, _⟩
      · exact z
      · exact (n z1 z2).elim)
    have ns1 : ∀ {b : Addr} {m : Str → Option Value}, s1.heap.Ns b m → (hidT s1.heap H).Ns b m := fun {b m} ⟨o, es, ep, e, dd, r⟩ => ⟨o, es, ep, hb e (fun z _ => by
      rw [z, hobj] at e
      cases e
      cases (show Data.seq vs.toArray _ = Data.dict es ep from dd)), dd, r⟩
    have inB : K.In (hidT s1.heap H) := fun b o e => hb (KX b o e) fun z n => by
      rw [z, n] at e
      cases e
    have hok : HOk P w H s1.heap := fun b u e => by
      rcases only b with z | ⟨z1, _, z3⟩
      · rw [z] at e
        cases e
      · rw [z3] at e
        cases e
        rw [z1]
        exact ⟨hobj, by rw [List.length_map]; exact hlen, vs, _, rints, hobj⟩
    have md : Mod K mg (hidT s1.heap H) := ⟨inB, ns1 hns, ⟨mb, ns1 hmb, hbb⟩, let ⟨mc, y1, y2⟩ := nol; ⟨mc, ns1 y1, y2⟩⟩
    have e0 : Env0 P w K mg (hidT s1.heap H) callerA [] s1 H := ⟨rfl, md, fun _ _ e => of_hidT e, Nat.le_of_eq (hidT_size _ _), trivial, fun b m => (by cases (show b ∈ ([] : List Addr) from m)), hok, .of_eq gens⟩
    have post : Post K (wX fun _ _ _ => False) (RV K) G0 H [] (fun v _ => v = .bl true) (F [.scr ns] []) := by
      rw [hval]
      exact fun _ _ v _ _ r => rv_bl r
    have rv : RVs K G0 H [.scr ns] [.ref a] := by
      simp only [RVs, RV]
      exact ⟨_, _, rfl, ⟨a, rfl, scr⟩, rfl⟩
    refine codeAny_mono ((hF _ inB (ns1 hns)).run callerA [] s1 H ⟨[.ref a], []⟩ [.ref a] [.ref a] _ _ G0 [] [.scr ns] room rfl e0 (hbind s1 (.ref a)) (.cons rfl .nil) rfl SR.empty rv post) fun r s' hr => ?_
    have un_old : ∀ {H' : Hp}, Un (frs []) [] H H' s1.heap s'.heap → HOk P w H' s'.heap → OldK s1.heap s'.heap := fun {H'} un hk' => OldK.of_keep fun b o e => by
      rcases only b with z | ⟨z1, _, z3⟩
      · exact un.keep b o e z (by intro y; cases (show b ∈ ([] : List Addr) from y)) (by simp)
      · obtain ⟨y1, _⟩ := hk' b _ (un.frzs b _ _ z3)
        rw [z1, hobj] at e
        cases e
        rw [← z1] at *
        exact y1
    cases r with
    | error e =>
      obtain ⟨_, _, _, _, _, _, _, _, _, _, _, _, no⟩ := hr
      exact no.elim
    | ok fl =>
      cases fl with
      | ret u =>
        obtain ⟨v, H', o1, o2, o3, o4, r', q⟩ := hr
        have q : v = .bl true := q
        subst q
        obtain rfl : u = Value.bool true := r'
        exact ⟨rfl, un_old o3 o4, o1, o2⟩
      | _ => exact False.elim hr
  cases hk : K.lookup a with
  | some o =>
    have e := KX a o hk
    rw [hobj] at e
    cases e
    exact go (fun _ => none) (fun _ => .inl rfl) (.inr ⟨_, vs.toArray, _, hk, rfl, rfl, rfl, by rw [List.size_toArray, same]; exact hlen, by simpa using rints⟩)
  | none =>
    refine go (upd (fun _ => none) a (.frz { cls := .type "list", data := .seq vs.toArray } (.lst (ns.map V.int)))) (fun b => ?_) (.inl ⟨⟨_, upd_same⟩, fun h => h⟩)
    by_cases hba : b = a
    · exact .inr ⟨hba, hk, by rw [hba, upd_same]⟩
    · exact .inl (upd_ne hba)
end
/-- the goal of a head: F gives the written part and the law's def by name -/
theorem walk_T {l : PySem.W.OpenLaw} {n k : Nat} {q : Program} {loose : List Str} {XP : (Str → Option Value) → Heap → Prop} {YP : World → Heap → Prop} {d : DefRec} {x : Str} {F : TF}
    (hn : l.most = some n) (hn2 : n ≤ sizeLine) (hdf : d.params.defaults = []) (room : Room k callerA)
    (hF : ∀ (w : World) (mg : Str → Option Value) (fa : Addr) (h : Heap), YP w h → h.Ns mainGlobals mg → mg d.name = some (.ref fa) →
      ∃ (K : PySem.W.Frag) (fd : FuncData), K.In h ∧ (∀ (s : Shared) (u : Value), BindsTo s fd ⟨[u], []⟩ [(x, u)]) ∧ ∀ base : Heap, K.In base → base.Ns mainGlobals mg → TFn l.prog w K mg base k fa fd [x] F)
    (hval : ∀ ns : List Int, ns.length ≤ n → (∀ z ∈ ns, Builtin.Int.intBits z ≤ 1048576) → ∃ S, F [.scr ns] [] = .ok (.bl true) S) :
    PySem.W.WalkO q loose XP YP l.row.toRowW d [] (fun f vs => PySem.call f vs) := by
  refine Att.attach_callB hn hdf fun w s0 s1 mg mb fa o pm cd doc a vs ns Gr Y ho hd hcd hmg hobj hi hlen hbits gens => ?_
  obtain ⟨K, fd, KX, hb, hF⟩ := hF w mg fa _ Y Gr.T.g hmg
  exact law_tfn KX Gr.T.g Gr.T.b Gr.T.builtins Gr.T.nolimit gens hobj hi (Nat.le_trans hlen hn2) room hF hb (hval ns hlen hbits)
end TL
set_option Elab.async false
set_option linter.all false
set_option maxRecDepth 100000
set_option maxHeartbeats 4000000
/-! The tree layer, part 16: the head's facts. -/
namespace TL
open PySem PySem.Spec PyProof.Rows L2

/-! ### the errors' def -/
abbrev IniV : Type := Option (Str × Str × Arguments × FuncBody × Scope × Addr × List Str × Value × Addr)
def iniObs (K : PySem.W.Frag) : IniV := match K.lookup (He.ma K (He.ga K dErr) "__init__") with
  | some ⟨_, _, .func fd, _⟩ => some (fd.name, fd.qualname, fd.params, fd.body, fd.scope, fd.globals, fd.closure.map (·.1), fd.defaults, fd.builtins)
  | _ => none
structure IniD where
  name : Str
  qual : Str
  q1 : Pos
  q2 : Pos
  p0 : Pos
  p1 : Pos
  p2 : Pos
  p3 : Pos
  p4 : Pos
  p5 : Pos
  p6 : Pos
  p7 : Pos
  p8 : Pos
  p9 : Pos
def IniD.val (i : IniD) : IniV := some (i.name, i.qual, TLI.iArgs i.q1 i.q2, .stmts (TLI.iBody i.p0 i.p1 i.p2 i.p3 i.p4 i.p5 i.p6 i.p7 i.p8 i.p9), TLI.iScope, mainGlobals, ["__class__"], .none, builtinsNs)
/-- its code, its cell -/
def fileAt (K : PySem.W.Frag) (c : Addr) : Option Str := match K.lookup c with
  | some ⟨_, _, .fields vs, _⟩ => (match vs.toList with
    | _ :: _ :: .str fl _ :: _ => some fl
    | _ => none)
  | _ => none
def cellAt (K : PySem.W.Frag) (c : Addr) : Option Value := match K.lookup c with
  | some ⟨_, _, .cell (some v), _⟩ => some v
  | _ => none
theorem fileAt_ok {K : PySem.W.Frag} {c : Addr} {file : Str} (h : fileAt K c = some file) : ∃ (ccl : Value) (cdd : Option Addr) (vs : Array Value) (ccs : Array (Option Value)) (tf : Tok), K.lookup c = some ⟨ccl, cdd, .fields vs, ccs⟩ ∧ vs[2]? = some (.str file tf) := by
  unfold fileAt at h
  split at h
  · rename_i z1 z2 vs z4 q2
    split at h
    · rename_i a b fl tk r q3
      cases h
      obtain ⟨l⟩ := vs
      simp only at q3
      subst q3
      exact ⟨z1, z2, _, z4, tk, q2, rfl⟩
    · cases h
  · cases h
theorem cellAt_ok {K : PySem.W.Frag} {c : Addr} {v : Value} (h : cellAt K c = some v) : ∃ (cl : Value) (cld : Option Addr) (csl : Array (Option Value)), K.lookup c = some ⟨cl, cld, .cell (some v), csl⟩ := by
  unfold cellAt at h
  split at h
  · rename_i z1 z2 u z4 q2
    cases h
    exact ⟨z1, z2, z4, q2⟩
  · cases h
def codeB (file : Str) (K : PySem.W.Frag) (qual : Str) : Value → List (Str × Addr) → Bool
  | .ref cda, [(_, cc)] => PySem.W.codeIn K (.ref cda) qual && (decide (fileAt K cda = some file) && decide (cellAt K cc = some (.ref (He.ga K dErr))))
  | _, _ => false
theorem codeB_ok {file : Str} {K : PySem.W.Frag} {qual : Str} {v : Value} {cl : List (Str × Addr)} (h : codeB file K qual v cl = true) : ∃ cda x cc, v = .ref cda ∧ cl = [(x, cc)] ∧ PySem.W.codeIn K (.ref cda) qual = true ∧ fileAt K cda = some file ∧ cellAt K cc = some (.ref (He.ga K dErr)) := by
  unfold codeB at h
  split at h
  · rename_i cda x cc
    obtain ⟨d1, d⟩ := Bool.and_eq_true_iff.mp h
    obtain ⟨d2, d3⟩ := Bool.and_eq_true_iff.mp d
    exact ⟨cda, x, cc, rfl, rfl, d1, of_decide_eq_true d2, of_decide_eq_true d3⟩
  · cases h
def ifnB (file : Str) (K : PySem.W.Frag) : Bool := (match K.lookup (He.ma K (He.ga K dErr) "__init__") with
  | some ⟨_, _, .func fd, _⟩ => codeB file K fd.qualname fd.code fd.closure
  | _ => false) && ((PySem.W.clsIn K (He.ga K dErr)).isSome && (decide (PySem.W.nsIn K cStatics "thirdparty.any" = some none) && decide (PySem.W.typeIn K (.ref (He.ma K (He.ga K dErr) "__init__")) = some (.type "function"))))
theorem ifn_of {K : PySem.W.Frag} {P : Program} {i : IniD} (e : iniObs K = i.val) (c : ifnB P.main.file K = true) (hl : (i.p2.endLine == i.p4.line) = true) (top : (P.main.scope.names.lookup ("super" : Str)).isSome = false) : TLI.IFn K P (He.ga K dErr) (He.ma K (He.ga K dErr) "__init__") := by
  obtain ⟨c1, c⟩ := Bool.and_eq_true_iff.mp c
  obtain ⟨c2, c⟩ := Bool.and_eq_true_iff.mp c
  obtain ⟨c3, c4⟩ := Bool.and_eq_true_iff.mp c
  refine ⟨?_, Option.isSome_iff_exists.mp c2, of_decide_eq_true c3, top, of_decide_eq_true c4⟩
  unfold iniObs at e
  cases q : K.lookup (He.ma K (He.ga K dErr) "__init__") with
  | none => rw [q] at c1; cases c1
  | some o =>
    obtain ⟨oc, od, dt, osl⟩ := o
    rw [q] at c1 e
    cases dt with
    | func fd =>
      obtain ⟨n1, n2, n3, n4, n5, n6, n7, n8, n9, n10, n11, n12, n13, n14, n15⟩ := fd
      have e2 : (some (n1, n2, n3, n4, n5, n6, n7.map (·.1), n8, n15) : IniV) = i.val := e
      unfold IniD.val at e2
      simp only [Option.some.injEq, Prod.mk.injEq] at e2
      obtain ⟨h1, h2, h3, h4, h5, h6, h7, h8, h9⟩ := e2
      obtain ⟨cda, x, cc, rfl, rfl, d1, d2, d3⟩ := codeB_ok (show codeB P.main.file K n2 n13 n7 = true from c1)
      have hx : x = "__class__" := by
        simp only [List.map_cons, List.map_nil, List.cons.injEq, and_true] at h7
        exact h7
      obtain ⟨y1, y2, y3, y4, y5, y6, y7⟩ := fileAt_ok d2
      subst h1 h2 h3 h4 h5 h6 hx h8 h9
      exact ⟨cc, cda, oc, od, osl, _, _, i.q1, i.q2, i.p0, i.p1, i.p2, i.p3, i.p4, i.p5, i.p6, i.p7, i.p8, i.p9, n9, n10, n11, n14, n12, hl, rfl, d1, ⟨y1, y2, y3, y4, P.main.file, y5, y6, y7, beq_self_eq_true _⟩, cellAt_ok d3⟩
    | _ => cases c1

/-! ### a class of errors -/
def eqT (a b : Option (Option Value)) : Bool := decide (a = b)
def mroE (K : PySem.W.Frag) (C : Str) : List Value := if C = dErr then veB else .ref (He.ga K dErr) :: veB
def clsB (C : Str) (K : PySem.W.Frag) : Bool := match K.lookup (He.ga K C) with
  | some ⟨.type t, _, .cls cd, sl⟩ => (match sl.toList with
    | [_, _, _, _, some (.builtin n), _] => decide (t = "type") && (decide (cd.mro = .ref (He.ga K C) :: mroE K C) && (cd.hasDict && (!cd.hasDel && decide (n = "ValueError.__new__"))))
    | _ => false)
  | _ => false
def exB (C : Str) (K : PySem.W.Frag) : Bool := clsB C K && (eqT (PySem.W.findIn K (.ref (He.ga K C)) "__setattr__") (some (some (.builtin "object.__setattr__"))) && (PySem.W.keepIn K (.ref (He.ga K C)) &&
  (eqT (PySem.W.findIn K (.ref (He.ga K C)) "__init__") (some (some (.ref (He.ma K (He.ga K dErr) "__init__")))) && (eqT (PySem.W.ks_superIn K (He.ga K C) (He.ga K dErr) "__init__") (some (some (.builtin "ValueError.__init__"))) &&
  (eqT (PySem.W.findIn K (.ref (He.ga K C)) "value") (some none) && (eqT (PySem.W.findIn K (.ref (He.ga K C)) "__getattribute__") (some (some (.builtin "BaseException.__getattribute__"))) &&
  (eqT (PySem.W.findIn K (.ref (He.ga K C)) "__getattr__") (some none) && eqT (PySem.W.findIn K (.ref (He.ga K C)) "__class__") (some (some (.builtin "object.__class__")))))))))) && eqT (PySem.W.nsIn K mainGlobals C) (some (some (.ref (He.ga K C))))
def exsB (ex : List Str) (K : PySem.W.Frag) : Bool := ex.all (fun C => exB C K) && (decide (ex.map (He.ga K)).Nodup && (decide (dErr ∈ ex) && (eqT (PySem.W.specialIn K (.builtin "object.__class__") "__get__") (some (some (.builtin "getset_descriptor.__get__"))) && decide (PySem.W.takesIn K (.builtin "object.__class__") = some true))))
section
variable {K : PySem.W.Frag} {C : Str} {ex : List Str}
theorem refsVE_mro : PySem.HandSPX.refsVE (mroE K C) = true := by
  unfold mroE
  split <;> rfl
theorem clsB_ok (h : clsB C K = true) : (∃ nm q N bs bm sn sub ab col dd k0 k1 k2 k3 k5, K.lookup (He.ga K C) = some (excClassObj nm q (He.ga K C) N bs bm true sn sub ab col dd k0 k1 k2 k3 k5 "ValueError.__new__") ∧ bm = mroE K C) ∧ PySem.W.typeIn K (.ref (He.ga K C)) = some (.type "type") := by
  unfold clsB at h
  split at h
  · rename_i t od cd sl q
    split at h
    · rename_i k0 k1 k2 k3 n k5 hs
      obtain ⟨h1, h⟩ := Bool.and_eq_true_iff.mp h
      obtain ⟨h2, h⟩ := Bool.and_eq_true_iff.mp h
      obtain ⟨h3, h⟩ := Bool.and_eq_true_iff.mp h
      obtain ⟨h4, h5⟩ := Bool.and_eq_true_iff.mp h
      have h1 : t = "type" := of_decide_eq_true h1
      have h2 := of_decide_eq_true h2
      have h5 : n = "ValueError.__new__" := of_decide_eq_true h5
      subst h1 h5
      obtain ⟨nm, bs, mro, ns, qn, hd, sn, sub, ab, col, del⟩ := cd
      dsimp only at h2 h3 h4
      subst h2 h3
      have h4 : del = false := by simpa using h4
      subst h4
      have hsl : sl = #[k0, k1, k2, k3, some (.builtin "ValueError.__new__"), k5] := by
        obtain ⟨l⟩ := sl
        simp only at hs
        rw [hs]
      subst hsl
      refine ⟨⟨nm, qn, ns, bs, _, sn, sub, ab, col, od, k0, k1, k2, k3, k5, q, rfl⟩, ?_⟩
      show (K.lookup (He.ga K C)).map (·.cls) = _
      rw [q]
      rfl
    · cases h
  · cases h
theorem exC_of (h : exB C K = true) : ExC K C ∧ PySem.W.nsIn K mainGlobals C = some (some (.ref (He.ga K C))) := by
  obtain ⟨h, hg⟩ := Bool.and_eq_true_iff.mp h
  obtain ⟨h0, h⟩ := Bool.and_eq_true_iff.mp h
  obtain ⟨h1, h⟩ := Bool.and_eq_true_iff.mp h
  obtain ⟨h2, h⟩ := Bool.and_eq_true_iff.mp h
  obtain ⟨h3, h⟩ := Bool.and_eq_true_iff.mp h
  obtain ⟨h4, h⟩ := Bool.and_eq_true_iff.mp h
  obtain ⟨h5, h⟩ := Bool.and_eq_true_iff.mp h
  obtain ⟨h6, h⟩ := Bool.and_eq_true_iff.mp h
  obtain ⟨h7, h8⟩ := Bool.and_eq_true_iff.mp h
  obtain ⟨⟨nm, q, N, bs, bm, sn, sub, ab, col, dd, k0, k1, k2, k3, k5, hl, rfl⟩, hty⟩ := clsB_ok h0
  have hc : PySem.W.clsIn K (He.ga K C) = some { name := nm, bases := bs, mro := .ref (He.ga K C) :: mroE K C, ns := N, qualname := q, hasDict := true, slotNames := sn, subclasses := sub, abstract := ab, collection := col, hasDel := false } := by unfold PySem.W.clsIn; rw [hl] <;> rfl
  have sub : ∀ v : Value, PySem.W.mroIn K (He.ga K C) v = some ((Value.ref (He.ga K C) :: mroE K C).contains v) := fun v => by
    unfold PySem.W.mroIn
    rw [hc]
    rfl
  have tail : ∀ v : Value, veB.contains v = true → (Value.ref (He.ga K C) :: mroE K C).contains v = true := fun v z => by
    rw [List.contains_cons]
    unfold mroE
    split
    · rw [z, Bool.or_true]
    · rw [List.contains_cons, z, Bool.or_true, Bool.or_true]
  refine ⟨⟨⟨⟨⟨nm, q, N, bs, _, sn, _, ab, col, dd, k0, k1, k2, k3, k5, hl, refsVE_mro⟩, of_decide_eq_true h1, ?_, hty, h2⟩, of_decide_eq_true h3, ?_, of_decide_eq_true h4, ?_, of_decide_eq_true h5⟩, ⟨_, hc, rfl, rfl⟩, hty, of_decide_eq_true h6, of_decide_eq_true h7, of_decide_eq_true h8⟩, of_decide_eq_true hg⟩
  · show PySem.W.mroIn K (He.ga K C) _ = _
    rw [sub, tail _ (by decide)]
  · rw [sub]
    congr 1
    rw [List.contains_cons]
    unfold mroE
    split
    · rename_i hd
      rw [hd]
      simp
    · simp
  · show PySem.W.mroIn K (He.ga K C) _ = _
    rw [sub, tail _ (by decide)]
theorem exF_of (h : exsB ex K = true) : ExF K ex ∧ ∀ C ∈ ex, PySem.W.nsIn K mainGlobals C = some (some (.ref (He.ga K C))) := by
  obtain ⟨h1, h⟩ := Bool.and_eq_true_iff.mp h
  obtain ⟨h2, h⟩ := Bool.and_eq_true_iff.mp h
  obtain ⟨h3, h⟩ := Bool.and_eq_true_iff.mp h
  obtain ⟨h4, h5⟩ := Bool.and_eq_true_iff.mp h
  have h1 := List.all_eq_true.mp h1
  exact ⟨⟨of_decide_eq_true h2, of_decide_eq_true h3, fun C hC => (exC_of (h1 C hC)).1, of_decide_eq_true h4, of_decide_eq_true h5⟩, fun C hC => (exC_of (h1 C hC)).2⟩
end

/-! ### the Hook -/
abbrev Fb : Type := PySem.W.Frag → Bool
abbrev AlT : Type := Bool × List He.FnW × IniV
def obsT (fb : List Fb) (fn : List He.DefD) (K : PySem.W.Frag) : AlT := ((fb.all fun f => f K) && fn.all fun d => d.ok K, fn.map fun d => He.fnW K d.at_, iniObs K)
def valT (fn : List He.DefD) (i : IniV) : AlT := (true, fn.map He.DefD.val, i)
def fragT (n : Nat) (g : Addr → Option Obj) : PySem.W.Frag := He.frG g (He.asD g n ++ [sysModules, cStatics])
def obsTG (n : Nat) (fb : List Fb) (fn : List He.DefD) (g : Addr → Option Obj) : AlT := obsT fb fn (fragT n g)
def hookT (n : Nat) (fb : List Fb) (fn : List He.DefD) (i : IniV) : PySem.W.Hook where
  α := AlT
  obs := fun s => obsTG n fb fn s.heap.get?
  val := fun _ => valT fn i
  says := fun _ h => ∃ K : PySem.W.Frag, K.In h ∧ obsT fb fn K = valT fn i
  of := fun _ _ e => ⟨_, He.frG_in, e⟩
  keeps := fun _ _ _ ⟨K, hK, c⟩ k => ⟨K, PySem.W.Frag.In.keeps hK k, c⟩
theorem obsT_eq {n : Nat} {fb : List Fb} {fn : List He.DefD} {i : IniV} {g : Addr → Option Obj} {s : Shared} (h : ∀ a, g a = s.heap.get? a) : obsTG n fb fn g = (hookT n fb fn i).obs s := by
  have e : g = s.heap.get? := funext h
  rw [e] <;> rfl
section
variable {fb : List Fb} {fn : List He.DefD} {i : IniV} {K : PySem.W.Frag}
theorem saysT_fact (c : obsT fb fn K = valT fn i) (j : Nat) {f : Fb} (h : fb[j]? = some f := by rfl) : f K = true := by
  have c1 := (Bool.and_eq_true_iff.mp (show ((fb.all fun f => f K) && fn.all fun d => d.ok K) = true from congrArg (fun z : AlT => z.1) c)).1
  exact List.all_eq_true.mp c1 f (List.mem_of_getElem? h)
theorem saysT_ini (c : obsT fb fn K = valT fn i) : iniObs K = i := congrArg (fun z : AlT => z.2.2) c
theorem saysT_def (c : obsT fb fn K = valT fn i) (j : Nat) {d : He.DefD} (h : fn[j]? = some d := by rfl) : ∃ fd, FunD K d.name d.qual d.params d.body d.scope (d.dvs K) (d.kws K) (He.fAd K d.at_) fd := by
  have c2 := (Bool.and_eq_true_iff.mp (show ((fb.all fun f => f K) && fn.all fun d => d.ok K) = true from congrArg (fun z : AlT => z.1) c)).2
  have e : fn.map (fun d => He.fnW K d.at_) = fn.map He.DefD.val := congrArg (fun z : AlT => z.2.1) c
  have e2 : (fn.map fun d => He.fnW K d.at_)[j]? = (fn.map He.DefD.val)[j]? := by rw [e]
  rw [List.getElem?_map, List.getElem?_map, h] at e2
  exact He.DefD.funD (Option.some.inj e2) (List.all_eq_true.mp c2 d (List.mem_of_getElem? h))
end
/-- facts of plain names -/
def freeB (x : Str) (K : PySem.W.Frag) : Bool := (He.Fa.free x).ok K
def gloB (x : Str) (K : PySem.W.Frag) : Bool := (He.Fa.glo x).ok K
def sysB (K : PySem.W.Frag) : Bool := (K.lookup sysModules).isSome
end TL
set_option Elab.async false
set_option linter.all false
set_option maxRecDepth 100000
set_option maxHeartbeats 4000000
/-! The tree layer, part 17: a module's defs, as callers see them. -/
namespace TL
open PySem PySem.Spec PyProof.Rows L2

/-- the module's name x is a def of n arguments that does F -/
structure TDef (P : Program) (w : World) (K : PySem.W.Frag) (mg : Str → Option Value) (base : Heap) (k : Nat) (x : Str) (n : Nat) (F : TF) : Prop where
  ex : ∃ (f : Addr) (fd : FuncData) (ps : List Str), TFn P w K mg base k f fd ps F ∧ mg x = some (.ref f) ∧ PySem.W.keepIn K (.ref f) = true ∧ Binds K fd ps [] ∧ ps.length = n
  len : ∀ ds S, ds.length ≠ n → F ds S = .stuck
section
variable {P : Program} {w : World} {K : PySem.W.Frag} {mg : Str → Option Value} {base : Heap} {x qual : Str} {params : Arguments} {body : List Stmt} {scope : Scope} {f : Addr} {fd : FuncData} {N ps : List Str} {k : Nat} {t : TSx}
theorem tdef_of (F : FunD K x qual params body scope [] [] f fd) (hm : mg x = some (.ref f)) (S : FnScope N ps scope) (hb : Binds K fd ps []) (h : ∀ E, DSs (Sg.of P w K mg base N scope k E) body t) : TDef P w K mg base (k + 1) x ps.length (bodyF ps.length N t) :=
  ⟨⟨f, fd, ps, tfn_of F S h, hm, F.kp, hb, rfl⟩, fun ds S hne => if_neg hne⟩
theorem tdef_none {F : TF} (F0 : FunD K x qual params body scope [] [] f fd) (hm : mg x = some (.ref f)) (hb : Binds K fd ps []) (h : ∀ ds S, F ds S = .stuck) : TDef P w K mg base k x ps.length F :=
  ⟨⟨f, fd, ps, ⟨fun A outer s H args us vs Q E g S ds _ _ _ _ _ _ _ _ hp => by rw [h] at hp; exact hp.elim⟩, hm, F0.kp, hb, rfl⟩, fun ds S _ => h ds S⟩
theorem TDef.mono {j n : Nat} {F : TF} (h : TDef P w K mg base j x n F) (hj : j ≤ k) : TDef P w K mg base k x n F := by
  obtain ⟨f, fd, ps, h1, h2⟩ := h.ex
  exact ⟨⟨f, fd, ps, h1.mono hj, h2⟩, h.len⟩
end
section
variable {z : Sg} {k n : Nat} {x : Str} {F : TF} {e : Expr} {es : List Expr} {p pos : Pos} {ta : TAx}
theorem de_callT (T : TDef z.P z.w z.K z.mg z.base k x n F) (ha : DA z (e :: es) ta) (hk : k ≤ z.lv) (hg : Gz z x := by rfl) (hdb : (x == ("__debug__" : Str)) = false := by decide) (he : ∀ env, starEach (e :: es) env = (false, eval e env) :: starEach es env := by intro _; rfl) (hpl : ∀ env, (backTo pos (starEach es env)).any (·.1) = false := by intro _; rfl) :
    DE z (.Call (.Name x p) (e :: es) [] pos) (eArgs F ta) := by
  obtain ⟨f, fd, ps, h1, h2, h3, h4, h5⟩ := T.ex
  have q := de_call (dfl := []) (p := p) (pos := pos) h1 hk h2 h3 h4 .nil (fun g H => by simp only [RVs]) ha hg hdb he hpl
  have e2 : (fun (vs : List D) (S : List O) => if (vs ++ []).length = ps.length then F (vs ++ []) S else .stuck) = F := by
    funext vs S
    rw [List.append_nil]
    split
    · rfl
    · rename_i hne
      rw [T.len vs S (by rw [← h5]; exact hne)]
  rw [e2] at q
  exact q
end
/-- the law's own def -/
theorem TDef.law {P : Program} {w : World} {K : PySem.W.Frag} {mg : Str → Option Value} {base : Heap} {k : Nat} {x : Str} {F : TF} {fa : Addr} (T : TDef P w K mg base k x 1 F) (hm : mg x = some (.ref fa)) : ∃ fd y, TFn P w K mg base k fa fd [y] F := by
  obtain ⟨f, fd, ps, h1, h2, h3, h4, h5⟩ := T.ex
  rw [hm] at h2
  cases h2
  match ps, h5 with
  | [y], _ => exact ⟨fd, y, h1⟩
end TL
set_option Elab.async false
set_option linter.all false
set_option maxRecDepth 100000
set_option maxHeartbeats 4000000
/-! The tree layer, part 18: reckoning with it (rows for simp). -/
namespace TL
open PySem PySem.Spec PyProof.Rows L2
section
variable {α β : Type} (a b c : TEx) (f : D → D → List O → Out D) (g : D → List O → Out D) (h : List D → List O → Out D) (t u : TTx) (x y : TAx) (s r : TSx) (ρ : Env1) (S : List O) (d : D) (ds : List D) (k : α → List O → Out β) (v : α)
@[simp] theorem bind_ok : (Out.ok v S).bind k = k v S := rfl
@[simp] theorem bind_stuck : (Out.stuck : Out α).bind k = .stuck := rfl
@[simp] theorem bind_exc (C : Str) : (Out.exc C d S : Out α).bind k = .exc C d S := rfl
@[simp] theorem stm_ok (q : α → List O → OutS) : (Out.ok v S).stm ρ q = q v S := rfl
@[simp] theorem test_bl (q : Bool) : (Out.ok (.bl q) S).test = .ok q S := rfl
@[simp] theorem eC_ap : eC d ρ S = .ok d S := rfl
@[simp] theorem eUn_ap : eUn g a ρ S = (a ρ S).bind g := rfl
@[simp] theorem eBin_ap : eBin f a b ρ S = (a ρ S).bind fun p S1 => (b ρ S1).bind fun q S2 => f p q S2 := rfl
@[simp] theorem eArgs_ap : eArgs h x ρ S = (x ρ S).bind h := rfl
@[simp] theorem aNil_ap : aNil ρ S = .ok [] S := rfl
@[simp] theorem aCons_ap : aCons a x ρ S = (a ρ S).bind fun p S1 => (x ρ S1).bind fun q S2 => .ok (p :: q) S2 := rfl
@[simp] theorem eVar_ap {i : Nat} (e : ρ[i]? = some (some d)) : eVar i ρ S = .ok d S := by
  unfold eVar
  rw [e]
@[simp] theorem eIf_ap : eIf t a b ρ S = (t ρ S).bind fun q S1 => if q = true then a ρ S1 else b ρ S1 := rfl
@[simp] theorem tBl_ap : tBl a ρ S = (a ρ S).test := rfl
@[simp] theorem tTru_ap : tTru a ρ S = (a ρ S).bind fun q S1 => match truD S1 q with
  | some b => .ok b S1
  | none => .stuck := rfl
@[simp] theorem tAndT_ap : tAndT t u ρ S = (t ρ S).bind fun q S1 => if q = true then u ρ S1 else .ok false S1 := rfl
@[simp] theorem tOrT_ap : tOrT t u ρ S = (t ρ S).bind fun q S1 => if q = true then .ok true S1 else u ρ S1 := rfl
@[simp] theorem tNotT_ap : tNotT t ρ S = (t ρ S).bind fun q S1 => .ok (!q) S1 := rfl
@[simp] theorem eAnd_ap : eAnd a b ρ S = (a ρ S).bind fun q S1 => match truD S1 q with
  | some true => b ρ S1
  | some false => .ok q S1
  | none => .stuck := rfl
@[simp] theorem eOr_ap : eOr a b ρ S = (a ρ S).bind fun q S1 => match truD S1 q with
  | some true => .ok q S1
  | some false => b ρ S1
  | none => .stuck := rfl
@[simp] theorem eNot_ap : eNot a ρ S = (a ρ S).bind fun q S1 => match truD S1 q with
  | some b => .ok (.bl (!b)) S1
  | none => .stuck := rfl
@[simp] theorem sNext_ap : sNext ρ S = .nx ρ S := rfl
@[simp] theorem sSeq_ap : sSeq s r ρ S = (s ρ S).seq r := rfl
@[simp] theorem seq_nx : (OutS.nx ρ S).seq r = r ρ S := rfl
@[simp] theorem seq_rt : (OutS.rt d S).seq r = .rt d S := rfl
@[simp] theorem seq_bk : (OutS.bk ρ S).seq r = .bk ρ S := rfl
@[simp] theorem seq_ct : (OutS.ct ρ S).seq r = .ct ρ S := rfl
@[simp] theorem sSet_ap (i : Nat) : sSet i a ρ S = (a ρ S).stm ρ fun q S1 => .nx (ρ.set i (some q)) S1 := rfl
@[simp] theorem sRet_ap : sRet a ρ S = (a ρ S).stm ρ fun q S1 => .rt q S1 := rfl
@[simp] theorem sIf_ap : sIf t s r ρ S = (t ρ S).stm ρ fun q S1 => if q = true then s ρ S1 else r ρ S1 := rfl
@[simp] theorem sAsg_ap (w : TGx) : sAsg a w ρ S = (a ρ S).stm ρ fun q S1 => (w q ρ S1).only := rfl
@[simp] theorem only_nx : (OutS.nx ρ S).only = .nx ρ S := rfl
@[simp] theorem gNm_ap (i : Nat) : gNm i d ρ S = .nx (ρ.set i (some d)) S := rfl
@[simp] theorem gsNil_ap : gsNil [] ρ S = .nx ρ S := rfl
@[simp] theorem gsCons_ap (w : TGx) (ws : TGsx) : gsCons w ws (d :: ds) ρ S = (w d ρ S).only.seq (ws ds) := rfl
@[simp] theorem gTp_ap (n : Nat) (ws : TGsx) : gTp n ws (.tup ds) ρ S = if ds.length = n then ws ds ρ S else .stuck := rfl
@[simp] theorem fin_rt : (OutS.rt d S).fin = .ok d S := rfl
@[simp] theorem fin_nx : (OutS.nx ρ S).fin = .ok .non S := rfl
@[simp] theorem bodyF_ap (n : Nat) (N : List Str) : bodyF n N s ds S = if ds.length = n then (s (startD N ds) S).fin else .stuck := rfl
@[simp] theorem startD_ap (N : List Str) : startD N ds = ds.map some ++ List.replicate (N.length - ds.length) none := rfl
@[simp] theorem nox_nx : (OutS.nx ρ S).nox = .ok ρ S := rfl
@[simp] theorem nox_ok : (Out.ok v S).nox = .ok v S := rfl
@[simp] theorem tYes_ap : tYesD ρ S = .ok true S := rfl
@[simp] theorem oNil_ap : oNil ρ S = .ok none S := rfl
@[simp] theorem pNil_ap : pNil ρ S = .ok [] S := rfl
@[simp] theorem turn_nx : (OutS.nx ρ S).turn r = r ρ S := rfl
@[simp] theorem turn_ct : (OutS.ct ρ S).turn r = r ρ S := rfl
@[simp] theorem turn_rt : (OutS.rt d S).turn r = .rt d S := rfl
@[simp] theorem turn_bk : (OutS.bk ρ S).turn r = .nx ρ S := rfl
/-! operations -/
@[simp] theorem int_int (i : Int) : intD [.int i] S = .ok (.int i) S := rfl
@[simp] theorem int_bl (b : Bool) : intD [.bl b] S = .ok (.int (if b = true then 1 else 0)) S := rfl
@[simp] theorem abs_int (i : Int) : absD [.int i] S = .ok (.int (if i < 0 then -i else i)) S := rfl
@[simp] theorem add_int (i j : Int) : addD (.int i) (.int j) S = .ok (.int (i + j)) S := rfl
@[simp] theorem sub_int (i j : Int) : subD (.int i) (.int j) S = .ok (.int (i - j)) S := rfl
@[simp] theorem neg_int (i : Int) : negD (.int i) S = .ok (.int (-i)) S := rfl
@[simp] theorem gt_int (i j : Int) : gtD (.int i) (.int j) S = .ok (.bl (decide (j < i))) S := rfl
@[simp] theorem lt_int (i j : Int) : ltD (.int i) (.int j) S = .ok (.bl (decide (i < j))) S := rfl
@[simp] theorem ge_int (i j : Int) : geD (.int i) (.int j) S = .ok (.bl (decide (j ≤ i))) S := rfl
@[simp] theorem le_int (i j : Int) : leD (.int i) (.int j) S = .ok (.bl (decide (i ≤ j))) S := rfl
@[simp] theorem max2_int (i j : Int) : max2D [.int i, .int j] S = .ok (.int (if j > i then j else i)) S := rfl
@[simp] theorem min2_int (i j : Int) : min2D [.int i, .int j] S = .ok (.int (if j < i then j else i)) S := rfl
theorem mul_int {i j : Int} (e : CMul i j ∨ CMulW i j) : mulD (.int i) (.int j) S = .ok (.int (i * j)) S := if_pos e
theorem mod_int {i j : Int} (e : 0 < j) : modD (.int i) (.int j) S = .ok (.int (i % j)) S := if_pos e
theorem div_int {i j : Int} (e : CDivW i j) : divD (.int i) (.int j) S = .ok (.int (i / j)) S := if_pos e
theorem pow_intD {i j : Int} (e : CPowB i j) : powD (.int i) (.int j) S = .ok (.int (i ^ j.toNat)) S := if_pos e
theorem mkL_false (e : ds.length ≤ sizeLine) : mkL false ds S = .ok (.lst ds) S := if_pos e
theorem mkL_true (e : ds.length ≤ sizeLine) : mkL true ds S = .ok (.hnd S.length) (S ++ [.lst ds]) := if_pos e
theorem mkT_ok' (e : ds.length ≤ sizeLine) : mkT ds S = .ok (.tup ds) S := if_pos e
theorem lsRg1 {own : Bool} {j : Int} (e : RgOk 0 j) : lsRgD own [.int j] S = mkL own (rng 0 j) S := if_pos e
@[simp] theorem eListRg_ap (own : Bool) : eListRg own x ρ S = (x ρ S).bind (lsRgD own) := rfl
theorem small_line {n : Nat} (e : n ≤ 4096) : n ≤ sizeLine := by rw [sizeLine_eq]; omega
end
/-! stores and items -/
theorem ix_hnd {S : List O} {i : Nat} {ds : List D} {k : Int} {d : D} (h : S[i]? = some (.lst ds)) (e : atI ds k = some d) : ixD (.hnd i) (.int k) S = .ok d S := by
  unfold ixD seqOf lstOf
  simp [h, e]
theorem ix_lst {S : List O} {ds : List D} {k : Int} {d : D} (e : atI ds k = some d) : ixD (.lst ds) (.int k) S = .ok d S := by
  unfold ixD seqOf lstOf
  simp [e]
theorem ix_tup {S : List O} {ds : List D} {k : Int} {d : D} (e : atI ds k = some d) : ixD (.tup ds) (.int k) S = .ok d S := by
  unfold ixD seqOf lstOf tupOf
  simp [e]
theorem set_hnd {S : List O} {i : Nat} {ds es : List D} {k : Int} {d : D} (h : S[i]? = some (.lst ds)) (e : putLD ds k d = some es) : setD (.hnd i) (.int k) d S = some (S.set i (.lst es)) := by
  unfold setD
  simp [h, e]
@[simp] theorem gSb_ap (a b : TEx) (v : D) (ρ : Env1) (S : List O) : gSb a b v ρ S = (a ρ S).stm ρ fun x S1 => (b ρ S1).stm ρ fun i S2 => match setD x i v S2 with
  | some S3 => .nx ρ S3
  | none => .stuck := rfl
/-! loops -/
theorem compL_inv {vs : List Nat} {tg : TGx} {tt : TTx} {te : TEx} {ρ : Env1} (I : List O → Prop) (f : D → D) : ∀ (ds acc : List D) (S : List O), (∀ d ∈ ds, ∀ S, I S → ∃ ρ1 S1 S2, tg d (wipeD ρ vs) S = .nx ρ1 S1 ∧ tt ρ1 S1 = .ok true S1 ∧ te ρ1 S1 = .ok (f d) S2 ∧ I S2) → I S →
    ∃ S', compL vs tg tt te ds acc ρ S = .ok (acc ++ ds.map f) S' ∧ I S'
  | [], acc, S, _, h => ⟨S, by simp [compL], h⟩
  | d :: ds, acc, S, q, h => by
    obtain ⟨ρ1, S1, S2, e1, e2, e3, h2⟩ := q d (List.mem_cons_self ..) S h
    obtain ⟨S', e4, h4⟩ := compL_inv I f ds (acc ++ [f d]) S2 (fun x hx => q x (List.mem_cons_of_mem _ hx)) h2
    refine ⟨S', ?_, h4⟩
    unfold compL
    rw [e1]
    simp only [nox_nx, bind_ok, e2, nox_ok, if_true, e3]
    rw [e4]
    simp
theorem compL_pure {vs : List Nat} {tg : TGx} {tt : TTx} {te : TEx} {ρ : Env1} {S : List O} (f : D → D) (ds acc : List D) (q : ∀ d ∈ ds, ∃ ρ1, tg d (wipeD ρ vs) S = .nx ρ1 S ∧ tt ρ1 S = .ok true S ∧ te ρ1 S = .ok (f d) S) : compL vs tg tt te ds acc ρ S = .ok (acc ++ ds.map f) S := by
  obtain ⟨S', e, h⟩ := compL_inv (ρ := ρ) (vs := vs) (tg := tg) (tt := tt) (te := te) (fun S' => S' = S) f ds acc S (fun d hd S' hS => by
    subst hS
    obtain ⟨ρ1, e1, e2, e3⟩ := q d hd
    exact ⟨ρ1, _, _, e1, e2, e3, rfl⟩) rfl
  rw [e, h]
theorem forL_inv {tg : TGx} {tb : TSx} {S : List O} (I : Env1 → Prop) : ∀ (ds : List D) (ρ : Env1), (∀ d ∈ ds, ∀ ρ, I ρ → ∃ ρ1 ρ2, tg d ρ S = .nx ρ1 S ∧ (tb ρ1 S = .nx ρ2 S ∨ tb ρ1 S = .ct ρ2 S) ∧ I ρ2) → I ρ → ∃ ρ', forL tg tb ds ρ S = .nx ρ' S ∧ I ρ'
  | [], ρ, _, h => ⟨ρ, rfl, h⟩
  | d :: ds, ρ, q, h => by
    obtain ⟨ρ1, ρ2, e1, e2, h2⟩ := q d (List.mem_cons_self ..) ρ h
    obtain ⟨ρ', e3, h3⟩ := forL_inv I ds ρ2 (fun x hx => q x (List.mem_cons_of_mem _ hx)) h2
    refine ⟨ρ', ?_, h3⟩
    unfold forL
    rw [e1]
    simp only [only_nx, seq_nx]
    rcases e2 with e2 | e2
    · rw [e2, turn_nx, e3]
    · rw [e2, turn_ct, e3]
@[simp] theorem eLc_ap (own : Bool) (vs : List Nat) (ti : TIx) (tg : TGx) (tt : TTx) (te : TEx) (ρ : Env1) (S : List O) : eLc own vs ti tg tt te ρ S = (ti ρ S).bind fun ds S1 => if ds.length ≤ sizeLine then (compL vs tg tt te ds [] ρ S1).bind (mkL own) else .stuck := rfl
@[simp] theorem sFor_ap (ti : TIx) (tg : TGx) (tb : TSx) (ρ : Env1) (S : List O) : sFor ti tg tb ρ S = (ti ρ S).stm ρ fun ds S1 => forL tg tb ds ρ S1 := rfl
theorem rng_len (a b : Int) : (rng a b).length = (b - a).toNat := by
  unfold rng
  rw [List.length_map, List.length_range]
end TL
set_option Elab.async false
set_option linter.all false
set_option maxRecDepth 100000
set_option maxHeartbeats 0
namespace K00
open PySem PySem.Spec PyProof.Rows L2 TL
abbrev Pg : Program := PySem.Challenge.pw_dialsums_k00_errors_keep_their_values
def top (i : Nat) : Stmt := Pg.main.body.getD i (.Pass ⟨0, 0, 0, 0⟩)
abbrev s_law_pot : Stmt := top 43
def d_law_pot : He.DefD := ⟨("_law_pot", none), "_law_pot", "_law_pot", defArgs s_law_pot, defBody s_law_pot, defScope s_law_pot, [], []⟩
abbrev s_law_take : Stmt := top 44
def d_law_take : He.DefD := ⟨("_law_take", none), "_law_take", "_law_take", defArgs s_law_take, defBody s_law_take, defScope s_law_take, [], []⟩
abbrev s_law_of : Stmt := top 45
def d_law_of : He.DefD := ⟨("_law_of", none), "_law_of", "_law_of", defArgs s_law_of, defBody s_law_of, defScope s_law_of, [], []⟩
abbrev s_law_places : Stmt := top 46
def d_law_places : He.DefD := ⟨("_law_places", none), "_law_places", "_law_places", defArgs s_law_places, defBody s_law_places, defScope s_law_places, [], []⟩
abbrev s_law_odd : Stmt := top 47
def d_law_odd : He.DefD := ⟨("_law_odd", none), "_law_odd", "_law_odd", defArgs s_law_odd, defBody s_law_odd, defScope s_law_odd, [], []⟩
abbrev s_law_bent : Stmt := top 48
def d_law_bent : He.DefD := ⟨("_law_bent", none), "_law_bent", "_law_bent", defArgs s_law_bent, defBody s_law_bent, defScope s_law_bent, [], []⟩
abbrev s_law_all : Stmt := top 49
def d_law_all : He.DefD := ⟨("_law_all", none), "_law_all", "_law_all", defArgs s_law_all, defBody s_law_all, defScope s_law_all, [], []⟩
abbrev s_law_marks : Stmt := top 50
def d_law_marks : He.DefD := ⟨("_law_marks", none), "_law_marks", "_law_marks", defArgs s_law_marks, defBody s_law_marks, defScope s_law_marks, [], []⟩
abbrev s_law_right : Stmt := top 51
def d_law_right : He.DefD := ⟨("_law_right", none), "_law_right", "_law_right", defArgs s_law_right, defBody s_law_right, defScope s_law_right, [], []⟩
abbrev slaw : Stmt := top 52
def dlaw : He.DefD := ⟨("law", none), "law", "law", defArgs slaw, defBody slaw, defScope slaw, [], []⟩
def fn : List He.DefD := [d_law_pot, d_law_take, d_law_of, d_law_places, d_law_odd, d_law_bent, d_law_all, d_law_marks, d_law_right, dlaw]
def ex0 : List PySem.Str := [(PySem.Str.ofString "DialError"), (PySem.Str.ofString "BadParts"), (PySem.Str.ofString "BadNumber"), (PySem.Str.ofString "BadText"), (PySem.Str.ofString "BadName"), (PySem.Str.ofString "BadValues"), (PySem.Str.ofString "BadDial"), (PySem.Str.ofString "BadSum"), (PySem.Str.ofString "BadWhole"), (PySem.Str.ofString "BadShares"), (PySem.Str.ofString "BadOthers"), (PySem.Str.ofString "TooGreat"), (PySem.Str.ofString "BadRows"), (PySem.Str.ofString "BadSums"), (PySem.Str.ofString "BadPlan"), (PySem.Str.ofString "NoNote"), (PySem.Str.ofString "NoPerson"), (PySem.Str.ofString "BadPeople"), (PySem.Str.ofString "BadBy"), (PySem.Str.ofString "NoLine"), (PySem.Str.ofString "BadLine"), (PySem.Str.ofString "Needed"), (PySem.Str.ofString "BadNumbers"), (PySem.Str.ofString "BadFew"), (PySem.Str.ofString "Unlike"), (PySem.Str.ofString "BadSeen"), (PySem.Str.ofString "NoFit"), (PySem.Str.ofString "BadOffers"), (PySem.Str.ofString "BadWishes"), (PySem.Str.ofString "BadRounds"), (PySem.Str.ofString "BadLooks"), (PySem.Str.ofString "BadWord"), (PySem.Str.ofString "TooMany"), (PySem.Str.ofString "BadNote"), (PySem.Str.ofString "Full"), (PySem.Str.ofString "NothingToUndo")]
def ex1 : List PySem.Str := [(PySem.Str.ofString "NothingToRedo"), (PySem.Str.ofString "NoTrial"), (PySem.Str.ofString "BadJournal"), (PySem.Str.ofString "BadDesk"), (PySem.Str.ofString "BadSay")]
def ex : List PySem.Str := ex0 ++ ex1
def ini : IniD := ⟨"__init__", "DialError.__init__", ⟨4, 17, 4, 21⟩, ⟨4, 23, 4, 28⟩, ⟨5, 8, 5, 13⟩, ⟨5, 8, 5, 15⟩, ⟨5, 8, 5, 24⟩, ⟨5, 25, 5, 30⟩, ⟨5, 8, 5, 31⟩, ⟨5, 8, 5, 31⟩, ⟨6, 8, 6, 12⟩, ⟨6, 8, 6, 18⟩, ⟨6, 21, 6, 26⟩, ⟨6, 8, 6, 26⟩⟩
def iniV : IniV := ini.val
def fb0 : List Fb := [sysB, freeB "len", freeB "int", freeB "abs", freeB "max", freeB "min", freeB "list", freeB "range", freeB "isinstance", freeB "str", freeB "repr", freeB "any", freeB "all", freeB "enumerate", freeB "super", freeB "ValueError", freeB "bool", freeB "tuple", gloB "_law_pot", gloB "_law_take", gloB "_law_of", gloB "_law_places", gloB "_law_odd", gloB "_law_bent", gloB "_law_all", gloB "_law_marks", gloB "_law_right", gloB "law", exsB ex, ifnB Pg.main.file]
def fb : List Fb := fb0
def loose0 : List PySem.Str := [(PySem.Str.ofString "DialError"), (PySem.Str.ofString "BadParts"), (PySem.Str.ofString "BadNumber"), (PySem.Str.ofString "BadText"), (PySem.Str.ofString "BadName"), (PySem.Str.ofString "BadValues"), (PySem.Str.ofString "BadDial"), (PySem.Str.ofString "BadSum"), (PySem.Str.ofString "BadWhole"), (PySem.Str.ofString "BadShares"), (PySem.Str.ofString "BadOthers"), (PySem.Str.ofString "TooGreat"), (PySem.Str.ofString "BadRows"), (PySem.Str.ofString "BadSums"), (PySem.Str.ofString "BadPlan"), (PySem.Str.ofString "NoNote"), (PySem.Str.ofString "NoPerson"), (PySem.Str.ofString "BadPeople"), (PySem.Str.ofString "BadBy"), (PySem.Str.ofString "NoLine"), (PySem.Str.ofString "BadLine"), (PySem.Str.ofString "Needed"), (PySem.Str.ofString "BadNumbers"), (PySem.Str.ofString "BadFew"), (PySem.Str.ofString "Unlike"), (PySem.Str.ofString "BadSeen"), (PySem.Str.ofString "NoFit"), (PySem.Str.ofString "BadOffers"), (PySem.Str.ofString "BadWishes"), (PySem.Str.ofString "BadRounds"), (PySem.Str.ofString "BadLooks"), (PySem.Str.ofString "BadWord"), (PySem.Str.ofString "TooMany"), (PySem.Str.ofString "BadNote"), (PySem.Str.ofString "Full"), (PySem.Str.ofString "NothingToUndo")]
def loose1 : List PySem.Str := [(PySem.Str.ofString "NothingToRedo"), (PySem.Str.ofString "NoTrial"), (PySem.Str.ofString "BadJournal"), (PySem.Str.ofString "BadDesk"), (PySem.Str.ofString "BadSay"), (PySem.Str.ofString "_law_pot"), (PySem.Str.ofString "_law_take"), (PySem.Str.ofString "_law_of"), (PySem.Str.ofString "_law_places"), (PySem.Str.ofString "_law_odd"), (PySem.Str.ofString "_law_bent"), (PySem.Str.ofString "_law_all"), (PySem.Str.ofString "_law_marks"), (PySem.Str.ofString "_law_right")]
def loose : List PySem.Str := loose0 ++ loose1
abbrev R : PySem.W.OpenRow := PySem.W.OpenLaw.row PySem.Challenge.rw_dialsums_k00_errors_keep_their_values
abbrev hk : PySem.W.Hook := hookT 4 fb fn iniV
def ob (s : PySem.W.SharedT) : AlT := obsTG 4 fb fn (HandSHeadRun.getT s)
theorem ob_eq (s : PySem.W.SharedT) : ob s = hk.obs s.abs := obsT_eq (HandSHeadRun.getT_eq s)
theorem run (w : World) : HandSHeadRun.RunEq R (PySem.W.view R.prog [52]) hk ob 12000 loose w := by
  intro os
  kernel_rfl
end K00
set_option Elab.async false
set_option linter.all false
set_option maxRecDepth 100000
set_option maxHeartbeats 0
namespace K00
open PySem PySem.Spec PyProof.Rows L2 TL
/-! what the defs do, and that they do it (printed by gen_walk.py) -/
structure Fax (K : PySem.W.Frag) (mg : Str → Option Value) : Prop where
  sys : ∃ os, K.lookup sysModules = some os
  f_len : mg "len" = none
  f_int : mg "int" = none
  f_abs : mg "abs" = none
  f_max : mg "max" = none
  f_min : mg "min" = none
  f_list : mg "list" = none
  f_range : mg "range" = none
  f_isinstance : mg "isinstance" = none
  f_str : mg "str" = none
  f_repr : mg "repr" = none
  f_any : mg "any" = none
  f_all : mg "all" = none
  f_enumerate : mg "enumerate" = none
  f_super : mg "super" = none
  f_ValueError : mg "ValueError" = none
  f_bool : mg "bool" = none
  f_tuple : mg "tuple" = none
  exf : ExF K ex
  ifn : TLI.IFn K Pg (He.ga K dErr) (He.ma K (He.ga K dErr) "__init__")
  cl : ∀ C ∈ ex, mg C = some (.ref (He.ga K C))
  g_law_pot : mg "_law_pot" = some (.ref (He.ga K "_law_pot"))
  g_law_take : mg "_law_take" = some (.ref (He.ga K "_law_take"))
  g_law_of : mg "_law_of" = some (.ref (He.ga K "_law_of"))
  g_law_places : mg "_law_places" = some (.ref (He.ga K "_law_places"))
  g_law_odd : mg "_law_odd" = some (.ref (He.ga K "_law_odd"))
  g_law_bent : mg "_law_bent" = some (.ref (He.ga K "_law_bent"))
  g_law_all : mg "_law_all" = some (.ref (He.ga K "_law_all"))
  g_law_marks : mg "_law_marks" = some (.ref (He.ga K "_law_marks"))
  g_law_right : mg "_law_right" = some (.ref (He.ga K "_law_right"))
  glaw : mg "law" = some (.ref (He.ga K "law"))
def N_law_pot : List Str := ["_law_script", "_law_k", "_law_cell", "_law_own", "_law_small"]
abbrev P_law_pot : List Str := ["_law_script", "_law_k"]
theorem sc_law_pot : FnScope N_law_pot P_law_pot (defScope s_law_pot) := ⟨rfl, rfl, rfl, by decide +kernel, rfl, by decide +kernel, by decide +kernel⟩
def t_law_pot : TSx :=
  (sSeq (sSet 2 (eIf (tBl (eBin ltD (eVar 1) (eArgs lenD (aCons (eVar 0) aNil)))) (eBin ixD (eVar 0) (eVar 1)) (eBin addD (eBin mulD (eC (.int 73)) (eVar 1)) (eC (.int 39)))))
    (sSeq (sSet 3 (eBin mulD (eBin modD (eArgs intD (aCons (eArgs absD (aCons (eVar 2) aNil)) aNil)) (eBin powD (eBin powD (eC (.int 10)) (eC (.int 60))) (eC (.int 5)))) (eArgs intD (aCons (eBin geD (eArgs absD (aCons (eVar 2) aNil)) (eBin powD (eC (.int 10)) (eC (.int 18)))) aNil))))
    (sSeq (sSet 4 (eBin modD (eArgs intD (aCons (eVar 2) aNil)) (eC (.int 2305843009213693951))))
    (sRet (eArgs (mkL true) (aCons (eVar 3) (aCons (eBin modD (eArgs intD (aCons (eBin addD (eBin addD (eBin mulD (eVar 4) (eC (.int 76231))) (eBin mulD (eBin mulD (eC (.int 8219)) (eVar 1)) (eVar 1))) (eC (.int 101))) aNil)) (eC (.int 2305843009213693921))) (aCons (eC (.int 0)) aNil))))))))
def F_law_pot : TF := bodyF 2 N_law_pot t_law_pot
theorem w_law_pot {w : World} {K : PySem.W.Frag} {mg : Str → Option Value} {base : Heap} (V : Fax K mg)  (E : XK) : DSs (Sg.of Pg w K mg base N_law_pot (defScope s_law_pot) 0 E) (defBody s_law_pot) t_law_pot :=
  (dss_cons (ds_set (i := 2) (de_if (dt_lt (dv 1) (de_len V.f_len (da_cons (dv 0) da_nil))) (de_ix (dv 0) (dv 1)) (de_add (de_mul de_int (dv 1)) de_int)))
    (dss_cons (ds_set (i := 3) (de_mul (de_mod (de_intc V.f_int (da_cons (de_abs V.f_abs (da_cons (dv 2) da_nil)) da_nil)) (de_pow (de_pow de_int de_int) de_int)) (de_intc V.f_int (da_cons (de_ge (de_abs V.f_abs (da_cons (dv 2) da_nil)) (de_pow de_int de_int)) da_nil))))
    (dss_cons (ds_set (i := 4) (de_mod (de_intc V.f_int (da_cons (dv 2) da_nil)) de_int))
    (dss_one (ds_ret (de_lst true (da_cons (dv 3) (da_cons (de_mod (de_intc V.f_int (da_cons (de_add (de_add (de_mul (dv 4) de_int) (de_mul (de_mul de_int (dv 1)) (dv 1))) de_int) da_nil)) de_int) (da_cons de_int da_nil)))))))))
theorem T_law_pot {w : World} {K : PySem.W.Frag} {mg : Str → Option Value} {base : Heap} (V : Fax K mg)  {f : Addr} {fd : FuncData} (F : FunD K "_law_pot" "_law_pot" (defArgs s_law_pot) (defBody s_law_pot) (defScope s_law_pot) [] [] f fd) (hf : mg "_law_pot" = some (.ref f)) : TDef Pg w K mg base 1 "_law_pot" 2 F_law_pot :=
  tdef_of F hf sc_law_pot (F.bindsN (ps := P_law_pot) fun _ _ _ _ _ _ us hl => match us, hl with | [_, _], _ => rfl) fun E => w_law_pot V  E
def N_law_take : List Str := ["_law_pot_here", "_law_upto", "_law_digit", "_law_prime", "_law_blend"]
abbrev P_law_take : List Str := ["_law_pot_here", "_law_upto"]
theorem sc_law_take : FnScope N_law_take P_law_take (defScope s_law_take) := ⟨rfl, rfl, rfl, by decide +kernel, rfl, by decide +kernel, by decide +kernel⟩
def t_law_take : TSx :=
  (sSeq (sIf (tBl (eBin gtD (eBin ixD (eVar 0) (eC (.int 0))) (eC (.int 0)))) (sSeq (sSet 2 (eBin modD (eArgs intD (aCons (eBin ixD (eVar 0) (eC (.int 0))) aNil)) (eVar 1)))
    (sSeq (sAsg (eBin divD (eBin ixD (eVar 0) (eC (.int 0))) (eVar 1)) (gSb (eVar 0) (eC (.int 0))))
    (sRet (eVar 2)))) sNext)
    (sSeq (sAsg (eBin addD (eBin ixD (eVar 0) (eC (.int 2))) (eC (.int 1))) (gSb (eVar 0) (eC (.int 2))))
    (sSeq (sSet 3 (eBin ixD (eArgs (mkL false) (aCons (eC (.int 2147483647)) (aCons (eC (.int 2147483629)) (aCons (eC (.int 2147483587)) (aCons (eC (.int 2147483579)) (aCons (eC (.int 2147483563)) aNil)))))) (eBin modD (eArgs intD (aCons (eBin ixD (eVar 0) (eC (.int 2))) aNil)) (eC (.int 5)))))
    (sSeq (sSet 4 (eBin modD (eArgs intD (aCons (eBin powD (eArgs intD (aCons (eBin addD (eBin addD (eBin ixD (eVar 0) (eC (.int 1))) (eBin mulD (eBin mulD (eC (.int 91019)) (eBin ixD (eVar 0) (eC (.int 2)))) (eBin ixD (eVar 0) (eC (.int 2))))) (eC (.int 69))) aNil)) (eC (.int 3))) aNil)) (eVar 3)))
    (sRet (eBin modD (eArgs intD (aCons (eBin divD (eBin mulD (eVar 4) (eBin addD (eBin modD (eArgs intD (aCons (eVar 4) aNil)) (eC (.int 10007))) (eBin mulD (eC (.int 97)) (eBin ixD (eVar 0) (eC (.int 2)))))) (eC (.int 127))) aNil)) (eVar 1)))))))
def F_law_take : TF := bodyF 2 N_law_take t_law_take
theorem w_law_take {w : World} {K : PySem.W.Frag} {mg : Str → Option Value} {base : Heap} (V : Fax K mg)  (E : XK) : DSs (Sg.of Pg w K mg base N_law_take (defScope s_law_take) 0 E) (defBody s_law_take) t_law_take :=
  (dss_cons (ds_if (dt_gt (de_ix (dv 0) de_int) de_int) (dss_cons (ds_set (i := 2) (de_mod (de_intc V.f_int (da_cons (de_ix (dv 0) de_int) da_nil)) (dv 1)))
    (dss_cons (ds_asg (de_div (de_ix (dv 0) de_int) (dv 1)) (dg_sub (dv 0) de_int))
    (dss_one (ds_ret (dv 2))))) dss_nil)
    (dss_cons (ds_asg (de_add (de_ix (dv 0) de_int) de_int) (dg_sub (dv 0) de_int))
    (dss_cons (ds_set (i := 3) (de_ix (de_lst false (da_cons de_int (da_cons de_int (da_cons de_int (da_cons de_int (da_cons de_int da_nil)))))) (de_mod (de_intc V.f_int (da_cons (de_ix (dv 0) de_int) da_nil)) de_int)))
    (dss_cons (ds_set (i := 4) (de_mod (de_intc V.f_int (da_cons (de_pow (de_intc V.f_int (da_cons (de_add (de_add (de_ix (dv 0) de_int) (de_mul (de_mul de_int (de_ix (dv 0) de_int)) (de_ix (dv 0) de_int))) de_int) da_nil)) de_int) da_nil)) (dv 3)))
    (dss_one (ds_ret (de_mod (de_intc V.f_int (da_cons (de_div (de_mul (dv 4) (de_add (de_mod (de_intc V.f_int (da_cons (dv 4) da_nil)) de_int) (de_mul de_int (de_ix (dv 0) de_int)))) de_int) da_nil)) (dv 1))))))))
theorem T_law_take {w : World} {K : PySem.W.Frag} {mg : Str → Option Value} {base : Heap} (V : Fax K mg)  {f : Addr} {fd : FuncData} (F : FunD K "_law_take" "_law_take" (defArgs s_law_take) (defBody s_law_take) (defScope s_law_take) [] [] f fd) (hf : mg "_law_take" = some (.ref f)) : TDef Pg w K mg base 1 "_law_take" 2 F_law_take :=
  tdef_of F hf sc_law_take (F.bindsN (ps := P_law_take) fun _ _ _ _ _ _ us hl => match us, hl with | [_, _], _ => rfl) fun E => w_law_take V  E
def N_law_of : List Str := ["_law_pot_here", "_law_some"]
abbrev P_law_of : List Str := ["_law_pot_here", "_law_some"]
theorem sc_law_of : FnScope N_law_of P_law_of (defScope s_law_of) := ⟨rfl, rfl, rfl, by decide +kernel, rfl, by decide +kernel, by decide +kernel⟩
def t_law_of : TSx :=
  (sRet (eBin ixD (eVar 1) (eArgs F_law_take (aCons (eVar 0) (aCons (eArgs lenD (aCons (eVar 1) aNil)) aNil)))))
def F_law_of : TF := bodyF 2 N_law_of t_law_of
theorem w_law_of {w : World} {K : PySem.W.Frag} {mg : Str → Option Value} {base : Heap} (V : Fax K mg) (c_law_take : TDef Pg w K mg base 1 "_law_take" 2 F_law_take) (E : XK) : DSs (Sg.of Pg w K mg base N_law_of (defScope s_law_of) 1 E) (defBody s_law_of) t_law_of :=
  (dss_one (ds_ret (de_ix (dv 1) (de_callT c_law_take (da_cons (dv 0) (da_cons (de_len V.f_len (da_cons (dv 1) da_nil)) da_nil)) (Nat.le_of_ble_eq_true rfl)))))
theorem T_law_of {w : World} {K : PySem.W.Frag} {mg : Str → Option Value} {base : Heap} (V : Fax K mg) (c_law_take : TDef Pg w K mg base 1 "_law_take" 2 F_law_take) {f : Addr} {fd : FuncData} (F : FunD K "_law_of" "_law_of" (defArgs s_law_of) (defBody s_law_of) (defScope s_law_of) [] [] f fd) (hf : mg "_law_of" = some (.ref f)) : TDef Pg w K mg base 2 "_law_of" 2 F_law_of :=
  tdef_of F hf sc_law_of (F.bindsN (ps := P_law_of) fun _ _ _ _ _ _ us hl => match us, hl with | [_, _], _ => rfl) fun E => w_law_of V c_law_take E
def N_law_places : List Str := ["_law_script", "_law_most"]
abbrev P_law_places : List Str := ["_law_script", "_law_most"]
theorem sc_law_places : FnScope N_law_places P_law_places (defScope s_law_places) := ⟨rfl, rfl, rfl, by decide +kernel, rfl, by decide +kernel, by decide +kernel⟩
def t_law_places : TSx :=
  (sRet (eListRg false (aCons (eArgs max2D (aCons (eC (.int 1)) (aCons (eArgs min2D (aCons (eVar 1) (aCons (eArgs lenD (aCons (eVar 0) aNil)) aNil))) aNil))) aNil)))
def F_law_places : TF := bodyF 2 N_law_places t_law_places
theorem w_law_places {w : World} {K : PySem.W.Frag} {mg : Str → Option Value} {base : Heap} (V : Fax K mg)  (E : XK) : DSs (Sg.of Pg w K mg base N_law_places (defScope s_law_places) 0 E) (defBody s_law_places) t_law_places :=
  (dss_one (ds_ret (de_listRg1 false V.f_list V.f_range (de_max2 V.f_max (da_cons de_int (da_cons (de_min2 V.f_min (da_cons (dv 1) (da_cons (de_len V.f_len (da_cons (dv 0) da_nil)) da_nil))) da_nil))))))
theorem T_law_places {w : World} {K : PySem.W.Frag} {mg : Str → Option Value} {base : Heap} (V : Fax K mg)  {f : Addr} {fd : FuncData} (F : FunD K "_law_places" "_law_places" (defArgs s_law_places) (defBody s_law_places) (defScope s_law_places) [] [] f fd) (hf : mg "_law_places" = some (.ref f)) : TDef Pg w K mg base 1 "_law_places" 2 F_law_places :=
  tdef_of F hf sc_law_places (F.bindsN (ps := P_law_places) fun _ _ _ _ _ _ us hl => match us, hl with | [_, _], _ => rfl) fun E => w_law_places V  E
def N_law_odd : List Str := ["_law_pot_here", "_law_some"]
abbrev P_law_odd : List Str := ["_law_pot_here"]
theorem sc_law_odd : FnScope N_law_odd P_law_odd (defScope s_law_odd) := ⟨rfl, rfl, rfl, by decide +kernel, rfl, by decide +kernel, by decide +kernel⟩
def t_law_odd : TSx :=
  (sSeq (sSet 1 (eArgs (mkL false) (aCons (eC .non) (aCons (eC (.bl true)) (aCons (eC (.bl false)) (aCons (eC (.int 0)) (aCons (eC (.int 1)) (aCons (eUn negD (eC (.int 1))) (aCons (eC (.int 2)) (aCons (eC (.int 7)) (aCons (eC (.str "")) (aCons (eC (.str "x")) (aCons (eC (.str "0")) (aCons (eC (.str "ann")) (aCons (eArgs mkT aNil) (aCons (eArgs (mkL false) aNil) (aCons (fun _ S => mkD false [] S) (aCons (eArgs mkT (aCons (eC (.int 0)) aNil)) (aCons (eArgs mkT (aCons (eArgs mkT aNil) aNil)) (aCons (eArgs (mkL false) (aCons (eC (.int 0)) aNil)) (aCons (eArgs mkT (aCons (eC (.str "x")) (aCons (eC (.int 1)) aNil))) (aCons (eDct false (pCons (eC (.str "x")) (eC (.int 1)) pNil)) aNil))))))))))))))))))))))
    (sRet (eArgs F_law_of (aCons (eVar 0) (aCons (eBin (catD false) (eVar 1) (eArgs (mkL false) (aCons (eArgs mkT (aCons (eArgs mkT (aCons (eC (.str "x")) (aCons (eC (.int 1)) aNil))) aNil)) (aCons (eArgs mkT (aCons (eArgs mkT (aCons (eArgs mkT (aCons (eC (.str "x")) (aCons (eC (.int 1)) aNil))) aNil)) (aCons (eC (.int 0)) aNil))) (aCons (eC (.str "2 x")) (aCons (eArgs mkT (aCons (eC (.str "ann")) aNil)) (aCons (eArgs mkT (aCons (eC .non) aNil)) (aCons (eBin powD (eC (.int 10)) (eC (.int 8))) (aCons (eC (.str "A")) (aCons (eArgs mkT (aCons (eC (.bl true)) aNil)) aNil)))))))))) aNil)))))
def F_law_odd : TF := bodyF 1 N_law_odd t_law_odd
theorem w_law_odd {w : World} {K : PySem.W.Frag} {mg : Str → Option Value} {base : Heap} (V : Fax K mg) (c_law_of : TDef Pg w K mg base 2 "_law_of" 2 F_law_of) (E : XK) : DSs (Sg.of Pg w K mg base N_law_odd (defScope s_law_odd) 2 E) (defBody s_law_odd) t_law_odd :=
  (dss_cons (ds_set (i := 1) (de_lst false (da_cons de_non (da_cons de_bl (da_cons de_bl (da_cons de_int (da_cons de_int (da_cons (de_neg de_int) (da_cons de_int (da_cons de_int (da_cons de_str (da_cons de_str (da_cons de_str (da_cons de_str (da_cons (de_tup da_nil) (da_cons (de_lst false da_nil) (da_cons (de_dct0 false) (da_cons (de_tup (da_cons de_int da_nil)) (da_cons (de_tup (da_cons (de_tup da_nil) da_nil)) (da_cons (de_lst false (da_cons de_int da_nil)) (da_cons (de_tup (da_cons de_str (da_cons de_int da_nil))) (da_cons (de_dct false (dp_cons de_str de_int dp_nil)) da_nil))))))))))))))))))))))
    (dss_one (ds_ret (de_callT c_law_of (da_cons (dv 0) (da_cons (de_cat false (dv 1) (de_lst false (da_cons (de_tup (da_cons (de_tup (da_cons de_str (da_cons de_int da_nil))) da_nil)) (da_cons (de_tup (da_cons (de_tup (da_cons (de_tup (da_cons de_str (da_cons de_int da_nil))) da_nil)) (da_cons de_int da_nil))) (da_cons de_str (da_cons (de_tup (da_cons de_str da_nil)) (da_cons (de_tup (da_cons de_non da_nil)) (da_cons (de_pow de_int de_int) (da_cons de_str (da_cons (de_tup (da_cons de_bl da_nil)) da_nil)))))))))) da_nil)) (Nat.le_of_ble_eq_true rfl)))))
theorem T_law_odd {w : World} {K : PySem.W.Frag} {mg : Str → Option Value} {base : Heap} (V : Fax K mg) (c_law_of : TDef Pg w K mg base 2 "_law_of" 2 F_law_of) {f : Addr} {fd : FuncData} (F : FunD K "_law_odd" "_law_odd" (defArgs s_law_odd) (defBody s_law_odd) (defScope s_law_odd) [] [] f fd) (hf : mg "_law_odd" = some (.ref f)) : TDef Pg w K mg base 3 "_law_odd" 1 F_law_odd :=
  tdef_of F hf sc_law_odd (F.bindsN (ps := P_law_odd) fun _ _ _ _ _ _ us hl => match us, hl with | [_], _ => rfl) fun E => w_law_odd V c_law_of E
def N_law_bent : List Str := ["_law_pot_here", "_law_value", "_law_at", "_law_some"]
abbrev P_law_bent : List Str := ["_law_pot_here", "_law_value"]
theorem sc_law_bent : FnScope N_law_bent P_law_bent (defScope s_law_bent) := ⟨rfl, rfl, rfl, by decide +kernel, rfl, by decide +kernel, by decide +kernel⟩
def t_law_bent (Frec : TF) : TSx :=
  (sSeq (sIf (tAndT (tTru (eArgs isiD (aCons (eVar 1) (aCons (eC (.ty "tuple")) aNil)))) (tAndT (tBl (eBin neD (eVar 1) (eArgs mkT aNil))) (tBl (eBin gtD (eArgs F_law_take (aCons (eVar 0) (aCons (eC (.int 6)) aNil))) (eC (.int 0)))))) (sSeq (sSet 2 (eArgs F_law_take (aCons (eVar 0) (aCons (eArgs lenD (aCons (eVar 1) aNil)) aNil))))
    (sRet (eBin addD (eBin addD (eSl false (eVar 1) oNil (oSome (eVar 2))) (eArgs mkT (aCons (eArgs Frec (aCons (eVar 0) (aCons (eBin ixD (eVar 1) (eVar 2)) aNil))) aNil))) (eSl false (eVar 1) (oSome (eBin addD (eVar 2) (eC (.int 1)))) oNil)))) sNext)
    (sSeq (sIf (tTru (eArgs isiD (aCons (eVar 1) (aCons (eC (.ty "tuple")) aNil)))) (sSeq (sSet 3 (eArgs (mkL false) (aCons (eArgs (listD false) (aCons (eVar 1) aNil)) (aCons (eSl false (eVar 1) (oSome (eC (.int 1))) oNil) (aCons (eSl false (eVar 1) oNil (oSome (eUn negD (eC (.int 1))))) (aCons (eBin addD (eVar 1) (eSl false (eVar 1) (oSome (eUn negD (eC (.int 1)))) oNil)) (aCons (eUn backD (eVar 1)) (aCons (eArgs mkT aNil) (aCons (eBin addD (eVar 1) (eArgs mkT (aCons (eC (.int 0)) aNil))) (aCons (eC .non) aNil))))))))))
    (sRet (eArgs F_law_of (aCons (eVar 0) (aCons (eVar 3) aNil))))) sNext)
    (sSeq (sIf (tTru (eArgs isiD (aCons (eVar 1) (aCons (eC (.ty "str")) aNil)))) (sRet (eArgs F_law_of (aCons (eVar 0) (aCons (eArgs (mkL false) (aCons (eBin addD (eVar 1) (eC (.str "x"))) (aCons (eSl false (eVar 1) oNil (oSome (eUn negD (eC (.int 1))))) (aCons (eUn upperD (eVar 1)) (aCons (eBin addD (eVar 1) (eC (.str " "))) (aCons (eArgs (mkL false) (aCons (eVar 1) aNil)) (aCons (eC (.str "x")) (aCons (eC (.str "zq")) (aCons (eC .non) (aCons (eC (.int 0)) aNil)))))))))) aNil)))) sNext)
    (sSeq (sIf (tTru (eArgs isiD (aCons (eVar 1) (aCons (eC (.ty "bool")) aNil)))) (sRet (eArgs F_law_of (aCons (eVar 0) (aCons (eArgs (mkL false) (aCons (eNot (eVar 1)) (aCons (eArgs intD (aCons (eVar 1) aNil)) (aCons (eC .non) aNil)))) aNil)))) sNext)
    (sSeq (sIf (tTru (eArgs isiD (aCons (eVar 1) (aCons (eC (.ty "int")) aNil)))) (sRet (eArgs F_law_of (aCons (eVar 0) (aCons (eArgs (mkL false) (aCons (eBin addD (eVar 1) (eC (.int 1))) (aCons (eBin subD (eVar 1) (eC (.int 1))) (aCons (eBin eqD (eVar 1) (eC (.int 1))) (aCons (eArgs strD (aCons (eVar 1) aNil)) (aCons (eUn negD (eC (.int 1))) (aCons (eC (.int 5)) (aCons (eC (.int 0)) (aCons (eUn negD (eVar 1)) (aCons (eC .non) (aCons (eArgs mkT (aCons (eVar 1) aNil)) aNil))))))))))) aNil)))) sNext)
    (sRet (eArgs F_law_odd (aCons (eVar 0) aNil))))))))
def F_law_bent : Nat → TF
  | 0 => fun _ _ => .stuck
  | n + 1 => bodyF 2 N_law_bent (t_law_bent (F_law_bent n))
theorem w_law_bent {w : World} {K : PySem.W.Frag} {mg : Str → Option Value} {base : Heap} (V : Fax K mg) (c_law_odd : TDef Pg w K mg base 3 "_law_odd" 1 F_law_odd) (c_law_of : TDef Pg w K mg base 2 "_law_of" 2 F_law_of) (c_law_take : TDef Pg w K mg base 1 "_law_take" 2 F_law_take) (k : Nat) (k0 : 3 ≤ k) {Frec : TF} {j : Nat} (Trec : TDef Pg w K mg base j "_law_bent" 2 Frec) (hk : j ≤ k) (E : XK) : DSs (Sg.of Pg w K mg base N_law_bent (defScope s_law_bent) k E) (defBody s_law_bent) (t_law_bent Frec) :=
  (dss_cons (ds_if (dw_and (dt_tru (de_isi V.f_isinstance (da_cons (dv 1) (da_cons (de_gty V.f_tuple (by decide +kernel)) da_nil)))) (dw_and (dt_ne (dv 1) (de_tup da_nil)) (dw_and1 (dt_gt (de_callT c_law_take (da_cons (dv 0) (da_cons de_int da_nil)) (Nat.le_trans (by decide) k0)) de_int)))).dt (dss_cons (ds_set (i := 2) (de_callT c_law_take (da_cons (dv 0) (da_cons (de_len V.f_len (da_cons (dv 1) da_nil)) da_nil)) (Nat.le_trans (by decide) k0)))
    (dss_one (ds_ret (de_add (de_add (de_sl false (dv 1) do_nil (do_some (dv 2))) (de_tup (da_cons (de_callT Trec (da_cons (dv 0) (da_cons (de_ix (dv 1) (dv 2)) da_nil)) hk) da_nil))) (de_sl false (dv 1) (do_some (de_add (dv 2) de_int)) do_nil))))) dss_nil)
    (dss_cons (ds_if (dt_tru (de_isi V.f_isinstance (da_cons (dv 1) (da_cons (de_gty V.f_tuple (by decide +kernel)) da_nil)))) (dss_cons (ds_set (i := 3) (de_lst false (da_cons (de_list false V.f_list (da_cons (dv 1) da_nil)) (da_cons (de_sl false (dv 1) (do_some de_int) do_nil) (da_cons (de_sl false (dv 1) do_nil (do_some (de_neg de_int))) (da_cons (de_add (dv 1) (de_sl false (dv 1) (do_some (de_neg de_int)) do_nil)) (da_cons (de_backT (dv 1)) (da_cons (de_tup da_nil) (da_cons (de_add (dv 1) (de_tup (da_cons de_int da_nil))) (da_cons de_non da_nil))))))))))
    (dss_one (ds_ret (de_callT c_law_of (da_cons (dv 0) (da_cons (dv 3) da_nil)) (Nat.le_trans (by decide) k0))))) dss_nil)
    (dss_cons (ds_if (dt_tru (de_isi V.f_isinstance (da_cons (dv 1) (da_cons (de_gty V.f_str (by decide +kernel)) da_nil)))) (dss_one (ds_ret (de_callT c_law_of (da_cons (dv 0) (da_cons (de_lst false (da_cons (de_add (dv 1) de_str) (da_cons (de_sl false (dv 1) do_nil (do_some (de_neg de_int))) (da_cons (de_upper (dv 1)) (da_cons (de_add (dv 1) de_str) (da_cons (de_lst false (da_cons (dv 1) da_nil)) (da_cons de_str (da_cons de_str (da_cons de_non (da_cons de_int da_nil)))))))))) da_nil)) (Nat.le_trans (by decide) k0)))) dss_nil)
    (dss_cons (ds_if (dt_tru (de_isi V.f_isinstance (da_cons (dv 1) (da_cons (de_gty V.f_bool (by decide +kernel)) da_nil)))) (dss_one (ds_ret (de_callT c_law_of (da_cons (dv 0) (da_cons (de_lst false (da_cons (de_not (dv 1)) (da_cons (de_intc V.f_int (da_cons (dv 1) da_nil)) (da_cons de_non da_nil)))) da_nil)) (Nat.le_trans (by decide) k0)))) dss_nil)
    (dss_cons (ds_if (dt_tru (de_isi V.f_isinstance (da_cons (dv 1) (da_cons (de_gty V.f_int (by decide +kernel)) da_nil)))) (dss_one (ds_ret (de_callT c_law_of (da_cons (dv 0) (da_cons (de_lst false (da_cons (de_add (dv 1) de_int) (da_cons (de_sub (dv 1) de_int) (da_cons (de_eq (dv 1) de_int) (da_cons (de_strc V.f_str (da_cons (dv 1) da_nil)) (da_cons (de_neg de_int) (da_cons de_int (da_cons de_int (da_cons (de_neg (dv 1)) (da_cons de_non (da_cons (de_tup (da_cons (dv 1) da_nil)) da_nil))))))))))) da_nil)) (Nat.le_trans (by decide) k0)))) dss_nil)
    (dss_one (ds_ret (de_callT c_law_odd (da_cons (dv 0) da_nil) (Nat.le_trans (by decide) k0)))))))))
theorem T_law_bent {w : World} {K : PySem.W.Frag} {mg : Str → Option Value} {base : Heap} (V : Fax K mg) (c_law_odd : TDef Pg w K mg base 3 "_law_odd" 1 F_law_odd) (c_law_of : TDef Pg w K mg base 2 "_law_of" 2 F_law_of) (c_law_take : TDef Pg w K mg base 1 "_law_take" 2 F_law_take) {f : Addr} {fd : FuncData} (F : FunD K "_law_bent" "_law_bent" (defArgs s_law_bent) (defBody s_law_bent) (defScope s_law_bent) [] [] f fd) (hf : mg "_law_bent" = some (.ref f)) : ∀ n : Nat, TDef Pg w K mg base (3 + n) "_law_bent" 2 (F_law_bent n)
  | 0 => tdef_none F hf (F.bindsN (ps := P_law_bent) fun _ _ _ _ _ _ us hl => match us, hl with | [_, _], _ => rfl) fun _ _ => rfl
  | n + 1 => tdef_of F hf sc_law_bent (F.bindsN (ps := P_law_bent) fun _ _ _ _ _ _ us hl => match us, hl with | [_, _], _ => rfl) fun E => w_law_bent V c_law_odd c_law_of c_law_take (3 + n) (by omega) (T_law_bent V c_law_odd c_law_of c_law_take F hf n) (by show _ ≤ _; exact Nat.le_refl _) E
def N_law_all : List Str := ["_law_value", "_law_found"]
abbrev P_law_all : List Str := ["_law_value"]
theorem sc_law_all : FnScope N_law_all P_law_all (defScope s_law_all) := ⟨rfl, rfl, rfl, by decide +kernel, rfl, by decide +kernel, by decide +kernel⟩
def t_law_all : TSx :=
  (sSeq (sSet 1 (eArgs (mkL false) (aCons (eUn (mkE "BadParts") (eVar 0)) (aCons (eUn (mkE "BadNumber") (eVar 0)) (aCons (eUn (mkE "BadText") (eVar 0)) (aCons (eUn (mkE "BadName") (eVar 0)) (aCons (eUn (mkE "BadValues") (eVar 0)) (aCons (eUn (mkE "BadDial") (eVar 0)) aNil))))))))
    (sSeq (sSet 1 (eBin (catD false) (eVar 1) (eArgs (mkL false) (aCons (eUn (mkE "BadSum") (eVar 0)) (aCons (eUn (mkE "BadWhole") (eVar 0)) (aCons (eUn (mkE "BadShares") (eVar 0)) (aCons (eUn (mkE "BadOthers") (eVar 0)) (aCons (eUn (mkE "TooGreat") (eVar 0)) aNil))))))))
    (sSeq (sSet 1 (eBin (catD false) (eVar 1) (eArgs (mkL false) (aCons (eUn (mkE "BadRows") (eVar 0)) (aCons (eUn (mkE "BadSums") (eVar 0)) (aCons (eUn (mkE "BadPlan") (eVar 0)) (aCons (eUn (mkE "NoNote") (eVar 0)) (aCons (eUn (mkE "NoPerson") (eVar 0)) aNil))))))))
    (sSeq (sSet 1 (eBin (catD false) (eVar 1) (eArgs (mkL false) (aCons (eUn (mkE "BadPeople") (eVar 0)) (aCons (eUn (mkE "BadBy") (eVar 0)) (aCons (eUn (mkE "NoLine") (eVar 0)) (aCons (eUn (mkE "BadLine") (eVar 0)) (aCons (eUn (mkE "Needed") (eVar 0)) aNil))))))))
    (sSeq (sSet 1 (eBin (catD false) (eVar 1) (eArgs (mkL false) (aCons (eUn (mkE "BadNumbers") (eVar 0)) (aCons (eUn (mkE "BadFew") (eVar 0)) (aCons (eUn (mkE "Unlike") (eVar 0)) (aCons (eUn (mkE "BadSeen") (eVar 0)) (aCons (eUn (mkE "NoFit") (eVar 0)) aNil))))))))
    (sSeq (sSet 1 (eBin (catD false) (eVar 1) (eArgs (mkL false) (aCons (eUn (mkE "BadOffers") (eVar 0)) (aCons (eUn (mkE "BadWishes") (eVar 0)) (aCons (eUn (mkE "BadRounds") (eVar 0)) (aCons (eUn (mkE "BadLooks") (eVar 0)) (aCons (eUn (mkE "BadWord") (eVar 0)) aNil))))))))
    (sSeq (sSet 1 (eBin (catD false) (eVar 1) (eArgs (mkL false) (aCons (eUn (mkE "TooMany") (eVar 0)) (aCons (eUn (mkE "BadNote") (eVar 0)) (aCons (eUn (mkE "Full") (eVar 0)) (aCons (eUn (mkE "NothingToUndo") (eVar 0)) (aCons (eUn (mkE "NothingToRedo") (eVar 0)) aNil))))))))
    (sRet (eBin (catD false) (eVar 1) (eArgs (mkL false) (aCons (eUn (mkE "NoTrial") (eVar 0)) (aCons (eUn (mkE "BadJournal") (eVar 0)) (aCons (eUn (mkE "BadDesk") (eVar 0)) (aCons (eUn (mkE "BadSay") (eVar 0)) aNil))))))))))))))
def F_law_all : TF := bodyF 1 N_law_all t_law_all
theorem w_law_all {w : World} {K : PySem.W.Frag} {mg : Str → Option Value} {base : Heap} (V : Fax K mg)  (E : XK) : DSs (Sg.of Pg w K mg base N_law_all (defScope s_law_all) 1 E) (defBody s_law_all) t_law_all :=
  (dss_cons (ds_set (i := 1) (de_lst false (da_cons (de_mkE V.ifn (V.exf.one _ (by decide)).ic V.f_super (V.cl _ (by decide)) (Nat.le_of_ble_eq_true rfl) (dv 0)) (da_cons (de_mkE V.ifn (V.exf.one _ (by decide)).ic V.f_super (V.cl _ (by decide)) (Nat.le_of_ble_eq_true rfl) (dv 0)) (da_cons (de_mkE V.ifn (V.exf.one _ (by decide)).ic V.f_super (V.cl _ (by decide)) (Nat.le_of_ble_eq_true rfl) (dv 0)) (da_cons (de_mkE V.ifn (V.exf.one _ (by decide)).ic V.f_super (V.cl _ (by decide)) (Nat.le_of_ble_eq_true rfl) (dv 0)) (da_cons (de_mkE V.ifn (V.exf.one _ (by decide)).ic V.f_super (V.cl _ (by decide)) (Nat.le_of_ble_eq_true rfl) (dv 0)) (da_cons (de_mkE V.ifn (V.exf.one _ (by decide)).ic V.f_super (V.cl _ (by decide)) (Nat.le_of_ble_eq_true rfl) (dv 0)) da_nil))))))))
    (dss_cons (ds_set (i := 1) (de_cat false (dv 1) (de_lst false (da_cons (de_mkE V.ifn (V.exf.one _ (by decide)).ic V.f_super (V.cl _ (by decide)) (Nat.le_of_ble_eq_true rfl) (dv 0)) (da_cons (de_mkE V.ifn (V.exf.one _ (by decide)).ic V.f_super (V.cl _ (by decide)) (Nat.le_of_ble_eq_true rfl) (dv 0)) (da_cons (de_mkE V.ifn (V.exf.one _ (by decide)).ic V.f_super (V.cl _ (by decide)) (Nat.le_of_ble_eq_true rfl) (dv 0)) (da_cons (de_mkE V.ifn (V.exf.one _ (by decide)).ic V.f_super (V.cl _ (by decide)) (Nat.le_of_ble_eq_true rfl) (dv 0)) (da_cons (de_mkE V.ifn (V.exf.one _ (by decide)).ic V.f_super (V.cl _ (by decide)) (Nat.le_of_ble_eq_true rfl) (dv 0)) da_nil))))))))
    (dss_cons (ds_set (i := 1) (de_cat false (dv 1) (de_lst false (da_cons (de_mkE V.ifn (V.exf.one _ (by decide)).ic V.f_super (V.cl _ (by decide)) (Nat.le_of_ble_eq_true rfl) (dv 0)) (da_cons (de_mkE V.ifn (V.exf.one _ (by decide)).ic V.f_super (V.cl _ (by decide)) (Nat.le_of_ble_eq_true rfl) (dv 0)) (da_cons (de_mkE V.ifn (V.exf.one _ (by decide)).ic V.f_super (V.cl _ (by decide)) (Nat.le_of_ble_eq_true rfl) (dv 0)) (da_cons (de_mkE V.ifn (V.exf.one _ (by decide)).ic V.f_super (V.cl _ (by decide)) (Nat.le_of_ble_eq_true rfl) (dv 0)) (da_cons (de_mkE V.ifn (V.exf.one _ (by decide)).ic V.f_super (V.cl _ (by decide)) (Nat.le_of_ble_eq_true rfl) (dv 0)) da_nil))))))))
    (dss_cons (ds_set (i := 1) (de_cat false (dv 1) (de_lst false (da_cons (de_mkE V.ifn (V.exf.one _ (by decide)).ic V.f_super (V.cl _ (by decide)) (Nat.le_of_ble_eq_true rfl) (dv 0)) (da_cons (de_mkE V.ifn (V.exf.one _ (by decide)).ic V.f_super (V.cl _ (by decide)) (Nat.le_of_ble_eq_true rfl) (dv 0)) (da_cons (de_mkE V.ifn (V.exf.one _ (by decide)).ic V.f_super (V.cl _ (by decide)) (Nat.le_of_ble_eq_true rfl) (dv 0)) (da_cons (de_mkE V.ifn (V.exf.one _ (by decide)).ic V.f_super (V.cl _ (by decide)) (Nat.le_of_ble_eq_true rfl) (dv 0)) (da_cons (de_mkE V.ifn (V.exf.one _ (by decide)).ic V.f_super (V.cl _ (by decide)) (Nat.le_of_ble_eq_true rfl) (dv 0)) da_nil))))))))
    (dss_cons (ds_set (i := 1) (de_cat false (dv 1) (de_lst false (da_cons (de_mkE V.ifn (V.exf.one _ (by decide)).ic V.f_super (V.cl _ (by decide)) (Nat.le_of_ble_eq_true rfl) (dv 0)) (da_cons (de_mkE V.ifn (V.exf.one _ (by decide)).ic V.f_super (V.cl _ (by decide)) (Nat.le_of_ble_eq_true rfl) (dv 0)) (da_cons (de_mkE V.ifn (V.exf.one _ (by decide)).ic V.f_super (V.cl _ (by decide)) (Nat.le_of_ble_eq_true rfl) (dv 0)) (da_cons (de_mkE V.ifn (V.exf.one _ (by decide)).ic V.f_super (V.cl _ (by decide)) (Nat.le_of_ble_eq_true rfl) (dv 0)) (da_cons (de_mkE V.ifn (V.exf.one _ (by decide)).ic V.f_super (V.cl _ (by decide)) (Nat.le_of_ble_eq_true rfl) (dv 0)) da_nil))))))))
    (dss_cons (ds_set (i := 1) (de_cat false (dv 1) (de_lst false (da_cons (de_mkE V.ifn (V.exf.one _ (by decide)).ic V.f_super (V.cl _ (by decide)) (Nat.le_of_ble_eq_true rfl) (dv 0)) (da_cons (de_mkE V.ifn (V.exf.one _ (by decide)).ic V.f_super (V.cl _ (by decide)) (Nat.le_of_ble_eq_true rfl) (dv 0)) (da_cons (de_mkE V.ifn (V.exf.one _ (by decide)).ic V.f_super (V.cl _ (by decide)) (Nat.le_of_ble_eq_true rfl) (dv 0)) (da_cons (de_mkE V.ifn (V.exf.one _ (by decide)).ic V.f_super (V.cl _ (by decide)) (Nat.le_of_ble_eq_true rfl) (dv 0)) (da_cons (de_mkE V.ifn (V.exf.one _ (by decide)).ic V.f_super (V.cl _ (by decide)) (Nat.le_of_ble_eq_true rfl) (dv 0)) da_nil))))))))
    (dss_cons (ds_set (i := 1) (de_cat false (dv 1) (de_lst false (da_cons (de_mkE V.ifn (V.exf.one _ (by decide)).ic V.f_super (V.cl _ (by decide)) (Nat.le_of_ble_eq_true rfl) (dv 0)) (da_cons (de_mkE V.ifn (V.exf.one _ (by decide)).ic V.f_super (V.cl _ (by decide)) (Nat.le_of_ble_eq_true rfl) (dv 0)) (da_cons (de_mkE V.ifn (V.exf.one _ (by decide)).ic V.f_super (V.cl _ (by decide)) (Nat.le_of_ble_eq_true rfl) (dv 0)) (da_cons (de_mkE V.ifn (V.exf.one _ (by decide)).ic V.f_super (V.cl _ (by decide)) (Nat.le_of_ble_eq_true rfl) (dv 0)) (da_cons (de_mkE V.ifn (V.exf.one _ (by decide)).ic V.f_super (V.cl _ (by decide)) (Nat.le_of_ble_eq_true rfl) (dv 0)) da_nil))))))))
    (dss_one (ds_ret (de_cat false (dv 1) (de_lst false (da_cons (de_mkE V.ifn (V.exf.one _ (by decide)).ic V.f_super (V.cl _ (by decide)) (Nat.le_of_ble_eq_true rfl) (dv 0)) (da_cons (de_mkE V.ifn (V.exf.one _ (by decide)).ic V.f_super (V.cl _ (by decide)) (Nat.le_of_ble_eq_true rfl) (dv 0)) (da_cons (de_mkE V.ifn (V.exf.one _ (by decide)).ic V.f_super (V.cl _ (by decide)) (Nat.le_of_ble_eq_true rfl) (dv 0)) (da_cons (de_mkE V.ifn (V.exf.one _ (by decide)).ic V.f_super (V.cl _ (by decide)) (Nat.le_of_ble_eq_true rfl) (dv 0)) da_nil)))))))))))))))
theorem T_law_all {w : World} {K : PySem.W.Frag} {mg : Str → Option Value} {base : Heap} (V : Fax K mg)  {f : Addr} {fd : FuncData} (F : FunD K "_law_all" "_law_all" (defArgs s_law_all) (defBody s_law_all) (defScope s_law_all) [] [] f fd) (hf : mg "_law_all" = some (.ref f)) : TDef Pg w K mg base 2 "_law_all" 1 F_law_all :=
  tdef_of F hf sc_law_all (F.bindsN (ps := P_law_all) fun _ _ _ _ _ _ us hl => match us, hl with | [_], _ => rfl) fun E => w_law_all V  E
def N_law_marks : List Str := ["_law_error", "_law_found"]
abbrev P_law_marks : List Str := ["_law_error"]
theorem sc_law_marks : FnScope N_law_marks P_law_marks (defScope s_law_marks) := ⟨rfl, rfl, rfl, by decide +kernel, rfl, by decide +kernel, by decide +kernel⟩
def t_law_marks : TSx :=
  (sSeq (sSet 1 (eArgs (mkL false) (aCons (eArgs (isiE ex) (aCons (eVar 0) (aCons (eC (.cls "BadParts")) aNil))) (aCons (eArgs (isiE ex) (aCons (eVar 0) (aCons (eC (.cls "BadNumber")) aNil))) (aCons (eArgs (isiE ex) (aCons (eVar 0) (aCons (eC (.cls "BadText")) aNil))) aNil)))))
    (sSeq (sSet 1 (eBin (catD false) (eVar 1) (eArgs (mkL false) (aCons (eArgs (isiE ex) (aCons (eVar 0) (aCons (eC (.cls "BadName")) aNil))) (aCons (eArgs (isiE ex) (aCons (eVar 0) (aCons (eC (.cls "BadValues")) aNil))) (aCons (eArgs (isiE ex) (aCons (eVar 0) (aCons (eC (.cls "BadDial")) aNil))) aNil))))))
    (sSeq (sSet 1 (eBin (catD false) (eVar 1) (eArgs (mkL false) (aCons (eArgs (isiE ex) (aCons (eVar 0) (aCons (eC (.cls "BadSum")) aNil))) (aCons (eArgs (isiE ex) (aCons (eVar 0) (aCons (eC (.cls "BadWhole")) aNil))) (aCons (eArgs (isiE ex) (aCons (eVar 0) (aCons (eC (.cls "BadShares")) aNil))) aNil))))))
    (sSeq (sSet 1 (eBin (catD false) (eVar 1) (eArgs (mkL false) (aCons (eArgs (isiE ex) (aCons (eVar 0) (aCons (eC (.cls "BadOthers")) aNil))) (aCons (eArgs (isiE ex) (aCons (eVar 0) (aCons (eC (.cls "TooGreat")) aNil))) (aCons (eArgs (isiE ex) (aCons (eVar 0) (aCons (eC (.cls "BadRows")) aNil))) aNil))))))
    (sSeq (sSet 1 (eBin (catD false) (eVar 1) (eArgs (mkL false) (aCons (eArgs (isiE ex) (aCons (eVar 0) (aCons (eC (.cls "BadSums")) aNil))) (aCons (eArgs (isiE ex) (aCons (eVar 0) (aCons (eC (.cls "BadPlan")) aNil))) (aCons (eArgs (isiE ex) (aCons (eVar 0) (aCons (eC (.cls "NoNote")) aNil))) aNil))))))
    (sSeq (sSet 1 (eBin (catD false) (eVar 1) (eArgs (mkL false) (aCons (eArgs (isiE ex) (aCons (eVar 0) (aCons (eC (.cls "NoPerson")) aNil))) (aCons (eArgs (isiE ex) (aCons (eVar 0) (aCons (eC (.cls "BadPeople")) aNil))) (aCons (eArgs (isiE ex) (aCons (eVar 0) (aCons (eC (.cls "BadBy")) aNil))) aNil))))))
    (sSeq (sSet 1 (eBin (catD false) (eVar 1) (eArgs (mkL false) (aCons (eArgs (isiE ex) (aCons (eVar 0) (aCons (eC (.cls "NoLine")) aNil))) (aCons (eArgs (isiE ex) (aCons (eVar 0) (aCons (eC (.cls "BadLine")) aNil))) (aCons (eArgs (isiE ex) (aCons (eVar 0) (aCons (eC (.cls "Needed")) aNil))) aNil))))))
    (sSeq (sSet 1 (eBin (catD false) (eVar 1) (eArgs (mkL false) (aCons (eArgs (isiE ex) (aCons (eVar 0) (aCons (eC (.cls "BadNumbers")) aNil))) (aCons (eArgs (isiE ex) (aCons (eVar 0) (aCons (eC (.cls "BadFew")) aNil))) (aCons (eArgs (isiE ex) (aCons (eVar 0) (aCons (eC (.cls "Unlike")) aNil))) aNil))))))
    (sSeq (sSet 1 (eBin (catD false) (eVar 1) (eArgs (mkL false) (aCons (eArgs (isiE ex) (aCons (eVar 0) (aCons (eC (.cls "BadSeen")) aNil))) (aCons (eArgs (isiE ex) (aCons (eVar 0) (aCons (eC (.cls "NoFit")) aNil))) (aCons (eArgs (isiE ex) (aCons (eVar 0) (aCons (eC (.cls "BadOffers")) aNil))) aNil))))))
    (sSeq (sSet 1 (eBin (catD false) (eVar 1) (eArgs (mkL false) (aCons (eArgs (isiE ex) (aCons (eVar 0) (aCons (eC (.cls "BadWishes")) aNil))) (aCons (eArgs (isiE ex) (aCons (eVar 0) (aCons (eC (.cls "BadRounds")) aNil))) (aCons (eArgs (isiE ex) (aCons (eVar 0) (aCons (eC (.cls "BadLooks")) aNil))) aNil))))))
    (sSeq (sSet 1 (eBin (catD false) (eVar 1) (eArgs (mkL false) (aCons (eArgs (isiE ex) (aCons (eVar 0) (aCons (eC (.cls "BadWord")) aNil))) (aCons (eArgs (isiE ex) (aCons (eVar 0) (aCons (eC (.cls "TooMany")) aNil))) (aCons (eArgs (isiE ex) (aCons (eVar 0) (aCons (eC (.cls "BadNote")) aNil))) aNil))))))
    (sSeq (sSet 1 (eBin (catD false) (eVar 1) (eArgs (mkL false) (aCons (eArgs (isiE ex) (aCons (eVar 0) (aCons (eC (.cls "Full")) aNil))) (aCons (eArgs (isiE ex) (aCons (eVar 0) (aCons (eC (.cls "NothingToUndo")) aNil))) (aCons (eArgs (isiE ex) (aCons (eVar 0) (aCons (eC (.cls "NothingToRedo")) aNil))) aNil))))))
    (sSeq (sSet 1 (eBin (catD false) (eVar 1) (eArgs (mkL false) (aCons (eArgs (isiE ex) (aCons (eVar 0) (aCons (eC (.cls "NoTrial")) aNil))) (aCons (eArgs (isiE ex) (aCons (eVar 0) (aCons (eC (.cls "BadJournal")) aNil))) (aCons (eArgs (isiE ex) (aCons (eVar 0) (aCons (eC (.cls "BadDesk")) aNil))) aNil))))))
    (sRet (eBin (catD false) (eVar 1) (eArgs (mkL false) (aCons (eArgs (isiE ex) (aCons (eVar 0) (aCons (eC (.cls "BadSay")) aNil))) aNil)))))))))))))))))
def F_law_marks : TF := bodyF 1 N_law_marks t_law_marks
theorem w_law_marks {w : World} {K : PySem.W.Frag} {mg : Str → Option Value} {base : Heap} (V : Fax K mg)  (E : XK) : DSs (Sg.of Pg w K mg base N_law_marks (defScope s_law_marks) 1 E) (defBody s_law_marks) t_law_marks :=
  (dss_cons (ds_set (i := 1) (de_lst false (da_cons (de_isE V.exf V.f_isinstance (da_cons (dv 0) (da_cons (de_gcls (V.cl _ (by decide))) da_nil))) (da_cons (de_isE V.exf V.f_isinstance (da_cons (dv 0) (da_cons (de_gcls (V.cl _ (by decide))) da_nil))) (da_cons (de_isE V.exf V.f_isinstance (da_cons (dv 0) (da_cons (de_gcls (V.cl _ (by decide))) da_nil))) da_nil)))))
    (dss_cons (ds_set (i := 1) (de_cat false (dv 1) (de_lst false (da_cons (de_isE V.exf V.f_isinstance (da_cons (dv 0) (da_cons (de_gcls (V.cl _ (by decide))) da_nil))) (da_cons (de_isE V.exf V.f_isinstance (da_cons (dv 0) (da_cons (de_gcls (V.cl _ (by decide))) da_nil))) (da_cons (de_isE V.exf V.f_isinstance (da_cons (dv 0) (da_cons (de_gcls (V.cl _ (by decide))) da_nil))) da_nil))))))
    (dss_cons (ds_set (i := 1) (de_cat false (dv 1) (de_lst false (da_cons (de_isE V.exf V.f_isinstance (da_cons (dv 0) (da_cons (de_gcls (V.cl _ (by decide))) da_nil))) (da_cons (de_isE V.exf V.f_isinstance (da_cons (dv 0) (da_cons (de_gcls (V.cl _ (by decide))) da_nil))) (da_cons (de_isE V.exf V.f_isinstance (da_cons (dv 0) (da_cons (de_gcls (V.cl _ (by decide))) da_nil))) da_nil))))))
    (dss_cons (ds_set (i := 1) (de_cat false (dv 1) (de_lst false (da_cons (de_isE V.exf V.f_isinstance (da_cons (dv 0) (da_cons (de_gcls (V.cl _ (by decide))) da_nil))) (da_cons (de_isE V.exf V.f_isinstance (da_cons (dv 0) (da_cons (de_gcls (V.cl _ (by decide))) da_nil))) (da_cons (de_isE V.exf V.f_isinstance (da_cons (dv 0) (da_cons (de_gcls (V.cl _ (by decide))) da_nil))) da_nil))))))
    (dss_cons (ds_set (i := 1) (de_cat false (dv 1) (de_lst false (da_cons (de_isE V.exf V.f_isinstance (da_cons (dv 0) (da_cons (de_gcls (V.cl _ (by decide))) da_nil))) (da_cons (de_isE V.exf V.f_isinstance (da_cons (dv 0) (da_cons (de_gcls (V.cl _ (by decide))) da_nil))) (da_cons (de_isE V.exf V.f_isinstance (da_cons (dv 0) (da_cons (de_gcls (V.cl _ (by decide))) da_nil))) da_nil))))))
    (dss_cons (ds_set (i := 1) (de_cat false (dv 1) (de_lst false (da_cons (de_isE V.exf V.f_isinstance (da_cons (dv 0) (da_cons (de_gcls (V.cl _ (by decide))) da_nil))) (da_cons (de_isE V.exf V.f_isinstance (da_cons (dv 0) (da_cons (de_gcls (V.cl _ (by decide))) da_nil))) (da_cons (de_isE V.exf V.f_isinstance (da_cons (dv 0) (da_cons (de_gcls (V.cl _ (by decide))) da_nil))) da_nil))))))
    (dss_cons (ds_set (i := 1) (de_cat false (dv 1) (de_lst false (da_cons (de_isE V.exf V.f_isinstance (da_cons (dv 0) (da_cons (de_gcls (V.cl _ (by decide))) da_nil))) (da_cons (de_isE V.exf V.f_isinstance (da_cons (dv 0) (da_cons (de_gcls (V.cl _ (by decide))) da_nil))) (da_cons (de_isE V.exf V.f_isinstance (da_cons (dv 0) (da_cons (de_gcls (V.cl _ (by decide))) da_nil))) da_nil))))))
    (dss_cons (ds_set (i := 1) (de_cat false (dv 1) (de_lst false (da_cons (de_isE V.exf V.f_isinstance (da_cons (dv 0) (da_cons (de_gcls (V.cl _ (by decide))) da_nil))) (da_cons (de_isE V.exf V.f_isinstance (da_cons (dv 0) (da_cons (de_gcls (V.cl _ (by decide))) da_nil))) (da_cons (de_isE V.exf V.f_isinstance (da_cons (dv 0) (da_cons (de_gcls (V.cl _ (by decide))) da_nil))) da_nil))))))
    (dss_cons (ds_set (i := 1) (de_cat false (dv 1) (de_lst false (da_cons (de_isE V.exf V.f_isinstance (da_cons (dv 0) (da_cons (de_gcls (V.cl _ (by decide))) da_nil))) (da_cons (de_isE V.exf V.f_isinstance (da_cons (dv 0) (da_cons (de_gcls (V.cl _ (by decide))) da_nil))) (da_cons (de_isE V.exf V.f_isinstance (da_cons (dv 0) (da_cons (de_gcls (V.cl _ (by decide))) da_nil))) da_nil))))))
    (dss_cons (ds_set (i := 1) (de_cat false (dv 1) (de_lst false (da_cons (de_isE V.exf V.f_isinstance (da_cons (dv 0) (da_cons (de_gcls (V.cl _ (by decide))) da_nil))) (da_cons (de_isE V.exf V.f_isinstance (da_cons (dv 0) (da_cons (de_gcls (V.cl _ (by decide))) da_nil))) (da_cons (de_isE V.exf V.f_isinstance (da_cons (dv 0) (da_cons (de_gcls (V.cl _ (by decide))) da_nil))) da_nil))))))
    (dss_cons (ds_set (i := 1) (de_cat false (dv 1) (de_lst false (da_cons (de_isE V.exf V.f_isinstance (da_cons (dv 0) (da_cons (de_gcls (V.cl _ (by decide))) da_nil))) (da_cons (de_isE V.exf V.f_isinstance (da_cons (dv 0) (da_cons (de_gcls (V.cl _ (by decide))) da_nil))) (da_cons (de_isE V.exf V.f_isinstance (da_cons (dv 0) (da_cons (de_gcls (V.cl _ (by decide))) da_nil))) da_nil))))))
    (dss_cons (ds_set (i := 1) (de_cat false (dv 1) (de_lst false (da_cons (de_isE V.exf V.f_isinstance (da_cons (dv 0) (da_cons (de_gcls (V.cl _ (by decide))) da_nil))) (da_cons (de_isE V.exf V.f_isinstance (da_cons (dv 0) (da_cons (de_gcls (V.cl _ (by decide))) da_nil))) (da_cons (de_isE V.exf V.f_isinstance (da_cons (dv 0) (da_cons (de_gcls (V.cl _ (by decide))) da_nil))) da_nil))))))
    (dss_cons (ds_set (i := 1) (de_cat false (dv 1) (de_lst false (da_cons (de_isE V.exf V.f_isinstance (da_cons (dv 0) (da_cons (de_gcls (V.cl _ (by decide))) da_nil))) (da_cons (de_isE V.exf V.f_isinstance (da_cons (dv 0) (da_cons (de_gcls (V.cl _ (by decide))) da_nil))) (da_cons (de_isE V.exf V.f_isinstance (da_cons (dv 0) (da_cons (de_gcls (V.cl _ (by decide))) da_nil))) da_nil))))))
    (dss_one (ds_ret (de_cat false (dv 1) (de_lst false (da_cons (de_isE V.exf V.f_isinstance (da_cons (dv 0) (da_cons (de_gcls (V.cl _ (by decide))) da_nil))) da_nil))))))))))))))))))
theorem T_law_marks {w : World} {K : PySem.W.Frag} {mg : Str → Option Value} {base : Heap} (V : Fax K mg)  {f : Addr} {fd : FuncData} (F : FunD K "_law_marks" "_law_marks" (defArgs s_law_marks) (defBody s_law_marks) (defScope s_law_marks) [] [] f fd) (hf : mg "_law_marks" = some (.ref f)) : TDef Pg w K mg base 2 "_law_marks" 1 F_law_marks :=
  tdef_of F hf sc_law_marks (F.bindsN (ps := P_law_marks) fun _ _ _ _ _ _ us hl => match us, hl with | [_], _ => rfl) fun E => w_law_marks V  E
def N_law_right : List Str := ["_law_pot_here", "_law_some", "_law_value", "_law_made", "_law_at", "_law_error", "_law_base", "_law_place"]
abbrev P_law_right : List Str := ["_law_pot_here"]
theorem sc_law_right : FnScope N_law_right P_law_right (defScope s_law_right) := ⟨rfl, rfl, rfl, by decide +kernel, rfl, by decide +kernel, by decide +kernel⟩
def t_law_right : TSx :=
  (sSeq (sSet 1 (eArgs (mkL false) (aCons (eArgs F_law_odd (aCons (eVar 0) aNil)) (aCons (eArgs (F_law_bent 3) (aCons (eVar 0) (aCons (eArgs mkT (aCons (eArgs mkT (aCons (eC (.str "x")) (aCons (eC (.str "a")) aNil))) (aCons (eC (.int 3)) aNil))) aNil))) (aCons (eArgs (mkL false) (aCons (eArgs F_law_odd (aCons (eVar 0) aNil)) aNil)) aNil)))))
    (sSeq (sSet 2 (eArgs F_law_of (aCons (eVar 0) (aCons (eBin (catD false) (eVar 1) (eArgs (mkL false) (aCons (eDct false (pCons (eC (.str "a")) (eArgs F_law_odd (aCons (eVar 0) aNil)) pNil)) aNil))) aNil))))
    (sSeq (sSet 3 (eArgs F_law_all (aCons (eVar 2) aNil)))
    (sSeq (sFor (iEn (aCons (eVar 3) aNil)) (gTp 2 (gsCons (gNm 4) (gsCons (gNm 5) gsNil))) (sSeq (sIf (tOrT (tNotT (tTru (eArgs (isiE ex) (aCons (eVar 5) (aCons (eC (.cls "DialError")) aNil))))) (tNotT (tTru (eArgs (isiE ex) (aCons (eVar 5) (aCons (eC (.ty "ValueError")) aNil)))))) (sRet (eC (.bl false))) sNext)
    (sIf (tOrT (tBl (eBin neD (eArgs reprD (aCons (eUn (valE ex) (eVar 5)) aNil)) (eArgs reprD (aCons (eVar 2) aNil)))) (tBl (eBin neD (eArgs F_law_marks (aCons (eVar 5) aNil)) (eLc false [7] (iRg1 (aCons (eArgs lenD (aCons (eVar 3) aNil)) aNil)) (gNm 7) tYesD (eBin eqD (eVar 4) (eVar 7)))))) (sRet (eC (.bl false))) sNext)))
    (sSeq (sSet 6 (eUn (mkE "DialError") (eVar 2)))
    (sRet (eAnd (eBin eqD (eArgs reprD (aCons (eUn (valE ex) (eVar 6)) aNil)) (eArgs reprD (aCons (eVar 2) aNil))) (eAnd (eArgs (isiE ex) (aCons (eVar 6) (aCons (eC (.ty "ValueError")) aNil))) (eNot (eArgs anyD (aCons (eArgs F_law_marks (aCons (eVar 6) aNil)) aNil)))))))))))
def F_law_right : TF := bodyF 1 N_law_right t_law_right
theorem w_law_right {w : World} {K : PySem.W.Frag} {mg : Str → Option Value} {base : Heap} (V : Fax K mg) (c_law_all : TDef Pg w K mg base 2 "_law_all" 1 F_law_all) (c_law_bent : TDef Pg w K mg base 7 "_law_bent" 2 (F_law_bent 3)) (c_law_marks : TDef Pg w K mg base 2 "_law_marks" 1 F_law_marks) (c_law_odd : TDef Pg w K mg base 3 "_law_odd" 1 F_law_odd) (c_law_of : TDef Pg w K mg base 2 "_law_of" 2 F_law_of) (E : XK) : DSs (Sg.of Pg w K mg base N_law_right (defScope s_law_right) 7 E) (defBody s_law_right) t_law_right :=
  (dss_cons (ds_set (i := 1) (de_lst false (da_cons (de_callT c_law_odd (da_cons (dv 0) da_nil) (Nat.le_of_ble_eq_true rfl)) (da_cons (de_callT c_law_bent (da_cons (dv 0) (da_cons (de_tup (da_cons (de_tup (da_cons de_str (da_cons de_str da_nil))) (da_cons de_int da_nil))) da_nil)) (Nat.le_of_ble_eq_true rfl)) (da_cons (de_lst false (da_cons (de_callT c_law_odd (da_cons (dv 0) da_nil) (Nat.le_of_ble_eq_true rfl)) da_nil)) da_nil)))))
    (dss_cons (ds_set (i := 2) (de_callT c_law_of (da_cons (dv 0) (da_cons (de_cat false (dv 1) (de_lst false (da_cons (de_dct false (dp_cons de_str (de_callT c_law_odd (da_cons (dv 0) da_nil) (Nat.le_of_ble_eq_true rfl)) dp_nil)) da_nil))) da_nil)) (Nat.le_of_ble_eq_true rfl)))
    (dss_cons (ds_set (i := 3) (de_callT c_law_all (da_cons (dv 2) da_nil) (Nat.le_of_ble_eq_true rfl)))
    (dss_cons (ds_for (di_enum (da_cons (dv 3) da_nil) V.f_enumerate) (dg_tup (dgs_cons (dg_name (i := 4)) (dgs_cons (dg_name (i := 5)) dgs_nil))) (dss_cons (ds_if (dw_or (dt_not (dt_tru (de_isE V.exf V.f_isinstance (da_cons (dv 5) (da_cons (de_gcls (V.cl _ (by decide))) da_nil))))) (dw_or1 (dt_not (dt_tru (de_isE V.exf V.f_isinstance (da_cons (dv 5) (da_cons (de_gty V.f_ValueError (by decide +kernel)) da_nil))))))).dt (dss_one (ds_ret de_bl)) dss_nil)
    (dss_one (ds_if (dw_or (dt_ne (de_repr V.sys V.f_repr (da_cons (de_valE V.exf (dv 5)) da_nil)) (de_repr V.sys V.f_repr (da_cons (dv 2) da_nil))) (dw_or1 (dt_ne (de_callT c_law_marks (da_cons (dv 5) da_nil) (Nat.le_of_ble_eq_true rfl)) (de_lc false [("_law_place", 7)] (di_rng1 (da_cons (de_len V.f_len (da_cons (dv 3) da_nil)) da_nil) V.f_range) (dg_name (i := 7)) dts_nil (de_eq (dv 4) (dv 7)) (ok := by dsimp only [Sg.of, Sg.blk]; decide +kernel))))).dt (dss_one (ds_ret de_bl)) dss_nil))))
    (dss_cons (ds_set (i := 6) (de_mkE V.ifn (V.exf.one _ (by decide)).ic V.f_super (V.cl _ (by decide)) (Nat.le_of_ble_eq_true rfl) (dv 2)))
    (dss_one (ds_ret (de_and (de_eq (de_repr V.sys V.f_repr (da_cons (de_valE V.exf (dv 6)) da_nil)) (de_repr V.sys V.f_repr (da_cons (dv 2) da_nil))) (de_and (de_isE V.exf V.f_isinstance (da_cons (dv 6) (da_cons (de_gty V.f_ValueError (by decide +kernel)) da_nil))) (de_one (de_not (de_any V.f_any (da_cons (de_callT c_law_marks (da_cons (dv 6) da_nil) (Nat.le_of_ble_eq_true rfl)) da_nil)))))))))))))
theorem T_law_right {w : World} {K : PySem.W.Frag} {mg : Str → Option Value} {base : Heap} (V : Fax K mg) (c_law_all : TDef Pg w K mg base 2 "_law_all" 1 F_law_all) (c_law_bent : TDef Pg w K mg base 7 "_law_bent" 2 (F_law_bent 3)) (c_law_marks : TDef Pg w K mg base 2 "_law_marks" 1 F_law_marks) (c_law_odd : TDef Pg w K mg base 3 "_law_odd" 1 F_law_odd) (c_law_of : TDef Pg w K mg base 2 "_law_of" 2 F_law_of) {f : Addr} {fd : FuncData} (F : FunD K "_law_right" "_law_right" (defArgs s_law_right) (defBody s_law_right) (defScope s_law_right) [] [] f fd) (hf : mg "_law_right" = some (.ref f)) : TDef Pg w K mg base 8 "_law_right" 1 F_law_right :=
  tdef_of F hf sc_law_right (F.bindsN (ps := P_law_right) fun _ _ _ _ _ _ us hl => match us, hl with | [_], _ => rfl) fun E => w_law_right V c_law_all c_law_bent c_law_marks c_law_odd c_law_of E
def Nlaw : List Str := ["_law_script", "_law_place"]
abbrev Plaw : List Str := ["_law_script"]
theorem sclaw : FnScope Nlaw Plaw (defScope slaw) := ⟨rfl, rfl, rfl, by decide +kernel, rfl, by decide +kernel, by decide +kernel⟩
def tlaw : TSx :=
  (sRet (eArgs allD (aCons (eLc false [1] (iLst (eArgs F_law_places (aCons (eVar 0) (aCons (eC (.int 4)) aNil)))) (gNm 1) tYesD (eArgs F_law_right (aCons (eArgs F_law_pot (aCons (eVar 0) (aCons (eVar 1) aNil))) aNil))) aNil)))
def Flaw : TF := bodyF 1 Nlaw tlaw
theorem wlaw {w : World} {K : PySem.W.Frag} {mg : Str → Option Value} {base : Heap} (V : Fax K mg) (c_law_places : TDef Pg w K mg base 1 "_law_places" 2 F_law_places) (c_law_pot : TDef Pg w K mg base 1 "_law_pot" 2 F_law_pot) (c_law_right : TDef Pg w K mg base 8 "_law_right" 1 F_law_right) (E : XK) : DSs (Sg.of Pg w K mg base Nlaw (defScope slaw) 8 E) (defBody slaw) tlaw :=
  (dss_one (ds_ret (de_all V.f_all (da_cons (de_lc false [("_law_place", 1)] (di_lst (de_callT c_law_places (da_cons (dv 0) (da_cons de_int da_nil)) (Nat.le_of_ble_eq_true rfl))) (dg_name (i := 1)) dts_nil (de_callT c_law_right (da_cons (de_callT c_law_pot (da_cons (dv 0) (da_cons (dv 1) da_nil)) (Nat.le_of_ble_eq_true rfl)) da_nil) (Nat.le_of_ble_eq_true rfl)) (ok := by dsimp only [Sg.of, Sg.blk]; decide +kernel)) da_nil))))
theorem Tlaw {w : World} {K : PySem.W.Frag} {mg : Str → Option Value} {base : Heap} (V : Fax K mg) (c_law_places : TDef Pg w K mg base 1 "_law_places" 2 F_law_places) (c_law_pot : TDef Pg w K mg base 1 "_law_pot" 2 F_law_pot) (c_law_right : TDef Pg w K mg base 8 "_law_right" 1 F_law_right) {f : Addr} {fd : FuncData} (F : FunD K "law" "law" (defArgs slaw) (defBody slaw) (defScope slaw) [] [] f fd) (hf : mg "law" = some (.ref f)) : TDef Pg w K mg base 9 "law" 1 Flaw :=
  tdef_of F hf sclaw (F.bindsN (ps := Plaw) fun _ _ _ _ _ _ us hl => match us, hl with | [_], _ => rfl) fun E => wlaw V c_law_places c_law_pot c_law_right E
def lawLevel : Nat := 9
theorem facts {w : World} {K : PySem.W.Frag} {mg : Str → Option Value} {h : Heap} {f : Addr} (X : K.In h) (G : h.Ns mainGlobals mg) (hf : mg "law" = some (.ref f)) (c : obsT fb fn K = valT fn iniV) :
    ∃ fd : FuncData, (∀ (s : Shared) (u : Value), BindsTo s fd ⟨[u], []⟩ [("_law_script", u)]) ∧ ∀ base : Heap, K.In base → base.Ns mainGlobals mg → TFn Pg w K mg base 9 f fd ["_law_script"] Flaw := by
  have i0 := saysT_fact c 0 (f := sysB) rfl
  obtain ⟨xf, xg⟩ := exF_of (saysT_fact c 28 (f := exsB ex) rfl)
  have xi := ifn_of (P := Pg) (i := ini) (saysT_ini c) (saysT_fact c 29 (f := ifnB Pg.main.file) rfl) (by decide +kernel) (by decide +kernel)
  have V : Fax K mg := ⟨Option.isSome_iff_exists.mp i0, He.free_ok X G (saysT_fact c 1 (f := freeB "len") rfl), He.free_ok X G (saysT_fact c 2 (f := freeB "int") rfl), He.free_ok X G (saysT_fact c 3 (f := freeB "abs") rfl), He.free_ok X G (saysT_fact c 4 (f := freeB "max") rfl), He.free_ok X G (saysT_fact c 5 (f := freeB "min") rfl), He.free_ok X G (saysT_fact c 6 (f := freeB "list") rfl), He.free_ok X G (saysT_fact c 7 (f := freeB "range") rfl), He.free_ok X G (saysT_fact c 8 (f := freeB "isinstance") rfl), He.free_ok X G (saysT_fact c 9 (f := freeB "str") rfl), He.free_ok X G (saysT_fact c 10 (f := freeB "repr") rfl), He.free_ok X G (saysT_fact c 11 (f := freeB "any") rfl), He.free_ok X G (saysT_fact c 12 (f := freeB "all") rfl), He.free_ok X G (saysT_fact c 13 (f := freeB "enumerate") rfl), He.free_ok X G (saysT_fact c 14 (f := freeB "super") rfl), He.free_ok X G (saysT_fact c 15 (f := freeB "ValueError") rfl), He.free_ok X G (saysT_fact c 16 (f := freeB "bool") rfl), He.free_ok X G (saysT_fact c 17 (f := freeB "tuple") rfl), xf, xi, fun C hC => PySem.W.mg_of X G (xg C hC), He.glo_ok X G (saysT_fact c 18 (f := gloB "_law_pot") rfl), He.glo_ok X G (saysT_fact c 19 (f := gloB "_law_take") rfl), He.glo_ok X G (saysT_fact c 20 (f := gloB "_law_of") rfl), He.glo_ok X G (saysT_fact c 21 (f := gloB "_law_places") rfl), He.glo_ok X G (saysT_fact c 22 (f := gloB "_law_odd") rfl), He.glo_ok X G (saysT_fact c 23 (f := gloB "_law_bent") rfl), He.glo_ok X G (saysT_fact c 24 (f := gloB "_law_all") rfl), He.glo_ok X G (saysT_fact c 25 (f := gloB "_law_marks") rfl), He.glo_ok X G (saysT_fact c 26 (f := gloB "_law_right") rfl), He.glo_ok X G (saysT_fact c 27 (f := gloB "law") rfl)⟩
  obtain ⟨fd_law_pot, D_law_pot⟩ := saysT_def c 0 (d := d_law_pot) rfl
  obtain ⟨fd_law_take, D_law_take⟩ := saysT_def c 1 (d := d_law_take) rfl
  obtain ⟨fd_law_of, D_law_of⟩ := saysT_def c 2 (d := d_law_of) rfl
  obtain ⟨fd_law_places, D_law_places⟩ := saysT_def c 3 (d := d_law_places) rfl
  obtain ⟨fd_law_odd, D_law_odd⟩ := saysT_def c 4 (d := d_law_odd) rfl
  obtain ⟨fd_law_bent, D_law_bent⟩ := saysT_def c 5 (d := d_law_bent) rfl
  obtain ⟨fd_law_all, D_law_all⟩ := saysT_def c 6 (d := d_law_all) rfl
  obtain ⟨fd_law_marks, D_law_marks⟩ := saysT_def c 7 (d := d_law_marks) rfl
  obtain ⟨fd_law_right, D_law_right⟩ := saysT_def c 8 (d := d_law_right) rfl
  obtain ⟨fdlaw, Dlaw⟩ := saysT_def c 9 (d := dlaw) rfl
  have eqf := hf.symm.trans V.glaw
  cases eqf
  refine ⟨fdlaw, fun s u => FunD.bindsA (ps := Plaw) Dlaw (fun _ _ _ _ _ _ us hl => match us, hl with | [_], _ => rfl) s [u] rfl, fun base _ _ => ?_⟩
  have T_law_places_ := (T_law_places (w := w) (base := base) V  D_law_places V.g_law_places).mono (k := 1) (by decide)
  have T_law_pot_ := (T_law_pot (w := w) (base := base) V  D_law_pot V.g_law_pot).mono (k := 1) (by decide)
  have T_law_all_ := (T_law_all (w := w) (base := base) V  D_law_all V.g_law_all).mono (k := 2) (by decide)
  have T_law_take_ := (T_law_take (w := w) (base := base) V  D_law_take V.g_law_take).mono (k := 1) (by decide)
  have T_law_of_ := (T_law_of (w := w) (base := base) V T_law_take_ D_law_of V.g_law_of).mono (k := 2) (by decide)
  have T_law_odd_ := (T_law_odd (w := w) (base := base) V T_law_of_ D_law_odd V.g_law_odd).mono (k := 3) (by decide)
  have T_law_bent_ := (T_law_bent (w := w) (base := base) V T_law_odd_ T_law_of_ T_law_take_ D_law_bent V.g_law_bent 3).mono (k := 7) (by decide)
  have T_law_marks_ := (T_law_marks (w := w) (base := base) V  D_law_marks V.g_law_marks).mono (k := 2) (by decide)
  have T_law_right_ := (T_law_right (w := w) (base := base) V T_law_all_ T_law_bent_ T_law_marks_ T_law_odd_ T_law_of_ D_law_right V.g_law_right).mono (k := 8) (by decide)
  exact tfn_of Dlaw sclaw fun E => wlaw V T_law_places_ T_law_pot_ T_law_right_ E
end K00
set_option Elab.async false
set_option linter.all false
set_option maxRecDepth 100000
set_option maxHeartbeats 4000000
namespace K00
open PySem PySem.Spec PyProof.Rows L2 TL
/-! the plain law -/
/-- the pot -/
structure Pot (S : List O) (i : Nat) (T : Int) : Prop where
  ex : ∃ a b t : Int, S[i]? = some (.lst [.int a, .int b, .int t]) ∧ 0 ≤ a ∧ 0 ≤ b ∧ b < 2 ^ 61 ∧ 0 ≤ t ∧ t ≤ T
structure Step (i : Nat) (T : Int) (S S' : List O) : Prop where
  len : S'.length = S.length
  off : ∀ j, j ≠ i → S'[j]? = S[j]?
  pot : Pot S' i T
def Ret (o : Out D) (P : D → List O → Prop) : Prop := ∃ d S, o = .ok d S ∧ P d S
theorem cdiv {i u : Int} (hu : 0 < u) (hu2 : u < 2 ^ 62) : CDivW i u := ⟨hu, by
    have h2 := Nat.log2_lt (n := u.natAbs) (k := 62) (by omega)
    have := h2.mpr (by omega)
    omega⟩
theorem take1 {S : List O} {i : Nat} {a b t u : Int} (h : S[i]? = some (.lst [.int a, .int b, .int t])) (ha : 0 < a) (hu : 0 < u) (hu2 : u < 2 ^ 62) :
    F_law_take [.hnd i, .int u] S = .ok (.int (a % u)) (S.set i (.lst [.int (a / u), .int b, .int t])) := by
  have c1 : ixD (.hnd i) (.int 0) S = .ok (.int a) S := ix_hnd h rfl
  have c2 : CDivW a u := cdiv hu hu2
  have c3 : setD (.hnd i) (.int 0) (.int (a / u)) S = some (S.set i (.lst [.int (a / u), .int b, .int t])) := set_hnd h rfl
  unfold F_law_take t_law_take
  simp [N_law_take, c1, ha, mod_int S hu, div_int S c2, c3]
theorem log2_le {x : Int} {n k : Nat} (h : x.natAbs < 2 ^ n) (hn : n ≤ k) : x.natAbs.log2 ≤ k := by
  by_cases h0 : x.natAbs = 0
  · rw [h0]
    simp
  · have := (Nat.log2_lt (n := x.natAbs) (k := n) h0).mpr h
    omega
theorem bits_le {x : Int} {n : Nat} (h : x.natAbs < 2 ^ n) : Builtin.Int.intBits x ≤ n + 1 := by
  unfold Builtin.Int.intBits
  split
  · omega
  · have := log2_le (k := n) h (Nat.le_refl _)
    omega
theorem cmul {i j : Int} (h1 : i.natAbs < 2 ^ 1000) (h2 : j.natAbs < 2 ^ 1000) : CMul i j ∨ CMulW i j := .inr (by
  have := log2_le (k := 1000) h1 (Nat.le_refl _)
  have := log2_le (k := 1000) h2 (Nat.le_refl _)
  show _ + _ < _
  omega)
/-- a choice of five -/
theorem five (x : Int) (h0 : 0 ≤ x) (h5 : x < 5) : ∃ p : Int, 0 < p ∧ p < 2 ^ 31 ∧ atI [D.int 2147483647, .int 2147483629, .int 2147483587, .int 2147483579, .int 2147483563] x = some (.int p) := by
  have : x = 0 ∨ x = 1 ∨ x = 2 ∨ x = 3 ∨ x = 4 := by omega
  rcases this with rfl | rfl | rfl | rfl | rfl
  · exact ⟨2147483647, by decide, by decide, rfl⟩
  · exact ⟨2147483629, by decide, by decide, rfl⟩
  · exact ⟨2147483587, by decide, by decide, rfl⟩
  · exact ⟨2147483579, by decide, by decide, rfl⟩
  · exact ⟨2147483563, by decide, by decide, rfl⟩
theorem take2 {S : List O} {i : Nat} {b t u : Int} (h : S[i]? = some (.lst [.int 0, .int b, .int t])) (hb : 0 ≤ b) (hb2 : b < 2 ^ 61) (ht : 0 ≤ t) (ht2 : t < 2 ^ 20) (hu : 0 < u) (hu2 : u < 2 ^ 62) :
    ∃ r : Int, F_law_take [.hnd i, .int u] S = .ok (.int r) (S.set i (.lst [.int 0, .int b, .int (t + 1)])) ∧ 0 ≤ r ∧ r < u := by
  have hi : i < S.length := (List.getElem?_eq_some_iff.mp h).1
  have g1 : (S.set i (.lst [.int 0, .int b, .int (t + 1)]))[i]? = some (.lst [.int 0, .int b, .int (t + 1)]) := List.getElem?_set_self hi
  generalize hS : S.set i (.lst [.int 0, .int b, .int (t + 1)]) = S' at g1
  have c0 : ixD (.hnd i) (.int 0) S = .ok (.int 0) S := ix_hnd h rfl
  have c2 : ixD (.hnd i) (.int 2) S = .ok (.int t) S := ix_hnd h rfl
  have c3 : setD (.hnd i) (.int 2) (.int (t + 1)) S = some S' := by
    rw [← hS]
    exact set_hnd h rfl
  have d1 : ixD (.hnd i) (.int 1) S' = .ok (.int b) S' := ix_hnd g1 rfl
  have d2 : ixD (.hnd i) (.int 2) S' = .ok (.int (t + 1)) S' := ix_hnd g1 rfl
  obtain ⟨p, hp, hp2, e5⟩ := five ((t + 1) % 5) (Int.emod_nonneg _ (by decide)) (Int.emod_lt_of_pos _ (by decide))
  have d5 := ix_lst (S := S') e5
  have hm0 : ∀ x : Int, 0 ≤ x → x < 2 ^ 200 → x.natAbs < 2 ^ 1000 := fun x h1 h2 => by
    have : x.natAbs < 2 ^ 200 := by omega
    exact Nat.lt_of_lt_of_le this (Nat.pow_le_pow_right (by decide) (by decide))
  have hm := fun {x y : Int} (h1 : 0 ≤ x) (h2 : x < 2 ^ 200) (h3 : 0 ≤ y) (h4 : y < 2 ^ 200) => mul_int S' (i := x) (j := y) (cmul (hm0 x h1 h2) (hm0 y h3 h4))
  have l5 : mkL false [D.int 2147483647, .int 2147483629, .int 2147483587, .int 2147483579, .int 2147483563] S' = .ok (.lst [D.int 2147483647, .int 2147483629, .int 2147483587, .int 2147483579, .int 2147483563]) S' := mkL_false S' _ (small_line (by decide))
  have t0 : 0 ≤ t + 1 := by omega
  have t2 : t + 1 ≤ 2 ^ 20 := by omega
  generalize htt : t + 1 = y at *
  have y1 : 91019 * y * y ≤ 91019 * 2 ^ 20 * 2 ^ 20 := Int.mul_le_mul (by omega) t2 t0 (by decide)
  have y0 : 0 ≤ 91019 * y * y := Int.mul_nonneg (by omega) t0
  have m1 := hm (x := 91019) (y := y) (by decide) (by decide) t0 (by omega)
  have m2 := hm (x := 91019 * y) (y := y) (by omega) (by omega) t0 (by omega)
  have hq0 : 0 ≤ b + 91019 * y * y + 69 := by omega
  have hq1 : b + 91019 * y * y + 69 < 2 ^ 62 := by omega
  generalize hq : b + 91019 * y * y + 69 = q at *
  have w1 : powD (.int q) (.int 3) S' = .ok (.int (q ^ 3)) S' := pow_intD S' ⟨by decide, by
    have := bits_le (x := q) (n := 62) (by omega)
    omega⟩
  have m3 := mod_int S' (i := q ^ 3) hp
  have x0 : 0 ≤ q ^ 3 % p := Int.emod_nonneg _ (by omega)
  have x1 : q ^ 3 % p < p := Int.emod_lt_of_pos _ hp
  generalize hx : q ^ 3 % p = x at *
  have m4 := hm (x := 97) (y := y) (by decide) (by decide) t0 (by omega)
  have m6 := mod_int S' (i := x) (j := 10007) (by decide)
  have z0 : 0 ≤ x % 10007 := Int.emod_nonneg _ (by decide)
  have z1 : x % 10007 < 10007 := Int.emod_lt_of_pos _ (by decide)
  have m5 := hm (x := x) (y := x % 10007 + 97 * y) x0 (by omega) (by omega) (by omega)
  have v1 := div_int S' (i := x * (x % 10007 + 97 * y)) (cdiv (u := 127) (by decide) (by decide))
  refine ⟨x * (x % 10007 + 97 * y) / 127 % u, ?_, Int.emod_nonneg _ (by omega), Int.emod_lt_of_pos _ hu⟩
  unfold F_law_take t_law_take
  simp [N_law_take, c0, c2, htt, c3, l5, d2, mod_int S' (i := y) (j := 5) (by decide), d5, d1, m1, m2, hq, w1, m3, hx, m6, m4, m5, v1, mod_int S' hu]
/-- a draw -/
theorem take {S : List O} {i : Nat} {T u : Int} (h : Pot S i T) (hT : T < 2 ^ 20) (hu : 0 < u) (hu2 : u < 2 ^ 62) : Ret (F_law_take [.hnd i, .int u] S) fun d S' => (∃ r : Int, d = .int r ∧ 0 ≤ r ∧ r < u) ∧ Step i (T + 1) S S' := by
  obtain ⟨a, b, t, h1, ha, hb, hb2, ht, htT⟩ := h.ex
  have hi : i < S.length := (List.getElem?_eq_some_iff.mp h1).1
  by_cases h0 : 0 < a
  · refine ⟨_, _, take1 h1 h0 hu hu2, ⟨_, rfl, Int.emod_nonneg _ (by omega), Int.emod_lt_of_pos _ hu⟩, ⟨by simp, fun j hj => List.getElem?_set_ne (Ne.symm hj), ⟨a / u, b, t, List.getElem?_set_self hi, ?_, hb, hb2, ht, by omega⟩⟩⟩
    exact Int.ediv_nonneg ha (by omega)
  · have e : a = 0 := by omega
    subst e
    obtain ⟨r, h2, h3, h4⟩ := take2 h1 hb hb2 ht (by omega) hu hu2
    exact ⟨_, _, h2, ⟨r, rfl, h3, h4⟩, ⟨by simp, fun j hj => List.getElem?_set_ne (Ne.symm hj), ⟨0, b, t + 1, List.getElem?_set_self hi, by decide, hb, hb2, by omega, by omega⟩⟩⟩
theorem Pot.up {S : List O} {i : Nat} {T T' : Int} (h : Pot S i T) (hT : T ≤ T') : Pot S i T' := by
  obtain ⟨a, b, t, h1, h2, h3, h4, h5, h6⟩ := h.ex
  exact ⟨a, b, t, h1, h2, h3, h4, h5, by omega⟩
theorem Step.up {S S' : List O} {i : Nat} {T T' : Int} (h : Step i T S S') (hT : T ≤ T') : Step i T' S S' := ⟨h.len, h.off, h.pot.up hT⟩
theorem Step.tr {S S1 S2 : List O} {i : Nat} {T T' : Int} (h : Step i T S S1) (h2 : Step i T' S1 S2) : Step i T' S S2 := ⟨h2.len.trans h.len, fun j hj => (h2.off j hj).trans (h.off j hj), h2.pot⟩
theorem Step.here {S : List O} {i : Nat} {T : Int} (h : Pot S i T) : Step i T S S := ⟨rfl, fun _ _ => rfl, h⟩
theorem at_nat {α : Type} {xs : List α} {k : Nat} (h : k < xs.length) : atI xs (k : Int) = some xs[k] := by
  unfold atI ixN
  rw [if_pos (by omega), if_pos (by omega)]
  simp [h]
theorem at_int {α : Type} {xs : List α} {r : Int} (h0 : 0 ≤ r) (h : r < xs.length) : ∃ x, atI xs r = some x ∧ x ∈ xs := by
  obtain ⟨k, rfl⟩ := Int.eq_ofNat_of_zero_le h0
  have hk : k < xs.length := by omega
  exact ⟨xs[k], at_nat hk, List.getElem_mem hk⟩
theorem len_lst {ds : List D} {S : List O} : lenD [.lst ds] S = .ok (.int ds.length) S := rfl
theorem len_tup {ds : List D} {S : List O} : lenD [.tup ds] S = .ok (.int ds.length) S := rfl
/-- one of some -/
theorem of_ok {S : List O} {i : Nat} {T : Int} {ds : List D} (h : Pot S i T) (hT : T < 2 ^ 20) (h0 : ds ≠ []) (h1 : ds.length ≤ 4096) : Ret (F_law_of [.hnd i, .lst ds] S) fun d S' => d ∈ ds ∧ Step i (T + 1) S S' := by
  have hl : 0 < ds.length := List.length_pos_iff.mpr h0
  obtain ⟨d, S', e, ⟨r, rfl, r0, r1⟩, st⟩ := take (u := ds.length) h hT (by omega) (by omega)
  obtain ⟨x, e2, hx⟩ := at_int (xs := ds) r0 r1
  refine ⟨x, S', ?_, hx, st⟩
  unfold F_law_of t_law_of
  simp [N_law_of, len_lst, e, ix_lst e2]
/-- the places -/
theorem places_ok {ns : List Int} {m : Int} {S : List O} (hm : m ≤ 2 ^ 20) : F_law_places [.scr ns, .int m] S = .ok (.lst (rng 0 (max 1 (min m ns.length)))) S := by
  have hlen : lenD [.scr ns] S = .ok (.int ns.length) S := by
    unfold lenD seqOf lstOf
    simp
  have e : (if (if (ns.length : Int) < m then (ns.length : Int) else m) > 1 then (if (ns.length : Int) < m then (ns.length : Int) else m) else 1) = max 1 (min m ns.length) := by
    rw [Int.max_def, Int.min_def]
    split <;> split <;> split <;> split <;> omega
  have hb : lsRgD false [.int (max 1 (min m ns.length))] S = .ok (.lst (rng 0 (max 1 (min m ns.length)))) S := by
    have hr : RgOk 0 (max 1 (min m ns.length)) := by
      refine ⟨?_, ?_, ?_, ?_, ?_⟩ <;> first | decide | (rw [Int.max_def, Int.min_def]; split <;> split <;> omega)
    rw [lsRg1 S hr]
    refine mkL_false S _ ?_
    rw [sizeLine_eq]
    unfold rng
    rw [List.length_map, List.length_range]
    rw [Int.max_def, Int.min_def]
    split <;> split <;> omega
  unfold F_law_places t_law_places
  simp [N_law_places, eListRg, hlen, e, hb]
/-- any kind of value -/
def oddA : List D := [.non, .bl true, .bl false, .int 0, .int 1, .int (-1), .int 2, .int 7, .str "", .str "x", .str "0", .str "ann", .tup [], .lst [], .dct [], .tup [.int 0], .tup [.tup []], .lst [.int 0], .tup [.str "x", .int 1], .dct [(.inr "x", .int 1)]]
def oddB : List D := [.tup [.tup [.str "x", .int 1]], .tup [.tup [.tup [.str "x", .int 1]], .int 0], .str "2 x", .tup [.str "ann"], .tup [.non], .int 100000000, .str "A", .tup [.bl true]]
theorem odd_ok {S : List O} {i : Nat} {T : Int} (h : Pot S i T) (hT : T < 2 ^ 20) : Ret (F_law_odd [.hnd i] S) fun d S' => d ∈ oddA ++ oddB ∧ Step i (T + 1) S S' := by
  obtain ⟨d, S', e, hd, st⟩ := of_ok (ds := oddA ++ oddB) h hT (by simp [oddA]) (by decide)
  refine ⟨d, S', ?_, hd, st⟩
  have mL : ∀ ds : List D, ds.length ≤ 40 → mkL false ds S = .ok (.lst ds) S := fun ds hl => mkL_false S ds (small_line (by omega))
  have mT : ∀ ds : List D, ds.length ≤ 40 → mkT ds S = .ok (.tup ds) S := fun ds hl => mkT_ok' S ds (small_line (by omega))
  have p8 : powD (.int 10) (.int 8) S = .ok (.int (10 ^ 8)) S := pow_intD S ⟨by decide, by decide⟩
  have c : ∀ as bs : List D, as.length + bs.length ≤ 40 → catD false (.lst as) (.lst bs) S = .ok (.lst (as ++ bs)) S := fun as bs hl => mL _ (by rw [List.length_append]; exact hl)
  unfold F_law_odd t_law_odd
  simp only [oddA, oddB, List.cons_append, List.nil_append] at e
  simp [N_law_odd, mL, mT, p8, c, mkD, eDct, pCons, keyOf, mergeG, TL.putG, hasK, e]
theorem ix_scr {S : List O} {ns : List Int} {k : Int} (h0 : 0 ≤ k) (h1 : k < ns.length) : ∃ c, ixD (.scr ns) (.int k) S = .ok (.int c) S := by
  obtain ⟨x, e, hx⟩ := at_int (xs := ns.map D.int) h0 (by simpa using h1)
  obtain ⟨c, _, rfl⟩ := List.mem_map.mp hx
  exact ⟨c, by unfold ixD seqOf lstOf; simp [e]⟩
theorem ite01 (p : Prop) [Decidable p] : (0 : Int) ≤ if p then 1 else 0 := by split <;> decide
/-- the pot's beginning -/
theorem pot_ok {ns : List Int} {k : Int} (S : List O) (h0 : 0 ≤ k) (h1 : k < 2 ^ 20) : Ret (F_law_pot [.scr ns, .int k] S) fun d S' => d = .hnd S.length ∧ ∃ o, S' = S ++ [o] ∧ Pot S' S.length 0 := by
  have hlen : lenD [.scr ns] S = .ok (.int ns.length) S := by
    unfold lenD seqOf lstOf
    simp
  obtain ⟨M1, p1, q1⟩ : ∃ M1 : Int, powD (.int 10) (.int 60) S = .ok (.int M1) S ∧ M1.natAbs < 2 ^ 200 ∧ 0 < M1 := ⟨10 ^ 60, pow_intD S ⟨by decide, by decide⟩, by decide, by decide⟩
  obtain ⟨M, p2, q2⟩ : ∃ M : Int, powD (.int M1) (.int 5) S = .ok (.int M) S ∧ 0 < M := ⟨M1 ^ 5, pow_intD S ⟨by decide, by
    have := bits_le q1.1
    omega⟩, Int.pow_pos q1.2⟩
  obtain ⟨Q, p3⟩ : ∃ Q : Int, powD (.int 10) (.int 18) S = .ok (.int Q) S := ⟨10 ^ 18, pow_intD S ⟨by decide, by decide⟩⟩
  have hmod := fun x => mod_int S (i := x) q2
  have hmul : ∀ (x : Int) (p : Prop) [Decidable p], mulD (.int x) (.int (if p then 1 else 0)) S = .ok (.int (x * (if p then 1 else 0))) S := fun x p _ => mul_int S (.inl (.inr (by split <;> decide)))
  have hsm := fun x => mod_int S (i := x) (j := 2305843009213693951) (by decide)
  have hse := fun x => mod_int S (i := x) (j := 2305843009213693921) (by decide)
  have m73 := mul_int S (i := 73) (j := k) (.inl (.inl (by decide)))
  have m82 := mul_int S (i := 8219) (j := k) (.inl (.inl (by decide)))
  have m8k := mul_int S (i := 8219 * k) (j := k) (.inl (.inr ⟨by omega, by omega⟩))
  have m76 := fun x => mul_int S (i := x) (j := 76231) (.inl (.inr (by decide)))
  have mL : ∀ ds : List D, ds.length ≤ 40 → mkL true ds S = .ok (.hnd S.length) (S ++ [.lst ds]) := fun ds hl => mkL_true S ds (small_line (by omega))
  have fin : ∀ c : Int, ∃ a b : Int, 0 ≤ a ∧ 0 ≤ b ∧ b < 2 ^ 61 ∧ a = (if c < 0 then -c else c) % M * (if Q ≤ (if c < 0 then -c else c) then 1 else 0) ∧ b = (c % 2305843009213693951 * 76231 + 8219 * k * k + 101) % 2305843009213693921 := fun c => by
    refine ⟨_, _, ?_, Int.emod_nonneg _ (by decide), ?_, rfl, rfl⟩
    · refine Int.mul_nonneg (Int.emod_nonneg _ (by omega)) (ite01 _)
    · have := Int.emod_lt_of_pos (c % 2305843009213693951 * 76231 + 8219 * k * k + 101) (b := 2305843009213693921) (by decide)
      omega
  have done : ∀ c a b : Int, 0 ≤ a → 0 ≤ b → b < 2 ^ 61 → Ret (.ok (.hnd S.length) (S ++ [.lst [.int a, .int b, .int 0]])) fun d S' => d = .hnd S.length ∧ ∃ o, S' = S ++ [o] ∧ Pot S' S.length 0 := fun c a b ha hb hb2 =>
    ⟨_, _, rfl, rfl, _, rfl, a, b, 0, by simp, ha, hb, hb2, by decide, by decide⟩
  by_cases hk : k < ns.length
  · obtain ⟨c, hc⟩ := ix_scr (S := S) h0 hk
    obtain ⟨a, b, ha, hb, hb2, ea, eb⟩ := fin c
    have z := done c a b ha hb hb2
    rw [ea, eb] at z
    unfold F_law_pot t_law_pot
    simpa [N_law_pot, hlen, hk, hc, p1, p2, p3, hmod, hmul, hsm, hse, m82, m8k, m76, mL] using z
  · obtain ⟨a, b, ha, hb, hb2, ea, eb⟩ := fin (73 * k + 39)
    have z := done (73 * k + 39) a b ha hb hb2
    rw [ea, eb] at z
    unfold F_law_pot t_law_pot
    simpa [N_law_pot, hlen, hk, m73, p1, p2, p3, hmod, hmul, hsm, hse, m82, m8k, m76, mL] using z
/-- what becomes of a value that is bent -/
def bentL : Nat → D → List D
  | 0, _ => []
  | n + 1, .tup ds => ((List.range ds.length).flatMap fun k => match ds[k]? with
      | some e => (bentL n e).map fun x => .tup (cutD ds none (some (k : Nat)) ++ [x] ++ cutD ds (some ((k : Nat) + 1)) none)
      | none => []) ++ [.lst ds, .tup (cutD ds (some 1) none), .tup (cutD ds none (some (-1))), .tup (ds ++ cutD ds (some (-1)) none), .tup ds.reverse, .tup [], .tup (ds ++ [.int 0]), .non]
  | _ + 1, .str s => [.str (s ++ "x"), .str (cutS s none (some (-1))), .str (Txt.upper s), .str (s ++ " "), .lst [.str s], .str "x", .str "zq", .non, .int 0]
  | _ + 1, .bl b => [.bl (!b), .int (if b = true then 1 else 0), .non]
  | _ + 1, .int i => [.int (i + 1), .int (i - 1), .bl (decide (i = 1)), .str (toString i), .int (-1), .int 5, .int 0, .int (-i), .non, .tup [.int i]]
  | _ + 1, _ => oddA ++ oddB
/-- a value that may be bent -/
def BendOk : Nat → D → Prop
  | 0, _ => False
  | n + 1, .tup ds => ds.length ≤ 1000 ∧ (∀ d ∈ ds, BendOk n d) ∧ ∃ b : Bool, (∀ S, neD (.tup ds) (.tup []) S = .ok (.bl b) S) ∧ (b = true → ds ≠ [])
  | _ + 1, .str s => s.length ≤ 1000
  | _ + 1, .int i => i.natAbs < 2 ^ 100
  | _ + 1, .bl _ => True
  | _ + 1, .non => True
  | _ + 1, .lst _ => True
  | _ + 1, .dct _ => True
  | _ + 1, _ => False
theorem isi_tup (d : D) (S : List O) {a : String} (e : tyD S d = some a) (n : String) {b : Bool} (e2 : isTy a n = some b) : isiD [d, .ty n] S = .ok (.bl b) S := by
  unfold isiD
  simp [e, e2]
theorem bent_ok : ∀ (n : Nat) (v : D) (S : List O) (i : Nat) (T : Int), BendOk n v → Pot S i T → T + 2 * n < 2 ^ 20 → Ret (F_law_bent n [.hnd i, v] S) fun d S' => d ∈ bentL n v ∧ Step i (T + 2 * n) S S'
  | 0, _, _, _, _, hv, _, _ => hv.elim
  | n + 1, .str s, S, i, T, hv, h, hT => by
    have t1 : isiD [.str s, .ty "tuple"] S = .ok (.bl false) S := isi_tup (a := "str") _ S rfl _ rfl
    have t2 : isiD [.str s, .ty "str"] S = .ok (.bl true) S := isi_tup (a := "str") _ S rfl _ rfl
    have mL : ∀ ds : List D, ds.length ≤ 40 → mkL false ds S = .ok (.lst ds) S := fun ds hl => mkL_false S ds (small_line (by omega))
    obtain ⟨d, S', e, hd, st⟩ := of_ok (ds := bentL (n + 1) (.str s)) h (by omega) (by simp [bentL]) (by simp [bentL])
    refine ⟨d, S', ?_, hd, st.up (by omega)⟩
    simp only [bentL] at e
    have hv : s.length ≤ 1000 := hv
    have a1 : ∀ y : Str, y.length ≤ 10 → addD (.str s) (.str y) S = .ok (.str (s ++ y)) S := fun y hy => if_pos (small_line (by omega))
    have a2 : slD false (.str s) none (some (-1)) S = .ok (.str (cutS s none (some (-1)))) S := if_pos (small_line (by omega))
    have a3 : upperD (.str s) S = .ok (.str (Txt.upper s)) S := if_pos (by omega)
    show F_law_bent (n + 1) _ _ = _
    unfold F_law_bent t_law_bent
    simp [N_law_bent, t1, t2, truD, mL, a1 "x" (by decide), a1 " " (by decide), eSl, oSome, a2, a3, e]
  | n + 1, .bl b, S, i, T, _, h, hT => by
    have t1 : isiD [.bl b, .ty "tuple"] S = .ok (.bl false) S := isi_tup (a := "bool") _ S rfl _ rfl
    have t2 : isiD [.bl b, .ty "str"] S = .ok (.bl false) S := isi_tup (a := "bool") _ S rfl _ rfl
    have t3 : isiD [.bl b, .ty "bool"] S = .ok (.bl true) S := isi_tup (a := "bool") _ S rfl _ rfl
    have mL : ∀ ds : List D, ds.length ≤ 40 → mkL false ds S = .ok (.lst ds) S := fun ds hl => mkL_false S ds (small_line (by omega))
    obtain ⟨d, S', e, hd, st⟩ := of_ok (ds := bentL (n + 1) (.bl b)) h (by omega) (by simp [bentL]) (by simp [bentL])
    refine ⟨d, S', ?_, hd, st.up (by omega)⟩
    simp only [bentL] at e
    show F_law_bent (n + 1) _ _ = _
    unfold F_law_bent t_law_bent
    simp [N_law_bent, t1, t2, t3, truD, mL, e]
  | n + 1, .int j, S, i, T, hv, h, hT => by
    have t1 : isiD [.int j, .ty "tuple"] S = .ok (.bl false) S := isi_tup (a := "int") _ S rfl _ rfl
    have t2 : isiD [.int j, .ty "str"] S = .ok (.bl false) S := isi_tup (a := "int") _ S rfl _ rfl
    have t3 : isiD [.int j, .ty "bool"] S = .ok (.bl false) S := isi_tup (a := "int") _ S rfl _ rfl
    have t4 : isiD [.int j, .ty "int"] S = .ok (.bl true) S := isi_tup (a := "int") _ S rfl _ rfl
    have mL : ∀ ds : List D, ds.length ≤ 40 → mkL false ds S = .ok (.lst ds) S := fun ds hl => mkL_false S ds (small_line (by omega))
    have mT : ∀ ds : List D, ds.length ≤ 40 → mkT ds S = .ok (.tup ds) S := fun ds hl => mkT_ok' S ds (small_line (by omega))
    obtain ⟨d, S', e, hd, st⟩ := of_ok (ds := bentL (n + 1) (.int j)) h (by omega) (by simp [bentL]) (by simp [bentL])
    refine ⟨d, S', ?_, hd, st.up (by omega)⟩
    simp only [bentL] at e
    have hv : j.natAbs < 2 ^ 100 := hv
    have a1 : strD [.int j] S = .ok (.str (toString j)) S := if_pos (by
      have := log2_le (k := 100) hv (Nat.le_refl _)
      omega)
    have a2 : eqD (.int j) (.int 1) S = .ok (.bl (decide (j = 1))) S := rfl
    generalize (toString j : String) = y at a1 e
    show F_law_bent (n + 1) _ _ = _
    unfold F_law_bent t_law_bent
    simp [N_law_bent, t1, t2, t3, t4, truD, mL, mT, a1, a2, e]
  | n + 1, .non, S, i, T, _, h, hT => by
    have t1 : isiD [.non, .ty "tuple"] S = .ok (.bl false) S := isi_tup (a := "NoneType") _ S rfl _ rfl
    have t2 : isiD [.non, .ty "str"] S = .ok (.bl false) S := isi_tup (a := "NoneType") _ S rfl _ rfl
    have t3 : isiD [.non, .ty "bool"] S = .ok (.bl false) S := isi_tup (a := "NoneType") _ S rfl _ rfl
    have t4 : isiD [.non, .ty "int"] S = .ok (.bl false) S := isi_tup (a := "NoneType") _ S rfl _ rfl
    obtain ⟨d, S', e, hd, st⟩ := odd_ok h (by omega)
    refine ⟨d, S', ?_, hd, st.up (by omega)⟩
    show F_law_bent (n + 1) _ _ = _
    unfold F_law_bent t_law_bent
    simp [N_law_bent, t1, t2, t3, t4, truD, e]
  | n + 1, .lst ds, S, i, T, _, h, hT => by
    have t1 : isiD [.lst ds, .ty "tuple"] S = .ok (.bl false) S := isi_tup (a := "list") _ S rfl _ rfl
    have t2 : isiD [.lst ds, .ty "str"] S = .ok (.bl false) S := isi_tup (a := "list") _ S rfl _ rfl
    have t3 : isiD [.lst ds, .ty "bool"] S = .ok (.bl false) S := isi_tup (a := "list") _ S rfl _ rfl
    have t4 : isiD [.lst ds, .ty "int"] S = .ok (.bl false) S := isi_tup (a := "list") _ S rfl _ rfl
    obtain ⟨d, S', e, hd, st⟩ := odd_ok h (by omega)
    refine ⟨d, S', ?_, hd, st.up (by omega)⟩
    show F_law_bent (n + 1) _ _ = _
    unfold F_law_bent t_law_bent
    simp [N_law_bent, t1, t2, t3, t4, truD, e]
  | n + 1, .dct ds, S, i, T, _, h, hT => by
    have t1 : isiD [.dct ds, .ty "tuple"] S = .ok (.bl false) S := isi_tup (a := "dict") _ S rfl _ rfl
    have t2 : isiD [.dct ds, .ty "str"] S = .ok (.bl false) S := isi_tup (a := "dict") _ S rfl _ rfl
    have t3 : isiD [.dct ds, .ty "bool"] S = .ok (.bl false) S := isi_tup (a := "dict") _ S rfl _ rfl
    have t4 : isiD [.dct ds, .ty "int"] S = .ok (.bl false) S := isi_tup (a := "dict") _ S rfl _ rfl
    obtain ⟨d, S', e, hd, st⟩ := odd_ok h (by omega)
    refine ⟨d, S', ?_, hd, st.up (by omega)⟩
    show F_law_bent (n + 1) _ _ = _
    unfold F_law_bent t_law_bent
    simp [N_law_bent, t1, t2, t3, t4, truD, e]
  | n + 1, .tup ds, S, i, T, hv, h, hT => by
    obtain ⟨hl, hds, b, hne, hb⟩ := hv
    have t1 : ∀ S, isiD [.tup ds, .ty "tuple"] S = .ok (.bl true) S := fun S => isi_tup (a := "tuple") _ S rfl _ rfl
    have mL : ∀ (S : List O) (ds : List D), ds.length ≤ 2000 → mkL false ds S = .ok (.lst ds) S := fun S ds hl => mkL_false S ds (small_line (by omega))
    have mT : ∀ (S : List O) (ds : List D), ds.length ≤ 2000 → mkT ds S = .ok (.tup ds) S := fun S ds hl => mkT_ok' S ds (small_line (by omega))
    have cl : ∀ lo hi, (cutD ds lo hi).length ≤ ds.length := fun lo hi => by
      unfold TL.cutD
      rw [List.length_take, List.length_drop]
      omega
    have ad : ∀ (S : List O) (as bs : List D), as.length + bs.length ≤ 4000 → addD (.tup as) (.tup bs) S = .ok (.tup (as ++ bs)) S := fun S as bs hl => if_pos (small_line (by omega))
    have ls : ∀ S : List O, listD false [.tup ds] S = .ok (.lst ds) S := fun S => mL S ds (by omega)
    have sl : ∀ (S : List O) lo hi, slD false (.tup ds) lo hi S = .ok (.tup (cutD ds lo hi)) S := fun _ _ _ => rfl
    -- one of some
    have rest : ∀ (S : List O) (T : Int), Pot S i T → T < 2 ^ 20 → ∃ d S', F_law_of [.hnd i, .lst [.lst ds, .tup (cutD ds (some 1) none), .tup (cutD ds none (some (-1))), .tup (ds ++ cutD ds (some (-1)) none), .tup ds.reverse, .tup [], .tup (ds ++ [.int 0]), .non]] S = .ok d S' ∧ d ∈ bentL (n + 1) (.tup ds) ∧ Step i (T + 1) S S' := fun S T h hT => by
      obtain ⟨d, S', e, hd, st⟩ := of_ok (ds := [.lst ds, .tup (cutD ds (some 1) none), .tup (cutD ds none (some (-1))), .tup (ds ++ cutD ds (some (-1)) none), .tup ds.reverse, .tup [], .tup (ds ++ [.int 0]), .non]) h hT (by simp) (by simp)
      exact ⟨d, S', e, by simp only [bentL]; exact List.mem_append_right _ hd, st⟩
    have bk : ∀ S : List O, backD (.tup ds) S = .ok (.tup ds.reverse) S := fun _ => rfl
    have a1 := fun S => ad S ds (cutD ds (some (-1)) none) (by have := cl (some (-1)) none; omega)
    have a2 := fun S => ad S ds [.int 0] (by simp; omega)
    cases b with
    | false =>
      obtain ⟨d, S', e, hd, st⟩ := rest S T h (by omega)
      refine ⟨d, S', ?_, hd, st.up (by omega)⟩
      show F_law_bent (n + 1) _ _ = _
      unfold F_law_bent t_law_bent
      simp [N_law_bent, t1, truD, mT, hne, ls, sl, eSl, oSome, a1, a2, bk, mL, e]
    | true =>
      obtain ⟨d1, S1, e1, ⟨r, rfl, r0, r1⟩, st1⟩ := take (u := 6) h (by omega) (by decide) (by decide)
      by_cases hr : 0 < r
      · have hpos : 0 < ds.length := List.length_pos_iff.mpr (hb rfl)
        obtain ⟨d2, S2, e2, ⟨k, rfl, k0, k1⟩, st2⟩ := take (u := ds.length) st1.pot (by omega) (by omega) (by omega)
        obtain ⟨j, rfl⟩ := Int.eq_ofNat_of_zero_le k0
        have hj : j < ds.length := by omega
        obtain ⟨x, S3, e3, hx, st3⟩ := bent_ok n ds[j] S2 i (T + 1 + 1) (hds _ (List.getElem_mem hj)) st2.pot (by omega)
        refine ⟨.tup (cutD ds none (some (j : Nat)) ++ [x] ++ cutD ds (some ((j : Nat) + 1)) none), S3, ?_, ?_, ((st1.tr st2).tr st3).up (by omega)⟩
        · have ix := ix_tup (S := S2) (at_nat hj)
          have b1 := cl none (some (j : Nat))
          have b2 := cl (some ((j : Nat) + 1)) none
          have c1 := ad S3 (cutD ds none (some (j : Nat))) [x] (by simp; omega)
          have c2 := ad S3 (cutD ds none (some (j : Nat)) ++ [x]) (cutD ds (some ((j : Nat) + 1)) none) (by simp; omega)
          show F_law_bent (n + 1) _ _ = _
          unfold F_law_bent t_law_bent
          simp [N_law_bent, t1, truD, mT, hne, e1, hr, len_tup, e2, sl, eSl, oSome, ix, e3, c1, c2]
        · simp only [bentL]
          refine List.mem_append_left _ (List.mem_flatMap.mpr ⟨j, List.mem_range.mpr hj, ?_⟩)
          rw [List.getElem?_eq_getElem hj]
          exact List.mem_map_of_mem hx
      · obtain ⟨d, S', e, hd, st⟩ := rest S1 (T + 1) st1.pot (by omega)
        refine ⟨d, S', ?_, hd, (st1.tr st).up (by omega)⟩
        show F_law_bent (n + 1) _ _ = _
        unfold F_law_bent t_law_bent
        simp [N_law_bent, t1, truD, mT, hne, e1, hr, ls, sl, eSl, oSome, a1, a2, bk, mL, e]
  | n + 1, .scr _, _, _, _, hv, _, _ => hv.elim
  | n + 1, .ty _, _, _, _, hv, _, _ => hv.elim
  | n + 1, .ins _ _, _, _, _, hv, _, _ => hv.elim
  | n + 1, .cls _, _, _, _, hv, _, _ => hv.elim
  | n + 1, .exc _ _, _, _, _, hv, _, _ => hv.elim
  | n + 1, .hnd _, _, _, _, hv, _, _ => hv.elim
  | n + 1, .any, _, _, _, hv, _, _ => hv.elim
/-- all errors of a value -/
def errL : List Str := ex.drop 1
theorem errL_len : errL.length = 40 := by decide +kernel
theorem cat_lst {own : Bool} (as bs : List D) (S : List O) : catD own (.lst as) (.lst bs) S = mkL own (as ++ bs) S := rfl
theorem all_ok (v : D) (S : List O) : F_law_all [v] S = .ok (.lst (errL.map fun C => .exc C v)) S := by
  have mL : ∀ ds : List D, ds.length ≤ 100 → mkL false ds S = .ok (.lst ds) S := fun ds hl => mkL_false S ds (small_line (by omega))
  have e : (errL.map fun C => D.exc C v) = [.exc "BadParts" v, .exc "BadNumber" v, .exc "BadText" v, .exc "BadName" v, .exc "BadValues" v, .exc "BadDial" v, .exc "BadSum" v, .exc "BadWhole" v, .exc "BadShares" v, .exc "BadOthers" v, .exc "TooGreat" v, .exc "BadRows" v, .exc "BadSums" v, .exc "BadPlan" v, .exc "NoNote" v, .exc "NoPerson" v, .exc "BadPeople" v, .exc "BadBy" v, .exc "NoLine" v, .exc "BadLine" v, .exc "Needed" v, .exc "BadNumbers" v, .exc "BadFew" v, .exc "Unlike" v, .exc "BadSeen" v, .exc "NoFit" v, .exc "BadOffers" v, .exc "BadWishes" v, .exc "BadRounds" v, .exc "BadLooks" v, .exc "BadWord" v, .exc "TooMany" v, .exc "BadNote" v, .exc "Full" v, .exc "NothingToUndo" v, .exc "NothingToRedo" v, .exc "NoTrial" v, .exc "BadJournal" v, .exc "BadDesk" v, .exc "BadSay" v] := rfl
  rw [e]
  unfold F_law_all t_law_all
  simp [N_law_all, mL, cat_lst, mkE]
theorem marks_ok {C : Str} (hC : C ∈ ex) (v : D) (S : List O) : F_law_marks [.exc C v] S = .ok (.lst (errL.map fun B => .bl (isErr C B))) S := by
  have mL : ∀ ds : List D, ds.length ≤ 100 → mkL false ds S = .ok (.lst ds) S := fun ds hl => mkL_false S ds (small_line (by omega))
  have m : ∀ B : Str, B ∈ ex → isiE ex [.exc C v, .cls B] S = .ok (.bl (isErr C B)) S := fun B hB => if_pos ⟨hC, hB⟩
  have m0 := m "BadParts" (by decide +kernel)
  have m1 := m "BadNumber" (by decide +kernel)
  have m2 := m "BadText" (by decide +kernel)
  have m3 := m "BadName" (by decide +kernel)
  have m4 := m "BadValues" (by decide +kernel)
  have m5 := m "BadDial" (by decide +kernel)
  have m6 := m "BadSum" (by decide +kernel)
  have m7 := m "BadWhole" (by decide +kernel)
  have m8 := m "BadShares" (by decide +kernel)
  have m9 := m "BadOthers" (by decide +kernel)
  have m10 := m "TooGreat" (by decide +kernel)
  have m11 := m "BadRows" (by decide +kernel)
  have m12 := m "BadSums" (by decide +kernel)
  have m13 := m "BadPlan" (by decide +kernel)
  have m14 := m "NoNote" (by decide +kernel)
  have m15 := m "NoPerson" (by decide +kernel)
  have m16 := m "BadPeople" (by decide +kernel)
  have m17 := m "BadBy" (by decide +kernel)
  have m18 := m "NoLine" (by decide +kernel)
  have m19 := m "BadLine" (by decide +kernel)
  have m20 := m "Needed" (by decide +kernel)
  have m21 := m "BadNumbers" (by decide +kernel)
  have m22 := m "BadFew" (by decide +kernel)
  have m23 := m "Unlike" (by decide +kernel)
  have m24 := m "BadSeen" (by decide +kernel)
  have m25 := m "NoFit" (by decide +kernel)
  have m26 := m "BadOffers" (by decide +kernel)
  have m27 := m "BadWishes" (by decide +kernel)
  have m28 := m "BadRounds" (by decide +kernel)
  have m29 := m "BadLooks" (by decide +kernel)
  have m30 := m "BadWord" (by decide +kernel)
  have m31 := m "TooMany" (by decide +kernel)
  have m32 := m "BadNote" (by decide +kernel)
  have m33 := m "Full" (by decide +kernel)
  have m34 := m "NothingToUndo" (by decide +kernel)
  have m35 := m "NothingToRedo" (by decide +kernel)
  have m36 := m "NoTrial" (by decide +kernel)
  have m37 := m "BadJournal" (by decide +kernel)
  have m38 := m "BadDesk" (by decide +kernel)
  have m39 := m "BadSay" (by decide +kernel)
  have e : (errL.map fun B => D.bl (isErr C B)) = [.bl (isErr C "BadParts"), .bl (isErr C "BadNumber"), .bl (isErr C "BadText"), .bl (isErr C "BadName"), .bl (isErr C "BadValues"), .bl (isErr C "BadDial"), .bl (isErr C "BadSum"), .bl (isErr C "BadWhole"), .bl (isErr C "BadShares"), .bl (isErr C "BadOthers"), .bl (isErr C "TooGreat"), .bl (isErr C "BadRows"), .bl (isErr C "BadSums"), .bl (isErr C "BadPlan"), .bl (isErr C "NoNote"), .bl (isErr C "NoPerson"), .bl (isErr C "BadPeople"), .bl (isErr C "BadBy"), .bl (isErr C "NoLine"), .bl (isErr C "BadLine"), .bl (isErr C "Needed"), .bl (isErr C "BadNumbers"), .bl (isErr C "BadFew"), .bl (isErr C "Unlike"), .bl (isErr C "BadSeen"), .bl (isErr C "NoFit"), .bl (isErr C "BadOffers"), .bl (isErr C "BadWishes"), .bl (isErr C "BadRounds"), .bl (isErr C "BadLooks"), .bl (isErr C "BadWord"), .bl (isErr C "TooMany"), .bl (isErr C "BadNote"), .bl (isErr C "Full"), .bl (isErr C "NothingToUndo"), .bl (isErr C "NothingToRedo"), .bl (isErr C "NoTrial"), .bl (isErr C "BadJournal"), .bl (isErr C "BadDesk"), .bl (isErr C "BadSay")] := rfl
  rw [e]
  unfold F_law_marks t_law_marks
  simp [N_law_marks, mL, cat_lst, m0, m1, m2, m3, m4, m5, m6, m7, m8, m9, m10, m11, m12, m13, m14, m15, m16, m17, m18, m19, m20, m21, m22, m23, m24, m25, m26, m27, m28, m29, m30, m31, m32, m33, m34, m35, m36, m37, m38, m39]
end K00
set_option Elab.async false
set_option linter.all false
set_option maxRecDepth 100000
set_option maxHeartbeats 4000000
namespace K00
open PySem PySem.Spec PyProof.Rows L2 TL
/-! the law itself -/
def goodB (d : D) : Bool := match pd d with
  | some x => reprOk x
  | none => false
theorem good_repr {d : D} (h : goodB d = true) : ∃ y : Str, ∀ S, reprD [d] S = .ok (.str y) S := by
  unfold goodB at h
  cases e : pd d with
  | none => rw [e] at h; cases h
  | some x =>
    rw [e] at h
    refine ⟨x.shown, fun S => ?_⟩
    unfold reprD
    simp only [e]
    rw [if_pos h]
def v0 : D := .tup [.tup [.str "x", .str "a"], .int 3]
theorem good_odd : ∀ d ∈ oddA ++ oddB, goodB d = true ∧ goodB (.lst [d]) = true ∧ goodB (.dct [(.inr "a", d)]) = true := by
  have h : ((oddA ++ oddB).all fun d => goodB d && (goodB (.lst [d]) && goodB (.dct [(.inr "a", d)]))) = true := by decide +kernel
  intro d hd
  have := List.all_eq_true.mp h d hd
  simpa [Bool.and_eq_true] using this
theorem good_bent : ∀ d ∈ bentL 3 v0, goodB d = true := by
  have h : ((bentL 3 v0).all goodB) = true := by decide +kernel
  exact List.all_eq_true.mp h
theorem bend_v0 : BendOk 3 v0 := by
  refine ⟨by decide, ?_, true, fun S => ?_, fun _ => by simp⟩
  · intro d hd
    simp only [List.mem_cons, List.not_mem_nil, or_false] at hd
    rcases hd with rfl | rfl
    · refine ⟨by decide, ?_, true, fun S => ?_, fun _ => by simp⟩
      · intro d hd
        simp only [List.mem_cons, List.not_mem_nil, or_false] at hd
        rcases hd with rfl | rfl
        · show Str.length "x" ≤ 1000
          decide
        · show Str.length "a" ≤ 1000
          decide
      · unfold neD
        simp only [pd, pds, Option.bind_some, Option.map_some]
        rw [if_pos (by decide +kernel)]
        rfl
    · show (3 : Int).natAbs < 2 ^ 100
      decide
  · unfold neD
    simp only [pd, pds, Option.bind_some, Option.map_some]
    rw [if_pos (by decide +kernel)]
    rfl
def blD (bs : List Bool) : D := .lst (bs.map D.bl)
theorem pd_bls : ∀ bs : List Bool, pds (bs.map D.bl) = some (bs.map PyData.bool)
  | [] => by simp only [List.map_nil, pds]
  | b :: bs => by
    simp only [List.map_cons, pds, pd, pd_bls bs]
    rfl
theorem lay_bls : ∀ bs : List Bool, PyData.canLayAll0 (bs.map PyData.bool) = true ∧ PyData.depthAll (bs.map PyData.bool) = 0
  | [] => by simp [PyData.canLayAll0, PyData.depthAll]
  | b :: bs => by
    obtain ⟨h1, h2⟩ := lay_bls bs
    simp [PyData.canLayAll0, PyData.depthAll, PyData.canLay0, PyData.depth, h1, h2]
theorem eqv_bls : ∀ bs : List Bool, PyData.eqvAll (bs.map PyData.bool) (bs.map PyData.bool) = true
  | [] => by simp [PyData.eqvAll]
  | b :: bs => by simp [PyData.eqvAll, PyData.eqv, eqv_bls bs]
theorem ne_bls (bs : List Bool) (S : List O) : neD (.lst (bs.map D.bl)) (.lst (bs.map D.bl)) S = .ok (.bl false) S := by
  have h : SeqAt.shaped (.list (bs.map PyData.bool)) = true := by
    obtain ⟨h1, h2⟩ := lay_bls bs
    unfold SeqAt.shaped
    simp [PyData.canLay0, PyData.depth, h1, h2]
  have e : PyData.eqv (.list (bs.map PyData.bool)) (.list (bs.map PyData.bool)) = true := by
    simp [PyData.eqv, eqv_bls bs]
  unfold neD
  simp only [pd, pd_bls, Option.map_some, h, and_self, if_true, e, Bool.not_true]
theorem mk_eq : ∀ k < 40, (errL.map (isErr (errL.getD k ""))) = (List.range 40).map fun j => decide (k = j) := by decide +kernel
theorem mk_base : (errL.map (isErr dErr)) = List.replicate 40 false := by decide +kernel
theorem err_ex : ∀ C ∈ errL, C ∈ ex := by decide +kernel
theorem map_bl (f : Str → Bool) (l : List Str) : (l.map fun B => D.bl (f B)) = (l.map f).map D.bl := by simp
/-- a turn of the loop -/
theorem right_turn {v : D} {y : Str} (hy : ∀ S, reprD [v] S = .ok (.str y) S) (S : List O) (i : Nat) (L : D) {C : Str} {k : Nat} (hk2 : C ∈ errL) (hk : errL.map (isErr C) = (List.range 40).map fun j => decide (k = j)) (x4 x5 : Option D) :
    ∃ ρ1 ρ2, gTp 2 (gsCons (gNm 4) (gsCons (gNm 5) gsNil)) (.tup [.int (k : Nat), .exc C v]) [some (.hnd i), some L, some v, some (.lst (errL.map fun C => .exc C v)), x4, x5, none, none] S = .nx ρ1 S ∧
      (sSeq (sIf (tOrT (tNotT (tTru (eArgs (isiE ex) (aCons (eVar 5) (aCons (eC (.cls "DialError")) aNil))))) (tNotT (tTru (eArgs (isiE ex) (aCons (eVar 5) (aCons (eC (.ty "ValueError")) aNil)))))) (sRet (eC (.bl false))) sNext)
    (sIf (tOrT (tBl (eBin neD (eArgs reprD (aCons (eUn (valE ex) (eVar 5)) aNil)) (eArgs reprD (aCons (eVar 2) aNil)))) (tBl (eBin neD (eArgs F_law_marks (aCons (eVar 5) aNil)) (eLc false [7] (iRg1 (aCons (eArgs lenD (aCons (eVar 3) aNil)) aNil)) (gNm 7) tYesD (eBin eqD (eVar 4) (eVar 7)))))) (sRet (eC (.bl false))) sNext)) ρ1 S = .nx ρ2 S ∧
      ∃ x4 x5, ρ2 = [some (.hnd i), some L, some v, some (.lst (errL.map fun C => .exc C v)), x4, x5, none, none] := by
  refine ⟨[some (.hnd i), some L, some v, some (.lst (errL.map fun C => .exc C v)), some (.int (k : Nat)), some (.exc C v), none, none], _, ?_, ?_, some (.int (k : Nat)), some (.exc C v), rfl⟩
  · simp
  · have hl := errL_len
    have hC := err_ex _ hk2
    have i1 : isiE ex [.exc C v, .cls "DialError"] S = .ok (.bl true) S := by
      have : isErr C "DialError" = true := by
        unfold isErr
        simp
      rw [← this]
      exact if_pos ⟨hC, by decide +kernel⟩
    have i2 : isiE ex [.exc C v, .ty "ValueError"] S = .ok (.bl true) S := by
      simp [isiE, hC, tyErr]
    have vv : valE ex (.exc C v) S = .ok v S := if_pos hC
    have nn : neD (.str y) (.str y) S = .ok (.bl false) S := by
      unfold neD
      simp
    have mm := marks_ok hC v S
    rw [map_bl] at mm
    have ln : lenD [.lst (errL.map fun C => D.exc C v)] S = .ok (.int 40) S := by
      unfold lenD seqOf lstOf
      simp [hl]
    have cp : compL [7] (gNm 7) tYesD (eBin eqD (eVar 4) (eVar 7)) (rng 0 40) [] [some (.hnd i), some L, some v, some (.lst (errL.map fun C => .exc C v)), some (.int (k : Nat)), some (.exc C v), none, none] S = .ok ((errL.map (isErr C)).map D.bl) S := by
      rw [compL_pure (fun d => match d with
        | .int j => .bl (decide ((k : Int) = j))
        | _ => .non) (rng 0 40) [] (fun d hd => ?_)]
      · rw [hk]
        unfold rng
        simp
        intro a _
        omega
      · unfold rng at hd
        obtain ⟨j, _, rfl⟩ := List.mem_map.mp hd
        refine ⟨[some (.hnd i), some L, some v, some (.lst (errL.map fun C => .exc C v)), some (.int (k : Nat)), some (.exc C v), none, some (.int (0 + (j : Nat)))], ?_, rfl, ?_⟩
        · simp [wipeD]
        · simp [eqD]
    have nm : neD (.lst ((errL.map (isErr C)).map D.bl)) (.lst ((errL.map (isErr C)).map D.bl)) S = .ok (.bl false) S := ne_bls _ S
    have rg : iRg1 (aCons (eArgs lenD (aCons (eVar 3) aNil)) aNil) [some (.hnd i), some L, some v, some (.lst (errL.map fun C => .exc C v)), some (.int (k : Nat)), some (.exc C v), none, none] S = .ok (rng 0 40) S := by
      unfold iRg1
      simp [ln]
    have rl : (rng 0 40).length ≤ sizeLine := by
      rw [rng_len]
      exact small_line (by decide)
    have ml : mkL false ((errL.map (isErr C)).map D.bl) S = .ok (.lst ((errL.map (isErr C)).map D.bl)) S := mkL_false S _ (by
      rw [List.length_map, List.length_map, hl]
      exact small_line (by decide))
    generalize errL.map (isErr C) = bs at *
    simp [i1, i2, truD, vv, hy, nn, mm, rg, rl, cp, ml, nm]
theorem enum_mem {l : List Str} {v d : D} (h : d ∈ enumD (l.map fun C => .exc C v)) : ∃ k < l.length, d = .tup [.int (k : Nat), .exc (l.getD k "") v] := by
  unfold enumD at h
  obtain ⟨p, hp, rfl⟩ := List.mem_map.mp h
  obtain ⟨x, k⟩ := p
  have h1 := List.mem_zipIdx hp
  simp at h1
  obtain ⟨h2, h3⟩ := h1
  refine ⟨k, h2, ?_⟩
  rw [h3, List.getD_eq_getElem?_getD, List.getElem?_eq_getElem h2]
  rfl
theorem right_ok {S : List O} {i : Nat} (h : Pot S i 0) : ∃ S', F_law_right [.hnd i] S = .ok (.bl true) S' := by
  have mL : ∀ (S : List O) (ds : List D), ds.length ≤ 40 → mkL false ds S = .ok (.lst ds) S := fun S ds hl => mkL_false S ds (small_line (by omega))
  have mT : ∀ (S : List O) (ds : List D), ds.length ≤ 40 → mkT ds S = .ok (.tup ds) S := fun S ds hl => mkT_ok' S ds (small_line (by omega))
  obtain ⟨d1, S1, e1, g1, s1⟩ := odd_ok h (by decide)
  obtain ⟨d2, S2, e2, g2, s2⟩ := bent_ok 3 v0 S1 i (0 + 1) bend_v0 s1.pot (by decide)
  obtain ⟨d3, S3, e3, g3, s3⟩ := odd_ok s2.pot (by decide)
  obtain ⟨d4, S4, e4, g4, s4⟩ := odd_ok s3.pot (by decide)
  obtain ⟨v, S5, e5, g5, s5⟩ := of_ok (ds := [d1, d2, .lst [d3], .dct [(.inr "a", d4)]]) s4.pot (by decide) (by simp) (by simp)
  have gv : goodB v = true := by
    simp only [List.mem_cons, List.not_mem_nil, or_false] at g5
    rcases g5 with rfl | rfl | rfl | rfl
    · exact (good_odd _ g1).1
    · exact good_bent _ g2
    · exact (good_odd _ g3).2.1
    · exact (good_odd _ g4).2.2
  obtain ⟨y, hy⟩ := good_repr gv
  have ha := all_ok v S5
  unfold v0 at e2
  obtain ⟨ρ', lp, x4, x5, rfl⟩ := forL_inv (S := S5) (tg := gTp 2 (gsCons (gNm 4) (gsCons (gNm 5) gsNil))) (tb := sSeq (sIf (tOrT (tNotT (tTru (eArgs (isiE ex) (aCons (eVar 5) (aCons (eC (.cls "DialError")) aNil))))) (tNotT (tTru (eArgs (isiE ex) (aCons (eVar 5) (aCons (eC (.ty "ValueError")) aNil)))))) (sRet (eC (.bl false))) sNext)
    (sIf (tOrT (tBl (eBin neD (eArgs reprD (aCons (eUn (valE ex) (eVar 5)) aNil)) (eArgs reprD (aCons (eVar 2) aNil)))) (tBl (eBin neD (eArgs F_law_marks (aCons (eVar 5) aNil)) (eLc false [7] (iRg1 (aCons (eArgs lenD (aCons (eVar 3) aNil)) aNil)) (gNm 7) tYesD (eBin eqD (eVar 4) (eVar 7)))))) (sRet (eC (.bl false))) sNext))
    (fun ρ => ∃ x4 x5, ρ = [some (.hnd i), some (.lst [d1, d2, .lst [d3]]), some v, some (.lst (errL.map fun C => .exc C v)), x4, x5, none, none]) (enumD (errL.map fun C => .exc C v))
    [some (.hnd i), some (.lst [d1, d2, .lst [d3]]), some v, some (.lst (errL.map fun C => .exc C v)), none, none, none, none] (fun d hd ρ hρ => by
      obtain ⟨x4, x5, rfl⟩ := hρ
      obtain ⟨k, hk, rfl⟩ := enum_mem hd
      have hk : k < 40 := by
        have := errL_len
        omega
      have hm : errL.getD k "" ∈ errL := by
        rw [List.getD_eq_getElem?_getD, List.getElem?_eq_getElem (by have := errL_len; omega)]
        exact List.getElem_mem _
      obtain ⟨ρ1, ρ2, q1, q2, q3⟩ := right_turn hy S5 i (.lst [d1, d2, .lst [d3]]) hm (mk_eq k hk) x4 x5
      exact ⟨ρ1, ρ2, q1, .inl q2, q3⟩) ⟨none, none, rfl⟩
  have hD : (Str.ofString "DialError") ∈ ex := by decide +kernel
  have vv : valE ex (.exc "DialError" v) S5 = .ok v S5 := by simp [valE, hD]
  have i2 : isiE ex [.exc "DialError" v, .ty "ValueError"] S5 = .ok (.bl true) S5 := by
    simp [isiE, hD, tyErr]
  have mm := marks_ok (C := "DialError") (by decide +kernel) v S5
  have em : (errL.map fun B => D.bl (isErr "DialError" B)) = (List.replicate 40 false).map D.bl := by
    rw [map_bl, ← mk_base]
  rw [em] at mm
  have an : anyD [.lst ((List.replicate 40 false).map D.bl)] S5 = .ok (.bl false) S5 := by
    unfold anyD lstOf
    simp only [Option.bind_some, blsOf_map]
    rfl
  have en : iEn (aCons (eVar 3) aNil) [some (.hnd i), some (.lst [d1, d2, .lst [d3]]), some v, some (.lst (errL.map fun C => .exc C v)), none, none, none, none] S5 = .ok (enumD (errL.map fun C => .exc C v)) S5 := by
    unfold iEn
    simp
  have eqq : eqD (.str y) (.str y) S5 = .ok (.bl true) S5 := by
    unfold eqD
    simp
  refine ⟨S5, ?_⟩
  generalize hM : D.lst ((List.replicate 40 false).map D.bl) = M at *
  unfold F_law_right t_law_right
  simp [N_law_right, mL, mT, e1, e2, e3, e4, e5, cat_lst, mkD, eDct, pCons, keyOf, mergeG, TL.putG, hasK, ha, en]
  rw [lp]
  simp [mkE, vv, hy, eqq, truD, i2, mm, an]
theorem law_ok (ns : List Int) (hl : ns.length ≤ 63) : ∃ S, Flaw [.scr ns] [] = .ok (.bl true) S := by
  have pl := places_ok (ns := ns) (m := 4) (S := []) (by decide)
  obtain ⟨S', e, _⟩ := compL_inv (vs := [1]) (tg := gNm 1) (tt := tYesD) (te := eArgs F_law_right (aCons (eArgs F_law_pot (aCons (eVar 0) (aCons (eVar 1) aNil))) aNil)) (ρ := [some (.scr ns), none]) (fun _ => True) (fun _ => .bl true) (rng 0 (max 1 (min 4 ns.length))) [] [] (fun d hd S _ => by
    unfold rng at hd
    obtain ⟨k, hk, rfl⟩ := List.mem_map.mp hd
    have hk := List.mem_range.mp hk
    have hk4 : (k : Int) < 4 := by
      rw [Int.max_def, Int.min_def] at hk
      split at hk <;> split at hk <;> omega
    obtain ⟨_, S1, e1, rfl, o, rfl, hp⟩ := pot_ok (ns := ns) (k := 0 + (k : Nat)) S (by omega) (by omega)
    obtain ⟨S2, e2⟩ := right_ok hp
    refine ⟨[some (.scr ns), some (.int (0 + (k : Nat)))], S, S2, ?_, rfl, ?_, trivial⟩
    · simp [wipeD]
    · simp at e1
      simp [e1, e2]) trivial
  have hlen : (rng 0 (max 1 (min 4 ns.length))).length ≤ 4 := by
    rw [rng_len, Int.max_def, Int.min_def]
    split <;> split <;> omega
  generalize rng 0 (max 1 (min 4 (ns.length : Int))) = ds at *
  have e : compL [1] (gNm 1) tYesD (eArgs F_law_right (aCons (eArgs F_law_pot (aCons (eVar 0) (aCons (eVar 1) aNil))) aNil)) ds [] [some (.scr ns), none] [] = .ok ((List.replicate ds.length true).map D.bl) S' := by
    rw [e, List.nil_append, List.map_replicate, List.map_const']
  have ml : mkL false ((List.replicate ds.length true).map D.bl) S' = .ok (.lst ((List.replicate ds.length true).map D.bl)) S' := mkL_false S' _ (small_line (by simp; omega))
  have al : allD [.lst ((List.replicate ds.length true).map D.bl)] S' = .ok (.bl true) S' := by
    unfold allD lstOf
    simp only [Option.bind_some, blsOf_map]
    simp
  have sz : ds.length ≤ sizeLine := small_line (by omega)
  refine ⟨S', ?_⟩
  generalize (List.replicate ds.length true).map D.bl = bs at *
  unfold Flaw tlaw
  simp [Nlaw, iLst, pl, sz, e, ml, al]
end K00
set_option Elab.async false
set_option linter.all false
set_option maxRecDepth 100000
set_option maxHeartbeats 0
open PySem PySem.W PySem.Calls PyProof.Rows
theorem PySem.Challenge.cw_dialsums_k00_errors_keep_their_values_holds : PySem.Challenge.rw_dialsums_k00_errors_keep_their_values.Holds := by
  w_on; o_law
  refine HandSHeadRun.head_any (r := OpenLaw.row PySem.Challenge.rw_dialsums_k00_errors_keep_their_values) (q := view (OpenLaw.row PySem.Challenge.rw_dialsums_k00_errors_keep_their_values).prog [52]) (H := K00.hk) (ob := K00.ob) (M := 12000) (loose := K00.loose) (d := HandSHeadRun.topDef (OpenLaw.row PySem.Challenge.rw_dialsums_k00_errors_keep_their_values).prog 52) (kwd := [])
    K00.ob_eq (by kernel_rfl) (fun s => by kernel_rfl) K00.run (by kernel_rfl) (by kernel_rfl) (by kernel_rfl) (by rfl) (by first | assumption | decide +kernel) (by decide +kernel) ⟨rfl, rfl, rfl, rfl, rfl, by decide +kernel⟩ ?hw ?hc
  case hw => w_witness2
  case hc =>
    refine TL.walk_T (l := PySem.Challenge.rw_dialsums_k00_errors_keep_their_values) (n := 63) (k := 9) (x := "_law_script") (F := K00.Flaw) rfl (by decide) (by kernel_rfl) ⟨rfl, by decide, by decide⟩ ?_ fun ns hl hb => K00.law_ok ns hl
    intro w mg fa h Y G hmg0
    obtain ⟨K, KX, c⟩ := Y
    have hmg : mg ("law" : PySem.Str) = some (.ref fa) := by
      have e : (HandSHeadRun.topDef (OpenLaw.row PySem.Challenge.rw_dialsums_k00_errors_keep_their_values).prog 52).name = ("law" : PySem.Str) := by kernel_rfl
      rw [← e]
      exact hmg0
    obtain ⟨fd, hb, hF⟩ := K00.facts (w := w) KX G hmg c
    exact ⟨K, fd, KX, hb, hF⟩
