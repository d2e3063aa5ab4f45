import PyProof.Rows.All
import HandS.ForMost
import HandS.Flow
import HandS.Wide
import HandS.Walk
import HandS.Exc
import HandS.IsInst
import HandS.HeadHook2
import HandS.Lambda
import PyProof.ReprRoads
import HandS.TupAny
import HandS.Style
import HandS.Conv
import HandS.Defaults
import HandS.WordsExc
import HandS.More
import HandS.Text
import HandS.Small
import HandS.RaiseMore
import PyProof.RowDictHeap
import HandS.Dict
import HandS.ExcInit
import KE.KExcSuper
import HandS.ExcValue
import KE.KExcIs
import HandS.HeadHook1
import HandS.EndBits
import HandS.Head0
import HandS.Head1
import HandS.Head2
import HandS.Words
import HandS.Property
import OpenK.KMeth
import KE.KOpsOwn
import KE.KCallOwn
import HandS.Set
import HandS.Strs
import PyProof.Rows.SortShellAny
import HandS.Iter
import PyProof.Laws
import HandS.DictComp
import PyProof.ReprLen
import HandS.EndTab
import HandS.FStr
import HandS.DictTup
import KE.KItemsList
import PySem.Challenge.RW_dialsums_k05_rests_and_what_is_put_in
import HandS.HeadEnd
set_option Elab.async false
set_option linter.all false
set_option maxRecDepth 100000
set_option maxHeartbeats 4000000
/-! The tree layer, part 0: values as trees, a store of local mutable objects, the relation to the abstract heap. -/
namespace TL
open PySem PySem.Spec PyProof.Rows L2

/-- a value as a tree; hnd i: the i-th object of the store (it may change) -/
inductive D where
  | non | bl (b : Bool) | int (i : Int) | str (s : Str) | ty (n : String)
  | tup (ds : List D) | lst (ds : List D) | scr (ns : List Int)
  | dct (kvs : List (Key × D)) | ins (C : Str) (fs : List (Str × D))
  | cls (C : Str) | exc (C : Str) (d : D) | hnd (i : Nat) | any

/-- an object of the store -/
inductive O where
  | lst (ds : List D) | dct (kvs : List (Key × D)) | ins (C : Str) (fs : List (Str × D)) | tbl (q : Str)

/-- where the store's objects stand; bad: what a tree must not lean on -/
structure G where
  bad : Addr → Prop
  hs : List Addr

abbrev Env1 := List (Option D)
/-- an exception object of the class cls, its own dict at dd -/
def ExO (cls : Value) (dd : Option Addr) (a : Addr) : HO := .ext fun h => ∃ (oe : Obj) (vs : Array Value), h.get? a = some oe ∧ Zc cls dd oe ∧ oe.data = .fields vs

/-- a table of code objects, all of the name q -/
def TbO (g : G) (H : Hp) (a : Addr) (q : Str) : Prop := ∃ ps : Array Value, H a = some (.tbl ps) ∧ TriplesOk ps.toList ∧ ∀ (pos : Pos) (cv : Value), codeAmong pos ps.toList = some cv → ∃ c, cv = .ref c ∧ H c = some (LamX.CodeO c q) ∧ ¬ g.bad c
/-- a def's code object -/
def cdAt (K : PySem.W.Frag) (f : Addr) : Value := match K.lookup f with
  | some ⟨_, _, .func fd, _⟩ => fd.code
  | _ => .none
/-- where the def x of the module keeps the code objects that it makes -/
def tabA (K : PySem.W.Frag) (x : Str) : Option Addr := match cdAt K (He.ga K x) with
  | .ref c => (match K.lookup c with
    | some o => (match o.data with
      | .fields vs => (match (vs[11]? : Option Value) with
        | some (Value.ref P) => some P
        | _ => none)
      | _ => none)
    | none => none)
  | _ => none
/-- the name of x's lambdas -/
def lamQ (x : Str) : Str := (x ++ ".<locals>.") ++ "<lambda>"
section
variable (K : PySem.W.Frag) (g : G) (H : Hp)
def TupAt (a : Addr) (xs : List V) : Prop := (H a = some (.tup xs) ∧ ¬ g.bad a) ∨
    ∃ (o : Obj) (its : Array Value) (n : Nat), K.lookup a = some o ∧ o.cls = .type "tuple" ∧ o.data = .seq its n ∧ its.size ≤ sizeLine ∧ Vals xs its.toList
def ScrAt (a : Addr) (xs : List V) : Prop := ((∃ o, H a = some (.frz o (.lst xs))) ∧ ¬ g.bad a) ∨
    ∃ (o : Obj) (its : Array Value) (n : Nat), K.lookup a = some o ∧ o.cls = .type "list" ∧ o.dict = none ∧ o.data = .seq its n ∧ its.size ≤ sizeLine ∧ Vals xs its.toList
mutual
def RV : D → V → Prop
  | .non, v => v = .non
  | .bl b, v => v = .bl b
  | .int i, v => v = .int i
  | .str s, v => v = .str s
  | .ty n, v => v = .ty n
  | .tup ds, v => ∃ a xs, v = .ref a ∧ TupAt K g H a xs ∧ RVs ds xs
  | .lst ds, v => ∃ a xs, v = .ref a ∧ H a = some (.lst xs) ∧ ¬ g.bad a ∧ RVs ds xs
  | .scr ns, v => ∃ a, v = .ref a ∧ ScrAt K g H a (ns.map V.int)
  | .dct kvs, v => ∃ a ws, v = .ref a ∧ Rd H a (.dK ws) ∧ ¬ g.bad a ∧ RKs kvs ws
  | .ins C fs, v => ∃ a dx ws, v = .ref a ∧ H a = some (.ins (He.ga K C) dx ws) ∧ ¬ g.bad a ∧ RFs fs ws
  | .cls C, v => v = .ref (He.ga K C)
  | .exc C d, v => ∃ a dd w, v = .ref a ∧ H a = some (ExO (.ref (He.ga K C)) (some dd) a) ∧ ¬ g.bad a ∧ H dd = some (.xd [("value", w)]) ∧ ¬ g.bad dd ∧ RV d w
  | .hnd i, v => ∃ a, v = .ref a ∧ g.hs[i]? = some a
  | .any, _ => True
def RVs : List D → List V → Prop
  | [], xs => xs = []
  | d :: ds, xs => ∃ v r, xs = v :: r ∧ RV d v ∧ RVs ds r
def RKs : List (Key × D) → List (Key × V) → Prop
  | [], xs => xs = []
  | (k, d) :: ds, xs => ∃ v r, xs = (k, v) :: r ∧ RV d v ∧ RKs ds r
def RFs : List (Str × D) → List (Str × V) → Prop
  | [], xs => xs = []
  | (k, d) :: ds, xs => ∃ v r, xs = (k, v) :: r ∧ RV d v ∧ RFs ds r
end
def RO : O → Addr → Prop
  | .lst ds, a => ∃ xs, H a = some (.lst xs) ∧ RVs K g H ds xs
  | .dct kvs, a => ∃ ws, H a = some (.dK ws) ∧ RKs K g H kvs ws
  | .ins C fs, a => ∃ dx ws, H a = some (.ins (He.ga K C) dx ws) ∧ RFs K g H fs ws
  | .tbl x, a => TbO g H a (lamQ x) ∧ tabA K x = some a
/-- the slots -/
def RS : List (Option D) → L2.St → Prop
  | [], σ => σ = []
  | none :: r, σ => ∃ o z, σ = o :: z ∧ RS r z
  | some d :: r, σ => ∃ v z, σ = some v :: z ∧ RV K g H d v ∧ RS r z
end

/-- the store stands in the heap -/
structure SR (K : PySem.W.Frag) (g : G) (S : List O) (H : Hp) : Prop where
  len : g.hs.length = S.length
  nd : g.hs.Nodup
  live : ∀ a ∈ g.hs, g.bad a
  trk : ∀ a, g.bad a → ∃ o, H a = some o
  rep : ∀ (i : Nat) (a : Addr) (o : O), g.hs[i]? = some a → S[i]? = some o → RO K g H o a

/-- a dict, locked or not -/
def DKo (o : HO) (ws : List (Key × V)) : Prop := o = .dK ws ∨ ∃ od, o = .frz od (.dK ws)
theorem DKo.rd {H : Hp} {a : Addr} {ws : List (Key × V)} : Rd H a (.dK ws) ↔ ∃ o, H a = some o ∧ DKo o ws :=
  ⟨fun h => h.elim (fun h => ⟨_, h, .inl rfl⟩) fun ⟨o, h⟩ => ⟨_, h, .inr ⟨o, rfl⟩⟩, fun ⟨o, h, d⟩ => d.elim (fun e => .inl (e ▸ h)) fun ⟨od, e⟩ => .inr ⟨od, e ▸ h⟩⟩
theorem DKo.one {o : HO} {ws us : List (Key × V)} (a : DKo o ws) (b : DKo o us) : ws = us := by
  rcases a with rfl | ⟨od, rfl⟩ <;> rcases b with e | ⟨od', e⟩ <;> cases e <;> rfl
/-- it stays there, or is a dict that is locked -/
def Kp (H' : Hp) (b : Addr) (o : HO) : Prop := H' b = some o ∨ ∃ ws od, o = .dK ws ∧ H' b = some (.frz od (.dK ws))
theorem Kp.some {H' : Hp} {b : Addr} {o : HO} (k : Kp H' b o) : ∃ o', H' b = some o' := k.elim (fun h => ⟨_, h⟩) fun ⟨_, _, _, h⟩ => ⟨_, h⟩
theorem Kp.eq {H' : Hp} {b : Addr} {o : HO} (k : Kp H' b o) (no : ∀ ws, o ≠ .dK ws := by intro ws e; cases e) : H' b = Option.some o := k.elim id fun ⟨ws, _, d, _⟩ => (no ws d).elim
theorem Kp.trans {H1 H2 : Hp} {b : Addr} {o : HO} (k : Kp H1 b o) (q : ∀ o1, H1 b = Option.some o1 → Kp H2 b o1) : Kp H2 b o := by
  rcases k with h | ⟨ws, od, rfl, r⟩
  · exact q o h
  · exact .inr ⟨ws, od, rfl, (q _ r).eq⟩
theorem Kp.dk {H' : Hp} {b : Addr} {o : HO} {ws : List (Key × V)} (k : Kp H' b o) (d : DKo o ws) : Rd H' b (.dK ws) := by
  rcases k with h | ⟨us, od, rfl, r⟩
  · exact DKo.rd.mpr ⟨o, h, d⟩
  · rcases d with e | ⟨_, e⟩
    · cases e
      exact .inr ⟨od, r⟩
    · cases e
/-- from one state to a later one -/
structure Ext (g : G) (H : Hp) (g' : G) (H' : Hp) : Prop where
  kp0 : ∀ b o, H b = some o → b ∉ g.hs → Kp H' b o
  kb : ∀ b o, H b = some o → b ∉ g.hs → g.bad b → H' b = some o
  good : ∀ b o, H b = some o → ¬ g.bad b → ¬ g'.bad b
  sub : ∀ b, g.bad b → g'.bad b
  pre : ∃ l, g'.hs = g.hs ++ l ∧ ∀ b ∈ l, H b = none

theorem Ext.keep {g g' : G} {H H' : Hp} (e : Ext g H g' H') (b : Addr) (o : HO) (h : H b = some o) (n : b ∉ g.hs) (no : ∀ ws, o ≠ .dK ws := by intro ws e; cases e) : H' b = some o := (e.kp0 b o h n).eq no
theorem Ext.refl (g : G) (H : Hp) : Ext g H g H := ⟨fun _ _ e _ => .inl e, fun _ _ e _ _ => e, fun _ _ _ n => n, fun _ h => h, [], by simp, fun _ h => by cases h⟩
theorem Ext.trans {g g1 g2 : G} {H H1 H2 : Hp} (a : Ext g H g1 H1) (b : Ext g1 H1 g2 H2) (hl : ∀ x ∈ g.hs, ∃ o, H1 x = some o) : Ext g H g2 H2 := by
  obtain ⟨l, e1, f1⟩ := a.pre
  obtain ⟨m, e2, f2⟩ := b.pre
  have out : ∀ c o, H c = some o → c ∉ g.hs → c ∉ g1.hs := fun c o e n hm => by
    rw [e1] at hm
    rcases List.mem_append.mp hm with h | h
    · exact n h
    · rw [f1 c h] at e
      cases e
  refine ⟨fun c o e n => (a.kp0 c o e n).trans fun o1 h1 => b.kp0 c o1 h1 (out c o e n), fun c o e n hb => b.kb c o (a.kb c o e n hb) (out c o e n) (a.sub c hb), fun c o e n => ?_, fun c h => b.sub c (a.sub c h), l ++ m, by rw [e2, e1, List.append_assoc], fun c hc => ?_⟩
  · by_cases hc : c ∈ g.hs
    · obtain ⟨o', e'⟩ := hl c hc
      exact b.good c o' e' (a.good c o e n)
    · obtain ⟨o1, h1⟩ := (a.kp0 c o e hc).some
      exact b.good c o1 h1 (a.good c o e n)
  · rcases List.mem_append.mp hc with h | h
    · exact f1 c h
    · cases q : H c with
      | none => rfl
      | some o =>
        by_cases hx : c ∈ g.hs
        · obtain ⟨o', e'⟩ := hl c hx
          rw [f2 c h] at e'
          cases e'
        · obtain ⟨o1, z⟩ := (a.kp0 c o q hx).some
          rw [f2 c h] at z
          cases z

/-- what is not bad stays (a dict may be locked, unlocked), the handles too -/
structure Wk (g : G) (H : Hp) (g' : G) (H' : Hp) : Prop where
  kp0 : ∀ b o, H b = some o → ¬ g.bad b → Kp H' b o
  good : ∀ b o, H b = some o → ¬ g.bad b → ¬ g'.bad b
  pre : ∀ (i : Nat) (a : Addr), g.hs[i]? = some a → g'.hs[i]? = some a
theorem Wk.keep {g g' : G} {H H' : Hp} (e : Wk g H g' H') {b : Addr} {o : HO} (h : H b = some o) (n : ¬ g.bad b) (no : ∀ ws, o ≠ .dK ws := by intro ws e; cases e) : H' b = some o := (e.kp0 b o h n).eq no
theorem Wk.dk {g g' : G} {H H' : Hp} (e : Wk g H g' H') {b : Addr} {ws : List (Key × V)} (h : Rd H b (.dK ws)) (n : ¬ g.bad b) : Rd H' b (.dK ws) := by
  obtain ⟨o, h1, d⟩ := DKo.rd.mp h
  exact (e.kp0 b o h1 n).dk d
theorem Wk.good1 {g g' : G} {H H' : Hp} (e : Wk g H g' H') {b : Addr} {ws : List (Key × V)} (h : Rd H b (.dK ws)) (n : ¬ g.bad b) : ¬ g'.bad b := by
  obtain ⟨o, h1, _⟩ := DKo.rd.mp h
  exact e.good b o h1 n
theorem Ext.wk {g g' : G} {H H' : Hp} (hl : ∀ a ∈ g.hs, g.bad a) (e : Ext g H g' H') : Wk g H g' H' := by
  refine ⟨fun b o q n => e.kp0 b o q fun m => n (hl _ m), e.good, fun i a h => ?_⟩
  obtain ⟨l, el, _⟩ := e.pre
  rw [el, List.getElem?_append_left (List.getElem?_eq_some_iff.mp h).1]
  exact h
section
variable {K : PySem.W.Frag} {g g' : G} {H H' : Hp}
theorem TupAt.wk (e : Wk g H g' H') {a : Addr} {xs : List V} (h : TupAt K g H a xs) : TupAt K g' H' a xs := by
  rcases h with ⟨h, n⟩ | h
  · exact .inl ⟨e.keep h n, e.good _ _ h n⟩
  · exact .inr h
theorem ScrAt.wk (e : Wk g H g' H') {a : Addr} {xs : List V} (h : ScrAt K g H a xs) : ScrAt K g' H' a xs := by
  rcases h with ⟨⟨o, h⟩, n⟩ | h
  · exact .inl ⟨⟨o, e.keep h n⟩, e.good _ _ h n⟩
  · exact .inr h
theorem TupAt.sq {a : Addr} {xs : List V} (h : TupAt K g H a xs) : SqT K H a xs := by
  rcases h with ⟨h, _⟩ | h
  · exact .inl (.inl h)
  · exact .inr h
theorem ScrAt.sq {a : Addr} {xs : List V} (h : ScrAt K g H a xs) : SqL K H a xs := by
  rcases h with ⟨⟨o, h⟩, _⟩ | h
  · exact .inl (.inr ⟨o, h⟩)
  · exact .inr h
mutual
theorem RV.wk (e : Wk g H g' H') : ∀ (d : D) (v : V), RV K g H d v → RV K g' H' d v
  | .non, _, h => by simp only [RV] at h ⊢; exact h
  | .bl _, _, h => by simp only [RV] at h ⊢; exact h
  | .int _, _, h => by simp only [RV] at h ⊢; exact h
  | .str _, _, h => by simp only [RV] at h ⊢; exact h
  | .ty _, _, h => by simp only [RV] at h ⊢; exact h
  | .tup ds, _, h => by
    simp only [RV] at h ⊢
    obtain ⟨a, xs, e1, e2, e3⟩ := h
    exact ⟨a, xs, e1, e2.wk e, RVs.wk e ds xs e3⟩
  | .lst ds, _, h => by
    simp only [RV] at h ⊢
    obtain ⟨a, xs, e1, e2, n, e3⟩ := h
    exact ⟨a, xs, e1, e.keep e2 n, e.good _ _ e2 n, RVs.wk e ds xs e3⟩
  | .scr ns, _, h => by
    simp only [RV] at h ⊢
    obtain ⟨a, e1, e2⟩ := h
    exact ⟨a, e1, e2.wk e⟩
  | .dct kvs, _, h => by
    simp only [RV] at h ⊢
    obtain ⟨a, xs, e1, e2, n, e3⟩ := h
    exact ⟨a, xs, e1, e.dk e2 n, e.good1 e2 n, RKs.wk e kvs xs e3⟩
  | .ins C fs, _, h => by
    simp only [RV] at h ⊢
    obtain ⟨a, dx, xs, e1, e2, n, e3⟩ := h
    exact ⟨a, dx, xs, e1, e.keep e2 n, e.good _ _ e2 n, RFs.wk e fs xs e3⟩
  | .cls _, _, h => by simp only [RV] at h ⊢; exact h
  | .exc C d, _, h => by
    simp only [RV] at h ⊢
    obtain ⟨a, dd, w, e1, e2, n, e3, n3, r⟩ := h
    exact ⟨a, dd, w, e1, e.keep e2 n, e.good _ _ e2 n, e.keep e3 n3, e.good _ _ e3 n3, RV.wk e d w r⟩
  | .hnd i, _, h => by
    simp only [RV] at h ⊢
    obtain ⟨a, e1, e2⟩ := h
    exact ⟨a, e1, e.pre i a e2⟩
  | .any, _, _ => by simp only [RV]
theorem RVs.wk (e : Wk g H g' H') : ∀ (ds : List D) (xs : List V), RVs K g H ds xs → RVs K g' H' ds xs
  | [], _, h => by simp only [RVs] at h ⊢; exact h
  | d :: ds, _, h => by
    simp only [RVs] at h ⊢
    obtain ⟨v, r, e1, e2, e3⟩ := h
    exact ⟨v, r, e1, RV.wk e d v e2, RVs.wk e ds r e3⟩
theorem RKs.wk (e : Wk g H g' H') : ∀ (ds : List (Key × D)) (xs : List (Key × V)), RKs K g H ds xs → RKs K g' H' ds xs
  | [], _, h => by simp only [RKs] at h ⊢; exact h
  | (k, d) :: ds, _, h => by
    simp only [RKs] at h ⊢
    obtain ⟨v, r, e1, e2, e3⟩ := h
    exact ⟨v, r, e1, RV.wk e d v e2, RKs.wk e ds r e3⟩
theorem RFs.wk (e : Wk g H g' H') : ∀ (ds : List (Str × D)) (xs : List (Str × V)), RFs K g H ds xs → RFs K g' H' ds xs
  | [], _, h => by simp only [RFs] at h ⊢; exact h
  | (k, d) :: ds, _, h => by
    simp only [RFs] at h ⊢
    obtain ⟨v, r, e1, e2, e3⟩ := h
    exact ⟨v, r, e1, RV.wk e d v e2, RFs.wk e ds r e3⟩
end
theorem RS.wk (e : Wk g H g' H') : ∀ (ρ : List (Option D)) (σ : L2.St), RS K g H ρ σ → RS K g' H' ρ σ
  | [], _, h => by simp only [RS] at h ⊢; exact h
  | none :: r, _, h => by
    simp only [RS] at h ⊢
    obtain ⟨o, z, e1, e2⟩ := h
    exact ⟨o, z, e1, RS.wk e r z e2⟩
  | some d :: r, _, h => by
    simp only [RS] at h ⊢
    obtain ⟨v, z, e1, e2, e3⟩ := h
    exact ⟨v, z, e1, RV.wk e d v e2, RS.wk e r z e3⟩
theorem TupAt.mono (hl : ∀ a ∈ g.hs, g.bad a) (e : Ext g H g' H') {a : Addr} {xs : List V} (h : TupAt K g H a xs) : TupAt K g' H' a xs := h.wk (e.wk hl)
theorem ScrAt.mono (hl : ∀ a ∈ g.hs, g.bad a) (e : Ext g H g' H') {a : Addr} {xs : List V} (h : ScrAt K g H a xs) : ScrAt K g' H' a xs := h.wk (e.wk hl)
theorem RV.mono (hl : ∀ a ∈ g.hs, g.bad a) (e : Ext g H g' H') (d : D) (v : V) (h : RV K g H d v) : RV K g' H' d v := RV.wk (e.wk hl) d v h
theorem RVs.mono (hl : ∀ a ∈ g.hs, g.bad a) (e : Ext g H g' H') (d : List D) (v : List V) (h : RVs K g H d v) : RVs K g' H' d v := RVs.wk (e.wk hl) d v h
theorem RKs.mono (hl : ∀ a ∈ g.hs, g.bad a) (e : Ext g H g' H') (d : List (Key × D)) (v : List (Key × V)) (h : RKs K g H d v) : RKs K g' H' d v := RKs.wk (e.wk hl) d v h
theorem RFs.mono (hl : ∀ a ∈ g.hs, g.bad a) (e : Ext g H g' H') (d : List (Str × D)) (v : List (Str × V)) (h : RFs K g H d v) : RFs K g' H' d v := RFs.wk (e.wk hl) d v h
theorem RS.mono (hl : ∀ a ∈ g.hs, g.bad a) (e : Ext g H g' H') (d : Env1) (v : L2.St) (h : RS K g H d v) : RS K g' H' d v := RS.wk (e.wk hl) d v h
theorem RS.get : ∀ {ρ : List (Option D)} {σ : L2.St} {i : Nat} {d : D}, RS K g H ρ σ → ρ[i]? = some (some d) → ∃ v, σ[i]? = some (some v) ∧ RV K g H d v
  | [], _, _, _, _, e => by simp at e
  | none :: r, _, 0, _, _, e => by simp at e
  | some d :: r, _, 0, _, h, e => by
    simp only [RS] at h
    obtain ⟨v, z, rfl, e2, _⟩ := h
    simp at e
    subst e
    exact ⟨v, rfl, e2⟩
  | none :: r, _, i + 1, _, h, e => by
    simp only [RS] at h
    obtain ⟨o, z, rfl, e2⟩ := h
    simpa using RS.get (i := i) e2 (by simpa using e)
  | some d :: r, _, i + 1, _, h, e => by
    simp only [RS] at h
    obtain ⟨v, z, rfl, _, e2⟩ := h
    simpa using RS.get (i := i) e2 (by simpa using e)
theorem RS.set {d : D} {v : V} (hv : RV K g H d v) : ∀ {ρ : List (Option D)} {σ : L2.St} (i : Nat), RS K g H ρ σ → RS K g H (ρ.set i (some d)) (σ.set i (some v))
  | [], _, i, h => by
    simp only [RS] at h
    subst h
    simp only [List.set_nil, RS]
  | none :: r, _, 0, h => by
    simp only [RS] at h
    obtain ⟨o, z, rfl, e2⟩ := h
    simp only [List.set_cons_zero, RS]
    exact ⟨v, z, rfl, hv, e2⟩
  | some d' :: r, _, 0, h => by
    simp only [RS] at h
    obtain ⟨v', z, rfl, _, e2⟩ := h
    simp only [List.set_cons_zero, RS]
    exact ⟨v, z, rfl, hv, e2⟩
  | none :: r, _, i + 1, h => by
    simp only [RS] at h
    obtain ⟨o, z, rfl, e2⟩ := h
    simp only [List.set_cons_succ, RS]
    exact ⟨o, _, rfl, RS.set hv i e2⟩
  | some d' :: r, _, i + 1, h => by
    simp only [RS] at h
    obtain ⟨v', z, rfl, e1, e2⟩ := h
    simp only [List.set_cons_succ, RS]
    exact ⟨v', _, rfl, e1, RS.set hv i e2⟩
theorem RS.unset : ∀ {ρ : List (Option D)} {σ : L2.St} (i : Nat), RS K g H ρ σ → RS K g H (ρ.set i none) (σ.set i none)
  | [], _, i, h => by
    simp only [RS] at h
    subst h
    simp only [List.set_nil, RS]
  | none :: r, _, 0, h => by
    simp only [RS] at h
    obtain ⟨o, z, rfl, e2⟩ := h
    simp only [List.set_cons_zero, RS]
    exact ⟨none, z, rfl, e2⟩
  | some d' :: r, _, 0, h => by
    simp only [RS] at h
    obtain ⟨v', z, rfl, _, e2⟩ := h
    simp only [List.set_cons_zero, RS]
    exact ⟨none, z, rfl, e2⟩
  | none :: r, _, i + 1, h => by
    simp only [RS] at h
    obtain ⟨o, z, rfl, e2⟩ := h
    simp only [List.set_cons_succ, RS]
    exact ⟨o, _, rfl, RS.unset i e2⟩
  | some d' :: r, _, i + 1, h => by
    simp only [RS] at h
    obtain ⟨v', z, rfl, e1, e2⟩ := h
    simp only [List.set_cons_succ, RS]
    exact ⟨v', _, rfl, e1, RS.unset i e2⟩
theorem RS.length : ∀ {ρ : List (Option D)} {σ : L2.St}, RS K g H ρ σ → σ.length = ρ.length
  | [], _, h => by simp only [RS] at h; subst h; rfl
  | none :: r, _, h => by
    simp only [RS] at h
    obtain ⟨o, z, rfl, e2⟩ := h
    simp [RS.length e2]
  | some d :: r, _, h => by
    simp only [RS] at h
    obtain ⟨o, z, rfl, _, e2⟩ := h
    simp [RS.length e2]
theorem RVs.length : ∀ {ds : List D} {xs : List V}, RVs K g H ds xs → xs.length = ds.length
  | [], _, h => by simp only [RVs] at h; subst h; rfl
  | d :: ds, _, h => by
    simp only [RVs] at h
    obtain ⟨v, r, rfl, _, e3⟩ := h
    simp [RVs.length e3]
theorem RVs.get : ∀ {ds : List D} {xs : List V} {i : Nat} {d : D}, RVs K g H ds xs → ds[i]? = some d → ∃ v, xs[i]? = some v ∧ RV K g H d v
  | [], _, _, _, _, e => by simp at e
  | d :: ds, _, 0, _, h, e => by
    simp only [RVs] at h
    obtain ⟨v, r, rfl, e2, _⟩ := h
    simp at e
    subst e
    exact ⟨v, rfl, e2⟩
  | d :: ds, _, i + 1, _, h, e => by
    simp only [RVs] at h
    obtain ⟨v, r, rfl, _, e2⟩ := h
    simpa using RVs.get (i := i) e2 (by simpa using e)
theorem RVs.append : ∀ {ds es : List D} {xs ys : List V}, RVs K g H ds xs → RVs K g H es ys → RVs K g H (ds ++ es) (xs ++ ys)
  | [], _, _, _, h, q => by simp only [RVs] at h; subst h; simpa using q
  | d :: ds, _, _, _, h, q => by
    simp only [RVs] at h
    obtain ⟨v, r, rfl, e2, e3⟩ := h
    simp only [List.cons_append, RVs]
    exact ⟨v, _, rfl, e2, RVs.append e3 q⟩
theorem RVs.one {d : D} {v : V} (h : RV K g H d v) : RVs K g H [d] [v] := by
  simp only [RVs]
  exact ⟨v, [], rfl, h, rfl⟩
theorem RVs.take : ∀ {ds : List D} {xs : List V} (n : Nat), RVs K g H ds xs → RVs K g H (ds.take n) (xs.take n)
  | _, _, 0, _ => by simp only [List.take_zero, RVs]
  | [], _, n + 1, h => by simp only [RVs] at h; subst h; simp only [List.take_nil, RVs]
  | d :: ds, _, n + 1, h => by
    simp only [RVs] at h
    obtain ⟨v, r, rfl, e2, e3⟩ := h
    simp only [List.take_succ_cons, RVs]
    exact ⟨v, _, rfl, e2, RVs.take n e3⟩
theorem RVs.drop : ∀ {ds : List D} {xs : List V} (n : Nat), RVs K g H ds xs → RVs K g H (ds.drop n) (xs.drop n)
  | _, _, 0, h => by simpa using h
  | [], _, n + 1, h => by simp only [RVs] at h; subst h; simp only [List.drop_nil, RVs]
  | d :: ds, _, n + 1, h => by
    simp only [RVs] at h
    obtain ⟨v, r, rfl, e2, e3⟩ := h
    simpa using RVs.drop n e3
theorem RVs.set {d : D} {v : V} (hv : RV K g H d v) : ∀ {ds : List D} {xs : List V} (i : Nat), RVs K g H ds xs → RVs K g H (ds.set i d) (xs.set i v)
  | [], _, i, h => by simp only [RVs] at h; subst h; simp only [List.set_nil, RVs]
  | d' :: ds, _, 0, h => by
    simp only [RVs] at h
    obtain ⟨v', r, rfl, _, e3⟩ := h
    simp only [List.set_cons_zero, RVs]
    exact ⟨v, r, rfl, hv, e3⟩
  | d' :: ds, _, i + 1, h => by
    simp only [RVs] at h
    obtain ⟨v', r, rfl, e2, e3⟩ := h
    simp only [List.set_cons_succ, RVs]
    exact ⟨v', _, rfl, e2, RVs.set hv i e3⟩
theorem RVs.eraseIdx : ∀ {ds : List D} {xs : List V} (i : Nat), RVs K g H ds xs → RVs K g H (ds.eraseIdx i) (xs.eraseIdx i)
  | [], _, i, h => by simp only [RVs] at h; subst h; simp only [List.eraseIdx_nil, RVs]
  | d' :: ds, _, 0, h => by
    simp only [RVs] at h
    obtain ⟨v', r, rfl, _, e3⟩ := h
    simpa using e3
  | d' :: ds, _, i + 1, h => by
    simp only [RVs] at h
    obtain ⟨v', r, rfl, e2, e3⟩ := h
    simp only [List.eraseIdx_cons_succ, RVs]
    exact ⟨v', _, rfl, e2, RVs.eraseIdx i e3⟩
theorem RVs.snoc {ds : List D} {xs : List V} {d : D} {v : V} (h : RVs K g H ds xs) (hv : RV K g H d v) : RVs K g H (ds ++ [d]) (xs ++ [v]) := h.append (RVs.one hv)
theorem RVs.reverse : ∀ {ds : List D} {xs : List V}, RVs K g H ds xs → RVs K g H ds.reverse xs.reverse
  | [], _, h => by simp only [RVs] at h; subst h; simp only [List.reverse_nil, RVs]
  | d :: ds, _, h => by
    simp only [RVs] at h
    obtain ⟨v, r, rfl, e2, e3⟩ := h
    simp only [List.reverse_cons]
    exact (RVs.reverse e3).snoc e2
end

/-! ### outcomes -/
inductive Out (α : Type) where
  | ok (a : α) (S : List O)
  | exc (C : Str) (d : D) (S : List O)
  | stuck
def Out.bind {α β : Type} (o : Out α) (k : α → List O → Out β) : Out β := match o with
  | .ok a S => k a S
  | .exc C d S => .exc C d S
  | .stuck => .stuck
/-- what a flying exception of the class C with the value d looks like -/
def RX (K : PySem.W.Frag) (g : G) (H : Hp) (C : Str) (d : D) (c : Value) (dd : Option Addr) : Prop :=
  c = .ref (He.ga K C) ∧ ∃ D w, dd = some D ∧ H D = some (.xd [("value", w)]) ∧ ¬ g.bad D ∧ RV K g H d w
def Post {α β : Type} (K : PySem.W.Frag) (W : WX) (R : G → Hp → α → β → Prop) (g : G) (H : Hp) (σ : L2.St) (Q : β → Hp → Prop) : Out α → Prop
  | .ok a S => ∀ g' H' b, Ext g H g' H' → SR K g' S H' → R g' H' a b → Q b H'
  | .exc C d S => ∀ g' H' c dd, Ext g H g' H' → SR K g' S H' → RX K g' H' C d c dd → W c dd σ H'
  | .stuck => False
section
variable {K : PySem.W.Frag} {W : WX} {g : G} {H : Hp} {σ : L2.St} {α β γ δ : Type}
theorem SR.hl {S : List O} (s : SR K g S H) : ∀ a ∈ g.hs, ∃ o, H a = some o := fun a ha => s.trk a (s.live a ha)
/-- the handles stay tracked -/
theorem Ext.hl {g' : G} {H' : Hp} {S : List O} (e : Ext g H g' H') (s : SR K g' S H') : ∀ a ∈ g.hs, ∃ o, H' a = some o := fun a ha => by
  obtain ⟨l, el, _⟩ := e.pre
  exact s.hl a (by rw [el]; exact List.mem_append_left _ ha)
theorem Ext.tr {g1 g2 : G} {H1 H2 : Hp} {S : List O} (a : Ext g H g1 H1) (s : SR K g1 S H1) (b : Ext g1 H1 g2 H2) : Ext g H g2 H2 := a.trans b (a.hl s)
theorem Post.later {R : G → Hp → α → β → Prop} {Q : β → Hp → Prop} {g1 : G} {H1 : Hp} {S1 : List O} (e : Ext g H g1 H1) (s : SR K g1 S1 H1) : ∀ {o : Out α}, Post K W R g H σ Q o → Post K W R g1 H1 σ Q o
  | .ok a S, h => fun g' H' b e' s' r => h g' H' b (e.tr s e') s' r
  | .exc C d S, h => fun g' H' c dd e' s' r => h g' H' c dd (e.tr s e') s' r
  | .stuck, h => h
theorem Post.bind {R : G → Hp → α → β → Prop} {R' : G → Hp → γ → δ → Prop} {Q : δ → Hp → Prop} {Q1 : β → Hp → Prop} {o : Out α} {k : α → List O → Out γ} (hp : Post K W R' g H σ Q (o.bind k))
    (h : ∀ a S1 g1 H1 b, Ext g H g1 H1 → SR K g1 S1 H1 → R g1 H1 a b → Post K W R' g1 H1 σ Q (k a S1) → Q1 b H1) : Post K W R g H σ Q1 o := by
  cases o with
  | ok a S => exact fun g1 H1 b e s r => h a S g1 H1 b e s r (Post.later e s hp)
  | exc C d S => exact hp
  | stuck => exact hp
theorem Post.imp {R : G → Hp → α → β → Prop} {Q Q' : β → Hp → Prop} (hq : ∀ b H', Q b H' → Q' b H') : ∀ {o : Out α}, Post K W R g H σ Q o → Post K W R g H σ Q' o
  | .ok a S, h => fun g' H' b e' s' r => hq _ _ (h g' H' b e' s' r)
  | .exc C d S, h => h
  | .stuck, h => h
end

/-! ### where code stands: what all contexts of one place have in common -/
structure Sg where
  P : Program
  w : World
  K : PySem.W.Frag
  mg : Str → Option Value
  base : Heap
  N : List Str
  scope : Scope
  cl : Str → Bool
  lv : Nat
  W : WX
  qual : Str
  code : Value
structure Fits (z : Sg) (X : Cx) : Prop where
  prog : X.prog = z.P
  w : X.w = z.w
  K : X.K = z.K
  mg : X.mg = z.mg
  base : X.base = z.base
  N : X.N = z.N
  scope : X.env.scope = z.scope
  calm : X.calm = true
  nd : z.N.Nodup
  fn : ∀ x, z.cl x = true → X.fn x = true
  room : Room z.lv X.A
  gd : X.A.guards = some []
  takes : Takes X z.W
  own : PassesOwn (model X.prog X.w) X.A X.env X.xe
  qual : X.env.qual = z.qual
  code : X.env.code = z.code
/-- a name that is stored here -/
def Sto (z : Sg) (x : Str) : Prop := z.scope.names.lookup x = some .local ∨ (z.scope.names.lookup x = some .cell ∧ z.cl x = true)
theorem Sto.loc {z : Sg} {x : Str} (h : Sto z x) : Loc z.scope x := h.elim .inl fun h => .inr h.1
def Gz (z : Sg) (x : Str) : Prop := z.scope.names.lookup x = some .globalImplicit
section
variable {z : Sg} {X : Cx}
theorem Fits.gl (f : Fits z X) {x : Str} (h : Gz z x) : Gl X x := by
  show X.env.scope.names.lookup x = some .globalImplicit
  rw [f.scope]
  exact h
theorem Fits.vis (f : Fits z X) {x : Str} (h : Vis z.scope x) : Vis X.env.scope x := by
  rw [f.scope]
  exact h
theorem Fits.loc (f : Fits z X) {x : Str} (h : Loc z.scope x) : Loc X.env.scope x := by
  rw [f.scope]
  exact h
theorem Fits.at (f : Fits z X) {x : Str} {i : Nat} (h : z.N[i]? = some x) : X.N[i]? = some x := by
  rw [f.N]
  exact h
theorem Fits.ndX (f : Fits z X) : X.N.Nodup := by
  rw [f.N]
  exact f.nd
theorem Fits.st (f : Fits z X) {x : Str} (h : Sto z x) : X.fn x = true ∨ X.env.scope.names.lookup x = some .local := by
  rcases h with h | h
  · exact .inr (by rw [f.scope]; exact h)
  · exact .inl (f.fn x h.2)
theorem Fits.hu (f : Fits z X) : X.A.units + 64 < cLine := f.room.units
theorem Fits.mgl (f : Fits z X) {x : Str} {u : Option Value} (h : z.mg x = u) : X.mg x = u := by
  rw [f.mg]
  exact h
end

/-! ### expressions -/
abbrev TEx := Env1 → List O → Out D
abbrev TAx := Env1 → List O → Out (List D)
abbrev TTx := Env1 → List O → Out Bool
abbrev rBool : G → Hp → Bool → Bool → Prop := fun _ _ a b => a = b
/-- a reading is right -/
def RdE (z : Sg) (τ : TE) (t : TEx) : Prop := ∀ g S ρ σ H Q, SR z.K g S H → RS z.K g H ρ σ → Post z.K z.W (RV z.K) g H σ Q (t ρ S) → τ σ H Q
def RdA (z : Sg) (τ : TA) (t : TAx) : Prop := ∀ g S ρ σ H Q, SR z.K g S H → RS z.K g H ρ σ → Post z.K z.W (RVs z.K) g H σ Q (t ρ S) → τ σ H Q
def RdT (z : Sg) (τ : TT) (t : TTx) : Prop := ∀ g S ρ σ H Q, SR z.K g S H → RS z.K g H ρ σ → Post z.K z.W rBool g H σ Q (t ρ S) → τ σ H Q
def DE (z : Sg) (e : Expr) (t : TEx) : Prop := ∃ τ, (∀ X, Fits z X → PE X e τ) ∧ RdE z τ t
def DA (z : Sg) (es : List Expr) (t : TAx) : Prop := ∃ τ, (∀ X, Fits z X → PA X es τ) ∧ RdA z τ t
def DT (z : Sg) (e : Expr) (t : TTx) : Prop := ∃ τ, (∀ X, Fits z X → PT X e τ) ∧ RdT z τ t

def eVar (i : Nat) : TEx := fun ρ S => match ρ[i]? with
  | some (some d) => .ok d S
  | _ => .stuck
def eC (d : D) : TEx := fun _ S => .ok d S
def eUn (f : D → List O → Out D) (a : TEx) : TEx := fun ρ S => (a ρ S).bind f
def eBin (f : D → D → List O → Out D) (a b : TEx) : TEx := fun ρ S => (a ρ S).bind fun x S1 => (b ρ S1).bind fun y S2 => f x y S2
def eArgs (f : List D → List O → Out D) (a : TAx) : TEx := fun ρ S => (a ρ S).bind f
def aNil : TAx := fun _ S => .ok [] S
def aCons (a : TEx) (r : TAx) : TAx := fun ρ S => (a ρ S).bind fun x S1 => (r ρ S1).bind fun xs S2 => .ok (x :: xs) S2
/-- a value-level operation is right by a rule -/
def OkU (K : PySem.W.Frag) (W : WX) (r : V → Hp → VK → Prop) (f : D → List O → Out D) : Prop :=
  ∀ g S H σ Q x v, SR K g S H → RV K g H x v → Post K W (RV K) g H σ Q (f x S) → r v H Q
def OkB (K : PySem.W.Frag) (W : WX) (r : R2) (f : D → D → List O → Out D) : Prop :=
  ∀ g S H σ Q x y v u, SR K g S H → RV K g H x v → RV K g H y u → Post K W (RV K) g H σ Q (f x y S) → r v u H Q
def OkL (K : PySem.W.Frag) (W : WX) (r : List V → Hp → VK → Prop) (f : List D → List O → Out D) : Prop :=
  ∀ g S H σ Q xs vs, SR K g S H → RVs K g H xs vs → Post K W (RV K) g H σ Q (f xs S) → r vs H Q
section
variable {z : Sg}
theorem de_c {e : Expr} {d : D} {v : V} (h : ∀ X, Fits z X → PE X e (tC v)) (r : ∀ g H, RV z.K g H d v) : DE z e (eC d) :=
  ⟨_, h, fun g S ρ σ H Q s _ p => p g H v (Ext.refl g H) s (r g H)⟩
theorem de_var {i : Nat} {e : Expr} (h : ∀ X, Fits z X → PE X e (tVar i)) : DE z e (eVar i) := by
  refine ⟨_, h, fun g S ρ σ H Q s rs p => ?_⟩
  unfold eVar at p
  split at p
  · rename_i d e
    obtain ⟨v, e1, e2⟩ := rs.get e
    exact ⟨v, e1, p g H v (Ext.refl g H) s e2⟩
  · exact p.elim
theorem da_nil : DA z [] aNil := ⟨_, fun _ _ => pa_nil, fun g S ρ σ H Q s _ p => p g H [] (Ext.refl g H) s (by simp only [RVs])⟩
theorem da_cons {e : Expr} {es : List Expr} {a : TEx} {r : TAx} (ha : DE z e a) (hr : DA z es r) (hs : ∀ env, starEach (e :: es) env = (false, eval e env) :: starEach es env := by intro _; rfl) : DA z (e :: es) (aCons a r) := by
  obtain ⟨τ, h1, q1⟩ := ha
  obtain ⟨τ2, h2, q2⟩ := hr
  refine ⟨_, fun X f => pa_cons (h1 X f) (h2 X f) (hs _), fun g S ρ σ H Q s rs p => ?_⟩
  refine q1 g S ρ σ H _ s rs (p.bind fun x S1 g1 H1 v e1 s1 r1 p1 => ?_)
  refine q2 g1 S1 ρ σ H1 _ s1 (rs.mono s.live e1) (p1.bind fun xs S2 g2 H2 vs e2 s2 r2 p2 => ?_)
  refine p2 g2 H2 (v :: vs) (Ext.refl _ _) s2 ?_
  simp only [RVs]
  exact ⟨v, vs, rfl, r1.mono s1.live e2, r2⟩
theorem rd_un {r : V → Hp → VK → Prop} {f : D → List O → Out D} {ta : TEx} {τ : TE} (ok : OkU z.K z.W r f) (q1 : RdE z τ ta) : RdE z (fun σ H Q => τ σ H fun x H1 => r x H1 Q) (eUn f ta) := fun g S ρ σ H Q s rs p =>
  q1 g S ρ σ H _ s rs (p.bind fun x S1 g1 H1 v e1 s1 r1 p1 => ok g1 S1 H1 σ Q x v s1 r1 p1)
theorem rd_bin {r : R2} {f : D → D → List O → Out D} {ta tb : TEx} {τ τ2 : TE} (ok : OkB z.K z.W r f) (q1 : RdE z τ ta) (q2 : RdE z τ2 tb) : RdE z (fun σ H Q => τ σ H fun x H1 => τ2 σ H1 fun y H2 => r x y H2 Q) (eBin f ta tb) := fun g S ρ σ H Q s rs p =>
  q1 g S ρ σ H _ s rs (p.bind fun x S1 g1 H1 v e1 s1 r1 p1 => q2 g1 S1 ρ σ H1 _ s1 (rs.mono s.live e1) (p1.bind fun y S2 g2 H2 u e2 s2 r2 p2 => ok g2 S2 H2 σ Q x y v u s2 (r1.mono s1.live e2) r2 p2))
theorem de_un {e a : Expr} {r : V → Hp → VK → Prop} {f : D → List O → Out D} {ta : TEx} (mk : ∀ X, Fits z X → ∀ τ : TE, PE X a τ → PE X e (fun σ H Q => τ σ H fun x H1 => r x H1 Q)) (ok : OkU z.K z.W r f) (ha : DE z a ta) : DE z e (eUn f ta) := by
  obtain ⟨τ, h1, q1⟩ := ha
  exact ⟨_, fun X fx => mk X fx τ (h1 X fx), rd_un ok q1⟩
theorem de_bin {e a b : Expr} {r : R2} {f : D → D → List O → Out D} {ta tb : TEx} (mk : ∀ X, Fits z X → ∀ τ τ' : TE, PE X a τ → PE X b τ' → PE X e (fun σ H Q => τ σ H fun x H1 => τ' σ H1 fun y H2 => r x y H2 Q)) (ok : OkB z.K z.W r f) (ha : DE z a ta) (hb : DE z b tb) :
    DE z e (eBin f ta tb) := by
  obtain ⟨τ, h1, q1⟩ := ha
  obtain ⟨τ2, h2, q2⟩ := hb
  exact ⟨_, fun X fx => mk X fx τ τ2 (h1 X fx) (h2 X fx), rd_bin ok q1 q2⟩
theorem de_args {e : Expr} {es : List Expr} {r : List V → Hp → VK → Prop} {f : List D → List O → Out D} {ta : TAx} (mk : ∀ X, Fits z X → ∀ τ : TA, PA X es τ → PE X e (fun σ H Q => τ σ H fun xs H1 => r xs H1 Q)) (ok : OkL z.K z.W r f) (ha : DA z es ta) : DE z e (eArgs f ta) := by
  obtain ⟨τ, h1, q1⟩ := ha
  refine ⟨_, fun X fx => mk X fx τ (h1 X fx), fun g S ρ σ H Q s rs p => ?_⟩
  exact q1 g S ρ σ H _ s rs (p.bind fun x S1 g1 H1 v e1 s1 r1 p1 => ok g1 S1 H1 σ Q x v s1 r1 p1)
end
end TL
set_option Elab.async false
set_option linter.all false
set_option maxRecDepth 100000
set_option maxHeartbeats 4000000
/-! The tree layer, part 1: new objects, operators, tests. -/
namespace TL
open PySem PySem.Spec PyProof.Rows L2

/-! ### new objects, handles -/
theorem Fits.op {z : Sg} {X : Cx} {α : PySem.W.Frag → Prop} (f : Fits z X) (h : α X.K) : α z.K := f.K ▸ h
section
variable {K : PySem.W.Frag} {g : G} {S : List O} {H : Hp} {σ : L2.St} {W : WX} {p : Addr} {o : HO}
theorem SR.unbad (s : SR K g S H) (hp : H p = none) : ¬ g.bad p := fun b => by
  obtain ⟨o, e⟩ := s.trk p b
  rw [hp] at e
  cases e
theorem same_new (hp : H p = none) : ∀ b u, H b = some u → upd H p o b = some u := fun b u e => by
  rw [upd_ne (ne_of_none e hp)]
  exact e
/-- nothing that was tracked is changed, no handle is new -/
theorem Ext.same {H' : Hp} (k : ∀ b u, H b = some u → H' b = some u) : Ext g H g H' := ⟨fun b u e _ => .inl (k b u e), fun b u e _ _ => k b u e, fun _ _ _ n => n, fun _ h => h, [], by simp, fun _ h => by cases h⟩
theorem SR.same {H' : Hp} (s : SR K g S H) (k : ∀ b u, H b = some u → H' b = some u) : SR K g S H' := by
  refine ⟨s.len, s.nd, s.live, fun a h => ?_, fun i a o h1 h2 => ?_⟩
  · obtain ⟨u, e⟩ := s.trk a h
    exact ⟨u, k a u e⟩
  · have q := s.rep i a o h1 h2
    have e : Ext g H g H' := Ext.same k
    cases o with
    | lst ds =>
      obtain ⟨xs, e1, e2⟩ := q
      exact ⟨xs, k _ _ e1, e2.mono s.live e ds xs⟩
    | dct kvs =>
      obtain ⟨xs, e1, e2⟩ := q
      exact ⟨xs, k _ _ e1, e2.mono s.live e kvs xs⟩
    | ins C fs =>
      obtain ⟨dx, xs, e1, e2⟩ := q
      exact ⟨dx, xs, k _ _ e1, e2.mono s.live e fs xs⟩
    | tbl q' =>
      obtain ⟨⟨ps, e1, e2, e3⟩, ea⟩ := q
      exact ⟨⟨ps, k _ _ e1, e2, fun pos cv h => let ⟨c, h1, h2, h3⟩ := e3 pos cv h; ⟨c, h1, k _ _ h2, h3⟩⟩, ea⟩
/-- a new object that nobody changes -/
theorem Post.new {α β : Type} {R : G → Hp → α → β → Prop} {Q : β → Hp → Prop} {a : α} {b : β} (s : SR K g S H) (hp : H p = none) (h : Post K W R g H σ Q (.ok a S)) (r : Ext g H g (upd H p o) → R g (upd H p o) a b) : Q b (upd H p o) :=
  h g (upd H p o) b (Ext.same (same_new hp)) (s.same (same_new hp)) (r (Ext.same (same_new hp)))
theorem Post.here {α β : Type} {R : G → Hp → α → β → Prop} {Q : β → Hp → Prop} {a : α} {b : β} (s : SR K g S H) (h : Post K W R g H σ Q (.ok a S)) (r : R g H a b) : Q b H := h g H b (Ext.refl g H) s r
/-- the state with one handle more -/
def G.add (g : G) (p : Addr) : G := ⟨fun b => g.bad b ∨ b = p, g.hs ++ [p]⟩
theorem Ext.add {H' : Hp} (hp : H p = none) (k : ∀ b u, H b = some u → H' b = some u) : Ext g H (g.add p) H' :=
  ⟨fun b u e _ => .inl (k b u e), fun b u e _ _ => k b u e, fun b u e n => fun h => h.elim n fun z => (by rw [z, hp] at e; cases e), fun _ h => .inl h, [p], rfl, fun b hb => by rw [List.mem_singleton.mp hb]; exact hp⟩
theorem RO.mono {g' : G} {H' : Hp} (hl : ∀ a ∈ g.hs, g.bad a) (e : Ext g H g' H') {a : Addr} (k : ∀ u, H a = some u → H' a = some u) : ∀ {o : O}, RO K g H o a → RO K g' H' o a
  | .lst ds, ⟨xs, e1, e2⟩ => ⟨xs, k _ e1, e2.mono hl e ds xs⟩
  | .dct kvs, ⟨xs, e1, e2⟩ => ⟨xs, k _ e1, e2.mono hl e kvs xs⟩
  | .ins C fs, ⟨dx, xs, e1, e2⟩ => ⟨dx, xs, k _ e1, e2.mono hl e fs xs⟩
  | .tbl q, ⟨⟨ps, e1, e2, e3⟩, ea⟩ => ⟨⟨ps, k _ e1, e2, fun pos cv h => let ⟨c, h1, h2, h3⟩ := e3 pos cv h; ⟨c, h1, e.keep c _ h2 (fun m => h3 (hl c m)) (fun ws z => by unfold LamX.CodeO at z; cases z), e.good c _ h2 h3⟩⟩, ea⟩
theorem SR.add {H' : Hp} {ob : O} (s : SR K g S H) (hp : H p = none) (k : ∀ b u, H b = some u → H' b = some u) (hr : RO K (g.add p) H' ob p) (hn : ∃ u, H' p = some u) : SR K (g.add p) (S ++ [ob]) H' := by
  have e : Ext g H (g.add p) H' := Ext.add hp k
  refine ⟨by simp [G.add, s.len], ?_, fun a ha => ?_, fun a h => ?_, fun i a o h1 h2 => ?_⟩
  · refine List.nodup_append.mpr ⟨s.nd, by simp, fun a ha b hb => ?_⟩
    rw [List.mem_singleton.mp hb]
    rintro rfl
    exact s.unbad hp (s.live _ ha)
  · rcases List.mem_append.mp ha with h | h
    · exact .inl (s.live a h)
    · exact .inr (List.mem_singleton.mp h)
  · rcases h with h | rfl
    · obtain ⟨u, q⟩ := s.trk a h
      exact ⟨u, k a u q⟩
    · exact hn
  · by_cases hi : i < S.length
    · have h1' : g.hs[i]? = some a := by
        have h1 : (g.hs ++ [p])[i]? = some a := h1
        rwa [List.getElem?_append_left (by rw [s.len]; exact hi)] at h1
      have h2' : S[i]? = some o := by rwa [List.getElem?_append_left hi] at h2
      exact (s.rep i a o h1' h2').mono s.live e fun u q => k a u q
    · have hi2 : i = S.length := by
        have := (List.getElem?_eq_some_iff.mp h2).1
        simp at this
        omega
      subst hi2
      have h1 : (g.hs ++ [p])[S.length]? = some a := h1
      rw [← s.len] at h1
      simp at h1
      simp at h2
      subst h1 h2
      exact hr
/-- a new handle -/
theorem Post.newH {α β : Type} {R : G → Hp → α → β → Prop} {Q : β → Hp → Prop} {a : α} {b : β} {ob : O} (s : SR K g S H) (hp : H p = none) (h : Post K W R g H σ Q (.ok a (S ++ [ob]))) (hr : Ext g H (g.add p) (upd H p o) → RO K (g.add p) (upd H p o) ob p)
    (r : Ext g H (g.add p) (upd H p o) → R (g.add p) (upd H p o) a b) : Q b (upd H p o) :=
  have e : Ext g H (g.add p) (upd H p o) := Ext.add hp (same_new hp)
  h (g.add p) (upd H p o) b e (s.add hp (same_new hp) (hr e) ⟨o, upd_same⟩) (r e)
theorem RV.newH {S : List O} (s : SR K g S H) {H' : Hp} : RV K (g.add p) H' (.hnd S.length) (.ref p) := by
  simp only [RV]
  exact ⟨p, rfl, by rw [← s.len]; simp [G.add]⟩
/-- the object at a handle is written -/
theorem Ext.write {i : Nat} {a : Addr} {u : HO} (hi : g.hs[i]? = some a) : Ext g H g (upd H a u) :=
  ⟨fun b v e n => .inl (by rw [upd_ne (fun z => n (by rw [z]; exact List.mem_of_getElem? hi))]; exact e), fun b v e n _ => by rw [upd_ne (fun z => n (by rw [z]; exact List.mem_of_getElem? hi))]; exact e, fun _ _ _ n => n, fun _ h => h, [], by simp, fun _ h => by cases h⟩
theorem SR.write {i : Nat} {a : Addr} {u : HO} {ob : O} (s : SR K g S H) (hi : g.hs[i]? = some a) (hr : Ext g H g (upd H a u) → RO K g (upd H a u) ob a) : SR K g (S.set i ob) (upd H a u) := by
  have e : Ext g H g (upd H a u) := Ext.write hi
  refine ⟨by simp [s.len], s.nd, s.live, fun b h => ?_, fun j b o h1 h2 => ?_⟩
  · by_cases hb : b = a
    · exact ⟨u, by rw [hb, upd_same]⟩
    · obtain ⟨v, q⟩ := s.trk b h
      exact ⟨v, by rw [upd_ne hb]; exact q⟩
  · by_cases hj : j = i
    · subst hj
      have hlt : j < S.length := by
        have := (List.getElem?_eq_some_iff.mp h2).1
        simpa using this
      rw [List.getElem?_set_self hlt] at h2
      rw [hi] at h1
      cases h1
      cases h2
      exact hr e
    · rw [List.getElem?_set_ne (Ne.symm hj)] at h2
      have hb : b ≠ a := fun z => by
        subst z
        obtain ⟨l1, q1⟩ := List.getElem?_eq_some_iff.mp h1
        obtain ⟨l2, q2⟩ := List.getElem?_eq_some_iff.mp hi
        exact hj ((List.getElem_inj s.nd).mp (q1.trans q2.symm))
      exact (s.rep j b o h1 h2).mono s.live e fun v q => by rw [upd_ne hb]; exact q
theorem Post.write {α β : Type} {R : G → Hp → α → β → Prop} {Q : β → Hp → Prop} {x : α} {b : β} {i : Nat} {a : Addr} {u : HO} {ob : O} (s : SR K g S H) (hi : g.hs[i]? = some a) (h : Post K W R g H σ Q (.ok x (S.set i ob))) (hr : Ext g H g (upd H a u) → RO K g (upd H a u) ob a)
    (r : Ext g H g (upd H a u) → R g (upd H a u) x b) : Q b (upd H a u) := h g _ b (Ext.write hi) (s.write hi hr) (r (Ext.write hi))
end

/-! ### looking at a list, a tuple -/
/-- the members of a list (a handle's too) -/
def lstOf (S : List O) : D → Option (List D)
  | .lst ds => some ds
  | .scr ns => some (ns.map D.int)
  | .hnd i => (match S[i]? with
    | some (.lst ds) => some ds
    | _ => none)
  | _ => none
def tupOf : D → Option (List D)
  | .tup ds => some ds
  | _ => none
def seqOf (S : List O) (d : D) : Option (List D) := (lstOf S d).or (tupOf d)
section
variable {K : PySem.W.Frag} {g : G} {S : List O} {H : Hp}
theorem RVs.ints : ∀ ns : List Int, RVs K g H (ns.map D.int) (ns.map V.int)
  | [] => by simp only [List.map_nil, RVs]
  | n :: ns => by
    simp only [List.map_cons, RVs]
    exact ⟨_, _, rfl, by simp only [RV], RVs.ints ns⟩
theorem lst_at (s : SR K g S H) {d : D} {ds : List D} {v : V} (h : lstOf S d = some ds) (r : RV K g H d v) : ∃ a xs, v = .ref a ∧ SqL K H a xs ∧ RVs K g H ds xs := by
  cases d with
  | lst es =>
    cases h
    simp only [RV] at r
    obtain ⟨a, xs, e, h1, _, h2⟩ := r
    exact ⟨a, xs, e, .inl (.inl h1), h2⟩
  | scr ns =>
    cases h
    simp only [RV] at r
    obtain ⟨a, e, h1⟩ := r
    exact ⟨a, _, e, h1.sq, RVs.ints ns⟩
  | hnd i =>
    simp only [lstOf] at h
    split at h
    · rename_i es q
      cases h
      simp only [RV] at r
      obtain ⟨a, e, h1⟩ := r
      obtain ⟨xs, h2, h3⟩ := s.rep i a _ h1 q
      exact ⟨a, xs, e, .inl (.inl h2), h3⟩
    · cases h
  | _ => cases h
theorem tup_at {d : D} {ds : List D} {v : V} (h : tupOf d = some ds) (r : RV K g H d v) : ∃ a xs, v = .ref a ∧ SqT K H a xs ∧ RVs K g H ds xs := by
  cases d with
  | tup es =>
    cases h
    simp only [RV] at r
    obtain ⟨a, xs, e, h1, h2⟩ := r
    exact ⟨a, xs, e, h1.sq, h2⟩
  | _ => cases h
theorem seq_at (s : SR K g S H) {d : D} {ds : List D} {v : V} (h : seqOf S d = some ds) (r : RV K g H d v) : ∃ a xs, v = .ref a ∧ (SqL K H a xs ∨ SqT K H a xs) ∧ RVs K g H ds xs := by
  unfold seqOf at h
  cases e : lstOf S d with
  | some es =>
    rw [e] at h
    cases h
    obtain ⟨a, xs, h1, h2, h3⟩ := lst_at s e r
    exact ⟨a, xs, h1, .inl h2, h3⟩
  | none =>
    rw [e] at h
    obtain ⟨a, xs, h1, h2, h3⟩ := tup_at (show tupOf d = some ds from h) r
    exact ⟨a, xs, h1, .inr h2, h3⟩
end

/-! ### displays -/
def mkL (own : Bool) (ds : List D) (S : List O) : Out D := if ds.length ≤ sizeLine then (if own then .ok (.hnd S.length) (S ++ [.lst ds]) else .ok (.lst ds) S) else .stuck
def mkT (ds : List D) (S : List O) : Out D := if ds.length ≤ sizeLine then .ok (.tup ds) S else .stuck
section
variable {K : PySem.W.Frag} {g : G} {S : List O} {H : Hp} {σ : L2.St} {W : WX} {Q : VK}
theorem mkL_len {own : Bool} {ds : List D} (h : Post K W (RV K) g H σ Q (mkL own ds S)) : ds.length ≤ sizeLine := by
  unfold mkL at h
  split at h
  · assumption
  · exact h.elim
theorem mkL_ok {own : Bool} {ds : List D} {xs : List V} (s : SR K g S H) (r : RVs K g H ds xs) (h : Post K W (RV K) g H σ Q (mkL own ds S)) (p : Addr) (hp : H p = none) : Q (.ref p) (upd H p (.lst xs)) := by
  unfold mkL at h
  split at h
  · split at h
    · refine Post.newH s hp h (fun e => ⟨xs, upd_same, r.mono s.live e ds xs⟩) fun e => RV.newH s
    · refine Post.new s hp h fun e => ?_
      simp only [RV]
      exact ⟨p, xs, rfl, upd_same, s.unbad hp, r.mono s.live e ds xs⟩
  · exact h.elim
theorem mkT_len {ds : List D} (h : Post K W (RV K) g H σ Q (mkT ds S)) : ds.length ≤ sizeLine := by
  unfold mkT at h
  split at h
  · assumption
  · exact h.elim
theorem mkT_ok {ds : List D} {xs : List V} (s : SR K g S H) (r : RVs K g H ds xs) (h : Post K W (RV K) g H σ Q (mkT ds S)) (p : Addr) (hp : H p = none) : Q (.ref p) (upd H p (.tup xs)) := by
  unfold mkT at h
  split at h
  · refine Post.new s hp h fun e => ?_
    simp only [RV]
    exact ⟨p, xs, rfl, .inl ⟨upd_same, s.unbad hp⟩, r.mono s.live e ds xs⟩
  · exact h.elim
end
section
variable {z : Sg} {pos : Pos}
theorem de_lst (own : Bool) {es : List Expr} {a : TAx} (h : DA z es a) : DE z (.List es pos) (eArgs (mkL own) a) :=
  de_args (r := fun xs H Q => xs.length ≤ sizeLine ∧ ∀ p, H p = none → Q (.ref p) (upd H p (.lst xs))) (fun _ _ _ h => pe_lst h) (fun g S H σ Q xs vs s r p => ⟨by rw [r.length]; exact mkL_len p, fun q hq => mkL_ok s r p q hq⟩) h
theorem de_tup {es : List Expr} {a : TAx} {x1} (h : DA z es a) : DE z (.Tuple es x1 pos) (eArgs mkT a) :=
  de_args (r := fun xs H Q => xs.length ≤ sizeLine ∧ ∀ p, H p = none → Q (.ref p) (upd H p (.tup xs))) (fun _ _ _ h => pe_tup h) (fun g S H σ Q xs vs s r p => ⟨by rw [r.length]; exact mkT_len p, fun q hq => mkT_ok s r p q hq⟩) h
end

/-! ### constants -/
section
variable {z : Sg} {pos : Pos}
theorem de_int {i : Int} {j} : DE z (.Constant (.int i) j pos) (eC (.int i)) := de_c (fun _ _ => pe_int) fun _ _ => by simp only [RV]
theorem de_str {x : Str} {j} : DE z (.Constant (.str x) j pos) (eC (.str x)) := de_c (fun _ _ => pe_str) fun _ _ => by simp only [RV]
theorem de_bl {b : Bool} {j} : DE z (.Constant (.bool b) j pos) (eC (.bl b)) := de_c (fun _ _ => pe_bl) fun _ _ => by simp only [RV]
theorem de_non {j} : DE z (.Constant .none j pos) (eC .non) := de_c (fun _ _ => pe_non) fun _ _ => by simp only [RV]
theorem dv (i : Nat) {x : Str} (hN : z.N[i]? = some x := by rfl) (hv : Vis z.scope x := by first | exact Or.inl rfl | exact Or.inr (Or.inl rfl) | exact Or.inr (Or.inr rfl)) (hd : (x == ("__debug__" : Str)) = false := by decide)
    (hcd : (x == ("__classdict__" : Str)) = false := by decide) : DE z (.Name x pos) (eVar i) := de_var fun X f => pe_var (f.at hN) (f.vis hv) hd hcd
theorem de_gstr {x y : Str} (hm : ∃ t, z.mg x = some (.str y t)) (hg : Gz z x := by rfl) (hd : (x == ("__debug__" : Str)) = false := by decide) : DE z (.Name x pos) (eC (.str y)) := by
  obtain ⟨t, hm⟩ := hm
  exact de_c (fun X f => pe_glob (v := .str y) (f.gl hg) (f.mgl hm) ⟨t, rfl⟩ hd) fun _ _ => by simp only [RV]
theorem de_gint {x : Str} {i : Int} (hm : ∃ t, z.mg x = some (.int i t)) (hg : Gz z x := by rfl) (hd : (x == ("__debug__" : Str)) = false := by decide) : DE z (.Name x pos) (eC (.int i)) := by
  obtain ⟨t, hm⟩ := hm
  exact de_c (fun X f => pe_glob (v := .int i) (f.gl hg) (f.mgl hm) ⟨t, rfl⟩ hd) fun _ _ => by simp only [RV]
theorem de_gcls {x : Str} (hm : z.mg x = some (.ref (He.ga z.K x))) (hg : Gz z x := by rfl) (hd : (x == ("__debug__" : Str)) = false := by decide) : DE z (.Name x pos) (eC (.cls x)) :=
  de_c (fun X f => pe_glob (v := .ref _) (f.gl hg) (f.mgl hm) rfl hd) fun _ _ => by simp only [RV]
theorem de_gty {x : Str} {n : String} (hm : z.mg x = none) (hv : bootBuiltins x = some (.type n)) (hg : Gz z x := by rfl) (hn : x ≠ "__name__" := by decide) (hd : (x == ("__debug__" : Str)) = false := by decide) : DE z (.Name x pos) (eC (.ty n)) :=
  de_c (fun X f => pe_bltn (v := .ty n) (f.gl hg) (f.mgl hm) hv rfl hn hd) fun _ _ => by simp only [RV]
end

/-! ### operators of ints, texts, lists, tuples -/
def addD : D → D → List O → Out D
  | .int i, .int j, S => .ok (.int (i + j)) S
  | .str a, .str b, S => if a.length + b.length ≤ sizeLine then .ok (.str (a ++ b)) S else .stuck
  | .tup a, .tup b, S => if a.length + b.length ≤ sizeLine then .ok (.tup (a ++ b)) S else .stuck
  | _, _, _ => .stuck
def catD (own : Bool) : D → D → List O → Out D
  | .lst a, .lst b, S => mkL own (a ++ b) S
  | .hnd i, .lst b, S => (match S[i]? with
    | some (.lst a) => mkL own (a ++ b) S
    | _ => .stuck)
  | .lst a, .hnd i, S => (match S[i]? with
    | some (.lst b) => mkL own (a ++ b) S
    | _ => .stuck)
  | _, _, _ => .stuck
def subD : D → D → List O → Out D
  | .int i, .int j, S => .ok (.int (i - j)) S
  | _, _, _ => .stuck
instance (i j : Int) : Decidable (CMulW i j) := inferInstanceAs (Decidable (_ < _))
instance (i j : Int) : Decidable (CMul i j) := inferInstanceAs (Decidable (_ ∨ _))
instance (i j : Int) : Decidable (CDivW i j) := inferInstanceAs (Decidable (_ ∧ _))
def mulD : D → D → List O → Out D
  | .int i, .int j, S => if CMul i j ∨ CMulW i j then .ok (.int (i * j)) S else .stuck
  | _, _, _ => .stuck
def divD : D → D → List O → Out D
  | .int i, .int j, S => if CDivW i j then .ok (.int (i / j)) S else .stuck
  | _, _, _ => .stuck
def modD : D → D → List O → Out D
  | .int i, .int j, S => if 0 < j then .ok (.int (i % j)) S else .stuck
  | _, _, _ => .stuck
def negD : D → List O → Out D
  | .int i, S => .ok (.int (-i)) S
  | _, _ => .stuck
section
variable {z : Sg} {pos : Pos} {a b : Expr} {ta tb : TEx}
theorem rv_int {K : PySem.W.Frag} {g : G} {H : Hp} {i : Int} {v : V} (h : RV K g H (.int i) v) : v = .int i := by simpa only [RV] using h
theorem rv_str {K : PySem.W.Frag} {g : G} {H : Hp} {i : Str} {v : V} (h : RV K g H (.str i) v) : v = .str i := by simpa only [RV] using h
theorem rv_bl {K : PySem.W.Frag} {g : G} {H : Hp} {i : Bool} {v : V} (h : RV K g H (.bl i) v) : v = .bl i := by simpa only [RV] using h
theorem rv_non {K : PySem.W.Frag} {g : G} {H : Hp} {v : V} (h : RV K g H .non v) : v = .non := by simpa only [RV] using h
theorem RVs.nil_iff {K : PySem.W.Frag} {g : G} {H : Hp} {ds : List D} {xs : List V} (r : RVs K g H ds xs) : xs = [] ↔ ds = [] := by
  rw [← List.length_eq_zero_iff, ← List.length_eq_zero_iff, r.length]
theorem de_add (ha : DE z a ta) (hb : DE z b tb) : DE z (.BinOp a .Add b pos) (eBin addD ta tb) := by
  refine de_bin (fun X fx τ τ' h1 h2 => pe_op (op_add.or (op_add_str.or (fx.K ▸ op_catA))) h1 h2) (fun g S H σ Q x y v u s rx ry p => ?_) ha hb
  unfold addD at p
  split at p
  · exact .inl ⟨_, _, rv_int rx, rv_int ry, p.here s (by simp only [RV])⟩
  · split at p
    · exact .inr (.inl ⟨_, _, rv_str rx, rv_str ry, by assumption, p.here s (by simp only [RV])⟩)
    · exact p.elim
  · split at p
    · rename_i hz
      simp only [RV] at rx ry
      obtain ⟨pa, xs, rfl, h1, r1⟩ := rx
      obtain ⟨pb, ys, rfl, h2, r2⟩ := ry
      have l1 := r1.length
      have l2 := r2.length
      refine .inr (.inr ⟨pa, pb, xs, ys, rfl, rfl, h1.sq, h2.sq, by omega, fun e => ?_, fun _ e => ?_, fun _ _ q hq => ?_⟩)
      · have ea := r1.nil_iff.mp e
        subst ea
        refine p.here s ?_
        simp only [RV, List.nil_append]
        exact ⟨pb, ys, rfl, h2, r2⟩
      · have eb := r2.nil_iff.mp e
        subst eb
        refine p.here s ?_
        simp only [RV, List.append_nil]
        exact ⟨pa, xs, rfl, h1, r1⟩
      · refine p.new s hq fun e => ?_
        simp only [RV]
        exact ⟨q, _, rfl, .inl ⟨upd_same, s.unbad hq⟩, (r1.append r2).mono s.live e _ _⟩
    · exact p.elim
  · exact p.elim
theorem de_cat (own : Bool) (ha : DE z a ta) (hb : DE z b tb) : DE z (.BinOp a .Add b pos) (eBin (catD own) ta tb) := by
  refine de_bin (fun X fx τ τ' h1 h2 => pe_op op_cat h1 h2) (fun g S H σ Q x y v u s rx ry p => ?_) ha hb
  have key : ∀ (ds es : List D) (pa pb : Addr) (xs ys : List V), v = .ref pa → u = .ref pb → H pa = some (.lst xs) → H pb = some (.lst ys) → RVs z.K g H ds xs → RVs z.K g H es ys → Post z.K z.W (RV z.K) g H σ Q (mkL own (ds ++ es) S) → rCat v u H Q := by
    intro ds es pa pb xs ys e1 e2 h1 h2 r1 r2 q
    have l1 := r1.length
    have l2 := r2.length
    have l3 := mkL_len q
    rw [List.length_append] at l3
    exact ⟨pa, pb, xs, ys, e1, e2, h1, h2, by omega, fun l hl => mkL_ok s (r1.append r2) q l hl⟩
  unfold catD at p
  split at p
  · simp only [RV] at rx ry
    obtain ⟨pa, xs, e1, h1, _, r1⟩ := rx
    obtain ⟨pb, ys, e2, h2, _, r2⟩ := ry
    exact key _ _ pa pb xs ys e1 e2 h1 h2 r1 r2 p
  · simp only [RV] at rx ry
    obtain ⟨pa, e1, h1⟩ := rx
    obtain ⟨pb, ys, e2, h2, _, r2⟩ := ry
    split at p
    · rename_i q
      obtain ⟨xs, h3, r1⟩ := s.rep _ _ _ h1 q
      exact key _ _ pa pb xs ys e1 e2 h3 h2 r1 r2 p
    · exact p.elim
  · simp only [RV] at rx ry
    obtain ⟨pa, xs, e1, h1, _, r1⟩ := rx
    obtain ⟨pb, e2, h2⟩ := ry
    split at p
    · rename_i q
      obtain ⟨ys, h3, r2⟩ := s.rep _ _ _ h2 q
      exact key _ _ pa pb xs ys e1 e2 h1 h3 r1 r2 p
    · exact p.elim
  · exact p.elim
theorem de_sub (ha : DE z a ta) (hb : DE z b tb) : DE z (.BinOp a .Sub b pos) (eBin subD ta tb) := by
  refine de_bin (fun X fx τ τ' h1 h2 => pe_op op_sub h1 h2) (fun g S H σ Q x y v u s rx ry p => ?_) ha hb
  unfold subD at p
  split at p
  · exact ⟨_, _, rv_int rx, rv_int ry, p.here s (by simp only [RV])⟩
  · exact p.elim
theorem de_mul (ha : DE z a ta) (hb : DE z b tb) : DE z (.BinOp a .Mult b pos) (eBin mulD ta tb) := by
  refine de_bin (fun X fx τ τ' h1 h2 => pe_op (op_mul.or op_mulW) h1 h2) (fun g S H σ Q x y v u s rx ry p => ?_) ha hb
  unfold mulD at p
  split at p
  · split at p
    · rename_i hc
      rcases hc with hc | hc
      · exact .inl ⟨_, _, rv_int rx, rv_int ry, hc, p.here s (by simp only [RV])⟩
      · exact .inr ⟨_, _, rv_int rx, rv_int ry, hc, p.here s (by simp only [RV])⟩
    · exact p.elim
  · exact p.elim
def CPowB (i j : Int) : Prop := 0 ≤ j ∧ (Builtin.Int.intBits i : Int) * j ≤ 2 ^ 27
instance (i j : Int) : Decidable (CPowB i j) := inferInstanceAs (Decidable (_ ∧ _))
theorem op_powB {X : Cx} : OpR X (binaryOp .Pow) (rI CPowB fun i j => .int (i ^ j.toNat)) := opI fun _ _ _ _ _ _ _ hc q => pow_int hc.1 hc.2 q
def powD : D → D → List O → Out D
  | .int i, .int j, S => if CPowB i j then .ok (.int (i ^ j.toNat)) S else .stuck
  | _, _, _ => .stuck
theorem de_div (ha : DE z a ta) (hb : DE z b tb) : DE z (.BinOp a .FloorDiv b pos) (eBin divD ta tb) := by
  refine de_bin (fun X fx τ τ' h1 h2 => pe_op op_fdivW h1 h2) (fun g S H σ Q x y v u s rx ry p => ?_) ha hb
  unfold divD at p
  split at p
  · split at p
    · exact ⟨_, _, rv_int rx, rv_int ry, by assumption, p.here s (by simp only [RV])⟩
    · exact p.elim
  · exact p.elim
theorem de_mod (ha : DE z a ta) (hb : DE z b tb) : DE z (.BinOp a .Mod b pos) (eBin modD ta tb) := by
  refine de_bin (fun X fx τ τ' h1 h2 => pe_op op_mod h1 h2) (fun g S H σ Q x y v u s rx ry p => ?_) ha hb
  unfold modD at p
  split at p
  · split at p
    · exact ⟨_, _, rv_int rx, rv_int ry, by assumption, p.here s (by simp only [RV])⟩
    · exact p.elim
  · exact p.elim
theorem de_pow (ha : DE z a ta) (hb : DE z b tb) : DE z (.BinOp a .Pow b pos) (eBin powD ta tb) := by
  refine de_bin (fun X fx τ τ' h1 h2 => pe_op op_powB h1 h2) (fun g S H σ Q x y v u s rx ry p => ?_) ha hb
  unfold powD at p
  split at p
  · split at p
    · exact ⟨_, _, rv_int rx, rv_int ry, by assumption, p.here s (by simp only [RV])⟩
    · exact p.elim
  · exact p.elim
theorem de_neg (ha : DE z a ta) : DE z (.UnaryOp .USub a pos) (eUn negD ta) := by
  refine de_un (fun X fx τ h1 => pe_un un_neg h1) (fun g S H σ Q x v s rx p => ?_) ha
  unfold negD at p
  split at p
  · exact ⟨_, rv_int rx, p.here s (by simp only [RV])⟩
  · exact p.elim
end
end TL
set_option Elab.async false
set_option linter.all false
set_option maxRecDepth 100000
set_option maxHeartbeats 4000000
/-! The tree layer, part 2: tests, comparisons, and, or, not, conditional expressions. -/
namespace TL
open PySem PySem.Spec PyProof.Rows L2

def Out.test (o : Out D) : Out Bool := o.bind fun d S => match d with
  | .bl b => .ok b S
  | _ => .stuck
/-- an expression whose value is a bool, as a test -/
def tBl (t : TEx) : TTx := fun ρ S => (t ρ S).test
/-- by truth -/
def truD (S : List O) : D → Option Bool
  | .non => some false
  | .bl b => some b
  | .int i => some (i != 0)
  | .str y => if y.length ≤ sizeLine then some ((y.length : Int) != 0) else none
  | .tup ds => some (!ds.isEmpty)
  | .hnd i => (match S[i]? with
    | some (.lst ds) => some (!ds.isEmpty)
    | some (.dct kvs) => some (!kvs.isEmpty)
    | _ => none)
  | .lst ds => some (!ds.isEmpty)
  | .scr ns => some (!ns.isEmpty)
  | _ => none
def tTru (t : TEx) : TTx := fun ρ S => (t ρ S).bind fun d S1 => match truD S1 d with
  | some b => .ok b S1
  | none => .stuck
def tAndT (a b : TTx) : TTx := fun ρ S => (a ρ S).bind fun c S1 => if c = true then b ρ S1 else .ok false S1
def tOrT (a b : TTx) : TTx := fun ρ S => (a ρ S).bind fun c S1 => if c = true then .ok true S1 else b ρ S1
def tNotT (a : TTx) : TTx := fun ρ S => (a ρ S).bind fun c S1 => .ok (!c) S1
def eAnd (a b : TEx) : TEx := fun ρ S => (a ρ S).bind fun d S1 => match truD S1 d with
  | some true => b ρ S1
  | some false => .ok d S1
  | none => .stuck
def eOr (a b : TEx) : TEx := fun ρ S => (a ρ S).bind fun d S1 => match truD S1 d with
  | some true => .ok d S1
  | some false => b ρ S1
  | none => .stuck
def eNot (a : TEx) : TEx := fun ρ S => (a ρ S).bind fun d S1 => match truD S1 d with
  | some b => .ok (.bl (!b)) S1
  | none => .stuck
def eIf (c : TTx) (a b : TEx) : TEx := fun ρ S => (c ρ S).bind fun k S1 => if k = true then a ρ S1 else b ρ S1

section
variable {K : PySem.W.Frag} {g : G} {S : List O} {H : Hp}
theorem emp_of {α β : Type} {xs : List α} {ys : List β} (h : xs.length = ys.length) : (!xs.isEmpty) = (!ys.isEmpty) := by
  cases xs <;> cases ys <;> simp_all
theorem RKs.length : ∀ {ds : List (Key × D)} {xs : List (Key × V)}, RKs K g H ds xs → xs.length = ds.length
  | [], _, h => by simp only [RKs] at h; subst h; rfl
  | (k, d) :: ds, _, h => by
    simp only [RKs] at h
    obtain ⟨v, r, rfl, _, e3⟩ := h
    simp [RKs.length e3]
theorem truD_ok (s : SR K g S H) {d : D} {v : V} {b : Bool} (r : RV K g H d v) (h : truD S d = some b) : TruV K v H b := by
  cases d with
  | non => rw [rv_non r]; cases h; rfl
  | bl c => rw [rv_bl r]; cases h; rfl
  | int i => rw [rv_int r]; cases h; rfl
  | str y =>
    rw [rv_str r]
    simp only [truD] at h
    split at h
    · cases h
      exact ⟨by assumption, rfl⟩
    · cases h
  | tup ds =>
    cases h
    simp only [RV] at r
    obtain ⟨a, xs, rfl, h1, h2⟩ := r
    exact .inr (.inl ⟨xs, h1.sq, emp_of h2.length.symm⟩)
  | lst ds =>
    cases h
    simp only [RV] at r
    obtain ⟨a, xs, rfl, h1, _, h2⟩ := r
    exact .inl ⟨xs, .inl (.inl h1), emp_of h2.length.symm⟩
  | scr ns =>
    cases h
    simp only [RV] at r
    obtain ⟨a, rfl, h1⟩ := r
    exact .inl ⟨_, h1.sq, emp_of (by simp)⟩
  | hnd i =>
    simp only [RV] at r
    obtain ⟨a, rfl, h1⟩ := r
    simp only [truD] at h
    split at h
    · rename_i ds q
      cases h
      obtain ⟨xs, h2, h3⟩ := s.rep i a _ h1 q
      exact .inl ⟨xs, .inl (.inl h2), emp_of h3.length.symm⟩
    · rename_i kvs q
      cases h
      obtain ⟨xs, h2, h3⟩ := s.rep i a _ h1 q
      exact .inr (.inr ⟨xs, h2, emp_of h3.length.symm⟩)
    · cases h
  | _ => cases h
end

section
variable {z : Sg} {pos : Pos} {a b c : Expr} {ta tb tc : TEx}
theorem Post.test {K : PySem.W.Frag} {g : G} {H : Hp} {σ : L2.St} {Q : Bool → Hp → Prop} {o : Out D} (h : Post K W rBool g H σ Q o.test) : Post K W (RV K) g H σ (fun x H' => ∃ k, x = .bl k ∧ Q k H') o := by
  refine Post.bind (R' := rBool) (Q := Q) h fun d S1 g1 H1 v e s r p => ?_
  cases d with
  | bl k => exact ⟨k, rv_bl r, p.here s rfl⟩
  | _ => exact p.elim
/-- a test by its rule, from the value's own reading -/
theorem dt_of {e : Expr} {τ : TE} {t : TEx} (h : ∀ X, Fits z X → PT X e (tTest τ)) (q : RdE z τ t) : DT z e (tBl t) :=
  ⟨_, h, fun g S ρ σ H Q s rs p => q g S ρ σ H _ s rs p.test⟩
theorem dt_val {e : Expr} {t : TEx} (h : DE z e t) (he : ∀ env whole, isTrue e env whole = (do let v ← whole; standAt e.pos; holding [v] (truthy v)) := by intro _ _; rfl) : DT z e (tBl t) := by
  obtain ⟨τ, h1, q1⟩ := h
  exact ⟨_, fun X f => pt_val (h1 X f) (he _), fun g S ρ σ H Q s rs p => q1 g S ρ σ H _ s rs p.test⟩
theorem dt_tru {e : Expr} {t : TEx} (h : DE z e t) (he : ∀ env whole, isTrue e env whole = (do let v ← whole; standAt e.pos; holding [v] (truthy v)) := by intro _ _; rfl) : DT z e (tTru t) := by
  obtain ⟨τ, h1, q1⟩ := h
  refine ⟨_, fun X f => f.K ▸ pt_truth (h1 X f) (he _), fun g S ρ σ H Q s rs p => q1 g S ρ σ H _ s rs (p.bind fun d S1 g1 H1 v e1 s1 r1 p1 => ?_)⟩
  split at p1
  · exact ⟨_, truD_ok s1 r1 (by assumption), p1.here s1 rfl⟩
  · exact p1.elim
/-! and, or, not of tests -/
def DW (z : Sg) (e : Expr) (t : TTx) : Prop := ∃ τ, (∀ X, Fits z X → PW X e τ) ∧ RdT z τ t
theorem DW.dt {e : Expr} {t : TTx} (h : DW z e t) : DT z e t := by
  obtain ⟨τ, h1, q1⟩ := h
  exact ⟨τ, fun X f => (h1 X f).pt, q1⟩
variable {rest : List Expr} {t u : TTx}
theorem dw_and1 (ha : DT z a t) : DW z (.BoolOp .And [a] pos) t := by
  obtain ⟨τ, h1, q1⟩ := ha
  exact ⟨τ, fun X f => pw_and1 (h1 X f), q1⟩
theorem dw_or1 (ha : DT z a t) : DW z (.BoolOp .Or [a] pos) t := by
  obtain ⟨τ, h1, q1⟩ := ha
  exact ⟨τ, fun X f => pw_or1 (h1 X f), q1⟩
theorem dw_and (ha : DT z a t) (hb : DW z (.BoolOp .And (b :: rest) pos) u) : DW z (.BoolOp .And (a :: b :: rest) pos) (tAndT t u) := by
  obtain ⟨τ, h1, q1⟩ := ha
  obtain ⟨τ2, h2, q2⟩ := hb
  refine ⟨_, fun X f => pw_and (h1 X f) (h2 X f), fun g S ρ σ H Q s rs p => q1 g S ρ σ H _ s rs (p.bind fun k S1 g1 H1 k' e1 s1 r1 p1 => ?_)⟩
  have r1 : k = k' := r1
  subst r1
  show if k = true then τ2 σ H1 Q else Q false H1
  split
  · rename_i hk
    rw [if_pos hk] at p1
    exact q2 g1 S1 ρ σ H1 Q s1 (rs.mono s.live e1) p1
  · rename_i hk
    rw [if_neg hk] at p1
    exact p1.here s1 rfl
theorem dw_or (ha : DT z a t) (hb : DW z (.BoolOp .Or (b :: rest) pos) u) : DW z (.BoolOp .Or (a :: b :: rest) pos) (tOrT t u) := by
  obtain ⟨τ, h1, q1⟩ := ha
  obtain ⟨τ2, h2, q2⟩ := hb
  refine ⟨_, fun X f => pw_or (h1 X f) (h2 X f), fun g S ρ σ H Q s rs p => q1 g S ρ σ H _ s rs (p.bind fun k S1 g1 H1 k' e1 s1 r1 p1 => ?_)⟩
  have r1 : k = k' := r1
  subst r1
  show if k = true then Q true H1 else τ2 σ H1 Q
  split
  · rename_i hk
    rw [if_pos hk] at p1
    exact p1.here s1 rfl
  · rename_i hk
    rw [if_neg hk] at p1
    exact q2 g1 S1 ρ σ H1 Q s1 (rs.mono s.live e1) p1
theorem dt_not (ha : DT z a t) : DT z (.UnaryOp .Not a pos) (tNotT t) := by
  obtain ⟨τ, h1, q1⟩ := ha
  refine ⟨_, fun X f => pt_not (h1 X f), fun g S ρ σ H Q s rs p => q1 g S ρ σ H _ s rs (p.bind fun k S1 g1 H1 k' e1 s1 r1 p1 => ?_)⟩
  have r1 : k = k' := r1
  subst r1
  exact p1.here s1 rfl
/-! .. of values -/
theorem de_one {op} {t : TEx} (h : DE z a t) : DE z (.BoolOp op [a] pos) t := by
  obtain ⟨τ, h1, q1⟩ := h
  exact ⟨τ, fun X f => pe_one (h1 X f), q1⟩
theorem de_and (ha : DE z a ta) (hb : DE z (.BoolOp .And (b :: rest) pos) tb) : DE z (.BoolOp .And (a :: b :: rest) pos) (eAnd ta tb) := by
  obtain ⟨τ, h1, q1⟩ := ha
  obtain ⟨τ2, h2, q2⟩ := hb
  refine ⟨_, fun X f => f.K ▸ pe_andT (h1 X f) (h2 X f), fun g S ρ σ H Q s rs p => q1 g S ρ σ H _ s rs (p.bind fun d S1 g1 H1 v e1 s1 r1 p1 => ?_)⟩
  split at p1
  · exact ⟨true, truD_ok s1 r1 (by assumption), by rw [if_pos rfl]; exact q2 g1 S1 ρ σ H1 Q s1 (rs.mono s.live e1) p1⟩
  · exact ⟨false, truD_ok s1 r1 (by assumption), by rw [if_neg Bool.false_ne_true]; exact p1.here s1 r1⟩
  · exact p1.elim
theorem de_or (ha : DE z a ta) (hb : DE z (.BoolOp .Or (b :: rest) pos) tb) : DE z (.BoolOp .Or (a :: b :: rest) pos) (eOr ta tb) := by
  obtain ⟨τ, h1, q1⟩ := ha
  obtain ⟨τ2, h2, q2⟩ := hb
  refine ⟨_, fun X f => f.K ▸ pe_orT (h1 X f) (h2 X f), fun g S ρ σ H Q s rs p => q1 g S ρ σ H _ s rs (p.bind fun d S1 g1 H1 v e1 s1 r1 p1 => ?_)⟩
  split at p1
  · exact ⟨true, truD_ok s1 r1 (by assumption), by rw [if_pos rfl]; exact p1.here s1 r1⟩
  · exact ⟨false, truD_ok s1 r1 (by assumption), by rw [if_neg Bool.false_ne_true]; exact q2 g1 S1 ρ σ H1 Q s1 (rs.mono s.live e1) p1⟩
  · exact p1.elim
theorem de_not (ha : DE z a ta) : DE z (.UnaryOp .Not a pos) (eNot ta) := by
  obtain ⟨τ, h1, q1⟩ := ha
  refine ⟨_, fun X f => f.K ▸ pe_notT (h1 X f), fun g S ρ σ H Q s rs p => q1 g S ρ σ H _ s rs (p.bind fun d S1 g1 H1 v e1 s1 r1 p1 => ?_)⟩
  split at p1
  · exact ⟨_, truD_ok s1 r1 (by assumption), p1.here s1 (by simp only [RV])⟩
  · exact p1.elim
theorem de_if (hc : DT z c t) (ha : DE z a ta) (hb : DE z b tb) : DE z (.IfExp c a b pos) (eIf t ta tb) := by
  obtain ⟨τ, h1, q1⟩ := hc
  obtain ⟨τ2, h2, q2⟩ := ha
  obtain ⟨τ3, h3, q3⟩ := hb
  refine ⟨_, fun X f => pe_ifExp (h1 X f) (h2 X f) (h3 X f), fun g S ρ σ H Q s rs p => q1 g S ρ σ H _ s rs (p.bind fun k S1 g1 H1 k' e1 s1 r1 p1 => ?_)⟩
  have r1 : k = k' := r1
  subst r1
  show if k = true then τ2 σ H1 Q else τ3 σ H1 Q
  split
  · rename_i hk
    rw [if_pos hk] at p1
    exact q2 g1 S1 ρ σ H1 Q s1 (rs.mono s.live e1) p1
  · rename_i hk
    rw [if_neg hk] at p1
    exact q3 g1 S1 ρ σ H1 Q s1 (rs.mono s.live e1) p1
end

/-! ### comparisons -/
section
variable {z : Sg} {pos : Pos} {a b c : Expr} {ta tb tc : TEx}
theorem de_cmp {op : CmpOp} {r : R2} {f : D → D → List O → Out D} (ho : ∀ X, Fits z X → OpR X (compareOp op) r) (ok : OkB z.K z.W r f) (hm : behindInMarks op b = false) (ha : DE z a ta) (hb : DE z b tb) : DE z (.Compare a [op] [b] pos) (eBin f ta tb) :=
  de_bin (fun X f τ τ' h1 h2 => pe_cmpR (ho X f) h1 h2 hm) ok ha hb
theorem dt_cmp {op : CmpOp} {r : R2} {f : D → D → List O → Out D} (ho : ∀ X, Fits z X → OpR X (compareOp op) r) (ok : OkB z.K z.W r f) (hm : behindInMarks op b = false) (ha : DE z a ta) (hb : DE z b tb) : DT z (.Compare a [op] [b] pos) (tBl (eBin f ta tb)) := by
  obtain ⟨τ, h1, q1⟩ := ha
  obtain ⟨τ2, h2, q2⟩ := hb
  exact dt_of (fun X f => pt_cmpR (ho X f) (h1 X f) (h2 X f) hm) (rd_bin ok q1 q2)
/-- a op b op' c -/
def eChain (f f' : D → D → List O → Out D) (a b c : TEx) : TEx := fun ρ S => (a ρ S).bind fun x S1 => (b ρ S1).bind fun y S2 => (f x y S2).test.bind fun k S3 => if k = true then (c ρ S3).bind fun z S4 => f' y z S4 else .ok (.bl false) S3
theorem chain_q {τ τ2 τ3 : TE} {r r' : R2} {f f' : D → D → List O → Out D} (ok : OkB z.K z.W r f) (ok' : OkB z.K z.W r' f') (q1 : RdE z τ ta) (q2 : RdE z τ2 tb) (q3 : RdE z τ3 tc) : RdE z (tChain r r' τ τ2 τ3) (eChain f f' ta tb tc) := by
  intro g S ρ σ H Q s rs p
  refine q1 g S ρ σ H _ s rs (p.bind fun x S1 g1 H1 v e1 s1 r1 p1 => ?_)
  refine q2 g1 S1 ρ σ H1 _ s1 (rs.mono s.live e1) (p1.bind fun y S2 g2 H2 u e2 s2 r2 p2 => ?_)
  refine ok g2 S2 H2 σ _ x y v u s2 (r1.mono s1.live e2) r2 ?_
  refine Post.imp (fun z H' h => h) (Post.test (Q := fun k H3 => if k = true then τ3 σ H3 fun w' H4 => r' u w' H4 Q else Q (.bl false) H3) (p2.bind fun k S3 g3 H3 k' e3 s3 r3 p3 => ?_))
  have r3 : k = k' := r3
  subst r3
  show if k = true then _ else _
  split
  · rename_i hk
    rw [if_pos hk] at p3
    exact q3 g3 S3 ρ σ H3 _ s3 ((rs.mono s.live e1).mono s1.live e2 |>.mono s2.live e3) (p3.bind fun z S4 g4 H4 w e4 s4 r4 p4 => ok' g4 S4 H4 σ Q y z u w s4 ((r2.mono s2.live e3).mono s3.live e4) r4 p4)
  · rename_i hk
    rw [if_neg hk] at p3
    exact p3.here s3 (by simp only [RV])
theorem de_chain {op op' : CmpOp} {r r' : R2} {f f' : D → D → List O → Out D} (ho : ∀ X, Fits z X → OpR X (compareOp op) r) (ho' : ∀ X, Fits z X → OpR X (compareOp op') r') (ok : OkB z.K z.W r f) (ok' : OkB z.K z.W r' f') (ha : DE z a ta) (hb : DE z b tb) (hc : DE z c tc)
    (hm : lastMarks [op, op'] [b, c] = false := by with_unfolding_all rfl) : DE z (.Compare a [op, op'] [b, c] pos) (eChain f f' ta tb tc) := by
  obtain ⟨τ, h1, q1⟩ := ha
  obtain ⟨τ2, h2, q2⟩ := hb
  obtain ⟨τ3, h3, q3⟩ := hc
  exact ⟨_, fun X f => pe_chain (ho X f) (ho' X f) (h1 X f) (h2 X f) (h3 X f) hm, chain_q ok ok' q1 q2 q3⟩
theorem dt_chain {op op' : CmpOp} {r r' : R2} {f f' : D → D → List O → Out D} (ho : ∀ X, Fits z X → OpR X (compareOp op) r) (ho' : ∀ X, Fits z X → OpR X (compareOp op') r') (ok : OkB z.K z.W r f) (ok' : OkB z.K z.W r' f') (ha : DE z a ta) (hb : DE z b tb) (hc : DE z c tc)
    (hm : lastMarks [op, op'] [b, c] = false := by with_unfolding_all rfl) : DT z (.Compare a [op, op'] [b, c] pos) (tBl (eChain f f' ta tb tc)) := by
  obtain ⟨τ, h1, q1⟩ := ha
  obtain ⟨τ2, h2, q2⟩ := hb
  obtain ⟨τ3, h3, q3⟩ := hc
  exact dt_of (fun X f => pt_chain (ho X f) (ho' X f) (h1 X f) (h2 X f) (h3 X f) hm) (chain_q ok ok' q1 q2 q3)
end

/-! ### the trees that are plain data -/
mutual
def pd : D → Option PyData
  | .non => some .none
  | .bl b => some (.bool b)
  | .int i => some (.int i)
  | .str s => some (.str s)
  | .tup ds => (pds ds).map PyData.tuple
  | .lst ds => (pds ds).map PyData.list
  | .dct kvs => (pdk kvs).map PyData.dict
  | _ => none
def pds : List D → Option (List PyData)
  | [] => some []
  | d :: ds => (pd d).bind fun x => (pds ds).map fun xs => x :: xs
def pdk : List (Key × D) → Option (List (PyData × PyData))
  | [] => some []
  | (k, d) :: ds => (pd d).bind fun x => (pdk ds).map fun xs => ((match k with
    | .inl i => PyData.int i
    | .inr s => PyData.str s), x) :: xs
end
section
variable {K : PySem.W.Frag} {g : G} {H : Hp}
mutual
/-- a tree without dicts is the layer's own data -/
theorem pd_dp : ∀ (d : D) (v : V) (x : PyData), RV K g H d v → pd d = some x → x.hasDict = false → Dp K H v x
  | .non, _, _, r, e, _ => by rw [rv_non r]; simp only [pd] at e; cases e; exact .non
  | .bl b, _, _, r, e, _ => by rw [rv_bl r]; simp only [pd] at e; cases e; exact .bl b
  | .int i, _, _, r, e, _ => by rw [rv_int r]; simp only [pd] at e; cases e; exact .int i
  | .str s, _, _, r, e, _ => by rw [rv_str r]; simp only [pd] at e; cases e; exact .str s
  | .tup ds, _, _, r, e, hd => by
    simp only [pd] at e
    cases q : pds ds with
    | none => rw [q] at e; cases e
    | some xs =>
      rw [q] at e
      cases e
      simp only [RV] at r
      obtain ⟨a, vs, rfl, h1, h2⟩ := r
      exact .tup h1.sq (pds_dp ds vs xs h2 q (by simpa only [PyData.hasDict] using hd))
  | .lst ds, _, _, r, e, hd => by
    simp only [pd] at e
    cases q : pds ds with
    | none => rw [q] at e; cases e
    | some xs =>
      rw [q] at e
      cases e
      simp only [RV] at r
      obtain ⟨a, vs, rfl, h1, _, h2⟩ := r
      exact .lst (.inl (.inl h1)) (pds_dp ds vs xs h2 q (by simpa only [PyData.hasDict] using hd))
  | .dct kvs, _, _, _, e, hd => by
    simp only [pd] at e
    cases q : pdk kvs with
    | none => rw [q] at e; cases e
    | some xs =>
      rw [q] at e
      cases e
      simp only [PyData.hasDict] at hd
      cases hd
  | .ty _, _, _, _, e, _ => by simp only [pd] at e; cases e
  | .scr _, _, _, _, e, _ => by simp only [pd] at e; cases e
  | .ins _ _, _, _, _, e, _ => by simp only [pd] at e; cases e
  | .cls _, _, _, _, e, _ => by simp only [pd] at e; cases e
  | .exc _ _, _, _, _, e, _ => by simp only [pd] at e; cases e
  | .hnd _, _, _, _, e, _ => by simp only [pd] at e; cases e
  | .any, _, _, _, e, _ => by simp only [pd] at e; cases e
theorem pds_dp : ∀ (ds : List D) (vs : List V) (xs : List PyData), RVs K g H ds vs → pds ds = some xs → PyData.hasDictAll xs = false → DpAll K H vs xs
  | [], _, _, r, e, _ => by simp only [pds] at e; simp only [RVs] at r; cases e; subst r; exact .nil
  | d :: ds, _, _, r, e, hd => by
    simp only [pds] at e
    simp only [RVs] at r
    obtain ⟨v, vr, rfl, r1, r2⟩ := r
    cases q : pd d with
    | none => rw [q] at e; cases e
    | some x =>
      rw [q] at e
      cases q2 : pds ds with
      | none => rw [q2] at e; cases e
      | some xs =>
        rw [q2] at e
        cases e
        have hd' : (x.hasDict || PyData.hasDictAll xs) = false := by simpa only [PyData.hasDictAll] using hd
        rw [Bool.or_eq_false_iff] at hd'
        exact .cons (pd_dp d v x r1 q hd'.1) (pds_dp ds vr xs r2 q2 hd'.2)
end
end

/-- == of plain values, and of data -/
def eqD (x y : D) (S : List O) : Out D := match x, y with
  | .int i, .int j => .ok (.bl (decide (i = j))) S
  | .str i, .str j => .ok (.bl (decide (i = j))) S
  | .bl i, .bl j => .ok (.bl (decide (i = j))) S
  | _, _ => match pd x, pd y with
    | some p, some q => if SeqAt.shaped p = true ∧ SeqAt.shaped q = true then .ok (.bl (PyData.eqv p q)) S else .stuck
    | _, _ => .stuck
def neD (x y : D) (S : List O) : Out D := match x, y with
  | .int i, .int j => .ok (.bl (!decide (i = j))) S
  | .str i, .str j => .ok (.bl (!decide (i = j))) S
  | .bl i, .bl j => .ok (.bl (!decide (i = j))) S
  | _, _ => match pd x, pd y with
    | some p, some q => if SeqAt.shaped p = true ∧ SeqAt.shaped q = true then .ok (.bl (!PyData.eqv p q)) S else .stuck
    | _, _ => .stuck
def ltD : D → D → List O → Out D
  | .int i, .int j, S => .ok (.bl (decide (i < j))) S
  | .str i, .str j, S => .ok (.bl (decide (i.cps.toList < j.cps.toList))) S
  | _, _, _ => .stuck
def leD : D → D → List O → Out D
  | .int i, .int j, S => .ok (.bl (decide (i ≤ j))) S
  | _, _, _ => .stuck
def gtD : D → D → List O → Out D
  | .int i, .int j, S => .ok (.bl (decide (j < i))) S
  | _, _, _ => .stuck
def geD : D → D → List O → Out D
  | .int i, .int j, S => .ok (.bl (decide (j ≤ i))) S
  | _, _, _ => .stuck
/-- x is None -/
def isN : D → Option Bool
  | .non => some true
  | .any => none
  | _ => some false
def isND : D → D → List O → Out D
  | x, .non, S => (match isN x with
    | some b => .ok (.bl b) S
    | none => .stuck)
  | _, _, _ => .stuck
def notND : D → D → List O → Out D
  | x, .non, S => (match isN x with
    | some b => .ok (.bl (!b)) S
    | none => .stuck)
  | _, _, _ => .stuck
section
variable {K : PySem.W.Frag} {W : WX}
theorem hasDict_shaped {p : PyData} (h : SeqAt.shaped p = true) : p.hasDict = false := PyData.hasDict_of_canLay p (SeqAt.canLay_of_shaped h)
abbrev rEqA (K : PySem.W.Frag) : R2 := fun x y H Q => rEq x y H Q ∨ rEqD K x y H Q
abbrev rNeA (K : PySem.W.Frag) : R2 := fun x y H Q => rNe x y H Q ∨ rNeD K x y H Q
theorem ok_eq : OkB K W (rEqA K) eqD := by
  intro g S H σ Q x y v u s rx ry p
  unfold eqD at p
  split at p
  · rw [rv_int rx, rv_int ry]
    refine .inl ⟨rfl, p.here s ?_⟩
    simp only [RV, V.int.injEq]
  · rw [rv_str rx, rv_str ry]
    refine .inl ⟨rfl, p.here s ?_⟩
    simp only [RV, V.str.injEq]
  · rw [rv_bl rx, rv_bl ry]
    refine .inl ⟨rfl, p.here s ?_⟩
    simp only [RV, V.bl.injEq]
  · split at p
    · rename_i e1 e2
      split at p
      · rename_i hh
        exact .inr ⟨_, _, pd_dp _ _ _ rx e1 (hasDict_shaped hh.1), pd_dp _ _ _ ry e2 (hasDict_shaped hh.2), hh.1, hh.2, p.here s (by simp only [RV])⟩
      · exact p.elim
    · exact p.elim
theorem ok_ne : OkB K W (rNeA K) neD := by
  intro g S H σ Q x y v u s rx ry p
  unfold neD at p
  split at p
  · rw [rv_int rx, rv_int ry]
    refine .inl ⟨rfl, p.here s ?_⟩
    simp only [RV, V.int.injEq]
  · rw [rv_str rx, rv_str ry]
    refine .inl ⟨rfl, p.here s ?_⟩
    simp only [RV, V.str.injEq]
  · rw [rv_bl rx, rv_bl ry]
    refine .inl ⟨rfl, p.here s ?_⟩
    simp only [RV, V.bl.injEq]
  · split at p
    · rename_i e1 e2
      split at p
      · rename_i hh
        exact .inr ⟨_, _, pd_dp _ _ _ rx e1 (hasDict_shaped hh.1), pd_dp _ _ _ ry e2 (hasDict_shaped hh.2), hh.1, hh.2, p.here s (by simp only [RV])⟩
      · exact p.elim
    · exact p.elim
theorem ok_lt : OkB K W (fun x y H Q => rI0 (fun i j => .bl (decide (i < j))) x y H Q ∨ ∃ i j, x = .str i ∧ y = .str j ∧ Q (.bl (decide (i.cps.toList < j.cps.toList))) H) ltD := by
  intro g S H σ Q x y v u s rx ry p
  unfold ltD at p
  split at p
  · exact .inl ⟨_, _, rv_int rx, rv_int ry, p.here s (by simp only [RV])⟩
  · exact .inr ⟨_, _, rv_str rx, rv_str ry, p.here s (by simp only [RV])⟩
  · exact p.elim
theorem ok_le : OkB K W (rI0 fun i j => .bl (decide (i ≤ j))) leD := by
  intro g S H σ Q x y v u s rx ry p
  unfold leD at p
  split at p
  · exact ⟨_, _, rv_int rx, rv_int ry, p.here s (by simp only [RV])⟩
  · exact p.elim
theorem ok_gt : OkB K W (rI0 fun i j => .bl (decide (j < i))) gtD := by
  intro g S H σ Q x y v u s rx ry p
  unfold gtD at p
  split at p
  · exact ⟨_, _, rv_int rx, rv_int ry, p.here s (by simp only [RV])⟩
  · exact p.elim
theorem ok_ge : OkB K W (rI0 fun i j => .bl (decide (j ≤ i))) geD := by
  intro g S H σ Q x y v u s rx ry p
  unfold geD at p
  split at p
  · exact ⟨_, _, rv_int rx, rv_int ry, p.here s (by simp only [RV])⟩
  · exact p.elim
theorem isN_ok {g : G} {H : Hp} {x : D} {v : V} {b : Bool} (r : RV K g H x v) (h : isN x = some b) : decide (v = .non) = b := by
  cases x with
  | non => rw [rv_non r]; cases h; rfl
  | any => cases h
  | bl _ => rw [rv_bl r]; cases h; rfl
  | int _ => rw [rv_int r]; cases h; rfl
  | str _ => rw [rv_str r]; cases h; rfl
  | ty _ => simp only [RV] at r; subst r; cases h; rfl
  | cls _ => simp only [RV] at r; subst r; cases h; rfl
  | tup _ => simp only [RV] at r; obtain ⟨_, _, rfl, _⟩ := r; cases h; rfl
  | lst _ => simp only [RV] at r; obtain ⟨_, _, rfl, _⟩ := r; cases h; rfl
  | scr _ => simp only [RV] at r; obtain ⟨_, rfl, _⟩ := r; cases h; rfl
  | dct _ => simp only [RV] at r; obtain ⟨_, _, rfl, _⟩ := r; cases h; rfl
  | ins _ _ => simp only [RV] at r; obtain ⟨_, _, _, rfl, _⟩ := r; cases h; rfl
  | exc _ _ => simp only [RV] at r; obtain ⟨_, _, _, rfl, _⟩ := r; cases h; rfl
  | hnd _ => simp only [RV] at r; obtain ⟨_, rfl, _⟩ := r; cases h; rfl
theorem ok_isN : OkB K W (fun x y H Q => y = .non ∧ Q (.bl (decide (x = .non))) H) isND := by
  intro g S H σ Q x y v u s rx ry p
  unfold isND at p
  split at p
  · split at p
    · refine ⟨rv_non ry, p.here s ?_⟩
      simp only [RV, V.bl.injEq]
      exact isN_ok rx (by assumption)
    · exact p.elim
  · exact p.elim
theorem ok_notN : OkB K W (fun x y H Q => y = .non ∧ Q (.bl (!decide (x = .non))) H) notND := by
  intro g S H σ Q x y v u s rx ry p
  unfold notND at p
  split at p
  · split at p
    · refine ⟨rv_non ry, p.here s ?_⟩
      simp only [RV, V.bl.injEq]
      rw [isN_ok rx (by assumption)]
    · exact p.elim
  · exact p.elim
end
section
variable {z : Sg} {pos : Pos} {a b : Expr} {ta tb : TEx}
theorem op_eqA (X : Cx) (f : Fits z X) : OpR X (compareOp .Eq) (rEqA z.K) := f.K ▸ op_eq.or (op_eqD f.hu)
theorem op_neA (X : Cx) (f : Fits z X) : OpR X (compareOp .NotEq) (rNeA z.K) := f.K ▸ op_ne.or (op_neD f.hu)
theorem de_eq (ha : DE z a ta) (hb : DE z b tb) : DE z (.Compare a [.Eq] [b] pos) (eBin eqD ta tb) := de_cmp op_eqA ok_eq (nomark _) ha hb
theorem dt_eq (ha : DE z a ta) (hb : DE z b tb) : DT z (.Compare a [.Eq] [b] pos) (tBl (eBin eqD ta tb)) := dt_cmp op_eqA ok_eq (nomark _) ha hb
theorem de_ne (ha : DE z a ta) (hb : DE z b tb) : DE z (.Compare a [.NotEq] [b] pos) (eBin neD ta tb) := de_cmp op_neA ok_ne (nomark _) ha hb
theorem dt_ne (ha : DE z a ta) (hb : DE z b tb) : DT z (.Compare a [.NotEq] [b] pos) (tBl (eBin neD ta tb)) := dt_cmp op_neA ok_ne (nomark _) ha hb
theorem de_lt (ha : DE z a ta) (hb : DE z b tb) : DE z (.Compare a [.Lt] [b] pos) (eBin ltD ta tb) := de_cmp (fun _ _ => op_lt.or op_lt_str) ok_lt (nomark _) ha hb
theorem dt_lt (ha : DE z a ta) (hb : DE z b tb) : DT z (.Compare a [.Lt] [b] pos) (tBl (eBin ltD ta tb)) := dt_cmp (fun _ _ => op_lt.or op_lt_str) ok_lt (nomark _) ha hb
theorem de_le (ha : DE z a ta) (hb : DE z b tb) : DE z (.Compare a [.LtE] [b] pos) (eBin leD ta tb) := de_cmp (fun _ _ => op_le) ok_le (nomark _) ha hb
theorem dt_le (ha : DE z a ta) (hb : DE z b tb) : DT z (.Compare a [.LtE] [b] pos) (tBl (eBin leD ta tb)) := dt_cmp (fun _ _ => op_le) ok_le (nomark _) ha hb
theorem de_gt (ha : DE z a ta) (hb : DE z b tb) : DE z (.Compare a [.Gt] [b] pos) (eBin gtD ta tb) := de_cmp (fun _ _ => op_gt) ok_gt (nomark _) ha hb
theorem dt_gt (ha : DE z a ta) (hb : DE z b tb) : DT z (.Compare a [.Gt] [b] pos) (tBl (eBin gtD ta tb)) := dt_cmp (fun _ _ => op_gt) ok_gt (nomark _) ha hb
theorem de_ge (ha : DE z a ta) (hb : DE z b tb) : DE z (.Compare a [.GtE] [b] pos) (eBin geD ta tb) := de_cmp (fun _ _ => op_ge) ok_ge (nomark _) ha hb
theorem dt_ge (ha : DE z a ta) (hb : DE z b tb) : DT z (.Compare a [.GtE] [b] pos) (tBl (eBin geD ta tb)) := dt_cmp (fun _ _ => op_ge) ok_ge (nomark _) ha hb
theorem de_isN (ha : DE z a ta) (hb : DE z b tb) : DE z (.Compare a [.Is] [b] pos) (eBin isND ta tb) := de_cmp (fun _ _ => op_isN) ok_isN (nomark _) ha hb
theorem dt_isN (ha : DE z a ta) (hb : DE z b tb) : DT z (.Compare a [.Is] [b] pos) (tBl (eBin isND ta tb)) := dt_cmp (fun _ _ => op_isN) ok_isN (nomark _) ha hb
theorem de_notN (ha : DE z a ta) (hb : DE z b tb) : DE z (.Compare a [.IsNot] [b] pos) (eBin notND ta tb) := de_cmp (fun _ _ => op_notN) ok_notN (nomark _) ha hb
theorem dt_notN (ha : DE z a ta) (hb : DE z b tb) : DT z (.Compare a [.IsNot] [b] pos) (tBl (eBin notND ta tb)) := dt_cmp (fun _ _ => op_notN) ok_notN (nomark _) ha hb
end
end TL
set_option Elab.async false
set_option linter.all false
set_option maxRecDepth 100000
set_option maxHeartbeats 4000000
/-! The tree layer, part 3: statements, defs, calls. -/
namespace TL
open PySem PySem.Spec PyProof.Rows L2

/-! ### statements -/
inductive OutS where
  | nx (ρ : Env1) (S : List O)
  | rt (d : D) (S : List O)
  | bk (ρ : Env1) (S : List O)
  | ct (ρ : Env1) (S : List O)
  | exc (C : Str) (d : D) (ρ : Env1) (S : List O)
  | stuck
abbrev TSx := Env1 → List O → OutS
def PostS (K : PySem.W.Frag) (W : WX) (g : G) (H : Hp) (T : Ends) : OutS → Prop
  | .nx ρ S => ∀ g' H' σ', Ext g H g' H' → SR K g' S H' → RS K g' H' ρ σ' → T.nx σ' H'
  | .rt d S => ∀ g' H' v, Ext g H g' H' → SR K g' S H' → RV K g' H' d v → T.rt v H'
  | .bk ρ S => ∀ g' H' σ', Ext g H g' H' → SR K g' S H' → RS K g' H' ρ σ' → T.bk σ' H'
  | .ct ρ S => ∀ g' H' σ', Ext g H g' H' → SR K g' S H' → RS K g' H' ρ σ' → T.ct σ' H'
  | .exc C d ρ S => ∀ g' H' σ' c dd, Ext g H g' H' → SR K g' S H' → RS K g' H' ρ σ' → RX K g' H' C d c dd → W c dd σ' H'
  | .stuck => False
def RdS (z : Sg) (τ : TS) (t : TSx) : Prop := ∀ g S ρ σ H T, SR z.K g S H → RS z.K g H ρ σ → PostS z.K z.W g H T (t ρ S) → τ T σ H
def DS (z : Sg) (st : Stmt) (t : TSx) : Prop := ∃ τ, (∀ X, Fits z X → PS X st τ) ∧ RdS z τ t
def DSs (z : Sg) (st : List Stmt) (t : TSx) : Prop := ∃ τ, (∀ X, Fits z X → PSs X st τ) ∧ RdS z τ t
/-- an expression within a statement -/
def Out.stm {α : Type} (o : Out α) (ρ : Env1) (k : α → List O → OutS) : OutS := match o with
  | .ok a S => k a S
  | .exc C d S => .exc C d ρ S
  | .stuck => .stuck
section
variable {K : PySem.W.Frag} {W : WX} {g : G} {H : Hp} {T : Ends}
theorem PostS.later {g1 : G} {H1 : Hp} {S1 : List O} (e : Ext g H g1 H1) (s : SR K g1 S1 H1) : ∀ {o : OutS}, PostS K W g H T o → PostS K W g1 H1 T o
  | .nx ρ S, h => fun g' H' σ' e' s' r => h g' H' σ' (e.tr s e') s' r
  | .rt d S, h => fun g' H' σ' e' s' r => h g' H' σ' (e.tr s e') s' r
  | .bk ρ S, h => fun g' H' σ' e' s' r => h g' H' σ' (e.tr s e') s' r
  | .ct ρ S, h => fun g' H' σ' e' s' r => h g' H' σ' (e.tr s e') s' r
  | .exc C d ρ S, h => fun g' H' σ' c dd e' s' r x => h g' H' σ' c dd (e.tr s e') s' r x
  | .stuck, h => h
theorem PostS.stm {α β : Type} {R : G → Hp → α → β → Prop} {Q1 : β → Hp → Prop} {o : Out α} {ρ : Env1} {σ : L2.St} {S : List O} {k : α → List O → OutS} (hp : PostS K W g H T (o.stm ρ k)) (s : SR K g S H) (rs : RS K g H ρ σ)
    (h : ∀ a S1 g1 H1 b, Ext g H g1 H1 → SR K g1 S1 H1 → RS K g1 H1 ρ σ → R g1 H1 a b → PostS K W g1 H1 T (k a S1) → Q1 b H1) : Post K W R g H σ Q1 o := by
  cases o with
  | ok a S => exact fun g1 H1 b e s1 r => h a S g1 H1 b e s1 (rs.mono s.live e) r (PostS.later e s1 hp)
  | exc C d S => exact fun g1 H1 c dd e s1 r => hp g1 H1 σ c dd e s1 (rs.mono s.live e) r
  | stuck => exact hp
theorem PostS.here {ρ : Env1} {σ : L2.St} {S : List O} (h : PostS K W g H T (.nx ρ S)) (s : SR K g S H) (rs : RS K g H ρ σ) : T.nx σ H := h g H σ (Ext.refl g H) s rs
end

def sNext : TSx := fun ρ S => .nx ρ S
def OutS.seq (o : OutS) (u : TSx) : OutS := match o with
  | .nx ρ S => u ρ S
  | o => o
def sSeq (t u : TSx) : TSx := fun ρ S => (t ρ S).seq u
def sSet (i : Nat) (t : TEx) : TSx := fun ρ S => (t ρ S).stm ρ fun d S1 => .nx (ρ.set i (some d)) S1
def sExpr (t : TEx) : TSx := fun ρ S => (t ρ S).stm ρ fun _ S1 => .nx ρ S1
def sRet (t : TEx) : TSx := fun ρ S => (t ρ S).stm ρ fun d S1 => .rt d S1
def sRetN : TSx := fun _ S => .rt .non S
def sIf (c : TTx) (t u : TSx) : TSx := fun ρ S => (c ρ S).stm ρ fun k S1 => if k = true then t ρ S1 else u ρ S1
def sNever : TSx := fun _ _ => .stuck
def sBreak : TSx := fun ρ S => .bk ρ S
def sCont : TSx := fun ρ S => .ct ρ S
section
variable {z : Sg} {st : Stmt} {rest : List Stmt} {t u : TSx} {e c : Expr} {te : TEx} {tc : TTx} {pos : Pos}
theorem PostS.seq {K : PySem.W.Frag} {W : WX} {g : G} {H : Hp} {T : Ends} {o : OutS} {N : L2.St → Hp → Prop} (h : PostS K W g H T (o.seq u)) (hn : ∀ ρ S g1 H1 σ, Ext g H g1 H1 → SR K g1 S H1 → RS K g1 H1 ρ σ → PostS K W g1 H1 T (u ρ S) → N σ H1) : PostS K W g H { T with nx := N } o := by
  cases o with
  | nx ρ S => exact fun g1 H1 σ e s r => hn ρ S g1 H1 σ e s r (PostS.later e s h)
  | rt d S => exact h
  | bk ρ S => exact h
  | ct ρ S => exact h
  | exc C d ρ S => exact h
  | stuck => exact h
theorem dss_nil : DSs z [] sNext := ⟨_, fun _ _ => pss_nil, fun g S ρ σ H T s rs p => p.here s rs⟩
theorem dss_cons (h1 : DS z st t) (h2 : DSs z rest u) : DSs z (st :: rest) (sSeq t u) := by
  obtain ⟨τ, h1, q1⟩ := h1
  obtain ⟨τ2, h2, q2⟩ := h2
  refine ⟨_, fun X f => pss_cons (h1 X f) (h2 X f), fun g S ρ σ H T s rs p => ?_⟩
  exact q1 g S ρ σ H _ s rs (p.seq fun ρ1 S1 g1 H1 σ1 e1 s1 r1 p1 => q2 g1 S1 ρ1 σ1 H1 T s1 r1 p1)
theorem dss_one (h1 : DS z st t) : DSs z [st] t := by
  obtain ⟨τ, h1, q1⟩ := h1
  exact ⟨τ, fun X f => pss_one (h1 X f), q1⟩
theorem ds_never : DS z st sNever := ⟨_, fun _ _ => ps_never, fun g S ρ σ H T s rs p => p.elim⟩
theorem dss_never {sts : List Stmt} : DSs z sts sNever := ⟨_, fun _ _ => pss_never, fun g S ρ σ H T s rs p => p.elim⟩
theorem ds_pass : DS z (.Pass pos) sNext := ⟨_, fun _ _ => ps_pass, fun g S ρ σ H T s rs p => p.here s rs⟩
theorem ds_break : DS z (.Break pos) sBreak := ⟨_, fun _ _ => ps_break, fun g S ρ σ H T s rs p => p g H σ (Ext.refl _ _) s rs⟩
theorem ds_continue : DS z (.Continue pos) sCont := ⟨_, fun _ _ => ps_continue, fun g S ρ σ H T s rs p => p g H σ (Ext.refl _ _) s rs⟩
theorem ds_doc {x j p1} : DS z (.Expr (.Constant (.str x) j p1) pos) sNext := ⟨_, fun _ _ => ps_doc, fun g S ρ σ H T s rs p => p.here s rs⟩
theorem ds_set {i : Nat} {x : Str} {pos' : Pos} (he : DE z e te) (hi : z.N[i]? = some x := by rfl) (hx : Sto z x := by first | exact Or.inl rfl | exact Or.inr ⟨rfl, rfl⟩) (hs : ∀ env, swapsWith e (some (.Name x pos')) pos.line env = pure false := by intro _; rfl) : DS z (.Assign [.Name x pos'] e pos) (sSet i te) := by
  obtain ⟨τ, h1, q1⟩ := he
  refine ⟨_, fun X f => ps_set f.ndX (f.at hi) (f.loc hx.loc) (h1 X f) (hs _) (f.st hx), fun g S ρ σ H T s rs p => ?_⟩
  refine q1 g S ρ σ H _ s rs (p.stm s rs fun d S1 g1 H1 v e1 s1 rs1 r1 p1 => ?_)
  exact p1.here s1 (RS.set r1 i rs1)
theorem ds_expr (he : DE z e te) (hs : ∀ env, swapsWith e none pos.line env = pure false := by intro _; rfl) : DS z (.Expr e pos) (sExpr te) := by
  obtain ⟨τ, h1, q1⟩ := he
  refine ⟨_, fun X f => ps_expr (h1 X f) (hs _), fun g S ρ σ H T s rs p => ?_⟩
  exact q1 g S ρ σ H _ s rs (p.stm s rs fun d S1 g1 H1 v e1 s1 rs1 r1 p1 => p1.here s1 rs1)
theorem ds_ret (he : DE z e te) : DS z (.Return (some e) pos) (sRet te) := by
  obtain ⟨τ, h1, q1⟩ := he
  refine ⟨_, fun X f => ps_ret (h1 X f), fun g S ρ σ H T s rs p => ?_⟩
  exact q1 g S ρ σ H _ s rs (p.stm s rs fun d S1 g1 H1 v e1 s1 rs1 r1 p1 => p1 g1 H1 v (Ext.refl _ _) s1 r1)
theorem ds_retN : DS z (.Return none pos) sRetN := ⟨_, fun _ _ => ps_retN, fun g S ρ σ H T s rs p => p g H .non (Ext.refl _ _) s (by simp only [RV])⟩
theorem ds_if {a b : List Stmt} (hc : DT z c tc) (ha : DSs z a t) (hb : DSs z b u) : DS z (.If c a b pos) (sIf tc t u) := by
  obtain ⟨τ, h1, q1⟩ := hc
  obtain ⟨τ2, h2, q2⟩ := ha
  obtain ⟨τ3, h3, q3⟩ := hb
  refine ⟨_, fun X f => ps_if (h1 X f) (h2 X f) (h3 X f), fun g S ρ σ H T s rs p => ?_⟩
  refine q1 g S ρ σ H _ s rs (p.stm s rs fun k S1 g1 H1 k' e1 s1 rs1 r1 p1 => ?_)
  have r1 : k = k' := r1
  subst r1
  show if k = true then τ2 T σ H1 else τ3 T σ H1
  split
  · rename_i hk
    rw [if_pos hk] at p1
    exact q2 g1 S1 ρ σ H1 T s1 rs1 p1
  · rename_i hk
    rw [if_neg hk] at p1
    exact q3 g1 S1 ρ σ H1 T s1 rs1 p1
/-- a, b = x, y with plain local names -/
def sPar (i j : Nat) (t : TAx) : TSx := fun ρ S => (t ρ S).stm ρ fun ds S1 => match ds with
  | [x, y] => .nx ((ρ.set i (some x)).set j (some y)) S1
  | _ => .stuck
theorem ds_par {i j : Nat} {x y : Str} {a b : Expr} {ta : TAx} {px py pt : Pos} {kt k2 pt2} (ha : DA z [a, b] ta) (hij : i ≠ j := by decide) (hi : z.N[i]? = some x := by rfl) (hj : z.N[j]? = some y := by rfl)
    (hx : z.scope.names.lookup x = some .local := by rfl) (hy : z.scope.names.lookup y = some .local := by rfl)
    (hw : ∀ env, env.scope = z.scope → swappedStores [.Tuple [.Name x px, .Name y py] kt pt] (.Tuple [a, b] k2 pt2) env = pure (some [x, y]) := by intro env h; cases env; cases h; rfl)
    (hs : ∀ env, swapsWithSole [.Tuple [.Name x px, .Name y py] kt pt] (.Tuple [a, b] k2 pt2) pos.line env = pure false := by intro _; rfl) :
    DS z (.Assign [.Tuple [.Name x px, .Name y py] kt pt] (.Tuple [a, b] k2 pt2) pos) (sPar i j ta) := by
  obtain ⟨τ, h1, q1⟩ := ha
  refine ⟨_, fun X f => ps_par f.calm f.ndX (f.at hi) (f.at hj) hij (by rw [f.scope]; exact hx) (by rw [f.scope]; exact hy) (h1 X f) (hw _ f.scope) (hs _), fun g S ρ σ H T s rs p => ?_⟩
  refine q1 g S ρ σ H _ s rs (p.stm s rs fun ds S1 g1 H1 vs e1 s1 rs1 r1 p1 => ?_)
  split at p1
  · simp only [RVs] at r1
    obtain ⟨v, r, rfl, rv, w, r', rfl, rw', rfl⟩ := r1
    exact ⟨v, w, rfl, p1.here s1 (RS.set rw' j (RS.set rv i rs1))⟩
  · exact p1.elim
def sPar3 (i j l : Nat) (t : TAx) : TSx := fun ρ S => (t ρ S).stm ρ fun ds S1 => match ds with
  | [x, y, w] => .nx (((ρ.set i (some x)).set j (some y)).set l (some w)) S1
  | _ => .stuck
theorem ds_par3 {i j l : Nat} {x y w : Str} {a b c : Expr} {ta : TAx} {px py pz pt : Pos} {kt k2 pt2} (ha : DA z [a, b, c] ta) (hij : i ≠ j := by decide) (hil : i ≠ l := by decide) (hjl : j ≠ l := by decide)
    (hi : z.N[i]? = some x := by rfl) (hj : z.N[j]? = some y := by rfl) (hl : z.N[l]? = some w := by rfl)
    (hx : z.scope.names.lookup x = some .local := by rfl) (hy : z.scope.names.lookup y = some .local := by rfl) (hz : z.scope.names.lookup w = some .local := by rfl)
    (hw : ∀ env, env.scope = z.scope → swappedStores [.Tuple [.Name x px, .Name y py, .Name w pz] kt pt] (.Tuple [a, b, c] k2 pt2) env = pure (some [x, y, w]) := by intro env h; cases env; cases h; rfl)
    (hs : ∀ env, swapsWithSole [.Tuple [.Name x px, .Name y py, .Name w pz] kt pt] (.Tuple [a, b, c] k2 pt2) pos.line env = pure false := by intro _; rfl) :
    DS z (.Assign [.Tuple [.Name x px, .Name y py, .Name w pz] kt pt] (.Tuple [a, b, c] k2 pt2) pos) (sPar3 i j l ta) := by
  obtain ⟨τ, h1, q1⟩ := ha
  refine ⟨_, fun X f => ps_par3 f.calm f.ndX (f.at hi) (f.at hj) (f.at hl) hij hil hjl (by rw [f.scope]; exact hx) (by rw [f.scope]; exact hy) (by rw [f.scope]; exact hz) (h1 X f) (hw _ f.scope) (hs _), fun g S ρ σ H T s rs p => ?_⟩
  refine q1 g S ρ σ H _ s rs (p.stm s rs fun ds S1 g1 H1 vs e1 s1 rs1 r1 p1 => ?_)
  split at p1
  · simp only [RVs] at r1
    obtain ⟨v, r, rfl, rv, w, r', rfl, rw', w2, r'', rfl, rw2, rfl⟩ := r1
    exact ⟨v, w, w2, rfl, p1.here s1 (RS.set rw2 l (RS.set rw' j (RS.set rv i rs1)))⟩
  · exact p1.elim
end

/-! ### targets -/
abbrev TGx := D → Env1 → List O → OutS
/-- only the slots ws are written -/
def Off (ws : List Nat) (σ σ' : L2.St) : Prop := σ'.length = σ.length ∧ ∀ j, j ∉ ws → σ'[j]? = σ[j]?
theorem Off.refl (ws : List Nat) (σ : L2.St) : Off ws σ σ := ⟨rfl, fun _ _ => rfl⟩
theorem Off.trans {ws us : List Nat} {σ σ1 σ2 : L2.St} (a : Off ws σ σ1) (b : Off us σ1 σ2) : Off (ws ++ us) σ σ2 :=
  ⟨b.1.trans a.1, fun j hj => (b.2 j fun h => hj (List.mem_append_right _ h)).trans (a.2 j fun h => hj (List.mem_append_left _ h))⟩
def PostG (K : PySem.W.Frag) (W : WX) (g : G) (H : Hp) (σ : L2.St) (ws : List Nat) (N : L2.St → Hp → Prop) : OutS → Prop
  | .nx ρ S => ∀ g' H' σ', Ext g H g' H' → SR K g' S H' → RS K g' H' ρ σ' → Off ws σ σ' → N σ' H'
  | .exc C d ρ S => ∀ g' H' σ' c dd, Ext g H g' H' → SR K g' S H' → RS K g' H' ρ σ' → RX K g' H' C d c dd → W c dd σ' H'
  | _ => False
def DG (z : Sg) (tg : Expr) (ws : List Nat) (t : TGx) : Prop :=
  ∃ τ, (∀ X, Fits z X → PG X tg τ) ∧ ∀ g S ρ σ H d v N, SR z.K g S H → RS z.K g H ρ σ → RV z.K g H d v → PostG z.K z.W g H σ ws N (t d ρ S) → τ v σ H N
abbrev TGsx := List D → Env1 → List O → OutS
def DGs (z : Sg) (tgs : List Expr) (ws : List Nat) (t : TGsx) : Prop :=
  ∃ τ, (∀ X, Fits z X → PGs X tgs τ) ∧ ∀ g S ρ σ H ds vs N, SR z.K g S H → RS z.K g H ρ σ → RVs z.K g H ds vs → PostG z.K z.W g H σ ws N (t ds ρ S) → τ vs σ H N
/-- what a target may end in -/
def OutS.only (o : OutS) : OutS := match o with
  | .nx ρ S => .nx ρ S
  | .exc C d ρ S => .exc C d ρ S
  | _ => .stuck
theorem PostG.later {K : PySem.W.Frag} {W : WX} {g g1 : G} {H H1 : Hp} {S1 : List O} {σ σ1 : L2.St} {ws us : List Nat} {N : L2.St → Hp → Prop} (e : Ext g H g1 H1) (s : SR K g1 S1 H1) (hoff : Off us σ σ1) (hw : ∀ j ∈ us, j ∈ ws) : ∀ {o : OutS}, PostG K W g H σ ws N o → PostG K W g1 H1 σ1 ws N o
  | .nx ρ S, h => fun g' H' σ' e' s' r o' => h g' H' σ' (e.tr s e') s' r ⟨o'.1.trans hoff.1, fun j hj => (o'.2 j hj).trans (hoff.2 j fun z => hj (hw j z))⟩
  | .exc C d ρ S, h => fun g' H' σ' c dd e' s' r x => h g' H' σ' c dd (e.tr s e') s' r x
  | .rt _ _, h => h
  | .bk _ _, h => h
  | .ct _ _, h => h
  | .stuck, h => h
theorem PostS.only {K : PySem.W.Frag} {W : WX} {g : G} {H : Hp} {T : Ends} {σ : L2.St} {ws : List Nat} {o : OutS} {u : TSx} {N : L2.St → Hp → Prop} (h : PostS K W g H T (o.only.seq u))
    (hn : ∀ ρ S g1 H1 σ1, Ext g H g1 H1 → SR K g1 S H1 → RS K g1 H1 ρ σ1 → Off ws σ σ1 → PostS K W g1 H1 T (u ρ S) → N σ1 H1) : PostG K W g H σ ws N o := by
  cases o with
  | nx ρ S => exact fun g1 H1 σ1 e s r off => hn ρ S g1 H1 σ1 e s r off (PostS.later e s h)
  | exc C d ρ S => exact h
  | _ => exact h
def gNm (i : Nat) : TGx := fun d ρ S => .nx (ρ.set i (some d)) S
section
variable {z : Sg} {pos : Pos}
theorem dg_name {i : Nat} {x : Str} (hi : z.N[i]? = some x := by rfl) (hx : Sto z x := by first | exact Or.inl rfl | exact Or.inr ⟨rfl, rfl⟩) : DG z (.Name x pos) [i] (gNm i) :=
  ⟨_, fun X f => pg_name f.ndX (f.at hi) (f.loc hx.loc) (f.st hx), fun g S ρ σ H d v N s rs r p => p g H _ (Ext.refl _ _) s (RS.set r i rs) ⟨by simp, fun j hj => by
    have hj : j ≠ i := by simpa using hj
    rw [List.getElem?_set_ne (Ne.symm hj)]⟩⟩
def gsNil : TGsx := fun ds ρ S => match ds with
  | [] => .nx ρ S
  | _ => .stuck
def gsCons (t : TGx) (u : TGsx) : TGsx := fun ds ρ S => match ds with
  | d :: r => (t d ρ S).only.seq (u r)
  | [] => .stuck
theorem dgs_nil : DGs z [] [] gsNil := by
  refine ⟨_, fun _ _ => pgs_nil, fun g S ρ σ H ds vs N s rs r p => ?_⟩
  unfold gsNil at p
  split at p
  · simp only [RVs] at r
    exact ⟨r, p g H σ (Ext.refl _ _) s rs (Off.refl _ _)⟩
  · exact p.elim
theorem PostG.seq {K : PySem.W.Frag} {W : WX} {g : G} {H : Hp} {σ : L2.St} {ws us : List Nat} {o : OutS} {u : TSx} {N N1 : L2.St → Hp → Prop} (h : PostG K W g H σ (ws ++ us) N (o.only.seq u))
    (hn : ∀ ρ S g1 H1 σ1, Ext g H g1 H1 → SR K g1 S H1 → RS K g1 H1 ρ σ1 → PostG K W g1 H1 σ1 us N (u ρ S) → N1 σ1 H1) : PostG K W g H σ ws N1 o := by
  cases o with
  | nx ρ S =>
    refine fun g1 H1 σ1 e s r off => hn ρ S g1 H1 σ1 e s r ?_
    have h : PostG K W g H σ (ws ++ us) N (u ρ S) := h
    cases hu : u ρ S with
    | nx ρ2 S2 =>
      rw [hu] at h
      exact fun g' H' σ' e' s' r' o' => h g' H' σ' (e.tr s e') s' r' (off.trans o')
    | exc C d ρ2 S2 =>
      rw [hu] at h
      exact fun g' H' σ' c dd e' s' r' x => h g' H' σ' c dd (e.tr s e') s' r' x
    | _ =>
      rw [hu] at h
      exact h
  | exc C d ρ S => exact h
  | _ => exact h
theorem dgs_cons {e : Expr} {es : List Expr} {ws us : List Nat} {t : TGx} {u : TGsx} (h1 : DG z e ws t) (h2 : DGs z es us u) (hs : ∀ env, (assignEach (e :: es) env).map (·.2) = assign e env :: (assignEach es env).map (·.2) := by intro _; rfl) : DGs z (e :: es) (ws ++ us) (gsCons t u) := by
  obtain ⟨τ, h1, q1⟩ := h1
  obtain ⟨τ2, h2, q2⟩ := h2
  refine ⟨_, fun X f => pgs_cons (h1 X f) (h2 X f) (hs _), fun g S ρ σ H ds vs N s rs r p => ?_⟩
  unfold gsCons at p
  split at p
  · rename_i d ds'
    simp only [RVs] at r
    obtain ⟨v, vr, rfl, r1, r2⟩ := r
    exact ⟨v, vr, rfl, q1 g S ρ σ H d v _ s rs r1 (p.seq fun ρ1 S1 g1 H1 σ1 e1 s1 rs1 p1 => q2 g1 S1 ρ1 σ1 H1 ds' vr N s1 rs1 (r2.mono s.live e1) p1)⟩
  · exact p.elim
def gTp (n : Nat) (t : TGsx) : TGx := fun d ρ S => match tupOf d with
  | some ds => if ds.length = n then t ds ρ S else .stuck
  | none => .stuck
theorem dg_tup {es : List Expr} {k n : Nat} {ws : List Nat} {t : TGsx} (h : DGs z es ws t) (hn : ∀ env, (assignEach es env).length = n := by intro _; rfl) (hst : ∀ env, (assignEach es env).findIdx? (·.1) = none := by intro _; rfl) : DG z (.Tuple es k pos) ws (gTp n t) := by
  obtain ⟨τ, h1, q1⟩ := h
  refine ⟨_, fun X f => f.K ▸ pg_tup f.calm (h1 X f) (hn _) (hst _), fun g S ρ σ H d v N s rs r p => ?_⟩
  unfold gTp at p
  split at p
  · rename_i ds e
    split at p
    · rename_i hl
      obtain ⟨a, xs, rfl, hq, hr⟩ := tup_at e r
      exact ⟨a, xs, rfl, hq, by rw [hr.length]; exact hl, q1 g S ρ σ H ds xs N s rs hr p⟩
    · exact p.elim
  · exact p.elim
/-- target = value, the value any -/
def sAsg (t : TEx) (u : TGx) : TSx := fun ρ S => (t ρ S).stm ρ fun d S1 => (u d ρ S1).only
theorem ds_asg {tg e : Expr} {te : TEx} {u : TGx} {ws : List Nat} (he : DE z e te) (hg : DG z tg ws u) (hs : ∀ env, swapsWithSole [tg] e pos.line env = pure false := by intro _; rfl) (hw : ∀ env, env.scope = z.scope → swappedStores [tg] e env = pure none := by intro env h; first | rfl | (cases env; cases h; rfl))
    (h1 : ∀ env, (assignEach [tg] env).map (·.2) = [assign tg env] := by intro _; rfl) : DS z (.Assign [tg] e pos) (sAsg te u) := by
  obtain ⟨τ, h1', q1⟩ := he
  obtain ⟨τ2, h2, q2⟩ := hg
  refine ⟨_, fun X f => ps_asg (h1' X f) (h2 X f) (hs _) (hw _ f.scope) (h1 _), fun g S ρ σ H T s rs p => ?_⟩
  refine q1 g S ρ σ H _ s rs (p.stm s rs fun d S1 g1 H1 v e1 s1 rs1 r1 p1 => ?_)
  refine q2 g1 S1 ρ σ H1 d v T.nx s1 rs1 r1 ?_
  cases hu : u d ρ S1 with
  | nx ρ2 S2 =>
    rw [hu] at p1
    exact fun g' H' σ' e' s' r' _ => p1 g' H' σ' e' s' r'
  | exc C d ρ2 S2 =>
    rw [hu] at p1
    exact p1
  | _ =>
    rw [hu] at p1
    exact p1
end

/-! ### the end of a block of work: new handles become plain trees -/
mutual
def D.sub (f : Nat → D) : D → D
  | .hnd i => f i
  | .tup ds => .tup (D.subs f ds)
  | .lst ds => .lst (D.subs f ds)
  | .dct kvs => .dct (D.subk f kvs)
  | .ins C fs => .ins C (D.subf f fs)
  | .exc C d => .exc C (D.sub f d)
  | d => d
def D.subs (f : Nat → D) : List D → List D
  | [] => []
  | d :: ds => D.sub f d :: D.subs f ds
def D.subk (f : Nat → D) : List (Key × D) → List (Key × D)
  | [] => []
  | (k, d) :: ds => (k, D.sub f d) :: D.subk f ds
def D.subf (f : Nat → D) : List (Str × D) → List (Str × D)
  | [] => []
  | (k, d) :: ds => (k, D.sub f d) :: D.subf f ds
end
/-- what the handle i is read as when all from n on are dropped -/
def hfz (n : Nat) (S : List O) : Nat → Nat → D
  | 0, i => if i < n then .hnd i else .any
  | k + 1, i => if i < n then .hnd i else match S[i]? with
    | some (.lst ds) => .lst (D.subs (hfz n S k) ds)
    | some (.dct kvs) => .dct (D.subk (hfz n S k) kvs)
    | some (.ins C fs) => .ins C (D.subf (hfz n S k) fs)
    | _ => .any
def ofz (f : Nat → D) : O → O
  | .lst ds => .lst (D.subs f ds)
  | .dct kvs => .dct (D.subk f kvs)
  | .ins C fs => .ins C (D.subf f fs)
  | .tbl q => .tbl q
/-- depth of what may stand in one another -/
abbrev fzd : Nat := 6
def dfz (n : Nat) (S : List O) (d : D) : D := if S.length ≤ n then d else D.sub (hfz n S fzd) d
def sfz (n : Nat) (S : List O) : List O := if S.length ≤ n then S else (S.take n).map (ofz (hfz n S fzd))
def rfz (n : Nat) (S : List O) (ρ : Env1) : Env1 := if S.length ≤ n then ρ else ρ.map fun o => o.map (D.sub (hfz n S fzd))
section
variable {K : PySem.W.Frag} {g g0 : G} {S : List O} {H H0 : Hp} {n : Nat}
/-- the handles from n on are forgotten -/
def G.cut (g0 : G) : G := g0
mutual
theorem RV.sub {f : Nat → D} (hb : ∀ b, g0.bad b → g.bad b) (hf : ∀ i a, g.hs[i]? = some a → RV K g0 H (f i) (.ref a)) : ∀ (d : D) (v : V), RV K g H d v → RV K g0 H (D.sub f d) v
  | .non, _, h => by simp only [D.sub, RV] at h ⊢; exact h
  | .bl _, _, h => by simp only [D.sub, RV] at h ⊢; exact h
  | .int _, _, h => by simp only [D.sub, RV] at h ⊢; exact h
  | .str _, _, h => by simp only [D.sub, RV] at h ⊢; exact h
  | .ty _, _, h => by simp only [D.sub, RV] at h ⊢; exact h
  | .tup ds, _, h => by
    simp only [D.sub, RV] at h ⊢
    obtain ⟨a, xs, e1, e2, e3⟩ := h
    refine ⟨a, xs, e1, ?_, RVs.sub hb hf ds xs e3⟩
    rcases e2 with ⟨q, nb⟩ | q
    · exact .inl ⟨q, fun z => nb (hb _ z)⟩
    · exact .inr q
  | .lst ds, _, h => by
    simp only [D.sub, RV] at h ⊢
    obtain ⟨a, xs, e1, e2, n, e3⟩ := h
    exact ⟨a, xs, e1, e2, fun z => n (hb _ z), RVs.sub hb hf ds xs e3⟩
  | .scr ns, _, h => by
    simp only [D.sub, RV] at h ⊢
    obtain ⟨a, e1, e2⟩ := h
    refine ⟨a, e1, ?_⟩
    rcases e2 with ⟨q, nb⟩ | q
    · exact .inl ⟨q, fun z => nb (hb _ z)⟩
    · exact .inr q
  | .dct kvs, _, h => by
    simp only [D.sub, RV] at h ⊢
    obtain ⟨a, xs, e1, e2, n, e3⟩ := h
    exact ⟨a, xs, e1, e2, fun z => n (hb _ z), RKs.sub hb hf kvs xs e3⟩
  | .ins C fs, _, h => by
    simp only [D.sub, RV] at h ⊢
    obtain ⟨a, dx, xs, e1, e2, n, e3⟩ := h
    exact ⟨a, dx, xs, e1, e2, fun z => n (hb _ z), RFs.sub hb hf fs xs e3⟩
  | .cls _, _, h => by simp only [D.sub, RV] at h ⊢; exact h
  | .exc C d, _, h => by
    simp only [D.sub, RV] at h ⊢
    obtain ⟨a, dd, w, e1, e2, n, e3, n3, r⟩ := h
    exact ⟨a, dd, w, e1, e2, fun z => n (hb _ z), e3, fun z => n3 (hb _ z), RV.sub hb hf d w r⟩
  | .hnd i, _, h => by
    simp only [RV] at h
    obtain ⟨a, rfl, e2⟩ := h
    simp only [D.sub]
    exact hf i a e2
  | .any, _, _ => by simp only [D.sub, RV]
theorem RVs.sub {f : Nat → D} (hb : ∀ b, g0.bad b → g.bad b) (hf : ∀ i a, g.hs[i]? = some a → RV K g0 H (f i) (.ref a)) : ∀ (ds : List D) (xs : List V), RVs K g H ds xs → RVs K g0 H (D.subs f ds) xs
  | [], _, h => by simp only [D.subs, RVs] at h ⊢; exact h
  | d :: ds, _, h => by
    simp only [D.subs, RVs] at h ⊢
    obtain ⟨v, r, e1, e2, e3⟩ := h
    exact ⟨v, r, e1, RV.sub hb hf d v e2, RVs.sub hb hf ds r e3⟩
theorem RKs.sub {f : Nat → D} (hb : ∀ b, g0.bad b → g.bad b) (hf : ∀ i a, g.hs[i]? = some a → RV K g0 H (f i) (.ref a)) : ∀ (ds : List (Key × D)) (xs : List (Key × V)), RKs K g H ds xs → RKs K g0 H (D.subk f ds) xs
  | [], _, h => by simp only [D.subk, RKs] at h ⊢; exact h
  | (k, d) :: ds, _, h => by
    simp only [D.subk, RKs] at h ⊢
    obtain ⟨v, r, e1, e2, e3⟩ := h
    exact ⟨v, r, e1, RV.sub hb hf d v e2, RKs.sub hb hf ds r e3⟩
theorem RFs.sub {f : Nat → D} (hb : ∀ b, g0.bad b → g.bad b) (hf : ∀ i a, g.hs[i]? = some a → RV K g0 H (f i) (.ref a)) : ∀ (ds : List (Str × D)) (xs : List (Str × V)), RFs K g H ds xs → RFs K g0 H (D.subf f ds) xs
  | [], _, h => by simp only [D.subf, RFs] at h ⊢; exact h
  | (k, d) :: ds, _, h => by
    simp only [D.subf, RFs] at h ⊢
    obtain ⟨v, r, e1, e2, e3⟩ := h
    exact ⟨v, r, e1, RV.sub hb hf d v e2, RFs.sub hb hf ds r e3⟩
end
theorem RS.sub {f : Nat → D} (hb : ∀ b, g0.bad b → g.bad b) (hf : ∀ i a, g.hs[i]? = some a → RV K g0 H (f i) (.ref a)) : ∀ (ρ : Env1) (σ : L2.St), RS K g H ρ σ → RS K g0 H (ρ.map fun o => o.map (D.sub f)) σ
  | [], _, h => by simp only [List.map_nil, RS] at h ⊢; exact h
  | none :: r, _, h => by
    simp only [List.map_cons, Option.map_none, RS] at h ⊢
    obtain ⟨o, z, e1, e2⟩ := h
    exact ⟨o, z, e1, RS.sub hb hf r z e2⟩
  | some d :: r, _, h => by
    simp only [List.map_cons, Option.map_some, RS] at h ⊢
    obtain ⟨v, z, e1, e2, e3⟩ := h
    exact ⟨v, z, e1, RV.sub hb hf d v e2, RS.sub hb hf r z e3⟩
theorem RO.sub {f : Nat → D} (hb : ∀ b, g0.bad b → g.bad b) (hf : ∀ i a, g.hs[i]? = some a → RV K g0 H (f i) (.ref a)) {a : Addr} : ∀ {o : O}, RO K g H o a → RO K g0 H (ofz f o) a
  | .lst ds, ⟨xs, e1, e2⟩ => ⟨xs, e1, e2.sub hb hf ds xs⟩
  | .dct kvs, ⟨xs, e1, e2⟩ => ⟨xs, e1, e2.sub hb hf kvs xs⟩
  | .ins C fs, ⟨dx, xs, e1, e2⟩ => ⟨dx, xs, e1, e2.sub hb hf fs xs⟩
  | .tbl q, ⟨⟨ps, e1, e2, e3⟩, ea⟩ => ⟨⟨ps, e1, e2, fun pos cv h => let ⟨c, h1, h2, h3⟩ := e3 pos cv h; ⟨c, h1, h2, fun z => h3 (hb c z)⟩⟩, ea⟩
/-- from the state at the start to the state with the new handles dropped -/
structure Cut (K : PySem.W.Frag) (g0 : G) (H0 : Hp) (S0 : List O) (g : G) (H : Hp) (S : List O) : Prop where
  e : Ext g0 H0 g H
  s0 : SR K g0 S0 H0
  s : SR K g S H
theorem Cut.hf (c : Cut K g0 H0 S g H S') : ∀ k i a, g.hs[i]? = some a → RV K g0 H (hfz S.length S' k i) (.ref a) := by
  obtain ⟨l, el, fl⟩ := c.e.pre
  have low : ∀ i a, i < S.length → g.hs[i]? = some a → RV K g0 H (.hnd i) (.ref a) := fun i a hi h => by
    simp only [RV]
    refine ⟨a, rfl, ?_⟩
    rw [el, List.getElem?_append_left (by rw [c.s0.len]; exact hi)] at h
    exact h
  have nb : ∀ i a, ¬ i < S.length → g.hs[i]? = some a → ¬ g0.bad a := fun i a hi h z => by
    have m : a ∈ l := by
      rw [el, List.getElem?_append_right (by rw [c.s0.len]; omega)] at h
      exact List.mem_of_getElem? h
    obtain ⟨o, q⟩ := c.s0.trk a z
    rw [fl a m] at q
    cases q
  intro k
  induction k with
  | zero =>
    intro i a h
    unfold hfz
    split
    · exact low i a (by assumption) h
    · simp only [RV]
  | succ k ih =>
    intro i a h
    unfold hfz
    split
    · exact low i a (by assumption) h
    · rename_i hi
      split
      · rename_i ds q
        obtain ⟨xs, h1, h2⟩ := c.s.rep i a _ h q
        simp only [RV]
        exact ⟨a, xs, rfl, h1, nb i a hi h, RVs.sub c.e.sub ih ds xs h2⟩
      · rename_i kvs q
        obtain ⟨xs, h1, h2⟩ := c.s.rep i a _ h q
        simp only [RV]
        exact ⟨a, xs, rfl, .inl h1, nb i a hi h, RKs.sub c.e.sub ih kvs xs h2⟩
      · rename_i C fs q
        obtain ⟨dx, xs, h1, h2⟩ := c.s.rep i a _ h q
        simp only [RV]
        exact ⟨a, dx, xs, rfl, h1, nb i a hi h, RFs.sub c.e.sub ih fs xs h2⟩
      · simp only [RV]
variable {S' : List O}
theorem Cut.le (c : Cut K g0 H0 S g H S') : S.length ≤ S'.length := by
  obtain ⟨l, el, _⟩ := c.e.pre
  rw [← c.s0.len, ← c.s.len, el, List.length_append]
  omega
/-- with no new handle the two are one -/
theorem Cut.hs_eq (c : Cut K g0 H0 S g H S') (h : S'.length ≤ S.length) : g.hs = g0.hs := by
  obtain ⟨l, el, _⟩ := c.e.pre
  have q : l.length = 0 := by
    have h1 := c.s0.len
    have h2 := c.s.len
    rw [el, List.length_append] at h2
    omega
  rw [el, List.length_eq_zero_iff.mp q, List.append_nil]
mutual
theorem RV.anti (hb : ∀ b, g0.bad b → g.bad b) (hh : ∀ (i : Nat) (a : Addr), g.hs[i]? = some a → g0.hs[i]? = some a) : ∀ (d : D) (v : V), RV K g H d v → RV K g0 H d v
  | .non, _, h => by simp only [RV] at h ⊢; exact h
  | .bl _, _, h => by simp only [RV] at h ⊢; exact h
  | .int _, _, h => by simp only [RV] at h ⊢; exact h
  | .str _, _, h => by simp only [RV] at h ⊢; exact h
  | .ty _, _, h => by simp only [RV] at h ⊢; exact h
  | .tup ds, _, h => by
    simp only [RV] at h ⊢
    obtain ⟨a, xs, e1, e2, e3⟩ := h
    refine ⟨a, xs, e1, ?_, RVs.anti hb hh ds xs e3⟩
    rcases e2 with ⟨q, nb⟩ | q
    · exact .inl ⟨q, fun z => nb (hb _ z)⟩
    · exact .inr q
  | .lst ds, _, h => by
    simp only [RV] at h ⊢
    obtain ⟨a, xs, e1, e2, n, e3⟩ := h
    exact ⟨a, xs, e1, e2, fun z => n (hb _ z), RVs.anti hb hh ds xs e3⟩
  | .scr ns, _, h => by
    simp only [RV] at h ⊢
    obtain ⟨a, e1, e2⟩ := h
    refine ⟨a, e1, ?_⟩
    rcases e2 with ⟨q, nb⟩ | q
    · exact .inl ⟨q, fun z => nb (hb _ z)⟩
    · exact .inr q
  | .dct kvs, _, h => by
    simp only [RV] at h ⊢
    obtain ⟨a, xs, e1, e2, n, e3⟩ := h
    exact ⟨a, xs, e1, e2, fun z => n (hb _ z), RKs.anti hb hh kvs xs e3⟩
  | .ins C fs, _, h => by
    simp only [RV] at h ⊢
    obtain ⟨a, dx, xs, e1, e2, n, e3⟩ := h
    exact ⟨a, dx, xs, e1, e2, fun z => n (hb _ z), RFs.anti hb hh fs xs e3⟩
  | .cls _, _, h => by simp only [RV] at h ⊢; exact h
  | .exc C d, _, h => by
    simp only [RV] at h ⊢
    obtain ⟨a, dd, w, e1, e2, n, e3, n3, r⟩ := h
    exact ⟨a, dd, w, e1, e2, fun z => n (hb _ z), e3, fun z => n3 (hb _ z), RV.anti hb hh d w r⟩
  | .hnd i, _, h => by
    simp only [RV] at h ⊢
    obtain ⟨a, e1, e2⟩ := h
    exact ⟨a, e1, hh i a e2⟩
  | .any, _, _ => by simp only [RV]
theorem RVs.anti (hb : ∀ b, g0.bad b → g.bad b) (hh : ∀ (i : Nat) (a : Addr), g.hs[i]? = some a → g0.hs[i]? = some a) : ∀ (ds : List D) (xs : List V), RVs K g H ds xs → RVs K g0 H ds xs
  | [], _, h => by simp only [RVs] at h ⊢; exact h
  | d :: ds, _, h => by
    simp only [RVs] at h ⊢
    obtain ⟨v, r, e1, e2, e3⟩ := h
    exact ⟨v, r, e1, RV.anti hb hh d v e2, RVs.anti hb hh ds r e3⟩
theorem RKs.anti (hb : ∀ b, g0.bad b → g.bad b) (hh : ∀ (i : Nat) (a : Addr), g.hs[i]? = some a → g0.hs[i]? = some a) : ∀ (ds : List (Key × D)) (xs : List (Key × V)), RKs K g H ds xs → RKs K g0 H ds xs
  | [], _, h => by simp only [RKs] at h ⊢; exact h
  | (k, d) :: ds, _, h => by
    simp only [RKs] at h ⊢
    obtain ⟨v, r, e1, e2, e3⟩ := h
    exact ⟨v, r, e1, RV.anti hb hh d v e2, RKs.anti hb hh ds r e3⟩
theorem RFs.anti (hb : ∀ b, g0.bad b → g.bad b) (hh : ∀ (i : Nat) (a : Addr), g.hs[i]? = some a → g0.hs[i]? = some a) : ∀ (ds : List (Str × D)) (xs : List (Str × V)), RFs K g H ds xs → RFs K g0 H ds xs
  | [], _, h => by simp only [RFs] at h ⊢; exact h
  | (k, d) :: ds, _, h => by
    simp only [RFs] at h ⊢
    obtain ⟨v, r, e1, e2, e3⟩ := h
    exact ⟨v, r, e1, RV.anti hb hh d v e2, RFs.anti hb hh ds r e3⟩
end
theorem RS.anti (hb : ∀ b, g0.bad b → g.bad b) (hh : ∀ (i : Nat) (a : Addr), g.hs[i]? = some a → g0.hs[i]? = some a) : ∀ (ρ : Env1) (σ : L2.St), RS K g H ρ σ → RS K g0 H ρ σ
  | [], _, h => by simp only [RS] at h ⊢; exact h
  | none :: r, _, h => by
    simp only [RS] at h ⊢
    obtain ⟨o, z, e1, e2⟩ := h
    exact ⟨o, z, e1, RS.anti hb hh r z e2⟩
  | some d :: r, _, h => by
    simp only [RS] at h ⊢
    obtain ⟨v, z, e1, e2, e3⟩ := h
    exact ⟨v, z, e1, RV.anti hb hh d v e2, RS.anti hb hh r z e3⟩
theorem RO.anti (hb : ∀ b, g0.bad b → g.bad b) (hh : ∀ (i : Nat) (a : Addr), g.hs[i]? = some a → g0.hs[i]? = some a) {a : Addr} : ∀ {o : O}, RO K g H o a → RO K g0 H o a
  | .lst ds, ⟨xs, e1, e2⟩ => ⟨xs, e1, e2.anti hb hh ds xs⟩
  | .dct kvs, ⟨xs, e1, e2⟩ => ⟨xs, e1, e2.anti hb hh kvs xs⟩
  | .ins C fs, ⟨dx, xs, e1, e2⟩ => ⟨dx, xs, e1, e2.anti hb hh fs xs⟩
  | .tbl q, ⟨⟨ps, e1, e2, e3⟩, ea⟩ => ⟨⟨ps, e1, e2, fun pos cv h => let ⟨c, h1, h2, h3⟩ := e3 pos cv h; ⟨c, h1, h2, fun z => h3 (hb c z)⟩⟩, ea⟩
theorem Cut.ext (c : Cut K g0 H0 S g H S') : Ext g0 H0 g0 H := ⟨c.e.kp0, c.e.kb, fun _ _ _ n => n, fun _ h => h, [], by simp, fun _ h => by cases h⟩
theorem Cut.sr (c : Cut K g0 H0 S g H S') : SR K g0 (sfz S.length S') H := by
  obtain ⟨l, el, fl⟩ := id c.e.pre
  have trk : ∀ a, g0.bad a → ∃ o, H a = some o := fun a h => c.s.trk a (c.e.sub a h)
  unfold sfz
  split
  · rename_i hz
    have hh := c.hs_eq hz
    exact ⟨by rw [← hh, c.s.len], c.s0.nd, c.s0.live, trk, fun i a o h1 h2 => (c.s.rep i a o (by rw [hh]; exact h1) h2).anti c.e.sub fun _ _ q => by rw [← hh]; exact q⟩
  · refine ⟨?_, c.s0.nd, c.s0.live, trk, fun i a o h1 h2 => ?_⟩
    · rw [List.length_map, List.length_take, c.s0.len, Nat.min_eq_left c.le]
    · rw [List.getElem?_map] at h2
      have hi : i < S.length := by
        rw [← c.s0.len]
        exact (List.getElem?_eq_some_iff.mp h1).1
      rw [List.getElem?_take_of_lt hi] at h2
      cases q : S'[i]? with
      | none => rw [q] at h2; cases h2
      | some ob =>
        rw [q] at h2
        cases h2
        have h1' : g.hs[i]? = some a := by
          rw [el, List.getElem?_append_left (by rw [c.s0.len]; exact hi)]
          exact h1
        exact (c.s.rep i a ob h1' q).sub c.e.sub (c.hf fzd)
theorem Cut.rv (c : Cut K g0 H0 S g H S') {d : D} {v : V} (r : RV K g H d v) : RV K g0 H (dfz S.length S' d) v := by
  unfold dfz
  split
  · exact RV.anti c.e.sub (fun _ _ q => by rw [← c.hs_eq (by assumption)]; exact q) d v r
  · exact RV.sub c.e.sub (c.hf fzd) d v r
theorem Cut.rs (c : Cut K g0 H0 S g H S') {ρ : Env1} {σ : L2.St} (r : RS K g H ρ σ) : RS K g0 H (rfz S.length S' ρ) σ := by
  unfold rfz
  split
  · exact RS.anti c.e.sub (fun _ _ q => by rw [← c.hs_eq (by assumption)]; exact q) ρ σ r
  · exact RS.sub c.e.sub (c.hf fzd) ρ σ r
theorem Cut.rx (c : Cut K g0 H0 S g H S') {C : Str} {d : D} {cv : Value} {dd : Option Addr} (r : RX K g H C d cv dd) : RX K g0 H C (dfz S.length S' d) cv dd := by
  obtain ⟨e, Dd, w, e1, e2, n, r⟩ := r
  exact ⟨e, Dd, w, e1, e2, fun z => n (c.e.sub _ z), c.rv r⟩
end
def Out.cut (n : Nat) : Out D → Out D
  | .ok d S => .ok (dfz n S d) (sfz n S)
  | .exc C d S => .exc C (dfz n S d) (sfz n S)
  | .stuck => .stuck
def OutS.cut (n : Nat) : OutS → OutS
  | .nx ρ S => .nx (rfz n S ρ) (sfz n S)
  | .rt d S => .rt (dfz n S d) (sfz n S)
  | .bk ρ S => .bk (rfz n S ρ) (sfz n S)
  | .ct ρ S => .ct (rfz n S ρ) (sfz n S)
  | .exc C d ρ S => .exc C (dfz n S d) (rfz n S ρ) (sfz n S)
  | .stuck => .stuck
section
variable {K : PySem.W.Frag} {W : WX} {g : G} {H : Hp} {S : List O} {σ : L2.St}
theorem Post.cut {Q : VK} (s : SR K g S H) : ∀ {o : Out D}, Post K W (RV K) g H σ Q (o.cut S.length) → Post K W (RV K) g H σ Q o
  | .ok d S', h => fun g' H' v e s' r => have c : Cut K g H S g' H' S' := ⟨e, s, s'⟩; h g H' v c.ext c.sr (c.rv r)
  | .exc C d S', h => fun g' H' v dd e s' r => have c : Cut K g H S g' H' S' := ⟨e, s, s'⟩; h g H' v dd c.ext c.sr (c.rx r)
  | .stuck, h => h
theorem PostS.cut {T : Ends} (s : SR K g S H) : ∀ {o : OutS}, PostS K W g H T (o.cut S.length) → PostS K W g H T o
  | .nx ρ S', h => fun g' H' v e s' r => have c : Cut K g H S g' H' S' := ⟨e, s, s'⟩; h g H' v c.ext c.sr (c.rs r)
  | .rt d S', h => fun g' H' v e s' r => have c : Cut K g H S g' H' S' := ⟨e, s, s'⟩; h g H' v c.ext c.sr (c.rv r)
  | .bk ρ S', h => fun g' H' v e s' r => have c : Cut K g H S g' H' S' := ⟨e, s, s'⟩; h g H' v c.ext c.sr (c.rs r)
  | .ct ρ S', h => fun g' H' v e s' r => have c : Cut K g H S g' H' S' := ⟨e, s, s'⟩; h g H' v c.ext c.sr (c.rs r)
  | .exc C d ρ S', h => fun g' H' v cc dd e s' r x => have c : Cut K g H S g' H' S' := ⟨e, s, s'⟩; h g H' v cc dd c.ext c.sr (c.rs r) (c.rx x)
  | .stuck, h => h
end
/-- an expression, statements whose new handles are dropped behind them -/
def eCut (t : TEx) : TEx := fun ρ S => (t ρ S).cut S.length
def sCut (t : TSx) : TSx := fun ρ S => (t ρ S).cut S.length
theorem de_cut {z : Sg} {e : Expr} {t : TEx} (h : DE z e t) : DE z e (eCut t) := by
  obtain ⟨τ, h1, q1⟩ := h
  exact ⟨τ, h1, fun g S ρ σ H Q s rs p => q1 g S ρ σ H Q s rs (Post.cut s p)⟩
theorem ds_cut {z : Sg} {e : Stmt} {t : TSx} (h : DS z e t) : DS z e (sCut t) := by
  obtain ⟨τ, h1, q1⟩ := h
  exact ⟨τ, h1, fun g S ρ σ H Q s rs p => q1 g S ρ σ H Q s rs (PostS.cut s p)⟩
theorem dss_cut {z : Sg} {e : List Stmt} {t : TSx} (h : DSs z e t) : DSs z e (sCut t) := by
  obtain ⟨τ, h1, q1⟩ := h
  exact ⟨τ, h1, fun g S ρ σ H Q s rs p => q1 g S ρ σ H Q s rs (PostS.cut s p)⟩
end TL
set_option Elab.async false
set_option linter.all false
set_option maxRecDepth 100000
set_option maxHeartbeats 4000000
/-! The tree layer, part 4: what is gone over, for, while, comprehensions; defs and their calls. -/
namespace TL
open PySem PySem.Spec PyProof.Rows L2

/-! ### what is gone over -/
/-- J gives these trees, one after another, as long as what is no handle stays -/
def ItR (K : PySem.W.Frag) (g : G) (H : Hp) (ds : List D) (J : It) : Prop :=
  ∃ Gd Y, Walk J ds.length Gd Y ∧ (∀ g' H', Ext g H g' H' → Gd H') ∧
    ∀ i H1 x H2 g1 S1, i < ds.length → Ext g H g1 H1 → SR K g1 S1 H1 → Y i H1 x H2 → (∀ b u, H1 b = some u → H2 b = some u) ∧ ∃ d, ds[i]? = some d ∧ RV K g1 H2 d x
abbrev TIx := Env1 → List O → Out (List D)
def DI (z : Sg) (tg iter : Expr) (t : TIx) : Prop :=
  ∃ wi, (∀ X, Fits z X → PI X tg iter wi) ∧ ∀ g S ρ σ H R, SR z.K g S H → RS z.K g H ρ σ → Post z.K z.W (ItR z.K) g H σ R (t ρ S) → wi σ H R
/-- a list, a tuple that does not change -/
def fixD : D → Option (List D)
  | .lst ds => some ds
  | .tup ds => some ds
  | .scr ns => some (ns.map D.int)
  | _ => none
def iLst (t : TEx) : TIx := fun ρ S => (t ρ S).bind fun d S1 => match d with
  | .lst ds => .ok ds S1
  | .scr ns => .ok (ns.map D.int) S1
  | _ => .stuck
def iTp (t : TEx) : TIx := fun ρ S => (t ρ S).bind fun d S1 => match d with
  | .tup ds => .ok ds S1
  | _ => .stuck
/-- the signs of a text -/
def signs (x : Str) : List D := x.cps.toList.map fun c => D.str ⟨#[c]⟩
def iStx (t : TEx) : TIx := fun ρ S => (t ρ S).bind fun d S1 => match d with
  | .str x => .ok (signs x) S1
  | _ => .stuck
def rng (a b : Int) : List D := (List.range (b - a).toNat).map fun i => D.int (a + (i : Nat))
def iRg1 (t : TAx) : TIx := fun ρ S => (t ρ S).bind fun ds S1 => match ds with
  | [.int j] => if -(2 ^ 62) ≤ j ∧ j < 2 ^ 62 then .ok (rng 0 j) S1 else .stuck
  | _ => .stuck
def iRg2 (t : TAx) : TIx := fun ρ S => (t ρ S).bind fun ds S1 => match ds with
  | [.int i, .int j] => if -(2 ^ 62) ≤ i ∧ i < 2 ^ 62 ∧ -(2 ^ 62) ≤ j ∧ j < 2 ^ 62 then .ok (rng i j) S1 else .stuck
  | _ => .stuck
def enumD (ds : List D) : List D := ds.zipIdx.map fun p => D.tup [.int (p.2 : Nat), p.1]
def iEn (t : TAx) : TIx := fun ρ S => (t ρ S).bind fun ds S1 => match ds with
  | [.lst ds] => .ok (enumD ds) S1
  | _ => .stuck
def zipD (as bs : List D) : List D := (as.zip bs).map fun p => D.tup [p.1, p.2]
def iZp (t : TAx) : TIx := fun ρ S => (t ρ S).bind fun ds S1 => match ds with
  | [.lst as, .lst bs] => .ok (zipD as bs) S1

  | _ => .stuck
section
variable {z : Sg} {tg e : Expr} {t : TEx} {ta : TAx} {p pos : Pos}
theorem itr_at {K : PySem.W.Frag} {g : G} {H : Hp} {ds : List D} {xs : List V} {J : It} {Gd : Hp → Prop} (w : Walk J ds.length Gd (YAt xs)) (hG : ∀ g' H', Ext g H g' H' → Gd H') (hl : ∀ a ∈ g.hs, g.bad a) (r : RVs K g H ds xs) : ItR K g H ds J := by
  refine ⟨Gd, _, w, hG, fun i H1 x H2 g1 S1 hi e l1 y => ?_⟩
  obtain ⟨rfl, hx⟩ := y
  refine ⟨fun _ _ q => q, ds[i], List.getElem?_eq_getElem hi, ?_⟩
  obtain ⟨v, e1, e2⟩ := (r.mono hl e).get (List.getElem?_eq_getElem hi)
  rw [hx] at e1
  cases e1
  exact e2
theorem di_lst (h : DE z e t) : DI z tg e (iLst t) := by
  obtain ⟨τ, h1, q1⟩ := h
  refine ⟨_, fun X f => f.K ▸ pi_list (h1 X f), fun g S ρ σ H R s rs p => ?_⟩
  refine q1 g S ρ σ H _ s rs (p.bind fun d S1 g1 H1 v e1 s1 r1 p1 => ?_)
  split at p1
  · rename_i ds
    simp only [RV] at r1
    obtain ⟨a, xs, rfl, ha, hb, hr⟩ := r1
    have hG : ∀ g' H', Ext g1 H1 g' H' → SqL z.K H' a xs := fun g' H' e => .inl (.inl (e.keep _ _ ha fun m => hb (s1.live _ m)))
    refine ⟨a, rfl, ⟨xs, hG g1 H1 (Ext.refl _ _)⟩, p1.here s1 (itr_at (xs := xs) ?_ hG s1.live hr)⟩
    rw [← hr.length]
    exact walk_list
  · rename_i ns
    simp only [RV] at r1
    obtain ⟨a, rfl, ha⟩ := r1
    have hG : ∀ g' H', Ext g1 H1 g' H' → SqL z.K H' a (ns.map V.int) := fun g' H' e => (ha.mono s1.live e).sq
    refine ⟨a, rfl, ⟨_, hG g1 H1 (Ext.refl _ _)⟩, p1.here s1 (itr_at (xs := ns.map V.int) ?_ hG s1.live (RVs.ints ns))⟩
    rw [List.length_map, ← List.length_map (f := V.int)]
    exact walk_list
  · exact p1.elim
theorem di_tup (h : DE z e t) : DI z tg e (iTp t) := by
  obtain ⟨τ, h1, q1⟩ := h
  refine ⟨_, fun X f => f.K ▸ pi_tup (h1 X f), fun g S ρ σ H R s rs p => ?_⟩
  refine q1 g S ρ σ H _ s rs (p.bind fun d S1 g1 H1 v e1 s1 r1 p1 => ?_)
  split at p1
  · rename_i ds
    simp only [RV] at r1
    obtain ⟨a, xs, rfl, ha, hr⟩ := r1
    have hG : ∀ g' H', Ext g1 H1 g' H' → SqT z.K H' a xs := fun g' H' e => (ha.mono s1.live e).sq
    refine ⟨a, rfl, ⟨xs, hG g1 H1 (Ext.refl _ _)⟩, p1.here s1 (itr_at (xs := xs) ?_ hG s1.live hr)⟩
    rw [← hr.length]
    exact walk_tup
  · exact p1.elim
theorem di_str (h : DE z e t) : DI z tg e (iStx t) := by
  obtain ⟨τ, h1, q1⟩ := h
  refine ⟨_, fun X f => pi_str (h1 X f), fun g S ρ σ H R s rs p => ?_⟩
  refine q1 g S ρ σ H _ s rs (p.bind fun d S1 g1 H1 v e1 s1 r1 p1 => ?_)
  split at p1
  · rename_i x
    rw [rv_str r1]
    refine ⟨x, rfl, p1.here s1 ⟨fun _ => True, fun i H v H' => H' = H ∧ ∃ c, x.cps[i]? = some c ∧ v = .str ⟨#[c]⟩, ?_, fun _ _ _ => trivial, fun i H1 v H2 g2 S2 hi e2 _ y => ?_⟩⟩
    · rw [show (signs x).length = x.cps.size by simp [signs]]
      exact walk_str
    · obtain ⟨rfl, c, hc, rfl⟩ := y
      refine ⟨fun _ _ q => q, .str ⟨#[c]⟩, ?_, by simp only [RV]⟩
      rw [signs, List.getElem?_map, Array.getElem?_toList, hc]
      rfl
  · exact p1.elim
theorem rng_walk {K : PySem.W.Frag} {g : G} {H : Hp} (i j : Int) : ItR K g H (rng i j) (Itr i (j - i).toNat) := by
  refine ⟨fun _ => True, YFn fun k => .int (i + k), ?_, fun _ _ _ => trivial, fun k H1 v H2 g2 S2 hk e2 _ y => ?_⟩
  · rw [show (rng i j).length = (j - i).toNat by simp [rng]]
    exact walk_range
  · obtain ⟨rfl, rfl⟩ := y
    refine ⟨fun _ _ q => q, .int (i + k), ?_, by simp only [RV]⟩
    have hk : k < (j - i).toNat := by simpa [rng] using hk
    rw [rng, List.getElem?_map, List.getElem?_range hk]
    rfl
theorem di_rng1 {a : Expr} (h : DA z [a] ta) (hm : z.mg "range" = none) (hg : Gz z "range" := by rfl) (hs : ∀ env, starEach [a] env = [(false, eval a env)] := by intro _; rfl) : DI z tg (.Call (.Name "range" p) [a] [] pos) (iRg1 ta) := by
  obtain ⟨τ, h1, q1⟩ := h
  refine ⟨_, fun X f => pi_range1 (f.gl hg) (f.mgl hm) (h1 X f) (hs _), fun g S ρ σ H R s rs p => ?_⟩
  refine q1 g S ρ σ H _ s rs (p.bind fun d S1 g1 H1 v e1 s1 r1 p1 => ?_)
  split at p1
  · rename_i j
    simp only [RVs, RV] at r1
    obtain ⟨v', r, rfl, rfl, rfl⟩ := r1
    split at p1
    · rename_i hj
      refine ⟨j, rfl, hj.1, hj.2, p1.here s1 ?_⟩
      have q := rng_walk (K := z.K) (g := g1) (H := H1) 0 j
      rwa [show (j - 0).toNat = j.toNat by simp] at q
    · exact p1.elim
  · exact p1.elim
theorem di_rng2 {a b : Expr} (h : DA z [a, b] ta) (hm : z.mg "range" = none) (hg : Gz z "range" := by rfl) (hs : ∀ env, starEach [a, b] env = [(false, eval a env), (false, eval b env)] := by intro _; rfl) (hs2 : ∀ env, starEach [b] env = [(false, eval b env)] := by intro _; rfl) : DI z tg (.Call (.Name "range" p) [a, b] [] pos) (iRg2 ta) := by
  obtain ⟨τ, h1, q1⟩ := h
  refine ⟨_, fun X f => pi_range2 (f.gl hg) (f.mgl hm) (h1 X f) (hs _) (hs2 _), fun g S ρ σ H R s rs p => ?_⟩
  refine q1 g S ρ σ H _ s rs (p.bind fun d S1 g1 H1 v e1 s1 r1 p1 => ?_)
  split at p1
  · rename_i i j
    simp only [RVs, RV] at r1
    obtain ⟨v', r, rfl, rfl, v2, r2, rfl, rfl, rfl⟩ := r1
    split at p1
    · rename_i hj
      exact ⟨i, j, rfl, hj, p1.here s1 (rng_walk (K := z.K) (g := g1) (H := H1) i j)⟩
    · exact p1.elim
  · exact p1.elim
/-- a new pair at each turn -/
theorem itr_pair {K : PySem.W.Frag} {g : G} {H : Hp} {ds : List D} {J : It} {Gd : Hp → Prop} {fx fy : Nat → Option V} {n : Nat} (w : Walk J n Gd (YPair fx fy)) (hn : ds.length = n) (hG : ∀ g' H', Ext g H g' H' → Gd H')
    (hd : ∀ i x y g1 H1, fx i = some x → fy i = some y → Ext g H g1 H1 → ∃ a b, ds[i]? = some (.tup [a, b]) ∧ RV K g1 H1 a x ∧ RV K g1 H1 b y) : ItR K g H ds J := by
  subst hn
  refine ⟨Gd, _, w, hG, fun i H1 x H2 g1 S1 hi e l1 y => ?_⟩
  obtain ⟨T, x', y', rfl, hT, rfl, h1, h2⟩ := y
  obtain ⟨a, b, e1, ra, rb⟩ := hd i x' y' g1 H1 h1 h2 e
  have hsm : ∀ c u, H1 c = some u → upd H1 T (.tup [x', y']) c = some u := same_new hT
  have e2 : Ext g1 H1 g1 (upd H1 T (.tup [x', y'])) := Ext.same hsm
  refine ⟨hsm, _, e1, ?_⟩
  simp only [RV]
  refine ⟨T, _, rfl, .inl ⟨upd_same, l1.unbad hT⟩, ?_⟩
  simp only [RVs]
  exact ⟨x', _, rfl, ra.mono l1.live e2, y', _, rfl, rb.mono l1.live e2, rfl⟩
end
end TL
set_option Elab.async false
set_option linter.all false
set_option maxRecDepth 100000
set_option maxHeartbeats 4000000
/-! The tree layer, part 5: loops, comprehensions, defs and calls. -/
namespace TL
open PySem PySem.Spec PyProof.Rows L2

/-! ### enumerate, zip -/
section
variable {z : Sg} {tg e : Expr} {t : TEx} {ta : TAx} {p pos : Pos}
theorem di_enum {elts : List Expr} {kk : Nat} {tpos : Pos} (h : DA z [e] ta) (hm : z.mg "enumerate" = none) (hg : Gz z "enumerate" := by rfl) (hs : ∀ env, starEach [e] env = [(false, eval e env)] := by intro _; rfl) : DI z (.Tuple elts kk tpos) (.Call (.Name "enumerate" p) [e] [] pos) (iEn ta) := by
  obtain ⟨τ, h1, q1⟩ := h
  refine ⟨_, fun X f => f.K ▸ pi_enum (f.gl hg) (f.mgl hm) (h1 X f) (hs _), fun g S ρ σ H R s rs p => ?_⟩
  refine q1 g S ρ σ H _ s rs (p.bind fun d S1 g1 H1 v e1 s1 r1 p1 => ?_)
  split at p1
  · rename_i ds
    simp only [RVs, RV] at r1
    obtain ⟨v', r, rfl, ⟨a, xs, rfl, ha, hb, hr⟩, rfl⟩ := r1
    have hl := hr.length
    refine ⟨a, xs, rfl, .inl (.inl ha), p1.here s1 (itr_pair walk_enum (by simp [enumD, hl]) (fun g' H' e => .inl (.inl (e.keep _ _ ha fun m => hb (s1.live _ m)))) fun i x y g2 H2 h1 h2 e2 => ?_)⟩
    cases h1
    have hi : i < ds.length := by
      rw [← hl]
      exact (List.getElem?_eq_some_iff.mp h2).1
    obtain ⟨w, e3, e4⟩ := (hr.mono s1.live e2).get (List.getElem?_eq_getElem hi)
    rw [h2] at e3
    cases e3
    refine ⟨.int (i : Nat), ds[i], ?_, by simp only [RV], e4⟩
    simp [enumD, hi]
  · exact p1.elim
theorem di_zip {elts : List Expr} {kk : Nat} {tpos : Pos} {e2 : Expr} (h : DA z [e, e2] ta) (hm : z.mg "zip" = none) (hg : Gz z "zip" := by rfl) (hs : ∀ env, starEach [e, e2] env = (false, eval e env) :: starEach [e2] env := by intro _; rfl) (hpl : ∀ env, (backTo pos (starEach [e2] env)).any (·.1) = false := by intro _; rfl) :
    DI z (.Tuple elts kk tpos) (.Call (.Name "zip" p) [e, e2] [] pos) (iZp ta) := by
  obtain ⟨τ, h1, q1⟩ := h
  refine ⟨_, fun X f => f.K ▸ pi_zip (f.gl hg) (f.mgl hm) (h1 X f) (hs _) (hpl _), fun g S ρ σ H R s rs p => ?_⟩
  refine q1 g S ρ σ H _ s rs (p.bind fun d S1 g1 H1 v e1 s1 r1 p1 => ?_)
  split at p1
  · rename_i as bs
    simp only [RVs, RV] at r1
    obtain ⟨v', r, rfl, ⟨a, xs, rfl, ha, hb, hr⟩, v2, r2, rfl, ⟨b, ys, rfl, hb1, hb2, hr2⟩, rfl⟩ := r1
    have hl := hr.length
    have hl2 := hr2.length
    have hG1 : ∀ g' H', Ext g1 H1 g' H' → H' a = some (.lst xs) := fun g' H' e => e.keep _ _ ha fun m => hb (s1.live _ m)
    have hG2 : ∀ g' H', Ext g1 H1 g' H' → H' b = some (.lst ys) := fun g' H' e => e.keep _ _ hb1 fun m => hb2 (s1.live _ m)
    refine ⟨a, b, xs, ys, rfl, .inl (.inl ha), .inl (.inl hb1), p1.here s1 (itr_pair (walk_zip rfl) (by simp [zipD, hl, hl2]) (fun g' H' e => ⟨.inl (.inl (hG1 g' H' e)), .inl (.inl (hG2 g' H' e))⟩) fun i x y g2 H2 h1 h2 e2 => ?_)⟩
    have hi : i < as.length := by
      rw [← hl]
      exact (List.getElem?_eq_some_iff.mp h1).1
    have hj : i < bs.length := by
      rw [← hl2]
      exact (List.getElem?_eq_some_iff.mp h2).1
    obtain ⟨w, e3, e4⟩ := (hr.mono s1.live e2).get (List.getElem?_eq_getElem hi)
    rw [h1] at e3
    cases e3
    obtain ⟨w2, e5, e6⟩ := (hr2.mono s1.live e2).get (List.getElem?_eq_getElem hj)
    rw [h2] at e5
    cases e5
    refine ⟨as[i], bs[i], ?_, e4, e6⟩
    rw [zipD, List.getElem?_map, show (as.zip bs)[i]? = some (as[i], bs[i]) from List.getElem?_zip_eq_some.mpr ⟨List.getElem?_eq_getElem hi, List.getElem?_eq_getElem hj⟩]
    rfl
  · exact p1.elim
end

/-! ### for, while -/
def OutS.turn (o : OutS) (k : TSx) : OutS := match o with
  | .nx ρ S => k ρ S
  | .ct ρ S => k ρ S
  | .bk ρ S => .nx ρ S
  | o => o
def forL (tg : TGx) (tb : TSx) : List D → Env1 → List O → OutS
  | [], ρ, S => .nx ρ S
  | d :: ds, ρ, S => (tg d ρ S).only.seq fun ρ1 S1 => (tb ρ1 S1).turn (forL tg tb ds)
def sFor (ti : TIx) (tg : TGx) (tb : TSx) : TSx := fun ρ S => (ti ρ S).stm ρ fun ds S1 => forL tg tb ds ρ S1
theorem PostS.turn {K : PySem.W.Frag} {W : WX} {g : G} {H : Hp} {T : Ends} {o : OutS} {u : TSx} {N : L2.St → Hp → Prop} (h : PostS K W g H T (o.turn u)) (hn : ∀ ρ S g1 H1 σ, Ext g H g1 H1 → SR K g1 S H1 → RS K g1 H1 ρ σ → PostS K W g1 H1 T (u ρ S) → N σ H1) :
    PostS K W g H { T with nx := N, ct := N, bk := T.nx } o := by
  cases o with
  | nx ρ S => exact fun g1 H1 σ e s r => hn ρ S g1 H1 σ e s r (PostS.later e s h)
  | ct ρ S => exact fun g1 H1 σ e s r => hn ρ S g1 H1 σ e s r (PostS.later e s h)
  | rt d S => exact h
  | bk ρ S => exact h
  | exc C d ρ S => exact h
  | stuck => exact h
section
variable {z : Sg} {pos : Pos}
theorem ds_for {tg iter : Expr} {body : List Stmt} {ws : List Nat} {ti : TIx} {t : TGx} {tb : TSx} (hi : DI z tg iter ti) (hg : DG z tg ws t) (hb : DSs z body tb) (hs : ∀ env x, foldedSetIterable iter env x = pure x := by intro _ _; rfl) : DS z (.For tg iter body [] pos) (sFor ti t tb) := by
  obtain ⟨wi, h1, q1⟩ := hi
  obtain ⟨τg, h2, q2⟩ := hg
  obtain ⟨τb, h3, q3⟩ := hb
  refine ⟨_, fun X f => ps_for f.own f.calm (h1 X f) (h2 X f) (h3 X f) (hs _), fun g S ρ σ H T s rs p => ?_⟩
  refine q1 g S ρ σ H _ s rs (p.stm s rs fun ds S1 g1 H1 J e1 s1 rs1 r1 p1 => ?_)
  obtain ⟨Gd, Y, w, hG, hY⟩ := r1
  refine for_it w (fun i σ' H' => ∃ g' S' ρ', Ext g1 H1 g' H' ∧ SR z.K g' S' H' ∧ RS z.K g' H' ρ' σ' ∧ PostS z.K z.W g' H' T (forL t tb (ds.drop i) ρ' S')) ⟨g1, S1, ρ, Ext.refl _ _, s1, rs1, p1⟩ (fun i σ' H' _ h => ?_) (fun i x σ' H' H2 hi h y => ?_) fun σ' H' h => ?_
  · obtain ⟨g', S', ρ', e', s', rs', p'⟩ := h
    exact hG g' H' e'
  · obtain ⟨g', S', ρ', e', s', rs', p'⟩ := h
    obtain ⟨hk, d, hd, rd⟩ := hY i H' x H2 g' S' hi e' s' y
    have e2 : Ext g' H' g' H2 := Ext.same hk
    have s2 : SR z.K g' S' H2 := s'.same hk
    have eq : ds.drop i = d :: ds.drop (i + 1) := by
      obtain ⟨hl, hv⟩ := List.getElem?_eq_some_iff.mp hd
      rw [List.drop_eq_getElem_cons hl, hv]
    rw [eq] at p'
    have p2 : PostS z.K z.W g' H2 T (forL t tb (d :: ds.drop (i + 1)) ρ' S') := PostS.later e2 s2 p'
    refine q2 g' S' ρ' σ' H2 d x _ s2 (rs'.mono s'.live e2) rd (PostS.only p2 fun ρ3 S3 g3 H3 σ3 e3 s3 r3 _ p3 => ?_)
    refine q3 g3 S3 ρ3 σ3 H3 _ s3 r3 (p3.turn fun ρ4 S4 g4 H4 σ4 e4 s4 r4 p4 => ?_)
    exact ⟨g4, S4, ρ4, (((e'.tr s' e2).tr s2 e3).tr s3 e4), s4, r4, p4⟩
  · obtain ⟨g', S', ρ', e', s', rs', p'⟩ := h
    rw [List.drop_length] at p'
    exact p'.here s' rs'
/-- a while, so many turns at most -/
def whileL (c : TTx) (tb : TSx) : Nat → Env1 → List O → OutS
  | 0, _, _ => .stuck
  | n + 1, ρ, S => (c ρ S).stm ρ fun k S1 => if k = true then (tb ρ S1).turn (whileL c tb n) else .nx ρ S1
def sWhile (n : Env1 → List O → Nat) (c : TTx) (tb : TSx) : TSx := fun ρ S => whileL c tb (n ρ S) ρ S
theorem ds_while (n : Env1 → List O → Nat) {c : Expr} {body : List Stmt} {tc : TTx} {tb : TSx} (hc : DT z c tc) (hb : DSs z body tb) : DS z (.While c body [] pos) (sWhile n tc tb) := by
  obtain ⟨τc, h1, q1⟩ := hc
  obtain ⟨τb, h2, q2⟩ := hb
  refine ⟨_, fun X f => ps_while f.own (h1 X f) (h2 X f), fun g S ρ σ H T s rs p => ?_⟩
  refine ⟨fun m σ' H' => ∃ g' S' ρ', SR z.K g' S' H' ∧ RS z.K g' H' ρ' σ' ∧ PostS z.K z.W g' H' T (whileL tc tb m ρ' S'), ⟨_, g, S, ρ, s, rs, p⟩, fun m σ' H' h => ?_⟩
  obtain ⟨g', S', ρ', s', rs', p'⟩ := h
  cases m with
  | zero => exact p'.elim
  | succ m =>
    refine q1 g' S' ρ' σ' H' _ s' rs' (PostS.stm p' s' rs' fun k S1 g1 H1 k' e1 s1 rs1 r1 p1 => ?_)
    have r1 : k = k' := r1
    subst r1
    show if k = true then _ else _
    split
    · rename_i hk
      rw [if_pos hk] at p1
      refine ⟨fun σ2 H2 => ∃ g2 S2 ρ2, SR z.K g2 S2 H2 ∧ RS z.K g2 H2 ρ2 σ2 ∧ PostS z.K z.W g2 H2 T (whileL tc tb m ρ2 S2), fun σ2 H2 h2 => ⟨m, Nat.lt_succ_self _, h2⟩, ?_⟩
      exact q2 g1 S1 ρ' σ' H1 _ s1 rs1 (p1.turn fun ρ4 S4 g4 H4 σ4 e4 s4 r4 p4 => ⟨g4, S4, ρ4, s4, r4, p4⟩)
    · rename_i hk
      rw [if_neg hk] at p1
      exact p1.here s1 rs1
end

/-! ### list comprehensions -/
def wipeD (ρ : Env1) : List Nat → Env1
  | [] => ρ
  | v :: vs => (wipeD ρ vs).set v none
theorem RS.wipe {K : PySem.W.Frag} {g : G} {H : Hp} {ρ : Env1} {σ : L2.St} (r : RS K g H ρ σ) : ∀ vs : List Nat, RS K g H (wipeD ρ vs) (L2.wipe σ vs)
  | [] => r
  | v :: vs => RS.unset v (RS.wipe r vs)
theorem wipe_at (σ : L2.St) : ∀ (vs : List Nat) (j : Nat), (L2.wipe σ vs)[j]? = if j ∈ vs ∧ j < σ.length then some none else σ[j]?
  | [], j => by simp [L2.wipe]
  | v :: vs, j => by
    have ih := wipe_at σ vs j
    have hl := L2.wipe_length σ vs
    show ((L2.wipe σ vs).set v none)[j]? = _
    by_cases hj : v = j
    · subst hj
      by_cases hl2 : v < σ.length
      · rw [List.getElem?_set_self (by rw [hl]; exact hl2), if_pos ⟨List.mem_cons_self, hl2⟩]
      · rw [List.getElem?_eq_none (by simp [hl]; omega), if_neg (fun h => hl2 h.2), List.getElem?_eq_none (by omega)]
    · rw [List.getElem?_set_ne hj, ih]
      by_cases h1 : j ∈ vs ∧ j < σ.length
      · rw [if_pos h1, if_pos ⟨List.mem_cons_of_mem _ h1.1, h1.2⟩]
      · rw [if_neg h1, if_neg]
        rintro ⟨h2, h3⟩
        rcases List.mem_cons.mp h2 with h2 | h2
        · exact hj h2.symm
        · exact h1 ⟨h2, h3⟩
theorem wipe_off {vs ws : List Nat} {σ σ' : L2.St} (h : Off ws (L2.wipe σ vs) σ') (hw : ∀ j ∈ ws, j ∈ vs) : L2.wipe σ' vs = L2.wipe σ vs := by
  have hl : σ'.length = σ.length := by rw [h.1, L2.wipe_length]
  refine List.ext_getElem? fun j => ?_
  rw [wipe_at, wipe_at, hl]
  by_cases h1 : j ∈ vs ∧ j < σ.length
  · rw [if_pos h1, if_pos h1]
  · rw [if_neg h1, if_neg h1]
    by_cases h2 : j ∈ ws
    · have h3 : ¬ j < σ.length := fun h4 => h1 ⟨hw j h2, h4⟩
      rw [List.getElem?_eq_none (by omega), List.getElem?_eq_none (by omega)]
    · rw [h.2 j h2, wipe_at, if_neg h1]
/-- no exception may come -/
def Out.nox {α : Type} : Out α → Out α
  | .ok a S => .ok a S
  | _ => .stuck
def OutS.nox (o : OutS) : Out Env1 := match o with
  | .nx ρ S => .ok ρ S
  | _ => .stuck
theorem Post.bindN {K : PySem.W.Frag} {W W2 : WX} {g gA : G} {H HA : Hp} {σ σ2 : L2.St} {α β γ δ : Type} {R : G → Hp → α → β → Prop} {R' : G → Hp → γ → δ → Prop} {Q : δ → Hp → Prop} {Q1 : β → Hp → Prop} {o : Out α} {k : α → List O → Out γ} (hp : Post K W R' gA HA σ Q (o.nox.bind k))
    (h : ∀ a S1 g1 H1 b, Ext g H g1 H1 → SR K g1 S1 H1 → R g1 H1 a b → Post K W R' gA HA σ Q (k a S1) → Q1 b H1) : Post K W2 R g H σ2 Q1 o := by
  cases o with
  | ok a S => exact fun g1 H1 b e s r => h a S g1 H1 b e s r hp
  | exc C d S => exact hp.elim
  | stuck => exact hp
theorem PostG.nox {K : PySem.W.Frag} {W W2 : WX} {g gA : G} {H HA : Hp} {σ σ2 : L2.St} {ws : List Nat} {γ δ : Type} {R' : G → Hp → γ → δ → Prop} {Q : δ → Hp → Prop} {o : OutS} {k : Env1 → List O → Out γ} {N : L2.St → Hp → Prop} (hp : Post K W R' gA HA σ Q (o.nox.bind k))
    (h : ∀ ρ S1 g1 H1 σ1, Ext g H g1 H1 → SR K g1 S1 H1 → RS K g1 H1 ρ σ1 → Off ws σ2 σ1 → Post K W R' gA HA σ Q (k ρ S1) → N σ1 H1) : PostG K W2 g H σ2 ws N o := by
  cases o with
  | nx ρ S => exact fun g1 H1 σ1 e s r off => h ρ S g1 H1 σ1 e s r off hp
  | _ => exact hp.elim
theorem Out.bind_assoc {α β γ : Type} (o : Out α) (k : α → List O → Out β) (k2 : β → List O → Out γ) : (o.bind k).bind k2 = o.bind fun a S => (k a S).bind k2 := by
  cases o <;> rfl
/-- the turns of a comprehension -/
def compL (vs : List Nat) (tg : TGx) (tt : TTx) (te : TEx) : List D → List D → Env1 → List O → Out (List D)
  | [], acc, _, S => .ok acc S
  | d :: ds, acc, ρ, S => (tg d (wipeD ρ vs) S).nox.bind fun ρ1 S1 => (tt ρ1 S1).nox.bind fun k S2 => if k = true then (te ρ1 S2).nox.bind fun y S3 => compL vs tg tt te ds (acc ++ [y]) ρ S3 else compL vs tg tt te ds acc ρ S2
def eLc (own : Bool) (vs : List Nat) (ti : TIx) (tg : TGx) (tt : TTx) (te : TEx) : TEx := fun ρ S => (ti ρ S).bind fun ds S1 => if ds.length ≤ sizeLine then (compL vs tg tt te ds [] ρ S1).bind (mkL own) else .stuck
/-- the place of a comprehension's block -/
def Sg.blk (z : Sg) (scope : Scope) : Sg := { z with scope := relS scope z.scope, cl := fun x => scope.names.lookup x == some .cell, W := fun _ _ _ _ => False }
theorem Fits.blk {z : Sg} {X : Cx} (f : Fits z X) (scope : Scope) (s : Shared) (H : Hp) (C : Addr) (cl : List (Str × Addr)) (fp : List Addr) : Fits (z.blk scope) (X.blk s H scope (compEnvC scope cl C X.env) fp) :=
  ⟨f.prog, f.w, f.K, f.mg, f.base, f.N, (by show relabel scope X.env = relS scope z.scope; rw [← f.scope]; rfl), f.calm, f.nd, fun x h => h, f.room, f.gd, takes0, PassesOwn.never, f.qual, f.code⟩
def DTs (z : Sg) (ifs : List Expr) (t : TTx) : Prop := ∃ τ, (∀ X, Fits z X → PTs X ifs τ) ∧ RdT z τ t
def tYesD : TTx := fun _ S => .ok true S
theorem dts_nil {z : Sg} : DTs z [] tYesD := ⟨_, fun _ _ => pts_nil, fun g S ρ σ H Q s rs p => p.here s rfl⟩
theorem dts_one {z : Sg} {c : Expr} {t : TTx} (h : DT z c t) : DTs z [c] t := by
  obtain ⟨τ, h1, q1⟩ := h
  exact ⟨τ, fun X f => pts_one (h1 X f), q1⟩
/-- D forgotten as bad -/
def G.off (g : G) (p : Addr) : G := ⟨fun b => g.bad b ∧ b ≠ p, g.hs⟩
def G.on (g : G) (p : Addr) : G := ⟨fun b => g.bad b ∨ b = p, g.hs⟩
section
variable {K : PySem.W.Frag} {g g1 : G} {S : List O} {H H1 : Hp} {p : Addr} {u : HO}
theorem Ext.on (hp : H p = none) : Ext g H (g.on p) (upd H p u) :=
  ⟨fun b v e _ => .inl (same_new hp b v e), fun b v e _ _ => same_new hp b v e, fun b v e n => fun h => h.elim n fun q => (by rw [q, hp] at e; cases e), fun _ h => .inl h, [], (List.append_nil _).symm, fun _ h => by cases h⟩
theorem SR.on (s : SR K g S H) (hp : H p = none) : SR K (g.on p) S (upd H p u) := by
  refine ⟨s.len, s.nd, fun a h => .inl (s.live a h), fun a h => ?_, fun i a o h1 h2 => (s.rep i a o h1 h2).mono s.live (Ext.on hp) fun v q => same_new hp _ _ q⟩
  rcases h with h | rfl
  · obtain ⟨v, q⟩ := s.trk a h
    exact ⟨v, same_new hp _ _ q⟩
  · exact ⟨u, upd_same⟩
theorem Wk.wr (hb : g.bad p) : Wk g H g (upd H p u) := ⟨fun b v e n => .inl (by rw [upd_ne (fun q => n (by rw [q]; exact hb))]; exact e), fun _ _ _ n => n, fun _ _ h => h⟩
/-- the object at a bad place that is no handle is written -/
theorem SR.wr (s : SR K g S H) (hb : g.bad p) (hn : p ∉ g.hs) : SR K g S (upd H p u) := by
  refine ⟨s.len, s.nd, s.live, fun a h => ?_, fun i a o h1 h2 => ?_⟩
  · by_cases ha : a = p
    · exact ⟨u, by rw [ha, upd_same]⟩
    · obtain ⟨v, q⟩ := s.trk a h
      exact ⟨v, by rw [upd_ne ha]; exact q⟩
  · have ha : a ≠ p := fun q => hn (by rw [← q]; exact List.mem_of_getElem? h1)
    have q := s.rep i a o h1 h2
    cases o with
    | lst ds =>
      obtain ⟨xs, e1, e2⟩ := q
      exact ⟨xs, by rw [upd_ne ha]; exact e1, e2.wk (Wk.wr hb) ds xs⟩
    | dct kvs =>
      obtain ⟨xs, e1, e2⟩ := q
      exact ⟨xs, by rw [upd_ne ha]; exact e1, e2.wk (Wk.wr hb) kvs xs⟩
    | ins C fs =>
      obtain ⟨dx, xs, e1, e2⟩ := q
      exact ⟨dx, xs, by rw [upd_ne ha]; exact e1, e2.wk (Wk.wr hb) fs xs⟩
    | tbl q' =>
      obtain ⟨⟨ps, e1, e2, e3⟩, ea⟩ := q
      exact ⟨⟨ps, by rw [upd_ne ha]; exact e1, e2, fun pos cv h => let ⟨c, y1, y2, y3⟩ := e3 pos cv h; ⟨c, y1, by rw [upd_ne (fun z : c = p => y3 (by rw [z]; exact hb))]; exact y2, y3⟩⟩, ea⟩
end
/-- the new list stands at Dp, bad for all others, and may be written -/
structure LcAt (K : PySem.W.Frag) (g0 : G) (H0 : Hp) (Dp : Addr) (g : G) (H : Hp) (S : List O) (acc : List D) : Prop where
  keep : ∀ b o, H0 b = some o → b ∉ g0.hs → Kp H b o
  kb : ∀ b o, H0 b = some o → b ∉ g0.hs → g0.bad b → H b = some o
  good : ∀ b o, H0 b = some o → ¬ g0.bad b → ¬ g.bad b
  sub : ∀ b, g0.bad b → g.bad b
  pre : ∃ l, g.hs = g0.hs ++ l ∧ ∀ b ∈ l, H0 b = none ∧ b ≠ Dp
  s : SR K g S H
  at_ : ∃ xs, H Dp = some (.lst xs) ∧ RVs K g H acc xs
  bd : g.bad Dp
section
variable {K : PySem.W.Frag} {g0 g g1 : G} {H0 H H1 : Hp} {Dp : Addr} {S S1 : List O} {acc : List D}
theorem LcAt.ext (l : LcAt K g0 H0 Dp g H S acc) : Ext g0 H0 g H := by
  obtain ⟨m, e, f⟩ := l.pre
  exact ⟨l.keep, l.kb, l.good, l.sub, m, e, fun b hb => (f b hb).1⟩
theorem LcAt.nh (l : LcAt K g0 H0 Dp g H S acc) (hd : Dp ∉ g0.hs) : Dp ∉ g.hs := by
  obtain ⟨m, e, f⟩ := l.pre
  rw [e]
  intro h
  rcases List.mem_append.mp h with h | h
  · exact hd h
  · exact (f _ h).2 rfl
theorem LcAt.later (l : LcAt K g0 H0 Dp g H S acc) (s0 : SR K g0 S1 H0) (hd : Dp ∉ g0.hs) {S2 : List O} (e : Ext g H g1 H1) (s1 : SR K g1 S2 H1) : LcAt K g0 H0 Dp g1 H1 S2 acc := by
  obtain ⟨m, em, fm⟩ := l.pre
  obtain ⟨m2, em2, fm2⟩ := e.pre
  have nh := l.nh hd
  obtain ⟨xs, h1, h2⟩ := l.at_
  have st : ∀ b o, H0 b = some o → b ∉ g0.hs → b ∉ g.hs := fun b o q n h => by
    rw [em] at h
    rcases List.mem_append.mp h with h | h
    · exact n h
    · rw [(fm b h).1] at q
      cases q
  refine ⟨fun b o q n => (l.keep b o q n).trans fun o1 h1 => e.kp0 b o1 h1 (st b o q n), fun b o q n hb => e.kb b o (l.kb b o q n hb) (st b o q n) (l.sub b hb), fun b o q n => ?_, fun b h => e.sub b (l.sub b h), ⟨m ++ m2, by rw [em2, em, List.append_assoc], fun b hb => ?_⟩, s1, ⟨xs, e.keep _ _ h1 nh, h2.mono l.s.live e _ _⟩, e.sub _ l.bd⟩
  · have n0 : b ∉ g0.hs := fun h => n (s0.live b h)
    obtain ⟨o1, h1⟩ := (l.keep b o q n0).some
    exact e.good b o1 h1 (l.good b o q n)
  · rcases List.mem_append.mp hb with h | h
    · exact fm b h
    · refine ⟨?_, fun q => ?_⟩
      · cases q : H0 b with
        | none => rfl
        | some o =>
          by_cases hx : b ∈ g0.hs
          · obtain ⟨o', e'⟩ := l.s.hl b (by rw [em]; exact List.mem_append_left _ hx)
            rw [fm2 b h] at e'
            cases e'
          · obtain ⟨o1, z⟩ := (l.keep b o q hx).some
            rw [fm2 b h] at z
            cases z
      · rw [q] at h
        rw [fm2 _ h] at h1
        cases h1
theorem LcAt.push (l : LcAt K g0 H0 Dp g H S acc) (hn : H0 Dp = none) (hd : Dp ∉ g0.hs) {y : D} {v : V} {xs : List V} (h1 : H Dp = some (.lst xs)) (ry : RV K g H y v) : LcAt K g0 H0 Dp g (upd H Dp (.lst (xs ++ [v]))) S (acc ++ [y]) := by
  obtain ⟨xs', h1', h2⟩ := l.at_
  rw [h1] at h1'
  cases h1'
  have w : Wk g H g (upd H Dp (.lst (xs ++ [v]))) := Wk.wr l.bd
  refine ⟨fun b o q n => by unfold Kp; rw [upd_ne (ne_of_none q hn)]; exact l.keep b o q n, fun b o q n hb => by rw [upd_ne (ne_of_none q hn)]; exact l.kb b o q n hb, l.good, l.sub, l.pre, l.s.wr l.bd (l.nh hd), ⟨_, upd_same, ?_⟩, l.bd⟩
  exact (h2.wk w _ _).snoc (ry.wk w _ _)
/-- the list is given out -/
theorem LcAt.fin {W : WX} {σ : L2.St} {Q : VK} {own : Bool} (l : LcAt K g0 H0 Dp g H S acc) (s0 : SR K g0 S1 H0) (hn : H0 Dp = none) (hd : Dp ∉ g0.hs) (p : Post K W (RV K) g0 H0 σ Q (mkL own acc S)) : Q (.ref Dp) H := by
  obtain ⟨m, em, fm⟩ := l.pre
  obtain ⟨xs, h1, h2⟩ := l.at_
  have nh := l.nh hd
  unfold mkL at p
  split at p
  · split at p
    · refine p ⟨g.bad, g.hs ++ [Dp]⟩ H _ ⟨l.keep, l.kb, l.good, l.sub, m ++ [Dp], by rw [em, List.append_assoc], fun b hb => ?_⟩ ?_ ?_
      · rcases List.mem_append.mp hb with h | h
        · exact (fm b h).1
        · rw [List.mem_singleton.mp h]
          exact hn
      · have wk : ∀ (i : Nat) (a : Addr), g.hs[i]? = some a → (g.hs ++ [Dp])[i]? = some a := fun i a h => by
          rw [List.getElem?_append_left (List.getElem?_eq_some_iff.mp h).1]
          exact h
        refine ⟨by simp [l.s.len], ?_, fun a ha => ?_, l.s.trk, fun i a o e1 e2 => ?_⟩
        · refine List.nodup_append.mpr ⟨l.s.nd, by simp, fun a ha b hb => ?_⟩
          rw [List.mem_singleton.mp hb]
          rintro rfl
          exact nh ha
        · rcases List.mem_append.mp ha with h | h
          · exact l.s.live a h
          · rw [List.mem_singleton.mp h]
            exact l.bd
        · by_cases hi : i < S.length
          · have e1' : g.hs[i]? = some a := by
              have e1 : (g.hs ++ [Dp])[i]? = some a := e1
              rwa [List.getElem?_append_left (by rw [l.s.len]; exact hi)] at e1
            have e2' : S[i]? = some o := by rwa [List.getElem?_append_left hi] at e2
            exact RO.anti (g := g) (g0 := ⟨g.bad, g.hs ++ [Dp]⟩) (fun _ h => h) wk (l.s.rep i a o e1' e2')
          · have hi2 : i = S.length := by
              have := (List.getElem?_eq_some_iff.mp e2).1
              simp at this
              omega
            subst hi2
            have e1 : (g.hs ++ [Dp])[S.length]? = some a := e1
            rw [← l.s.len] at e1
            simp at e1
            simp at e2
            subst e1 e2
            exact ⟨xs, h1, RVs.anti (g := g) (g0 := ⟨g.bad, g.hs ++ [Dp]⟩) (fun _ h => h) wk _ _ h2⟩
      · simp only [RV]
        exact ⟨Dp, rfl, by rw [← l.s.len]; simp⟩
    · have hb : ∀ b, (G.off g Dp).bad b → g.bad b := fun b h => h.1
      have hh : ∀ (i : Nat) (a : Addr), g.hs[i]? = some a → (G.off g Dp).hs[i]? = some a := fun _ _ h => h
      refine p (g.off Dp) H _ ⟨l.keep, l.kb, fun b o q n h => l.good b o q n h.1, fun b h => ⟨l.sub b h, fun q => ?_⟩, m, em, fun b hb => (fm b hb).1⟩ ?_ ?_
      · obtain ⟨o, z⟩ := s0.trk b h
        rw [q, hn] at z
        cases z
      · exact ⟨l.s.len, l.s.nd, fun a ha => ⟨l.s.live a ha, fun q => nh (by rw [← q]; exact ha)⟩, fun a h => l.s.trk a h.1, fun i a o e1 e2 => RO.anti hb hh (l.s.rep i a o e1 e2)⟩
      · simp only [RV]
        exact ⟨Dp, xs, rfl, h1, fun h => h.2 rfl, RVs.anti hb hh _ _ h2⟩
  · exact p.elim
end
section
variable {z : Sg} {pos : Pos}
theorem de_lc (own : Bool) (ow : List (Str × Nat)) {elt tg iter : Expr} {ifs : List Expr} {scope : Scope} {ws : List Nat} {ti : TIx} {t : TGx} {tt : TTx} {te : TEx} (hi : DI z tg iter ti) (hg : DG (z.blk scope) tg ws t) (ht : DTs (z.blk scope) ifs tt) (he : DE (z.blk scope) elt te)
    (ok : blkC z.N z.scope scope ow = true := by decide +kernel) (hw : ∀ j ∈ ws, j ∈ ow.map (·.2) := by decide) (hs : ∀ env x, foldedSetIterable iter env x = pure x := by intro _ _; rfl) :
    DE z (.ListComp elt [⟨tg, iter, ifs, 0⟩] scope pos) (eLc own (ow.map (·.2)) ti t tt te) := by
  obtain ⟨wi, h1, q1⟩ := hi
  obtain ⟨τg, h2, q2⟩ := hg
  obtain ⟨τt, h3, q3⟩ := ht
  obtain ⟨τe, h4, q4⟩ := he
  refine ⟨tLc wi τg τt τe (ow.map (·.2)), fun X f => pe_lc f.calm f.ndX (h1 X f) (by rw [f.N, f.scope]; exact blkOk_by ok) (fun s H C cl fp => h2 _ (f.blk scope s H C cl fp)) (fun s H C cl fp => h3 _ (f.blk scope s H C cl fp)) (fun s H C cl fp => h4 _ (f.blk scope s H C cl fp)) (hs _), fun g S ρ σ H Q s rs p => ?_⟩
  refine q1 g S ρ σ H _ s rs (p.bind fun ds S1 g1 H1 J e1 s1 r1 p1 => ?_)
  split at p1
  · rename_i hlen
    obtain ⟨Gd, Y, w, hG, hY⟩ := r1
    intro Dp hn
    have hd : Dp ∉ g1.hs := fun h => s1.unbad hn (s1.live _ h)
    have rs1 := rs.mono s.live e1
    have l0 : LcAt z.K g1 H1 Dp (g1.on Dp) (upd H1 Dp (.lst [])) S1 [] :=
      ⟨fun b o q _ => .inl (same_new hn b o q), fun b o q _ _ => same_new hn b o q, (Ext.on (u := .lst []) hn).good, fun _ h => .inl h, ⟨[], by simp [G.on], fun _ h => by cases h⟩, s1.on hn, ⟨[], upd_same, by simp only [RVs]⟩, .inr rfl⟩
    have bnd : ∀ {i : Nat} {acc : List D}, acc.length ≤ i → i < ds.length → acc.length < sizeLine := fun h1 h2 => by omega
    refine lc_it w (fun i H' => ∃ g' S' acc, LcAt z.K g1 H1 Dp g' H' S' acc ∧ RS z.K g' H' ρ σ ∧ acc.length ≤ i ∧ Post z.K z.W (RV z.K) g1 H1 σ Q ((compL (ow.map (·.2)) t tt te (ds.drop i) acc ρ S').bind (mkL own)))
      ⟨_, S1, [], l0, rs1.mono s1.live (Ext.on hn), Nat.le_refl _, p1⟩ (fun i H' _ h => ?_) (fun i x H' H2 hi h y => ?_) fun H' h => ?_
    · obtain ⟨g', S', acc, l, _⟩ := h
      exact hG g' H' l.ext
    · obtain ⟨g', S', acc, l, rs', hacc, p'⟩ := h
      obtain ⟨hk, d, hdx, rd⟩ := hY i H' x H2 g' S' hi l.ext l.s y
      have e2 : Ext g' H' g' H2 := Ext.same hk
      have l2 := l.later s1 hd e2 (l.s.same hk)
      have rs2 := rs'.mono l.s.live e2
      have eq : ds.drop i = d :: ds.drop (i + 1) := by
        obtain ⟨hl, hv⟩ := List.getElem?_eq_some_iff.mp hdx
        rw [List.drop_eq_getElem_cons hl, hv]
      rw [eq] at p'
      unfold compL at p'
      rw [Out.bind_assoc] at p'
      refine q2 g' S' _ _ H2 d x _ l2.s (rs2.wipe _) rd (PostG.nox p' fun ρ3 S3 g3 H3 σ3 e3 s3 r3 off p3 => ?_)
      refine ⟨wipe_off off hw, ?_⟩
      have l3 := l2.later s1 hd e3 s3
      have rs3 := rs2.mono l2.s.live e3
      rw [Out.bind_assoc] at p3
      refine q3 g3 S3 ρ3 σ3 H3 _ s3 r3 (Post.bindN p3 fun k S4 g4 H4 k' e4 s4 r4 p4 => ?_)
      have r4 : k = k' := r4
      subst r4
      have l4 := l3.later s1 hd e4 s4
      have rs4 := rs3.mono l3.s.live e4
      show if k = true then _ else _
      split
      · rename_i hkt
        rw [if_pos hkt, Out.bind_assoc] at p4
        refine q4 g4 S4 ρ3 σ3 H4 _ s4 (r3.mono s3.live e4) (Post.bindN p4 fun yv S5 g5 H5 v e5 s5 r5 p5 => ?_)
        have l5 := l4.later s1 hd e5 s5
        obtain ⟨xs, hx1, hx2⟩ := l5.at_
        refine ⟨xs, hx1, by rw [hx2.length]; exact bnd hacc hi, g5, S5, acc ++ [yv], l5.push hn hd hx1 r5, ?_, by simp; omega, p5⟩
        exact (rs4.mono l4.s.live e5).wk (Wk.wr l5.bd) _ _
      · rename_i hkf
        rw [if_neg hkf] at p4
        exact ⟨g4, S4, acc, l4, rs4, by omega, p4⟩
    · obtain ⟨g', S', acc, l, _, _, p'⟩ := h
      rw [List.drop_length] at p'
      exact l.fin s1 hn hd p'
  · exact p1.elim
end
end TL
set_option Elab.async false
set_option linter.all false
set_option maxRecDepth 100000
set_option maxHeartbeats 4000000
/-! The tree layer, part 6: defs and their calls. -/
namespace TL
open PySem PySem.Spec PyProof.Rows L2

/-- what a def does: from its arguments and the store -/
abbrev TF := List D → List O → Out D
/-- a def's wish about what it raises -/
abbrev wX (E : XK) : WX := fun c dd _ H => E c dd H
structure TFn (P : Program) (w : World) (K : PySem.W.Frag) (mg : Str → Option Value) (base : Heap) (k : Nat) (f : Addr) (fd : FuncData) (ps : List Str) (F : TF) : Prop where
  run : ∀ (A : Around) (outer : List Env) (s : Shared) (H : Hp) (args : Args) (us : List Value) (vs : List V) (Q : VK) (E : XK) (g : G) (S : List O) (ds : List D), Room k A → A.guards = some [] → Env0 P w K mg base A outer s H → BindsTo s fd args (ps.zip us) → Vals vs us →
    vs.length = ps.length → SR K g S H → RVs K g H ds vs → Post K (wX E) (RV K) g H [] Q (F ds S) → codeAny (model P w) A (.call (.ref f) args) (CR (CX P w) outer P w H s Q E) s
def OutS.fin (o : OutS) : Out D := match o with
  | .nx _ S => .ok .non S
  | .rt d S => .ok d S
  | .exc C d _ S => .exc C d S
  | _ => .stuck
def startD (N : List Str) (ds : List D) : Env1 := ds.map some ++ List.replicate (N.length - ds.length) none
def bodyF (n : Nat) (N : List Str) (t : TSx) : TF := fun ds S => if ds.length = n then (t (startD N ds) S).fin else .stuck
section
variable {K : PySem.W.Frag} {W : WX} {g : G} {H : Hp}
theorem RS.none : ∀ n : Nat, RS K g H (List.replicate n Option.none) (List.replicate n Option.none)
  | 0 => by simp only [List.replicate_zero, RS]
  | n + 1 => by
    simp only [List.replicate_succ, RS]
    exact ⟨_, _, rfl, RS.none n⟩
theorem RS.start : ∀ {ds : List D} {vs : List V} {r : Env1} {q : L2.St}, RVs K g H ds vs → RS K g H r q → RS K g H (ds.map some ++ r) (vs.map some ++ q)
  | [], _, _, _, h, k => by simp only [RVs] at h; subst h; exact k
  | d :: ds, _, _, _, h, k => by
    simp only [RVs] at h
    obtain ⟨v, r, rfl, e2, e3⟩ := h
    simp only [List.map_cons, List.cons_append, RS]
    exact ⟨v, _, rfl, e2, RS.start e3 k⟩
theorem startD_ok {N : List Str} {ds : List D} {vs : List V} (r : RVs K g H ds vs) : RS K g H (startD N ds) (L2.start N vs) := by
  unfold startD L2.start
  rw [r.length]
  exact RS.start r (RS.none _)
theorem PostS.fin {E : XK} {Q : VK} : ∀ {o : OutS}, Post K (wX E) (RV K) g H [] Q o.fin → PostS K (wX E) g H { nx := fun _ H' => Q .non H', rt := Q } o
  | .nx ρ S, h => fun g' H' σ' e s r => h g' H' .non e s (by simp only [RV])
  | .rt d S, h => fun g' H' v e s r => h g' H' v e s r
  | .exc C d ρ S, h => fun g' H' σ' c dd e s r x => h g' H' c dd e s x
  | .bk _ _, h => h.elim
  | .ct _ _, h => h.elim
  | .stuck, h => h.elim
end
section
variable {P : Program} {w : World} {K : PySem.W.Frag} {mg : Str → Option Value} {base : Heap} {x qual : Str} {params : Arguments} {body : List Stmt} {scope : Scope} {dvs : List V} {kws : List (Str × V)} {f : Addr} {fd : FuncData} {N ps : List Str} {k : Nat}
/-- the place of a def's body -/
def Sg.of (P : Program) (w : World) (K : PySem.W.Frag) (mg : Str → Option Value) (base : Heap) (N : List Str) (scope : Scope) (k : Nat) (E : XK) (qual : Str) (code : Value) : Sg := ⟨P, w, K, mg, base, N, scope, fun _ => true, k, wX E, qual ++ ".<locals>.", code⟩
theorem fits_of {qual : Str} {cdv : Value} {A : Around} {outer : List Env} {s : Shared} {H : Hp} {E : XK} (S : FnScope N ps scope) (hr : Room k (A.deeper (envOfC qual scope s.heap.objs.size f cdv))) (hg : A.guards = some []) :
    Fits (Sg.of P w K mg base N scope k E qual cdv) (cxOf (CX P w) P w K mg base N qual scope f cdv A outer s H E) :=
  ⟨rfl, rfl, rfl, rfl, rfl, rfl, rfl, rfl, S.nd, fun _ _ => rfl, hr, hg, takes_of rfl rfl rfl rfl, passes_of rfl, rfl, rfl⟩
/-- THE RULE for a def -/
theorem tfn_of {t : TSx} (F : FunD K x qual params body scope dvs kws f fd) (S : FnScope N ps scope) (hb : ∀ E, DSs (Sg.of P w K mg base N scope k E qual (cdAt K f)) body t) : TFn P w K mg base (k + 1) f fd ps (bodyF ps.length N t) := by
  obtain ⟨oc, od, dV, kV, doc, pm, an, cdv, ct, osl, rfl, lk, hcd, _, _⟩ := F.ex
  have ecd : cdAt K f = cdv := by
    unfold cdAt
    rw [lk]
  rw [ecd] at hb
  refine ⟨fun A outer s H args us vs Q E g St ds hr hgd e0 hbd rv hlen hs rvs hp => ?_⟩
  have KX : K.In s.heap := e0.mod.kin.keeps fun b o q => (e0.bs b o q).1
  have lim : s.heap.NoLimit := e0.mod.nolimit.keeps fun b o q => (e0.bs b o q).1
  have hkd : ∀ y ∈ ps.zip us, scope.names.lookup y.1 = some .local ∨ (scope.names.lookup y.1 = some .cell ∧ ((cellsFrom (s.heap.objs.size + 1) scope.names []).lookup y.1).isSome = true) := fun y hy => by
    rcases S.par y.1 (List.of_mem_zip (a := y.1) (b := y.2) hy).1 with q | q
    · exact .inl q
    · exact .inr ⟨q, PySem.W.cellsFrom_some _ _ _ (.inl q)⟩
  refine codeAny_call_function hr.depth (KX _ _ lk) rfl S.co S.gen rfl (PySem.W.codeRec_of KX hcd) (hbd _ _ _ _ ?_)
  refine wpAny_newFunctionEnv_cells S.kind hkd fun env he s1 hx => ?_
  subst he
  refine ⟨lim.keeps hx.toInCall.keep, codeAny_func ?_⟩
  obtain ⟨τ, ht, hq⟩ := hb E
  have I : Inv (cxOf (CX P w) P w K mg base N qual scope f cdv A outer s H E) [] (L2.start N vs) H s1 := inv_start S hr.hd e0 hlen rv hx
  have hp' : PostS K (wX E) g H { nx := fun _ H' => Q .non H', rt := Q } (t (startD N ds) St) := by
    unfold bodyF at hp
    rw [if_pos (by rw [← rvs.length]; exact hlen)] at hp
    exact PostS.fin hp
  have rd := hq g St (startD N ds) (L2.start N vs) H { nx := fun _ H' => Q .non H', rt := Q } hs (startD_ok rvs) hp'
  refine wpAny_mono ((ht _ (fits_of S (hr.deeper _) hgd)).run [] s1 _ H _ I rd) (fun fl s' hfl => ?_) fun e s' he => he
  have fin : ∀ {σ' : L2.St} {H' : Hp} {v : V} {u : Value}, Inv (cxOf (CX P w) P w K mg base N qual scope f cdv A outer s H E) [] σ' H' s' → RelV v u → Q v H' → CE outer P w H s Q u s' := fun {σ' H' v u} J r q => ⟨v, H', J.os, J.bare, J.base, J.hok, r, q⟩
  cases fl with
  | ret u =>
    obtain ⟨v, σ', H', J, r, q⟩ := hfl
    exact fin J r q
  | next =>
    obtain ⟨σ', H', J, q⟩ := hfl
    exact fin (v := V.non) (u := Value.none) J rfl q
  | brk =>
    obtain ⟨_, _, _, q⟩ := hfl
    exact q.elim
  | cont =>
    obtain ⟨_, _, _, q⟩ := hfl
    exact q.elim
theorem TFn.mono {j : Nat} {F : TF} (h : TFn P w K mg base j f fd ps F) (hj : j ≤ k) : TFn P w K mg base k f fd ps F := ⟨fun A outer s H args us vs Q E g S ds hr => h.run A outer s H args us vs Q E g S ds (hr.mono hj)⟩
/-- another reading of what it does -/
theorem TFn.imp {F F' : TF} (h : TFn P w K mg base k f fd ps F) (q : ∀ ds S, F' ds S = .stuck ∨ F' ds S = F ds S) : TFn P w K mg base k f fd ps F' := ⟨fun A outer s H args us vs Q E g S ds hr hg e0 hb r hl hs hd hp => by
  rcases q ds S with e | e
  · rw [e] at hp
    exact hp.elim
  · rw [e] at hp
    exact h.run A outer s H args us vs Q E g S ds hr hg e0 hb r hl hs hd hp⟩
/-- its new handles are dropped -/
theorem TFn.cut {F : TF} (h : TFn P w K mg base k f fd ps F) : TFn P w K mg base k f fd ps (fun ds S => (F ds S).cut S.length) := ⟨fun A outer s H args us vs Q E g S ds hr hg e0 hb r hl hs hd hp => h.run A outer s H args us vs Q E g S ds hr hg e0 hb r hl hs hd (Post.cut hs hp)⟩
end

/-! ### a call -/
theorem Post.wx {K : PySem.W.Frag} {W : WX} {g : G} {H : Hp} {σ : L2.St} {Q : VK} : ∀ {o : Out D}, Post K W (RV K) g H σ Q o → Post K (wX fun c dd H' => W c dd σ H') (RV K) g H [] Q o
  | .ok _ _, h => h
  | .exc _ _ _, h => h
  | .stuck, h => h
/-- what a call asks -/
def tCallD (K : PySem.W.Frag) (W : WX) (ps : List Str) (F : TF) (σ : L2.St) (vs : List V) (H : Hp) (Q : VK) : Prop :=
  vs.length = ps.length ∧ ∃ g S ds, SR K g S H ∧ RVs K g H ds vs ∧ Post K W (RV K) g H σ Q (F ds S)
section
variable {z : Sg} {X : Cx} {k : Nat} {f : Addr} {fd : FuncData} {ps : List Str} {F : TF} {ds : List Value} {dvs : List V} {dfl : List D}
theorem run_tfn {pins : List (Addr × Obj)} {σ : L2.St} {H : Hp} {s : Shared} {Q : VK} {us : List Value} {vs : List V} (Fn : TFn z.P z.w z.K z.mg z.base k f fd ps F) (fx : Fits z X) (hk : k ≤ z.lv) (hb : Binds z.K fd ps ds) (hd : Vals dvs ds) (I : Inv X pins σ H s) (r : Vals vs us)
    (q : tCallD z.K z.W ps F σ (vs ++ dvs) H Q) : wpAny (model X.prog X.w) X.A (call (.ref f) us) (EP X pins σ Q) X.xe s := by
  obtain ⟨hl, g, S, es, hs, rv, hp⟩ := q
  have r2 : Vals (vs ++ dvs) (us ++ ds) := r.append hd
  have e0 := I.env0
  have KX := I.kIn
  have fin : ∀ (rr : Result) (s' : Shared), CR (CX X.prog X.w) X.stack X.prog X.w H s Q (fun c dd H' => z.W c dd σ H') rr s' → (match rr with | .ok (.ret u) => EP X pins σ Q u s' | .ok _ => False | .error e => X.xe e s') := by
    intro rr s' hq
    cases rr with
    | error e => exact fx.takes e s' (XE.of_call I (fun _ _ _ q => q) hq)
    | ok fl =>
      cases fl with
      | ret u => exact I.after hq
      | _ => exact hq
  rw [fx.prog, fx.w, fx.K, fx.mg, fx.base] at e0
  rw [fx.K] at KX
  rw [fx.prog, fx.w] at fin ⊢
  refine wpAny_call (codeAny_mono (Fn.run X.A X.stack s H ⟨us, []⟩ (us ++ ds) (vs ++ dvs) Q _ g S es (fx.room.mono hk) fx.gd e0 (hb s us KX (by rw [← r2.length]; exact hl)) r2 hl hs rv hp.wx) fun rr s' hq => ?_)
  have z := fin rr s' hq
  cases rr with
  | error e => exact z
  | ok fl =>
    cases fl with
    | ret u => exact z
    | _ => exact z.elim
/-- f(e, ..), f a def of the module -/
theorem de_call {x : Str} {e : Expr} {es : List Expr} {p pos : Pos} {ta : TAx} (Fn : TFn z.P z.w z.K z.mg z.base k f fd ps F) (hk : k ≤ z.lv) (hm : z.mg x = some (.ref f)) (kp : PySem.W.keepIn z.K (.ref f) = true) (hb : Binds z.K fd ps ds) (hd : Vals dvs ds) (hdf : ∀ g H, RVs z.K g H dfl dvs)
    (ha : DA z (e :: es) ta) (hg : Gz z x := by rfl) (hdb : (x == ("__debug__" : Str)) = false := by decide) (he : ∀ env, starEach (e :: es) env = (false, eval e env) :: starEach es env := by intro _; rfl) (hpl : ∀ env, (backTo pos (starEach es env)).any (·.1) = false := by intro _; rfl) :
    DE z (.Call (.Name x p) (e :: es) [] pos) (eArgs (fun vs S => if (vs ++ dfl).length = ps.length then F (vs ++ dfl) S else .stuck) ta) := by
  obtain ⟨τ, h1, q1⟩ := ha
  refine ⟨fun σ H Q => τ σ H fun vs H1 => tCallD z.K z.W ps F σ (vs ++ dvs) H1 Q, fun X fx => ⟨fun pins s σ H Q I h => ?_⟩, fun g S ρ σ H Q s rs p => ?_⟩
  · refine wpAny_Call_Name_kw (ld_glob I (fx.gl hg) (fx.mgl hm) ?_ hdb)
    have kp' : PySem.W.keepIn X.K (.ref f) = true := by rw [fx.K]; exact kp
    exact PySem.W.callWith_K (h₀ := X.base) I.ok.mod.kin kp' (thn ((h1 X fx).run pos pins s σ H _ I h) fun us s1 ⟨vs, H1, I1, r, q⟩ => ⟨I1.kIn, run_tfn Fn fx hk hb hd I1 r q⟩) (he _) (hpl _)
  · refine q1 g S ρ σ H _ s rs (p.bind fun xs S1 g1 H1 vs e1 s1 r1 p1 => ?_)
    split at p1
    · rename_i hl
      refine ⟨?_, g1, S1, xs ++ dfl, s1, r1.append (hdf g1 H1), p1⟩
      rw [← hl, (r1.append (hdf g1 H1)).length]
    · exact p1.elim
/-- f(), f a def of the module -/
theorem de_call0 {x : Str} {p pos : Pos} (Fn : TFn z.P z.w z.K z.mg z.base k f fd ps F) (hk : k ≤ z.lv) (hm : z.mg x = some (.ref f)) (kp : PySem.W.keepIn z.K (.ref f) = true) (hb : Binds z.K fd ps ds) (hd : Vals dvs ds) (hdf : ∀ g H, RVs z.K g H dfl dvs)
    (hg : Gz z x := by rfl) (hdb : (x == ("__debug__" : Str)) = false := by decide) : DE z (.Call (.Name x p) [] [] pos) (fun _ S => if dfl.length = ps.length then F dfl S else .stuck) := by
  refine ⟨fun σ H Q => tCallD z.K z.W ps F σ dvs H Q, fun X fx => ⟨fun pins s σ H Q I h => ?_⟩, fun g S ρ σ H Q s rs p => ?_⟩
  · refine wpAny_Call_Name_kw (ld_glob I (fx.gl hg) (fx.mgl hm) ?_ hdb)
    have kp' : PySem.W.keepIn X.K (.ref f) = true := by rw [fx.K]; exact kp
    exact PySem.W.callWith_K0 I.kIn kp' (run_tfn (us := []) (vs := []) Fn fx hk hb hd I .nil h)
  · split at p
    · rename_i hl
      refine ⟨?_, g, S, dfl, s, hdf g H, p⟩
      rw [← hl, (hdf g H).length]
    · exact p.elim
end
end TL
set_option Elab.async false
set_option linter.all false
set_option maxRecDepth 100000
set_option maxHeartbeats 4000000
/-! The tree layer, part 7: built-in functions, items, slices, methods. -/
namespace TL
open PySem PySem.Spec PyProof.Rows L2

section
variable {z : Sg} {e a b : Expr} {es : List Expr} {ta : TAx} {t tb : TEx} {p pos : Pos}
theorem de_callB {id : String} {x : Str} {r : List V → Hp → VK → Prop} {f : List D → List O → Out D} (hc : ∀ X, Fits z X → CallR X (.builtin id) r) (ok : OkL z.K z.W r f) (hv : bootBuiltins x = some (.builtin id)) (hm : z.mg x = none) (ha : DA z (e :: es) ta)
    (hg : Gz z x := by rfl) (hn : x ≠ "__name__" := by decide) (hd : (x == ("__debug__" : Str)) = false := by decide) (hs : ∀ env, starEach (e :: es) env = (false, eval e env) :: starEach es env := by intro _; rfl) (hp : ∀ env, (backTo pos (starEach es env)).any (·.1) = false := by intro _; rfl) :
    DE z (.Call (.Name x p) (e :: es) [] pos) (eArgs f ta) :=
  de_args (fun X fx τ h => pe_callB (hc X fx) (fx.gl hg) (fx.mgl hm) hv h hn hd (hs _) (hp _)) ok ha
theorem de_callTy {T : String} {x : Str} {r : List V → Hp → VK → Prop} {f : List D → List O → Out D} (hc : ∀ X, Fits z X → CallR X (.type T) r) (ok : OkL z.K z.W r f) (hv : bootBuiltins x = some (.type T)) (hm : z.mg x = none) (ha : DA z (e :: es) ta)
    (hg : Gz z x := by rfl) (hn : x ≠ "__name__" := by decide) (hd : (x == ("__debug__" : Str)) = false := by decide) (hs : ∀ env, starEach (e :: es) env = (false, eval e env) :: starEach es env := by intro _; rfl) (hp : ∀ env, (backTo pos (starEach es env)).any (·.1) = false := by intro _; rfl) :
    DE z (.Call (.Name x p) (e :: es) [] pos) (eArgs f ta) :=
  de_args (fun X fx τ h => pe_callTy (hc X fx) (fx.gl hg) (fx.mgl hm) hv h hn hd (hs _) (hp _)) ok ha
end

/-! ### len, int, abs, max, min -/
def lenD (ds : List D) (S : List O) : Out D := match ds with
  | [.str y] => if y.length ≤ sizeLine then .ok (.int y.length) S else .stuck
  | [.hnd i] => (match S[i]? with
    | some (.dct kvs) => .ok (.int kvs.length) S
    | some (.lst xs) => .ok (.int xs.length) S
    | _ => .stuck)
  | [d] => (match seqOf S d with
    | some xs => .ok (.int xs.length) S
    | none => .stuck)
  | _ => .stuck
def intD (ds : List D) (S : List O) : Out D := match ds with
  | [.int i] => .ok (.int i) S
  | [.bl b] => .ok (.int (if b then 1 else 0)) S
  | _ => .stuck
def absD (ds : List D) (S : List O) : Out D := match ds with
  | [.int i] => .ok (.int (if i < 0 then -i else i)) S
  | _ => .stuck
def max2D (ds : List D) (S : List O) : Out D := match ds with
  | [.int i, .int j] => .ok (.int (if j > i then j else i)) S
  | _ => .stuck
def min2D (ds : List D) (S : List O) : Out D := match ds with
  | [.int i, .int j] => .ok (.int (if j < i then j else i)) S
  | _ => .stuck
section
variable {K : PySem.W.Frag} {W : WX} {g : G} {H : Hp}
theorem rvs1 {d : D} {vs : List V} (h : RVs K g H [d] vs) : ∃ v, vs = [v] ∧ RV K g H d v := by
  simp only [RVs] at h
  obtain ⟨v, r, rfl, h1, rfl⟩ := h
  exact ⟨v, rfl, h1⟩
theorem rvs2 {d e : D} {vs : List V} (h : RVs K g H [d, e] vs) : ∃ v u, vs = [v, u] ∧ RV K g H d v ∧ RV K g H e u := by
  simp only [RVs] at h
  obtain ⟨v, r, rfl, h1, u, r2, rfl, h2, rfl⟩ := h
  exact ⟨v, u, rfl, h1, h2⟩
abbrev rLenA (K : PySem.W.Frag) : List V → Hp → VK → Prop := fun xs H Q => (∃ x n, xs = [x] ∧ LenV K x H n ∧ Q (.int n) H) ∨ ∃ (a : Addr) (kvs : List (Key × V)), xs = [.ref a] ∧ kvs = kvs ∧ H a = some (.dK kvs) ∧ Q (.int kvs.length) H
theorem ok_len : OkL K W (rLenA K) lenD := by
  intro g S H σ Q xs vs s r p
  unfold lenD at p
  split at p
  · split at p
    · obtain ⟨v, rfl, rr⟩ := rvs1 r
      exact .inl ⟨v, _, rfl, by rw [rv_str rr]; exact ⟨by assumption, rfl⟩, p.here s (by simp only [RV])⟩
    · exact p.elim
  · rename_i i
    obtain ⟨v, rfl, rr⟩ := rvs1 r
    simp only [RV] at rr
    obtain ⟨a, rfl, h0⟩ := rr
    split at p
    · rename_i kvs q
      obtain ⟨ws, h1, h2⟩ := s.rep i a _ h0 q
      exact .inr ⟨a, ws, rfl, rfl, h1, p.here s (by simp only [RV, h2.length])⟩
    · rename_i xs q
      obtain ⟨ws, h1, h2⟩ := s.rep i a _ h0 q
      exact .inl ⟨_, ws.length, rfl, .inl ⟨ws, .inl (.inl h1), rfl⟩, p.here s (by simp only [RV, h2.length])⟩
    · exact p.elim
  · split at p
    · rename_i ds q
      obtain ⟨v, rfl, rr⟩ := rvs1 r
      obtain ⟨a, ws, rfl, h1, h2⟩ := seq_at s q rr
      refine .inl ⟨_, ws.length, rfl, ?_, p.here s (by simp only [RV, h2.length])⟩
      rcases h1 with h1 | h1
      · exact .inl ⟨ws, h1, rfl⟩
      · exact .inr ⟨ws, h1, rfl⟩
    · exact p.elim
  · exact p.elim
theorem ok_int : OkL K W (fun xs H Q => (∃ i, xs = [.int i] ∧ Q (.int i) H) ∨ ∃ k, xs = [.bl k] ∧ Q (.int (if k then 1 else 0)) H) intD := by
  intro g S H σ Q xs vs s r p
  unfold intD at p
  split at p
  · obtain ⟨v, rfl, rr⟩ := rvs1 r
    exact .inl ⟨_, by rw [rv_int rr], p.here s (by simp only [RV])⟩
  · obtain ⟨v, rfl, rr⟩ := rvs1 r
    exact .inr ⟨_, by rw [rv_bl rr], p.here s (by simp only [RV])⟩
  · exact p.elim
theorem ok_abs : OkL K W (fun xs H Q => ∃ i, xs = [.int i] ∧ Q (.int (if i < 0 then -i else i)) H) absD := by
  intro g S H σ Q xs vs s r p
  unfold absD at p
  split at p
  · obtain ⟨v, rfl, rr⟩ := rvs1 r
    exact ⟨_, by rw [rv_int rr], p.here s (by simp only [RV])⟩
  · exact p.elim
theorem ok_max2 : OkL K W (fun xs H Q => ∃ i j, xs = [.int i, .int j] ∧ Q (.int (if j > i then j else i)) H) max2D := by
  intro g S H σ Q xs vs s r p
  unfold max2D at p
  split at p
  · obtain ⟨v, u, rfl, r1, r2⟩ := rvs2 r
    exact ⟨_, _, by rw [rv_int r1, rv_int r2], p.here s (by simp only [RV])⟩
  · exact p.elim
theorem ok_min2 : OkL K W (fun xs H Q => ∃ i j, xs = [.int i, .int j] ∧ Q (.int (if j < i then j else i)) H) min2D := by
  intro g S H σ Q xs vs s r p
  unfold min2D at p
  split at p
  · obtain ⟨v, u, rfl, r1, r2⟩ := rvs2 r
    exact ⟨_, _, by rw [rv_int r1, rv_int r2], p.here s (by simp only [RV])⟩
  · exact p.elim
end
section
variable {z : Sg} {e : Expr} {es : List Expr} {ta : TAx} {t : TEx} {p pos : Pos}
theorem de_len {e : Expr} (hm : z.mg "len" = none) (ha : DA z [e] ta) (hg : Gz z "len" := by rfl) (hs : ∀ env, starEach [e] env = (false, eval e env) :: starEach [] env := by intro _; rfl) : DE z (.Call (.Name "len" p) [e] [] pos) (eArgs lenD ta) :=
  de_callB (fun X f => f.K ▸ call_len.or (fun pins s σ H xs us Q I r h => by
    obtain ⟨a, kvs, e1, _, e2, q⟩ := h
    exact call_lenD pins s σ H xs us Q I r ⟨a, kvs, e1, e2, q⟩)) ok_len boot_len hm ha hg (by decide) (by decide) hs
theorem de_intc {e : Expr} (hm : z.mg "int" = none) (ha : DA z [e] ta) (hg : Gz z "int" := by rfl) (hs : ∀ env, starEach [e] env = (false, eval e env) :: starEach [] env := by intro _; rfl) : DE z (.Call (.Name "int" p) [e] [] pos) (eArgs intD ta) :=
  de_callTy (fun X f => call_int1) ok_int (by decide +kernel) hm ha hg (by decide) (by decide) hs
theorem de_abs {e : Expr} (hm : z.mg "abs" = none) (ha : DA z [e] ta) (hg : Gz z "abs" := by rfl) (hs : ∀ env, starEach [e] env = (false, eval e env) :: starEach [] env := by intro _; rfl) : DE z (.Call (.Name "abs" p) [e] [] pos) (eArgs absD ta) :=
  de_callB (fun X f => call_abs) ok_abs (by decide +kernel) hm ha hg (by decide) (by decide) hs
theorem de_max2 {a b : Expr} (hm : z.mg "max" = none) (ha : DA z [a, b] ta) (hg : Gz z "max" := by rfl) (hs : ∀ env, starEach [a, b] env = (false, eval a env) :: starEach [b] env := by intro _; rfl) (hp : ∀ env, (backTo pos (starEach [b] env)).any (·.1) = false := by intro _; rfl) : DE z (.Call (.Name "max" p) [a, b] [] pos) (eArgs max2D ta) :=
  de_callB (fun X f => call_max2 f.calm) ok_max2 (by decide +kernel) hm ha hg (by decide) (by decide) hs hp
theorem de_min2 {a b : Expr} (hm : z.mg "min" = none) (ha : DA z [a, b] ta) (hg : Gz z "min" := by rfl) (hs : ∀ env, starEach [a, b] env = (false, eval a env) :: starEach [b] env := by intro _; rfl) (hp : ∀ env, (backTo pos (starEach [b] env)).any (·.1) = false := by intro _; rfl) : DE z (.Call (.Name "min" p) [a, b] [] pos) (eArgs min2D ta) :=
  de_callB (fun X f => call_min2 f.calm) ok_min2 (by decide +kernel) hm ha hg (by decide) (by decide) hs hp
end

/-! ### isinstance against built-in types -/
def tyD (S : List O) : D → Option String
  | .non => some "NoneType"
  | .bl _ => some "bool"
  | .int _ => some "int"
  | .str _ => some "str"
  | .tup _ => some "tuple"
  | .lst _ => some "list"
  | .scr _ => some "list"
  | .dct _ => some "dict"
  | .hnd i => (match S[i]? with
    | some (.lst _) => some "list"
    | some (.dct _) => some "dict"
    | _ => none)
  | _ => none
abbrev tyL : List String := ["NoneType", "bool", "int", "str", "tuple", "list", "dict"]
abbrev tyR : List String := ["bool", "int", "str", "tuple", "list", "dict"]
def isTy (a n : String) : Option Bool := if a ∈ tyL ∧ n ∈ tyR then some (decide (a = n) || (decide (a = "bool") && decide (n = "int"))) else none
theorem isTy_all : ∀ a ∈ tyL, ∀ n ∈ tyR, kitB a n = some (decide (a = n) || (decide (a = "bool") && decide (n = "int"))) := by decide +kernel
theorem isTy_ok {K : PySem.W.Frag} {a n : String} {b : Bool} (h : isTy a n = some b) : PySem.W.kitOne K (.type a) (.type n) = some b := by
  unfold isTy at h
  split at h
  · rename_i q
    cases h
    exact kit_ty (isTy_all a q.1 n q.2)
  · cases h
theorem tyD_ok {K : PySem.W.Frag} {g : G} {S : List O} {H : Hp} (s : SR K g S H) {d : D} {v : V} {a : String} (r : RV K g H d v) (h : tyD S d = some a) : TyX K H v (.type a) := by
  cases d with
  | non => rw [rv_non r]; cases h; exact .base .non
  | bl c => rw [rv_bl r]; cases h; exact .base (.bl c)
  | int i => rw [rv_int r]; cases h; exact .base (.int i)
  | str y => rw [rv_str r]; cases h; exact .base (.str y)
  | tup ds =>
    cases h
    simp only [RV] at r
    obtain ⟨p, xs, rfl, h1, _⟩ := r
    rcases h1 with ⟨h1, _⟩ | ⟨o, its, n, h1, h2, _⟩
    · exact .base (.tup h1)
    · exact .kTuple h1 h2
  | lst ds =>
    cases h
    simp only [RV] at r
    obtain ⟨p, xs, rfl, h1, _⟩ := r
    exact .base (.lst h1)
  | scr ns =>
    cases h
    simp only [RV] at r
    obtain ⟨p, rfl, h1⟩ := r
    rcases h1 with ⟨⟨o, h1⟩, _⟩ | ⟨o, its, n, h1, h2, _⟩
    · exact .base (.frz h1)
    · exact .kList h1 h2
  | dct kvs =>
    cases h
    simp only [RV] at r
    obtain ⟨p, ws, rfl, h1, _⟩ := r
    rcases h1 with h1 | ⟨o, h1⟩
    · exact .base (.dK h1)
    · exact .fDict h1
  | hnd i =>
    simp only [RV] at r
    obtain ⟨p, rfl, h1⟩ := r
    simp only [tyD] at h
    split at h
    · rename_i ds q
      cases h
      obtain ⟨xs, h2, _⟩ := s.rep i p _ h1 q
      exact .base (.lst h2)
    · rename_i kvs q
      cases h
      obtain ⟨ws, h2, _⟩ := s.rep i p _ h1 q
      exact .base (.dK h2)
    · cases h
  | _ => cases h
def isiD (ds : List D) (S : List O) : Out D := match ds with
  | [d, .ty n] => (match tyD S d with
    | some a => (match isTy a n with
      | some b => .ok (.bl b) S
      | none => .stuck)
    | none => .stuck)
  | _ => .stuck
theorem ok_isi {K : PySem.W.Frag} {W : WX} : OkL K W (rIsi K) isiD := by
  intro g S H σ Q xs vs s r p
  unfold isiD at p
  split at p
  · split at p
    · rename_i a q
      split at p
      · rename_i b q2
        obtain ⟨v, u, rfl, r1, r2⟩ := rvs2 r
        simp only [RV] at r2
        subst r2
        exact ⟨v, _, _, _, b, rfl, .ty _, tyD_ok s r1 q, isTy_ok q2, p.here s (by simp only [RV])⟩
      · exact p.elim
    · exact p.elim
  · exact p.elim
section
variable {z : Sg} {a b : Expr} {ta : TAx} {p pos : Pos}
theorem de_isi (hm : z.mg "isinstance" = none) (ha : DA z [a, b] ta) (hg : Gz z "isinstance" := by rfl) (hs : ∀ env, starEach [a, b] env = (false, eval a env) :: starEach [b] env := by intro _; rfl) (hp : ∀ env, (backTo pos (starEach [b] env)).any (·.1) = false := by intro _; rfl) : DE z (.Call (.Name "isinstance" p) [a, b] [] pos) (eArgs isiD ta) :=
  de_callB (fun X f => f.K ▸ call_isi) ok_isi (by decide +kernel) hm ha hg (by decide) (by decide) hs hp
end

/-! ### all, any, sum; list, tuple -/
def blsOf : List D → Option (List Bool)
  | [] => some []
  | .bl b :: r => (blsOf r).map (b :: ·)
  | _ => none
def intsOf : List D → Option (List Int)
  | [] => some []
  | .int i :: r => (intsOf r).map (i :: ·)
  | _ => none
def strsOf : List D → Option (List Str)
  | [] => some []
  | .str i :: r => (strsOf r).map (i :: ·)
  | _ => none
section
variable {K : PySem.W.Frag} {g : G} {H : Hp}
theorem bls_vals : ∀ {ds : List D} {bs : List Bool} {xs : List V}, blsOf ds = some bs → RVs K g H ds xs → xs = bs.map V.bl
  | [], _, _, e, r => by simp only [blsOf] at e; simp only [RVs] at r; cases e; subst r; rfl
  | .bl b :: ds, _, _, e, r => by
    simp only [blsOf] at e
    simp only [RVs, RV] at r
    obtain ⟨v, q, rfl, rfl, r2⟩ := r
    cases h : blsOf ds with
    | none => rw [h] at e; cases e
    | some bs =>
      rw [h] at e
      cases e
      rw [bls_vals h r2]
      rfl
  | .non :: _, _, _, e, _ => by simp only [blsOf] at e; cases e
  | .int _ :: _, _, _, e, _ => by simp only [blsOf] at e; cases e
  | .str _ :: _, _, _, e, _ => by simp only [blsOf] at e; cases e
  | .ty _ :: _, _, _, e, _ => by simp only [blsOf] at e; cases e
  | .tup _ :: _, _, _, e, _ => by simp only [blsOf] at e; cases e
  | .lst _ :: _, _, _, e, _ => by simp only [blsOf] at e; cases e
  | .scr _ :: _, _, _, e, _ => by simp only [blsOf] at e; cases e
  | .dct _ :: _, _, _, e, _ => by simp only [blsOf] at e; cases e
  | .ins _ _ :: _, _, _, e, _ => by simp only [blsOf] at e; cases e
  | .cls _ :: _, _, _, e, _ => by simp only [blsOf] at e; cases e
  | .exc _ _ :: _, _, _, e, _ => by simp only [blsOf] at e; cases e
  | .hnd _ :: _, _, _, e, _ => by simp only [blsOf] at e; cases e
  | .any :: _, _, _, e, _ => by simp only [blsOf] at e; cases e
theorem ints_vals : ∀ {ds : List D} {bs : List Int} {xs : List V}, intsOf ds = some bs → RVs K g H ds xs → xs = bs.map V.int
  | [], _, _, e, r => by simp only [intsOf] at e; simp only [RVs] at r; cases e; subst r; rfl
  | .int b :: ds, _, _, e, r => by
    simp only [intsOf] at e
    simp only [RVs, RV] at r
    obtain ⟨v, q, rfl, rfl, r2⟩ := r
    cases h : intsOf ds with
    | none => rw [h] at e; cases e
    | some bs =>
      rw [h] at e
      cases e
      rw [ints_vals h r2]
      rfl
  | .non :: _, _, _, e, _ => by simp only [intsOf] at e; cases e
  | .bl _ :: _, _, _, e, _ => by simp only [intsOf] at e; cases e
  | .str _ :: _, _, _, e, _ => by simp only [intsOf] at e; cases e
  | .ty _ :: _, _, _, e, _ => by simp only [intsOf] at e; cases e
  | .tup _ :: _, _, _, e, _ => by simp only [intsOf] at e; cases e
  | .lst _ :: _, _, _, e, _ => by simp only [intsOf] at e; cases e
  | .scr _ :: _, _, _, e, _ => by simp only [intsOf] at e; cases e
  | .dct _ :: _, _, _, e, _ => by simp only [intsOf] at e; cases e
  | .ins _ _ :: _, _, _, e, _ => by simp only [intsOf] at e; cases e
  | .cls _ :: _, _, _, e, _ => by simp only [intsOf] at e; cases e
  | .exc _ _ :: _, _, _, e, _ => by simp only [intsOf] at e; cases e
  | .hnd _ :: _, _, _, e, _ => by simp only [intsOf] at e; cases e
  | .any :: _, _, _, e, _ => by simp only [intsOf] at e; cases e
theorem strs_vals : ∀ {ds : List D} {bs : List Str} {xs : List V}, strsOf ds = some bs → RVs K g H ds xs → xs = bs.map V.str
  | [], _, _, e, r => by simp only [strsOf] at e; simp only [RVs] at r; cases e; subst r; rfl
  | .str b :: ds, _, _, e, r => by
    simp only [strsOf] at e
    simp only [RVs, RV] at r
    obtain ⟨v, q, rfl, rfl, r2⟩ := r
    cases h : strsOf ds with
    | none => rw [h] at e; cases e
    | some bs =>
      rw [h] at e
      cases e
      rw [strs_vals h r2]
      rfl
  | .non :: _, _, _, e, _ => by simp only [strsOf] at e; cases e
  | .bl _ :: _, _, _, e, _ => by simp only [strsOf] at e; cases e
  | .int _ :: _, _, _, e, _ => by simp only [strsOf] at e; cases e
  | .ty _ :: _, _, _, e, _ => by simp only [strsOf] at e; cases e
  | .tup _ :: _, _, _, e, _ => by simp only [strsOf] at e; cases e
  | .lst _ :: _, _, _, e, _ => by simp only [strsOf] at e; cases e
  | .scr _ :: _, _, _, e, _ => by simp only [strsOf] at e; cases e
  | .dct _ :: _, _, _, e, _ => by simp only [strsOf] at e; cases e
  | .ins _ _ :: _, _, _, e, _ => by simp only [strsOf] at e; cases e
  | .cls _ :: _, _, _, e, _ => by simp only [strsOf] at e; cases e
  | .exc _ _ :: _, _, _, e, _ => by simp only [strsOf] at e; cases e
  | .hnd _ :: _, _, _, e, _ => by simp only [strsOf] at e; cases e
  | .any :: _, _, _, e, _ => by simp only [strsOf] at e; cases e
end
theorem blsOf_map (bs : List Bool) : blsOf (bs.map D.bl) = some bs := by
  induction bs with
  | nil => rfl
  | cons b r ih => simp only [List.map_cons, blsOf, ih]; rfl
theorem intsOf_map (bs : List Int) : intsOf (bs.map D.int) = some bs := by
  induction bs with
  | nil => rfl
  | cons b r ih => simp only [List.map_cons, intsOf, ih]; rfl
theorem strsOf_map (bs : List Str) : strsOf (bs.map D.str) = some bs := by
  induction bs with
  | nil => rfl
  | cons b r ih => simp only [List.map_cons, strsOf, ih]; rfl
def allD (ds : List D) (S : List O) : Out D := match ds with
  | [d] => (match (lstOf S d).bind blsOf with
    | some bs => .ok (.bl (bs.all id)) S
    | none => .stuck)
  | _ => .stuck
def anyD (ds : List D) (S : List O) : Out D := match ds with
  | [d] => (match (lstOf S d).bind blsOf with
    | some bs => .ok (.bl (bs.any id)) S
    | none => .stuck)
  | _ => .stuck
def sumD (ds : List D) (S : List O) : Out D := match ds with
  | [d] => (match (lstOf S d).bind intsOf with
    | some bs => .ok (.int bs.sum) S
    | none => .stuck)
  | _ => .stuck
def listD (own : Bool) (ds : List D) (S : List O) : Out D := match ds with
  | [d] => (match seqOf S d with
    | some xs => mkL own xs S
    | none => .stuck)
  | _ => .stuck
def tupleD (ds : List D) (S : List O) : Out D := match ds with
  | [.tup xs] => .ok (.tup xs) S
  | [d] => (match lstOf S d with
    | some xs => mkT xs S
    | none => .stuck)
  | _ => .stuck
section
variable {K : PySem.W.Frag} {W : WX}
theorem ok_all : OkL K W (rAll K) allD := by
  intro g S H σ Q xs vs s r p
  unfold allD at p
  split at p
  · split at p
    · rename_i d bs q
      obtain ⟨v, rfl, rr⟩ := rvs1 r
      obtain ⟨ds, h1, h2⟩ := Option.bind_eq_some_iff.mp q
      obtain ⟨a, ws, rfl, h3, h4⟩ := lst_at s h1 rr
      rw [bls_vals h2 h4] at h3
      exact ⟨a, bs, rfl, h3, p.here s (by simp only [RV])⟩
    · exact p.elim
  · exact p.elim
theorem ok_any : OkL K W (rAny K) anyD := by
  intro g S H σ Q xs vs s r p
  unfold anyD at p
  split at p
  · split at p
    · rename_i d bs q
      obtain ⟨v, rfl, rr⟩ := rvs1 r
      obtain ⟨ds, h1, h2⟩ := Option.bind_eq_some_iff.mp q
      obtain ⟨a, ws, rfl, h3, h4⟩ := lst_at s h1 rr
      rw [bls_vals h2 h4] at h3
      exact ⟨a, bs, rfl, h3, p.here s (by simp only [RV])⟩
    · exact p.elim
  · exact p.elim
theorem ok_sum : OkL K W (rSum K) sumD := by
  intro g S H σ Q xs vs s r p
  unfold sumD at p
  split at p
  · split at p
    · rename_i d bs q
      obtain ⟨v, rfl, rr⟩ := rvs1 r
      obtain ⟨ds, h1, h2⟩ := Option.bind_eq_some_iff.mp q
      obtain ⟨a, ws, rfl, h3, h4⟩ := lst_at s h1 rr
      rw [ints_vals h2 h4] at h3
      exact ⟨a, bs, rfl, h3, p.here s (by simp only [RV])⟩
    · exact p.elim
  · exact p.elim
theorem ok_list (own : Bool) : OkL K W (fun xs H Q => ∃ p ys, xs = [.ref p] ∧ (SqL K H p ys ∨ SqT K H p ys) ∧ ∀ l, H l = none → Q (.ref l) (upd H l (.lst ys))) (listD own) := by
  intro g S H σ Q xs vs s r p
  unfold listD at p
  split at p
  · split at p
    · rename_i d ds q
      obtain ⟨v, rfl, rr⟩ := rvs1 r
      obtain ⟨a, ws, rfl, h3, h4⟩ := seq_at s q rr
      exact ⟨a, ws, rfl, h3, fun l hl => mkL_ok s h4 p l hl⟩
    · exact p.elim
  · exact p.elim
theorem ok_tuple : OkL K W (fun xs H Q => ∃ p ys, xs = [.ref p] ∧ ((SqL K H p ys ∧ ∀ l, H l = none → Q (.ref l) (upd H l (.tup ys))) ∨ (SqT K H p ys ∧ Q (.ref p) H))) tupleD := by
  intro g S H σ Q xs vs s r p
  unfold tupleD at p
  split at p
  · obtain ⟨v, rfl, rr⟩ := rvs1 r
    obtain ⟨a, ws, rfl, h3, h4⟩ := tup_at rfl rr
    exact ⟨a, ws, rfl, .inr ⟨h3, p.here s rr⟩⟩
  · split at p
    · rename_i d _ ds q
      obtain ⟨v, rfl, rr⟩ := rvs1 r
      obtain ⟨a, ws, rfl, h3, h4⟩ := lst_at s q rr
      exact ⟨a, ws, rfl, .inl ⟨h3, fun l hl => mkT_ok s h4 p l hl⟩⟩
    · exact p.elim
  · exact p.elim
end
section
variable {z : Sg} {e : Expr} {ta : TAx} {p pos : Pos}
theorem de_all (hm : z.mg "all" = none) (ha : DA z [e] ta) (hg : Gz z "all" := by rfl) (hs : ∀ env, starEach [e] env = (false, eval e env) :: starEach [] env := by intro _; rfl) : DE z (.Call (.Name "all" p) [e] [] pos) (eArgs allD ta) :=
  de_callB (fun X f => f.K ▸ cr_all f.calm) ok_all (by decide +kernel) hm ha hg (by decide) (by decide) hs
theorem de_any (hm : z.mg "any" = none) (ha : DA z [e] ta) (hg : Gz z "any" := by rfl) (hs : ∀ env, starEach [e] env = (false, eval e env) :: starEach [] env := by intro _; rfl) : DE z (.Call (.Name "any" p) [e] [] pos) (eArgs anyD ta) :=
  de_callB (fun X f => f.K ▸ cr_any f.calm) ok_any (by decide +kernel) hm ha hg (by decide) (by decide) hs
theorem de_sumc (hm : z.mg "sum" = none) (ha : DA z [e] ta) (hg : Gz z "sum" := by rfl) (hs : ∀ env, starEach [e] env = (false, eval e env) :: starEach [] env := by intro _; rfl) : DE z (.Call (.Name "sum" p) [e] [] pos) (eArgs sumD ta) :=
  de_callB (fun X f => f.K ▸ cr_sum f.calm) ok_sum (by decide +kernel) hm ha hg (by decide) (by decide) hs
theorem de_list (own : Bool) (hm : z.mg "list" = none) (ha : DA z [e] ta) (hg : Gz z "list" := by rfl) (hs : ∀ env, starEach [e] env = (false, eval e env) :: starEach [] env := by intro _; rfl) : DE z (.Call (.Name "list" p) [e] [] pos) (eArgs (listD own) ta) :=
  de_callTy (fun X f => f.K ▸ call_list_of) (ok_list own) (by decide +kernel) hm ha hg (by decide) (by decide) hs
theorem de_tuple (hm : z.mg "tuple" = none) (ha : DA z [e] ta) (hg : Gz z "tuple" := by rfl) (hs : ∀ env, starEach [e] env = (false, eval e env) :: starEach [] env := by intro _; rfl) : DE z (.Call (.Name "tuple" p) [e] [] pos) (eArgs tupleD ta) :=
  de_callTy (fun X f => f.K ▸ call_tuple_of) ok_tuple (by decide +kernel) hm ha hg (by decide) (by decide) hs
instance (i j : Int) : Decidable (RgOk i j) := inferInstanceAs (Decidable (_ ∧ _))
/-- list(range(..)) -/
def lsRgD (own : Bool) (ds : List D) (S : List O) : Out D := match ds with
  | [.int j] => if RgOk 0 j then mkL own (rng 0 j) S else .stuck
  | [.int i, .int j] => if RgOk i j then mkL own (rng i j) S else .stuck
  | _ => .stuck
def eListRg (own : Bool) (t : TAx) : TEx := fun ρ S => (t ρ S).bind (lsRgD own)
theorem rng_vals {K : PySem.W.Frag} {g : G} {H : Hp} (i j : Int) : RVs K g H (rng i j) (rgV i j) := by
  unfold rng rgV
  generalize (j - i).toNat = n
  have key : ∀ l : List Nat, RVs K g H (l.map fun k => D.int (i + (k : Nat))) (l.map fun k => V.int (i + (k : Nat))) := by
    intro l
    induction l with
    | nil => simp only [List.map_nil, RVs]
    | cons k l ih =>
      simp only [List.map_cons, RVs]
      exact ⟨_, _, rfl, by simp only [RV], ih⟩
  exact key _
theorem de_listRg1 (own : Bool) {a : Expr} {t : TEx} {p2 pos2 : Pos} (hm : z.mg "list" = none) (hm2 : z.mg "range" = none) (ha : DE z a t) (hg : Gz z "list" := by rfl) (hg2 : Gz z "range" := by rfl) (hs : ∀ env, starEach [a] env = (false, eval a env) :: starEach [] env := by intro _; rfl)
    (hs2 : ∀ env, starEach [.Call (.Name "range" p2) [a] [] pos2] env = (false, eval (.Call (.Name "range" p2) [a] [] pos2) env) :: starEach [] env := by intro _; rfl) :
    DE z (.Call (.Name "list" p) [.Call (.Name "range" p2) [a] [] pos2] [] pos) (eListRg own (aCons t aNil)) := by
  obtain ⟨τ, h1, q1⟩ := ha
  refine ⟨_, fun X f => pe_listRg f.calm (f.gl hg) (f.mgl hm) (prg_1 (f.gl hg2) (f.mgl hm2) (h1 X f) (hs _)) (hs2 _), fun g S ρ σ H Q s rs p => ?_⟩
  unfold eListRg aCons aNil at p
  rw [Out.bind_assoc] at p
  refine q1 g S ρ σ H _ s rs (p.bind fun d S1 g1 H1 v e1 s1 r1 p1 => ?_)
  cases d with
  | int j =>
    have p1 : Post z.K z.W (RV z.K) g1 H1 σ Q (if RgOk 0 j then mkL own (rng 0 j) S1 else .stuck) := p1
    split at p1
    · exact ⟨j, rv_int r1, by assumption, fun l hl => mkL_ok s1 (rng_vals 0 j) p1 l hl⟩
    · exact p1.elim
  | _ => exact p1.elim
end
end TL
set_option Elab.async false
set_option linter.all false
set_option maxRecDepth 100000
set_option maxHeartbeats 4000000
/-! The tree layer, part 8: subscripts, slices, stores into a list, methods of texts and lists. -/
namespace TL
open PySem PySem.Spec PyProof.Rows L2

/-! ### x[i] -/
section
variable {K : PySem.W.Frag} {g : G} {H : Hp}
theorem RVs.at {ds : List D} {xs : List V} {i : Int} {d : D} (r : RVs K g H ds xs) (h : atI ds i = some d) : ∃ v, atI xs i = some v ∧ RV K g H d v := by
  have hl := r.length
  unfold atI at h ⊢
  rw [hl]
  cases e : ixN ds.length i with
  | none => rw [e] at h; cases h
  | some j =>
    rw [e] at h
    exact r.get h
theorem RVs.cut {ds : List D} {xs : List V} (r : RVs K g H ds xs) (lo hi : Option Int) : RVs K g H ((ds.drop (HT.sIx ds.length 0 lo)).take (HT.sIx ds.length ds.length hi - HT.sIx ds.length 0 lo)) (cutV xs lo hi) := by
  unfold cutV
  rw [← r.length]
  exact (r.drop _).take _
end
def ixD (x i : D) (S : List O) : Out D := match x, i with
  | .str y, .int k => if y.length ≤ sizeLine then (match atI y.cps.toList k with
    | some c => .ok (.str ⟨#[c]⟩) S
    | none => .stuck) else .stuck
  | d, .int k => (match seqOf S d with
    | some ds => (match atI ds k with
      | some e => .ok e S
      | none => .stuck)
    | none => .stuck)
  | _, _ => .stuck
theorem ok_ix {K : PySem.W.Frag} {W : WX} : OkB K W (rIx K) ixD := by
  intro g S H σ Q x y v u s rx ry p
  unfold ixD at p
  split at p
  · split at p
    · split at p
      · rename_i k hz _ c q
        exact .inr (.inr ⟨_, _, c, rv_str rx, rv_int ry, hz, q, p.here s (by simp only [RV])⟩)
      · exact p.elim
    · exact p.elim
  · split at p
    · rename_i ds q
      split at p
      · rename_i e q2
        obtain ⟨a, xs, rfl, h1, h2⟩ := seq_at s q rx
        obtain ⟨w, h3, h4⟩ := h2.at q2
        rcases h1 with h1 | h1
        · exact .inl ⟨a, xs, _, w, rfl, rv_int ry, h1, h3, p.here s h4⟩
        · exact .inr (.inl ⟨a, xs, _, w, rfl, rv_int ry, h1, h3, p.here s h4⟩)
      · exact p.elim
    · exact p.elim
  · exact p.elim
section
variable {z : Sg} {a b : Expr} {ta tb : TEx} {pos : Pos}
theorem de_ix (ha : DE z a ta) (hb : DE z b tb) (hs : PlainIx b := by intro _ _; rfl) : DE z (.Subscript a b pos) (eBin ixD ta tb) :=
  de_bin (fun X fx τ τ' h1 h2 => fx.K ▸ pe_ix ix_seq h1 h2 hs) ok_ix ha hb
end

/-! ### x[lo:hi] -/
abbrev TOx := Env1 → List O → Out (Option Int)
def DO (z : Sg) (e : Option Expr) (t : TOx) : Prop :=
  ∃ τ, (∀ X, Fits z X → PO X e τ) ∧ ∀ g S ρ σ H (Q : Option Int → Hp → Prop), SR z.K g S H → RS z.K g H ρ σ → Post z.K z.W (fun _ _ (a b : Option Int) => a = b) g H σ Q (t ρ S) → τ σ H Q
def oNil : TOx := fun _ S => .ok none S
def oSome (t : TEx) : TOx := fun ρ S => (t ρ S).bind fun d S1 => match d with
  | .int i => .ok (some i) S1
  | _ => .stuck
section
variable {z : Sg} {e : Expr} {t : TEx}
theorem do_nil : DO z none oNil := ⟨_, fun _ _ => po_none, fun g S ρ σ H Q s _ p => p g H none (Ext.refl g H) s rfl⟩
theorem do_some (h : DE z e t) : DO z (some e) (oSome t) := by
  obtain ⟨τ, h1, q1⟩ := h
  refine ⟨_, fun X f => po_some (h1 X f), fun g S ρ σ H Q s rs p => ?_⟩
  refine q1 g S ρ σ H _ s rs (p.bind fun d S1 g1 H1 v e1 s1 r1 p1 => ?_)
  cases d with
  | int i => exact ⟨i, rv_int r1, p1 g1 H1 _ (Ext.refl _ _) s1 rfl⟩
  | _ => exact p1.elim
end
def cutD (ds : List D) (lo hi : Option Int) : List D := (ds.drop (HT.sIx ds.length 0 lo)).take (HT.sIx ds.length ds.length hi - HT.sIx ds.length 0 lo)
def slD (own : Bool) (x : D) (lo hi : Option Int) (S : List O) : Out D := match x with
  | .str y => if y.length ≤ sizeLine then .ok (.str (cutS y lo hi)) S else .stuck
  | .tup ds => .ok (.tup (cutD ds lo hi)) S
  | d => (match lstOf S d with
    | some ds => mkL own (cutD ds lo hi) S
    | none => .stuck)
abbrev rSl (K : PySem.W.Frag) : V → Option Int → Option Int → Hp → VK → Prop := fun x lo hi H Q => rSlA K x lo hi H Q ∨ rSlL K x lo hi H Q ∨ rSlS x lo hi H Q
theorem cutD_whole {ds : List D} {lo hi : Option Int} (h : HT.sIx ds.length 0 lo = 0 ∧ HT.sIx ds.length ds.length hi = ds.length) : cutD ds lo hi = ds := by
  unfold cutD
  rw [h.1, h.2]
  simp
theorem ok_sl (own : Bool) {K : PySem.W.Frag} {W : WX} {g : G} {S : List O} {H : Hp} {σ : L2.St} {Q : VK} {x : D} {v : V} {lo hi : Option Int} (s : SR K g S H) (r : RV K g H x v) (p : Post K W (RV K) g H σ Q (slD own x lo hi S)) : rSl K v lo hi H Q := by
  unfold slD at p
  split at p
  · split at p
    · exact .inr (.inr ⟨_, rv_str r, by assumption, p.here s (by simp only [RV])⟩)
    · exact p.elim
  · rename_i ds
    have r' := r
    simp only [RV] at r
    obtain ⟨a, xs, rfl, h1, h2⟩ := r
    refine .inl ⟨a, xs, rfl, h1.sq, fun w => ?_, fun _ q hq => ?_⟩
    · rw [h2.length] at w
      rw [cutD_whole w] at p
      exact p.here s r'
    · refine p.new s hq fun e => ?_
      simp only [RV]
      exact ⟨q, _, rfl, .inl ⟨upd_same, s.unbad hq⟩, (h2.cut lo hi).mono s.live e _ _⟩
  · split at p
    · rename_i ds q
      obtain ⟨a, xs, rfl, h1, h2⟩ := lst_at s q r
      exact .inr (.inl ⟨a, xs, rfl, h1, fun l hl => mkL_ok s (h2.cut lo hi) p l hl⟩)
    · exact p.elim
def eSl (own : Bool) (t : TEx) (a b : TOx) : TEx := fun ρ S => (t ρ S).bind fun x S1 => (a ρ S1).bind fun lo S2 => (b ρ S2).bind fun hi S3 => slD own x lo hi S3
section
variable {z : Sg} {e : Expr} {lo hi : Option Expr} {t : TEx} {a b : TOx} {pos p2 : Pos}
theorem de_sl (own : Bool) (he : DE z e t) (hl : DO z lo a) (hh : DO z hi b) : DE z (.Subscript e (.Slice lo hi none p2) pos) (eSl own t a b) := by
  obtain ⟨τ, h1, q1⟩ := he
  obtain ⟨τ2, h2, q2⟩ := hl
  obtain ⟨τ3, h3, q3⟩ := hh
  refine ⟨_, fun X f => pe_slice (sl_tupA.or (sl_list.or sl_str)) (h1 X f) (h2 X f) (h3 X f) |> (f.K ▸ ·), fun g S ρ σ H Q s rs p => ?_⟩
  refine q1 g S ρ σ H _ s rs (p.bind fun x S1 g1 H1 v e1 s1 r1 p1 => ?_)
  refine q2 g1 S1 ρ σ H1 _ s1 (rs.mono s.live e1) (p1.bind fun i S2 g2 H2 i' e2 s2 r2 p2 => ?_)
  cases r2
  refine q3 g2 S2 ρ σ H2 _ s2 ((rs.mono s.live e1).mono s1.live e2) (p2.bind fun j S3 g3 H3 j' e3 s3 r3 p3 => ?_)
  cases r3
  exact ok_sl own s3 ((r1.mono s1.live e2).mono s2.live e3) p3
end

/-! ### x[i] = v -/
def putLD (ds : List D) (k : Int) (v : D) : Option (List D) := match ixN ds.length k with
  | some j => some (ds.set j v)
  | none => none
def setD (x i v : D) (S : List O) : Option (List O) := match x, i with
  | .hnd n, .int k => (match S[n]? with
    | some (.lst ds) => (match putLD ds k v with
      | some es => some (S.set n (.lst es))
      | none => none)
    | _ => none)
  | _, _ => none
def gSb (a b : TEx) : TGx := fun v ρ S => (a ρ S).stm ρ fun x S1 => (b ρ S1).stm ρ fun i S2 => match setD x i v S2 with
  | some S3 => .nx ρ S3
  | none => .stuck
section
variable {z : Sg} {a b : Expr} {ta tb : TEx} {pos : Pos}
theorem PostG.stm {K : PySem.W.Frag} {W : WX} {g : G} {H : Hp} {σ : L2.St} {ws : List Nat} {N : L2.St → Hp → Prop} {α β : Type} {R : G → Hp → α → β → Prop} {Q1 : β → Hp → Prop} {o : Out α} {ρ : Env1} {S : List O} {k : α → List O → OutS} (hp : PostG K W g H σ ws N (o.stm ρ k)) (s : SR K g S H) (rs : RS K g H ρ σ)
    (h : ∀ a S1 g1 H1 b, Ext g H g1 H1 → SR K g1 S1 H1 → RS K g1 H1 ρ σ → R g1 H1 a b → PostG K W g1 H1 σ ws N (k a S1) → Q1 b H1) : Post K W R g H σ Q1 o := by
  cases o with
  | ok a S => exact fun g1 H1 b e s1 r => h a S g1 H1 b e s1 (rs.mono s.live e) r (PostG.later (us := []) e s1 (Off.refl _ _) (by simp) hp)
  | exc C d S => exact fun g1 H1 c dd e s1 r => hp g1 H1 σ c dd e s1 (rs.mono s.live e) r
  | stuck => exact hp
theorem dg_sub (ha : DE z a ta) (hb : DE z b tb) (hx : ∀ env v, assign (.Subscript a b pos) env v = (do
      let ov ← holding [v] (eval a env)
      let iv ← holding [v, ov] (eval b env)
      standAt pos
      holding [v, ov, iv] (setItem ov iv v)
      release [v, ov, iv] []) := by intro _ _; rfl) : DG z (.Subscript a b pos) [] (gSb ta tb) := by
  obtain ⟨τ, h1, q1⟩ := ha
  obtain ⟨τ2, h2, q2⟩ := hb
  refine ⟨_, fun X f => pg_sub (h1 X f) (h2 X f) set_list (hx _), fun g S ρ σ H d v N s rs r p => ?_⟩
  refine q1 g S ρ σ H _ s rs (p.stm s rs fun x S1 g1 H1 w e1 s1 rs1 r1 p1 => ?_)
  refine q2 g1 S1 ρ σ H1 _ s1 rs1 (p1.stm s1 rs1 fun i S2 g2 H2 u e2 s2 rs2 r2 p2 => ?_)
  have rx := r1.mono s1.live e2
  have rv := (r.mono s.live e1).mono s1.live e2
  split at p2
  · rename_i S3 q
    unfold setD at q
    split at q
    · rename_i n k
      split at q
      · rename_i ds q3
        split at q
        · rename_i es q4
          cases q
          unfold putLD at q4
          split at q4
          · rename_i j q5
            cases q4
            simp only [RV] at rx
            obtain ⟨a, rfl, h3⟩ := rx
            obtain ⟨xs, h4, h5⟩ := s2.rep n a _ h3 q3
            refine ⟨a, xs, k, j, rfl, rv_int r2, h4, by rw [h5.length]; exact q5, ?_⟩
            have e3 : Ext g2 H2 g2 (upd H2 a (.lst (xs.set j v))) := Ext.write h3
            refine p2 g2 _ σ e3 (s2.write h3 fun e => ⟨_, upd_same, (h5.set rv j).mono s2.live e _ _⟩) (rs2.mono s2.live e3) (Off.refl _ _)
          · cases q4
        · cases q
      · cases q
    · cases q
  · exact p2.elim
end

/-! ### methods of texts; text of an int -/
def upperD (x : D) (S : List O) : Out D := match x with
  | .str y => if y.length ≤ 5592405 then .ok (.str (Txt.upper y)) S else .stuck
  | _ => .stuck
def lowerD (x : D) (S : List O) : Out D := match x with
  | .str y => if y.length ≤ 5592405 then .ok (.str (Txt.lower y)) S else .stuck
  | _ => .stuck
def strD (ds : List D) (S : List O) : Out D := match ds with
  | [.int i] => if i.natAbs.log2 < 1920 then .ok (.str (toString i)) S else .stuck
  | [.str y] => .ok (.str y) S
  | _ => .stuck
def wordsD (own : Bool) (x : D) (S : List O) : Out D := match x with
  | .str y => if y.length + 2 ≤ sizeLine then mkL own ((Txt.words y).map D.str) S else .stuck
  | _ => .stuck
def splitD (own : Bool) (x u : D) (S : List O) : Out D := match x, u with
  | .str y, .str w => if (w.length == 0) = false ∧ y.length + 2 ≤ sizeLine then mkL own ((Txt.split y w).map D.str) S else .stuck
  | _, _ => .stuck
def joinD (x u : D) (S : List O) : Out D := match x with
  | .str y => (match (seqOf S u).bind strsOf with
    | some ys => if (ys.map (·.length)).sum + ys.length * y.length ≤ 16777216 then .ok (.str (Txt.join y ys)) S else .stuck
    | none => .stuck)
  | _ => .stuck
section
variable {z : Sg} {a b e : Expr} {ta tb : TEx} {apos pos p : Pos} {t : TAx}
theorem de_upper (ha : DE z a ta) (hb : ∀ env, attributeBase a "upper" env (eval a env) = eval a env := by intro _; rfl) (hl : (apos.endLine == pos.line) = true := by rfl) : DE z (.Call (.Attribute a "upper" apos) [] [] pos) (eUn upperD ta) := by
  refine de_un (r := fun x H Q => (∃ y, x = .str y) ∧ ∃ y, x = .str y ∧ ([] : List V) = [] ∧ y.length ≤ 5592405 ∧ Q (.str (Txt.upper y)) H) (fun X fx τ h1 => pe_upper h1 (hb _) hl) (fun g S H σ Q x v s rx p => ?_) ha
  unfold upperD at p
  split at p
  · split at p
    · exact ⟨⟨_, rv_str rx⟩, _, rv_str rx, rfl, by assumption, p.here s (by simp only [RV])⟩
    · exact p.elim
  · exact p.elim
theorem de_lower (ha : DE z a ta) (hb : ∀ env, attributeBase a "lower" env (eval a env) = eval a env := by intro _; rfl) (hl : (apos.endLine == pos.line) = true := by rfl) : DE z (.Call (.Attribute a "lower" apos) [] [] pos) (eUn lowerD ta) := by
  refine de_un (r := fun x H Q => (∃ y, x = .str y) ∧ ∃ y, x = .str y ∧ ([] : List V) = [] ∧ y.length ≤ 5592405 ∧ Q (.str (Txt.lower y)) H) (fun X fx τ h1 => pe_lower h1 (hb _) hl) (fun g S H σ Q x v s rx p => ?_) ha
  unfold lowerD at p
  split at p
  · split at p
    · exact ⟨⟨_, rv_str rx⟩, _, rv_str rx, rfl, by assumption, p.here s (by simp only [RV])⟩
    · exact p.elim
  · exact p.elim
theorem strs_vals2 {K : PySem.W.Frag} {g : G} {H : Hp} (ys : List Str) : RVs K g H (ys.map D.str) (ys.map V.str) := by
  induction ys with
  | nil => simp only [List.map_nil, RVs]
  | cons y ys ih =>
    simp only [List.map_cons, RVs]
    exact ⟨_, _, rfl, by simp only [RV], ih⟩
theorem de_words (own : Bool) (ha : DE z a ta) (hb : ∀ env, attributeBase a "split" env (eval a env) = eval a env := by intro _; rfl) (hl : (apos.endLine == pos.line) = true := by rfl) : DE z (.Call (.Attribute a "split" apos) [] [] pos) (eUn (wordsD own) ta) := by
  refine de_un (r := fun x H Q => (∃ y, x = .str y) ∧ ∃ y, x = .str y ∧ ([] : List V) = [] ∧ y.length + 2 ≤ sizeLine ∧ rNewStrs (Txt.words y) H Q) (fun X fx τ h1 => pe_words h1 (hb _) hl) (fun g S H σ Q x v s rx p => ?_) ha
  unfold wordsD at p
  split at p
  · split at p
    · exact ⟨⟨_, rv_str rx⟩, _, rv_str rx, rfl, by assumption, fun q hq => mkL_ok s (strs_vals2 _) p q hq⟩
    · exact p.elim
  · exact p.elim
/-- the receiver is looked at ahead of the argument -/
def strGd (x : D) (o : Out D) : Out D := match x with
  | .str _ => o
  | _ => .stuck
def eBinS (f : D → D → List O → Out D) (a b : TEx) : TEx := fun ρ S => (a ρ S).bind fun x S1 => strGd x ((b ρ S1).bind fun y S2 => f x y S2)
theorem de_m1 {e : Expr} {r : V → List V → Hp → VK → Prop} {f : D → D → List O → Out D} (mk : ∀ X, Fits z X → ∀ τ τ' : TE, PE X a τ → PE X b τ' → PE X e (tM1 r τ τ')) (ok : OkB z.K z.W (fun x y H Q => r x [y] H Q) f) (ha : DE z a ta) (hb : DE z b tb) : DE z e (eBinS f ta tb) := by
  obtain ⟨τ, h1, q1⟩ := ha
  obtain ⟨τ2, h2, q2⟩ := hb
  refine ⟨_, fun X fx => mk X fx τ τ2 (h1 X fx) (h2 X fx), fun g S ρ σ H Q s rs p => ?_⟩
  refine q1 g S ρ σ H _ s rs (p.bind fun x S1 g1 H1 v e1 s1 r1 p1 => ?_)
  cases x with
  | str y => exact ⟨⟨_, rv_str r1⟩, q2 g1 S1 ρ σ H1 _ s1 (rs.mono s.live e1) (p1.bind fun u S2 g2 H2 w e2 s2 r2 p2 => ok g2 S2 H2 σ Q _ _ _ _ s2 (r1.mono s1.live e2) r2 p2)⟩
  | _ => exact p1.elim
theorem de_split (own : Bool) (ha : DE z a ta) (hb : DE z b tb) (hs : ∀ env, starEach [b] env = [(false, eval b env)] := by intro _; rfl) (hbs : ∀ env, attributeBase a "split" env (eval a env) = eval a env := by intro _; rfl) (hl : (apos.endLine == pos.line) = true := by rfl) : DE z (.Call (.Attribute a "split" apos) [b] [] pos) (eBinS (splitD own) ta tb) := by
  refine de_m1 (fun X f τ τ' h1 h2 => pe_split h1 h2 (hs _) (hbs _) hl) (fun g S H σ Q x y v u s rx ry p => ?_) ha hb
  unfold splitD at p
  split at p
  · split at p
    · rename_i hc
      exact ⟨_, _, rv_str rx, by rw [rv_str ry], hc.1, hc.2, fun q hq => mkL_ok s (strs_vals2 _) p q hq⟩
    · exact p.elim
  · exact p.elim
theorem de_join (ha : DE z a ta) (hb : DE z b tb) (hs : ∀ env, starEach [b] env = [(false, eval b env)] := by intro _; rfl) (hbs : ∀ env, attributeBase a "join" env (eval a env) = eval a env := by intro _; rfl) (hl : (apos.endLine == pos.line) = true := by rfl) : DE z (.Call (.Attribute a "join" apos) [b] [] pos) (eBinS joinD ta tb) := by
  refine de_m1 (fun X f τ τ' h1 h2 => f.K ▸ pe_join h1 h2 (hs _) (hbs _) hl) (fun g S H σ Q x y v u s rx ry p => ?_) ha hb
  unfold joinD at p
  split at p
  · split at p
    · rename_i ys q
      split at p
      · rename_i hc
        obtain ⟨ds, q1, q2⟩ := Option.bind_eq_some_iff.mp q
        obtain ⟨l, xs, rfl, h1, h2⟩ := seq_at s q1 ry
        rw [strs_vals q2 h2] at h1
        exact ⟨_, l, ys, rv_str rx, rfl, h1, hc, p.here s (by simp only [RV])⟩
      · exact p.elim
    · exact p.elim
  · exact p.elim
theorem de_strc {e : Expr} {t : TAx} (hm : z.mg "str" = none) (ha : DA z [e] t) (hg : Gz z "str" := by rfl) (hs : ∀ env, starEach [e] env = (false, eval e env) :: starEach [] env := by intro _; rfl) : DE z (.Call (.Name "str" p) [e] [] pos) (eArgs strD t) := by
  refine de_callTy (fun X f => call_str_int.or SkE.call_str_str) (fun g S H σ Q xs vs s r p => ?_) (by decide +kernel) hm ha hg (by decide) (by decide) hs
  unfold strD at p
  split at p
  · split at p
    · obtain ⟨v, rfl, rr⟩ := rvs1 r
      exact .inl ⟨_, by rw [rv_int rr], by assumption, p.here s (by simp only [RV])⟩
    · exact p.elim
  · obtain ⟨v, rfl, rr⟩ := rvs1 r
    exact .inr ⟨_, by rw [rv_str rr], p.here s (by simp only [RV])⟩
  · exact p.elim
end
end TL
set_option Elab.async false
set_option linter.all false
set_option maxRecDepth 100000
set_option maxHeartbeats 4000000
/-! The tree layer, part 9: repr of data, dicts within. -/
namespace TL
open PySem PySem.Spec PyProof.Rows L2

def encK : Key → PyData
  | .inl i => .int i
  | .inr s => .str s
section
variable {X : Cx} {pins : List (Addr × Obj)} {σ : L2.St} {H : Hp} {s : Shared} {g : G}
theorem not_sys {os : Obj} (hk : X.K.lookup sysModules = some os) (I : Inv X pins σ H s) {a : Addr} {o : HO} (h : H a = some o) : a ≠ sysModules := fun e => by
  subst e
  have := (I.bs _ _ (I.ok.mod.kin _ _ hk)).2
  rw [h] at this
  cases this
mutual
theorem rv_reads {os : Obj} (hk : X.K.lookup sysModules = some os) (I : Inv X pins σ H s) : ∀ (d : D) (v : V) (u : Value) (x : PyData), RV X.K g H d v → RelV v u → pd d = some x → ∃ as, Reads s.heap u x as ∧ sysModules ∉ as
  | .non, _, _, _, r, ru, e => by
    rw [rv_non r] at ru
    simp only [pd] at e
    cases e
    cases ru
    exact ⟨[], Reads.none, by simp⟩
  | .bl b, _, _, _, r, ru, e => by
    rw [rv_bl r] at ru
    simp only [pd] at e
    cases e
    cases ru
    exact ⟨[], Reads.bool b, by simp⟩
  | .int i, _, _, _, r, ru, e => by
    rw [rv_int r] at ru
    simp only [pd] at e
    cases e
    obtain ⟨t, rfl⟩ := ru
    exact ⟨[], Reads.int i t, by simp⟩
  | .str y, _, _, _, r, ru, e => by
    rw [rv_str r] at ru
    simp only [pd] at e
    cases e
    obtain ⟨t, rfl⟩ := ru
    exact ⟨[], Reads.str y t, by simp⟩
  | .tup ds, _, _, _, r, ru, e => by
    simp only [pd] at e
    cases q : pds ds with
    | none => rw [q] at e; cases e
    | some xs =>
      rw [q] at e
      cases e
      simp only [RV] at r
      obtain ⟨a, vs, rfl, h1, h2⟩ := r
      cases ru
      obtain ⟨its, rv, ⟨o, ho, hc, n, hd⟩, _⟩ := I.tuple h1.sq
      obtain ⟨as, h3, h4⟩ := rvs_reads hk I ds vs its xs h2 rv q
      exact ⟨as, Reads.tuple ho hc hd h3, h4⟩
  | .lst ds, _, _, _, r, ru, e => by
    simp only [pd] at e
    cases q : pds ds with
    | none => rw [q] at e; cases e
    | some xs =>
      rw [q] at e
      cases e
      simp only [RV] at r
      obtain ⟨a, vs, rfl, h1, _, h2⟩ := r
      cases ru
      obtain ⟨its, rv, ⟨o, n, ho, hc, _, hd⟩, _⟩ := I.list (.inl (.inl h1))
      obtain ⟨as, h3, h4⟩ := rvs_reads hk I ds vs its xs h2 rv q
      refine ⟨a :: as, Reads.list ho hc hd h3, fun m => ?_⟩
      rcases List.mem_cons.mp m with m | m
      · exact not_sys hk I h1 m.symm
      · exact h4 m
  | .dct kvs, _, _, _, r, ru, e => by
    simp only [pd] at e
    cases q : pdk kvs with
    | none => rw [q] at e; cases e
    | some xs =>
      rw [q] at e
      cases e
      simp only [RV] at r
      obtain ⟨a, ws, rfl, h1, _, h2⟩ := r
      cases ru
      obtain ⟨_, _, vs, rv, hd⟩ := h1.ok I.hok
      obtain ⟨as, h3, h4⟩ := rks_reads hk I kvs ws vs xs h2 rv q
      refine ⟨_, PyProof.V.reads_dictOf (enc := encK) (fun k key hkey => ?_) hd h3, fun m => ?_⟩
      · rcases keyIs_shape hkey with ⟨i, t, rfl, rfl⟩ | ⟨y, t, rfl, rfl⟩
        · exact Reads.int i t
        · exact Reads.str y t
      · rcases List.mem_cons.mp m with m | m
        · obtain ⟨o1, h1', _⟩ := DKo.rd.mp h1
          exact not_sys hk I h1' m.symm
        · exact h4 m
  | .ty _, _, _, _, _, _, e => by simp only [pd] at e; cases e
  | .scr _, _, _, _, _, _, e => by simp only [pd] at e; cases e
  | .ins _ _, _, _, _, _, _, e => by simp only [pd] at e; cases e
  | .cls _, _, _, _, _, _, e => by simp only [pd] at e; cases e
  | .exc _ _, _, _, _, _, _, e => by simp only [pd] at e; cases e
  | .hnd _, _, _, _, _, _, e => by simp only [pd] at e; cases e
  | .any, _, _, _, _, _, e => by simp only [pd] at e; cases e
theorem rvs_reads {os : Obj} (hk : X.K.lookup sysModules = some os) (I : Inv X pins σ H s) : ∀ (ds : List D) (vs : List V) (us : List Value) (xs : List PyData), RVs X.K g H ds vs → Vals vs us → pds ds = some xs → ∃ as, ReadsAll s.heap us xs as ∧ sysModules ∉ as
  | [], _, _, _, r, ru, e => by
    simp only [RVs] at r
    subst r
    cases ru
    simp only [pds] at e
    cases e
    exact ⟨[], ReadsAll.nil, by simp⟩
  | d :: ds, _, _, _, r, ru, e => by
    simp only [RVs] at r
    obtain ⟨v, r', rfl, h1, h2⟩ := r
    cases ru with
    | cons r1 r2 =>
      simp only [pds] at e
      cases q : pd d with
      | none => rw [q] at e; cases e
      | some x =>
        rw [q] at e
        cases q2 : pds ds with
        | none => rw [q2] at e; cases e
        | some xs =>
          rw [q2] at e
          cases e
          obtain ⟨as, a1, a2⟩ := rv_reads hk I d v _ x h1 r1 q
          obtain ⟨bs, b1, b2⟩ := rvs_reads hk I ds r' _ xs h2 r2 q2
          exact ⟨as ++ bs, ReadsAll.cons a1 b1, fun m => (List.mem_append.mp m).elim a2 b2⟩
theorem rks_reads {os : Obj} (hk : X.K.lookup sysModules = some os) (I : Inv X pins σ H s) : ∀ (ds : List (Key × D)) (ws : List (Key × V)) (vs : List (Key × Value)) (xs : List (PyData × PyData)), RKs X.K g H ds ws → KV ws vs → pdk ds = some xs → ∃ as, PyProof.V.PairsRead s.heap encK vs xs as ∧ sysModules ∉ as
  | [], _, _, _, r, ru, e => by
    simp only [RKs] at r
    subst r
    cases ru
    simp only [pdk] at e
    cases e
    exact ⟨[], .nil, by simp⟩
  | (k, d) :: ds, _, _, _, r, ru, e => by
    simp only [RKs] at r
    obtain ⟨v, r', rfl, h1, h2⟩ := r
    cases ru with
    | cons r1 r2 =>
      rename_i y _
      obtain ⟨k', u⟩ := y
      obtain ⟨ek, r1⟩ := r1
      have ek : k = k' := ek
      subst ek
      simp only [pdk] at e
      cases q : pd d with
      | none => rw [q] at e; cases e
      | some x =>
        rw [q] at e
        cases q2 : pdk ds with
        | none => rw [q2] at e; cases e
        | some xs =>
          rw [q2] at e
          cases e
          obtain ⟨as, a1, a2⟩ := rv_reads hk I d v _ x h1 r1 q
          obtain ⟨bs, b1, b2⟩ := rks_reads hk I ds r' _ xs h2 r2 q2
          refine ⟨as ++ bs, ?_, fun m => (List.mem_append.mp m).elim a2 b2⟩
          cases k <;> exact .cons a1 b1
end
end

def reprOk (x : PyData) : Bool := x.showable && decide (x.depth ≤ 32) && decide (x.shown.length ≤ sizeLine)
def reprD (ds : List D) (S : List O) : Out D := match ds with
  | [d] => (match pd d with
    | some x => if reprOk x = true then .ok (.str x.shown) S else .stuck
    | none => .stuck)
  | _ => .stuck
/-- the reading of repr -/
def rRepr (K : PySem.W.Frag) : List V → Hp → VK → Prop := fun xs H Q => ∃ d v x g, xs = [v] ∧ RV K g H d v ∧ pd d = some x ∧ reprOk x = true ∧ Q (.str x.shown) H
theorem call_reprD {X : Cx} {os : Obj} (hk : X.K.lookup sysModules = some os) (hu : X.A.units + 64 < cLine) (hgd : X.A.guards = some []) : CallR X (.builtin "repr") (rRepr X.K) := by
  intro pins s σ H xs us Q I r h
  obtain ⟨d, v, x, g, rfl, rv, hx, ok, q⟩ := h
  obtain ⟨u, rfl, ru⟩ := vals1 r
  unfold reprOk at ok
  rw [Bool.and_eq_true, Bool.and_eq_true, decide_eq_true_eq, decide_eq_true_eq] at ok
  obtain ⟨⟨ok1, ok2⟩, ok3⟩ := ok
  obtain ⟨as, h1, h2⟩ := rv_reads hk I d v u x rv ru hx
  have fin : ∀ h' w tk, (∀ b o, s.heap.get? b = some o → h'.get? b = some o) → EP X pins σ Q (.str x.shown w) { s with heap := h', toks := tk } := fun h' w tk k =>
    ⟨.str x.shown, H, I.kept (t' := tk) fun b o e => k b o e, ⟨w, rfl⟩, q⟩
  cases h1 with
  | none => exact PySem.P.repr_of_none (by simpa only [PyData.shown] using fin s.heap s.toks (s.toks + 1) fun _ _ e => e)
  | bool b => exact PySem.P.repr_of_bool (by simpa only [PyData.shown] using fin s.heap s.toks (s.toks + 1) fun _ _ e => e)
  | int i t => exact PySem.P.repr_of_int (by simpa [PyData.showable] using ok1) (by simpa only [PyData.shown] using fin s.heap s.toks (s.toks + 1) fun _ _ e => e)
  | str y t => exact PySem.P.repr_of_str (by simpa only [PyData.shown] using fin s.heap s.toks (s.toks + 1) fun _ _ e => e) (by simpa only [PyData.shown] using ok3)
  | list a b c e => exact PySem.repr_of_reads' (.list a b c e) ok1 (fun _ => h2) hgd (by omega) (fun _ _ e => e) fin ok3
  | tuple a b c e => exact PySem.repr_of_reads' (.tuple a b c e) ok1 (fun _ => h2) hgd (by omega) (fun _ _ e => e) fin ok3
  | dict a b c e f => exact PySem.repr_of_reads' (.dict a b c e f) ok1 (fun _ => h2) hgd (by omega) (fun _ _ e => e) fin ok3
section
variable {z : Sg} {e : Expr} {ta : TAx} {p pos : Pos}
theorem de_repr (hk : ∃ os, z.K.lookup sysModules = some os) (hm : z.mg "repr" = none) (ha : DA z [e] ta) (hg : Gz z "repr" := by rfl) (hs : ∀ env, starEach [e] env = (false, eval e env) :: starEach [] env := by intro _; rfl) : DE z (.Call (.Name "repr" p) [e] [] pos) (eArgs reprD ta) := by
  obtain ⟨os, hk⟩ := hk
  refine de_callB (r := rRepr z.K) (fun X f => f.K ▸ call_reprD (f.K ▸ hk) f.hu f.gd) (fun g S H σ Q xs vs s r p => ?_) (by decide +kernel) hm ha hg (by decide) (by decide) hs
  unfold reprD at p
  split at p
  · rename_i d
    split at p
    · rename_i x q
      split at p
      · rename_i ok
        obtain ⟨v, rfl, rr⟩ := rvs1 r
        exact ⟨d, v, x, g, rfl, rr, q, ok, p.here s (by simp only [RV])⟩
      · exact p.elim
    · exact p.elim
  · exact p.elim
end
end TL
set_option Elab.async false
set_option linter.all false
set_option maxRecDepth 100000
set_option maxHeartbeats 4000000
/-! The tree layer, part 10: a tuple turned about. -/
namespace TLR
open PySem PyProof.Rows
open PySem.SeqAt
open PySem.AutoSeq1 (wpAny_loadPart')
open PySem.MeetsSeq PySem.MeetsSeq2 PySem.MeetsSeq3 HT
variable {prog : Program} {w : World} {A : Around} {E : Value → Shared → Prop} {s : Shared}
theorem adj_back (n : Nat) : Builtin.Slice.sliceAdjust none none (-1) (n : Int) = ((n : Int) - 1, -1) := by
  unfold Builtin.Slice.sliceAdjust
  simp
theorem places_back (n : Nat) : Builtin.Slice.slicePlaces ((n : Int) - 1) (-1) (-1) = n := by
  unfold Builtin.Slice.slicePlaces
  have h1 : ¬ ((-1 : Int) > 0) := by omega
  have h2 : ((n : Int) - 1 - -1 - 1) / (-(-1 : Int)) = (n : Int) - 1 := by
    rw [show (-(-1 : Int)) = 1 from rfl, Int.ediv_one]
    omega
  simp only [h1, if_false]
  rw [h2]
  split <;> omega
theorem filter_same {α β : Type} {f h : α → Option β} : ∀ (l : List α), (∀ m ∈ l, f m = h m) → l.filterMap f = l.filterMap h
  | [], _ => rfl
  | a :: l, q => by
    rw [List.filterMap_cons, List.filterMap_cons, q a (List.mem_cons_self ..), filter_same l fun m hm => q m (List.mem_cons_of_mem _ hm)]
theorem pick_back (xs : Array Value) : ((List.range xs.size).filterMap fun (m : Nat) => xs[(((xs.size : Nat) : Int) - 1 + (m : Int) * (-1)).toNat]?) = xs.toList.reverse := by
  have e : ∀ l : List Nat, (∀ m ∈ l, m < xs.size) → (l.filterMap fun (m : Nat) => xs[(((xs.size : Nat) : Int) - 1 + (m : Int) * (-1)).toNat]?) = l.filterMap fun m => xs.toList.reverse[m]? := by
    intro l hl
    refine filter_same l fun m hm => ?_
    have hm := hl m hm
    rw [List.getElem?_reverse (by simpa using hm), Array.getElem?_toList]
    congr 1
    have : xs.toList.length = xs.size := by simp
    omega
  rw [e _ (fun m hm => List.mem_range.mp hm)]
  generalize hr : xs.toList.reverse = r
  have hl : xs.size = r.length := by rw [← hr]; simp
  rw [hl]
  clear hr hl e
  induction r with
  | nil => rfl
  | cons x r ih =>
    rw [List.length_cons, List.range_succ_eq_map, List.filterMap_cons, List.filterMap_map]
    simp only [List.getElem?_cons_zero]
    congr 1
theorem applied_back {sl : Addr} {vl vu vs : Value} {n : Nat} {Q : Int × Int × Nat → Shared → Prop} (hs : s.heap.IsSliceOf sl vl vu vs) (pl : IsPart vl none) (pu : IsPart vu none) (ps : IsPart vs (some (-1)))
    (h : Q ((n : Int) - 1, -1, n) s) : wpAny (model prog w) A (Builtin.Slice.sliceApplied (.ref sl) (pure (n : Int))) Q E s := by
  obtain ⟨os, hos, hcs, hds⟩ := id hs
  cases pl
  cases pu
  cases ps with
  | int i t =>
  unfold Builtin.Slice.sliceApplied Builtin.Slice.sliceFields
  refine wpAny_bind (wpAny_bind (wpAny_field hos hds (x := Value.none) rfl (wpAny_bind (wpAny_field hos hds (x := Value.none) rfl (wpAny_bind (wpAny_field hos hds (x := .int (-1) t) rfl (wpAny_pure ?_)))))))
  refine wpAny_bind (slicePart_int ?_)
  show wpAny _ _ (if ((-1 : Int) == 0) = true then _ else _) _ _ s
  rw [if_neg (by decide)]
  refine wpAny_bind (slicePart_none (wpAny_bind (slicePart_none (wpAny_bind (wpAny_pure ?_)))))
  show wpAny _ _ (match Builtin.Slice.sliceAdjust none none (-1) (n : Int) with | (lo, hi) => pure (lo, (-1 : Int), Builtin.Slice.slicePlaces lo hi (-1))) _ _ s
  rw [adj_back n]
  show wpAny _ _ (pure ((n : Int) - 1, (-1 : Int), Builtin.Slice.slicePlaces ((n : Int) - 1) (-1) (-1))) _ _ s
  rw [places_back]
  exact wpAny_pure h
theorem getItem_tuple_back {t sl : Addr} {items : Array Value} {vl vu vs : Value} {Q : Value → Shared → Prop} (ht : IsTup s.heap t items) (hs : s.heap.IsSliceOf sl vl vu vs) (pl : IsPart vl none) (pu : IsPart vu none) (ps : IsPart vs (some (-1)))
    (h : Q (.ref s.heap.objs.size) { s with heap := s.heap.push { cls := .type "tuple", data := .seq items.toList.reverse.toArray } })
    (hsz : items.size ≤ sizeLine) : wpAny (model prog w) A (getItem (.ref t) (.ref sl)) Q E s := by
  have htake : sizeOk (.seq items.toList.reverse.toArray) := by
    show items.toList.reverse.toArray.size ≤ sizeLine
    rw [List.size_toArray, List.length_reverse, Array.length_toList]
    exact hsz
  obtain ⟨os, hos, hcs, hds⟩ := id hs
  have hTs : s.TypeIs (.ref sl) "slice" := ⟨os, hos, hcs⟩
  unfold getItem
  try with_reducible refine wpAny_holding ?_
  first | refine wpAny_bind (wpAny_pure ?_) | skip
  refine wpAny_bind (wpAny_sequenceKey ht.typeIs (by decide) ?_)
  refine wpAny_bind (wpAny_callSpecial?_slot (name := Str.ofString "__getitem__") ht.typeIs PyProof.Rows.slot_tuple_getitem
    (wpAny_call_entry PyProof.Rows.slot_tuple_getitem ht.typeIs entry_tuple_getitem ?_ (args_tuple_getitem _ _)))
  show wpAny _ _ (Builtin.Tuple.tupleItemsOf (.ref t) >>= _) _ _ s
  refine wpAny_bind (tupleItemsOf_ ht ?_)
  refine wpAny_bind (wpAny_typeOf hTs ?_)
  rw [if_pos (by decide)]
  refine wpAny_bind (applied_back hs pl pu ps ?_)
  have hno : ¬ ((((items.size : Nat) : Int) - 1 == 0 && (-1 : Int) == 1 && items.size == items.size) = true) := by
    intro q
    rw [Bool.and_eq_true, Bool.and_eq_true] at q
    exact absurd q.1.2 (by decide)
  show wpAny _ _ (if (((items.size : Nat) : Int) - 1 == 0 && (-1 : Int) == 1 && items.size == items.size) = true then _ else _) _ _ s
  rw [if_neg hno, pick_back]
  first
    | exact wpAny_bind (m := Builtin.Tuple.tupleExact _) (wpAny_newObj_type (wpAny_pure ⟨_, rfl, wpAny_pure h⟩) htake)
    | exact wpAny_bind (m := Builtin.Tuple.tupleExact _) (wpAny_newObj_type (wpAny_bind (wpAny_pure (wpAny_pure ⟨_, rfl, wpAny_pure h⟩))) htake)
    | exact wpAny_bind (wpAny_bind (m := Builtin.Tuple.tupleExact _) (wpAny_newObj_type (wpAny_pure (wpAny_pure ⟨_, rfl, wpAny_pure h⟩)) htake))
    | exact wpAny_bind (wpAny_bind (m := Builtin.Tuple.tupleExact _) (wpAny_newObj_type (wpAny_pure ⟨_, rfl, wpAny_pure h⟩) htake))
end TLR
namespace TL
open PySem PySem.Spec PyProof.Rows L2
def tBackT (K : PySem.W.Frag) (te : TE) : TE := fun σ H Q => te σ H fun x H1 => ∃ a xs, x = .ref a ∧ SqT K H1 a xs ∧ ∀ p, H1 p = none → Q (.ref p) (upd H1 p (.tup xs.reverse))
theorem pe_backT {X : Cx} {e : Expr} {te : TE} {k : Nat} {p1 p2 p3 pos : Pos} (he : PE X e te) : PE X (.Subscript e (.Slice none none (some (.UnaryOp .USub (.Constant (.int 1) k p1) p2)) p3) pos) (tBackT X.K te) := by
  refine ⟨fun pins s σ H Q I h => ?_⟩
  refine Subscript_ (thn (he.run pins s σ H _ I h) fun v s1 ⟨x, H1, I1, r1, q1⟩ => ?_)
  obtain ⟨a, xs, ex, hx, q⟩ := q1
  subst ex
  cases r1
  have hst : PO X (some (.UnaryOp .USub (.Constant (.int 1) k p1) p2)) (tPart (tUn (rU fun i => .int (-i)) (tC (.int 1)))) := po_some (pe_un un_neg pe_int)
  refine wpAny_Slice (thn (po_none.run pins s1 σ H1 (fun o H2 => o = none ∧ H2 = H1) I1 ⟨rfl, rfl⟩) fun vl s2 ⟨l, H2, I2, pl, el, e2⟩ => ?_)
  subst el e2
  refine thn (po_none.run pins s2 σ H2 (fun o H3 => o = none ∧ H3 = H2) I2 ⟨rfl, rfl⟩) fun vu s3 ⟨u, H3, I3, pu, eu, e3⟩ => ?_
  subst eu e3
  refine thn (hst.run pins s3 σ H3 (fun o H4 => o = some (-1) ∧ H4 = H3) I3 ⟨1, rfl, -1, rfl, rfl, rfl⟩) fun vs s4 ⟨o, H4, I4, ps, eo, e4⟩ => ?_
  subst eo e4
  have I5 : Inv X pins σ H4 { s4 with heap := s4.heap.push { cls := .type "slice", data := .fields #[vl, vu, vs] } } := I4.kept (t' := s4.toks) fun b ob q => Heap.get?_push_of_some _ q
  obtain ⟨its, r, ht, hz⟩ := I5.tuple hx
  have hlen := r.length
  show wpAny (model X.prog X.w) X.A (subscriptTail e (.Slice none none (some (.UnaryOp .USub (.Constant (.int 1) k p1) p2)) p3) (.ref a) (.ref s4.heap.objs.size)) (EP X pins σ Q) X.xe { s4 with heap := s4.heap.push { cls := .type "slice", data := .fields #[vl, vu, vs] } }
  refine tail_any (ops := [.ref a, .ref s4.heap.objs.size]) ht.typeIs (PyProof.Rows.slot_tuple_getitem.lookup) ?_ (by with_unfolding_all rfl)
  refine TLR.getItem_tuple_back ht (Heap.IsSliceOf.new _ vl vu vs) pl pu ps ?_ (by rw [List.size_toArray]; omega)
  refine ⟨.ref _, _, I5.laid (t' := s4.toks) (o := .tup xs.reverse) (fun b ob q => Heap.get?_push_of_some _ q) (Nat.le_refl _) ?_, rfl, q _ (I5.hok.fresh (Nat.le_refl _))⟩
  exact ⟨by rw [List.length_reverse]; exact hz, its.reverse, r.reverse, IsTup.new _ _⟩
def backD (x : D) (S : List O) : Out D := match x with
  | .tup ds => .ok (.tup ds.reverse) S
  | _ => .stuck
theorem de_backT {z : Sg} {e : Expr} {t : TEx} {k : Nat} {p1 p2 p3 pos : Pos} (he : DE z e t) : DE z (.Subscript e (.Slice none none (some (.UnaryOp .USub (.Constant (.int 1) k p1) p2)) p3) pos) (eUn backD t) := by
  refine de_un (r := fun x H1 Q => ∃ a xs, x = .ref a ∧ SqT z.K H1 a xs ∧ ∀ p, H1 p = none → Q (.ref p) (upd H1 p (.tup xs.reverse))) (fun X f τ h => f.K ▸ pe_backT h) (fun g S H σ Q x v s rx p => ?_) he
  unfold backD at p
  split at p
  · rename_i ds
    simp only [RV] at rx
    obtain ⟨a, xs, rfl, h1, h2⟩ := rx
    refine ⟨a, xs, rfl, h1.sq, fun q hq => p.new s hq fun e => ?_⟩
    simp only [RV]
    exact ⟨q, _, rfl, .inl ⟨upd_same, s.unbad hq⟩, h2.reverse.mono s.live e _ _⟩
  · exact p.elim
end TL
set_option Elab.async false
set_option linter.all false
set_option maxRecDepth 100000
set_option maxHeartbeats 4000000
/-! The tree layer, part 11: dicts. -/
namespace TL
open PySem PySem.Spec PyProof.Rows L2

/-! ### an object that is new and still worked at -/
structure NwAt (K : PySem.W.Frag) (g0 : G) (H0 : Hp) (Dp : Addr) (g : G) (H : Hp) (S : List O) : Prop where
  keep : ∀ b o, H0 b = some o → b ∉ g0.hs → Kp H b o
  kb : ∀ b o, H0 b = some o → b ∉ g0.hs → g0.bad b → H b = some o
  good : ∀ b o, H0 b = some o → ¬ g0.bad b → ¬ g.bad b
  sub : ∀ b, g0.bad b → g.bad b
  pre : ∃ l, g.hs = g0.hs ++ l ∧ ∀ b ∈ l, H0 b = none ∧ b ≠ Dp
  s : SR K g S H
  bd : g.bad Dp
section
variable {K : PySem.W.Frag} {g0 g g1 : G} {H0 H H1 : Hp} {Dp : Addr} {S S1 S2 : List O}
theorem NwAt.start (s : SR K g0 S H0) (hn : H0 Dp = none) {u : HO} : NwAt K g0 H0 Dp (g0.on Dp) (upd H0 Dp u) S :=
  ⟨fun b o q _ => .inl (same_new hn b o q), fun b o q _ _ => same_new hn b o q, (Ext.on (u := u) hn).good, fun _ h => .inl h, ⟨[], by simp [G.on], fun _ h => by cases h⟩, s.on hn, .inr rfl⟩
theorem NwAt.ext (l : NwAt K g0 H0 Dp g H S) : Ext g0 H0 g H := by
  obtain ⟨m, e, f⟩ := l.pre
  exact ⟨l.keep, l.kb, l.good, l.sub, m, e, fun b hb => (f b hb).1⟩
theorem NwAt.nh (l : NwAt K g0 H0 Dp g H S) (hd : Dp ∉ g0.hs) : Dp ∉ g.hs := by
  obtain ⟨m, e, f⟩ := l.pre
  rw [e]
  intro h
  rcases List.mem_append.mp h with h | h
  · exact hd h
  · exact (f _ h).2 rfl
theorem NwAt.later (l : NwAt K g0 H0 Dp g H S) (s0 : SR K g0 S1 H0) (hd : Dp ∉ g0.hs) (e : Ext g H g1 H1) (s1 : SR K g1 S2 H1) : NwAt K g0 H0 Dp g1 H1 S2 ∧ H1 Dp = H Dp := by
  obtain ⟨m, em, fm⟩ := l.pre
  obtain ⟨m2, em2, fm2⟩ := e.pre
  have nh := l.nh hd
  obtain ⟨u, hu⟩ := l.s.trk Dp l.bd
  have st : ∀ b o, H0 b = some o → b ∉ g0.hs → b ∉ g.hs := fun b o q n h => by
    rw [em] at h
    rcases List.mem_append.mp h with h | h
    · exact n h
    · rw [(fm b h).1] at q
      cases q
  refine ⟨⟨fun b o q n => (l.keep b o q n).trans fun o1 h1 => e.kp0 b o1 h1 (st b o q n), fun b o q n hb => e.kb b o (l.kb b o q n hb) (st b o q n) (l.sub b hb), fun b o q n => ?_, fun b h => e.sub b (l.sub b h), ⟨m ++ m2, by rw [em2, em, List.append_assoc], fun b hb => ?_⟩, s1, e.sub _ l.bd⟩, ?_⟩
  · have n0 : b ∉ g0.hs := fun h => n (s0.live b h)
    obtain ⟨o1, h1⟩ := (l.keep b o q n0).some
    exact e.good b o1 h1 (l.good b o q n)
  · rcases List.mem_append.mp hb with h | h
    · exact fm b h
    · refine ⟨?_, fun q => ?_⟩
      · cases q : H0 b with
        | none => rfl
        | some o =>
          by_cases hx : b ∈ g0.hs
          · obtain ⟨o', e'⟩ := l.s.hl b (by rw [em]; exact List.mem_append_left _ hx)
            rw [fm2 b h] at e'
            cases e'
          · obtain ⟨o1, z⟩ := (l.keep b o q hx).some
            rw [fm2 b h] at z
            cases z
      · rw [q] at h
        rw [fm2 _ h] at hu
        cases hu
  · rw [hu]
    exact e.kb _ _ hu nh l.bd
theorem NwAt.wr (l : NwAt K g0 H0 Dp g H S) (hn : H0 Dp = none) (hd : Dp ∉ g0.hs) {u : HO} : NwAt K g0 H0 Dp g (upd H Dp u) S :=
  ⟨fun b o q n => by unfold Kp; rw [upd_ne (ne_of_none q hn)]; exact l.keep b o q n, fun b o q n hb => by rw [upd_ne (ne_of_none q hn)]; exact l.kb b o q n hb, l.good, l.sub, l.pre, l.s.wr l.bd (l.nh hd), l.bd⟩
theorem NwAt.wk (l : NwAt K g0 H0 Dp g H S) {u : HO} : Wk g H g (upd H Dp u) := Wk.wr l.bd
/-- given out as a handle -/
theorem NwAt.finH {W : WX} {σ : L2.St} {Q : VK} {ob : O} (l : NwAt K g0 H0 Dp g H S) (hn : H0 Dp = none) (hd : Dp ∉ g0.hs) (ho : RO K g H ob Dp) (p : Post K W (RV K) g0 H0 σ Q (.ok (.hnd S.length) (S ++ [ob]))) : Q (.ref Dp) H := by
  obtain ⟨m, em, fm⟩ := l.pre
  have nh := l.nh hd
  refine p ⟨g.bad, g.hs ++ [Dp]⟩ H _ ⟨l.keep, l.kb, l.good, l.sub, m ++ [Dp], by rw [em, List.append_assoc], fun b hb => ?_⟩ ?_ ?_
  · rcases List.mem_append.mp hb with h | h
    · exact (fm b h).1
    · rw [List.mem_singleton.mp h]
      exact hn
  · have wk : ∀ (i : Nat) (a : Addr), g.hs[i]? = some a → (g.hs ++ [Dp])[i]? = some a := fun i a h => by
      rw [List.getElem?_append_left (List.getElem?_eq_some_iff.mp h).1]
      exact h
    refine ⟨by simp [l.s.len], ?_, fun a ha => ?_, l.s.trk, fun i a o e1 e2 => ?_⟩
    · refine List.nodup_append.mpr ⟨l.s.nd, by simp, fun a ha b hb => ?_⟩
      rw [List.mem_singleton.mp hb]
      rintro rfl
      exact nh ha
    · rcases List.mem_append.mp ha with h | h
      · exact l.s.live a h
      · rw [List.mem_singleton.mp h]
        exact l.bd
    · by_cases hi : i < S.length
      · have e1' : g.hs[i]? = some a := by
          have e1 : (g.hs ++ [Dp])[i]? = some a := e1
          rwa [List.getElem?_append_left (by rw [l.s.len]; exact hi)] at e1
        have e2' : S[i]? = some o := by rwa [List.getElem?_append_left hi] at e2
        exact RO.anti (g := g) (g0 := ⟨g.bad, g.hs ++ [Dp]⟩) (fun _ h => h) wk (l.s.rep i a o e1' e2')
      · have hi2 : i = S.length := by
          have := (List.getElem?_eq_some_iff.mp e2).1
          simp at this
          omega
        subst hi2
        have e1 : (g.hs ++ [Dp])[S.length]? = some a := e1
        rw [← l.s.len] at e1
        simp at e1
        simp at e2
        subst e1 e2
        exact RO.anti (g := g) (g0 := ⟨g.bad, g.hs ++ [Dp]⟩) (fun _ h => h) wk ho
  · simp only [RV]
    exact ⟨Dp, rfl, by rw [← l.s.len]; simp⟩
/-- given out as a value -/
theorem NwAt.finV {W : WX} {σ : L2.St} {Q : VK} {d : D} (l : NwAt K g0 H0 Dp g H S) (s0 : SR K g0 S1 H0) (hn : H0 Dp = none) (hd : Dp ∉ g0.hs) (hr : RV K (g.off Dp) H d (.ref Dp)) (p : Post K W (RV K) g0 H0 σ Q (.ok d S)) : Q (.ref Dp) H := by
  obtain ⟨m, em, fm⟩ := l.pre
  have nh := l.nh hd
  have hb : ∀ b, (G.off g Dp).bad b → g.bad b := fun b h => h.1
  have hh : ∀ (i : Nat) (a : Addr), g.hs[i]? = some a → (G.off g Dp).hs[i]? = some a := fun _ _ h => h
  refine p (g.off Dp) H _ ⟨l.keep, l.kb, fun b o q n h => l.good b o q n h.1, fun b h => ⟨l.sub b h, fun q => ?_⟩, m, em, fun b hb => (fm b hb).1⟩ ?_ hr
  · obtain ⟨o, z⟩ := s0.trk b h
    rw [q, hn] at z
    cases z
  · exact ⟨l.s.len, l.s.nd, fun a ha => ⟨l.s.live a ha, fun q => nh (by rw [← q]; exact ha)⟩, fun a h => l.s.trk a h.1, fun i a o e1 e2 => RO.anti hb hh (l.s.rep i a o e1 e2)⟩
end

theorem Post.bindL {K : PySem.W.Frag} {W : WX} {g gA : G} {H HA : Hp} {σ : L2.St} {S : List O} {α β γ δ : Type} {R : G → Hp → α → β → Prop} {R' : G → Hp → γ → δ → Prop} {Q : δ → Hp → Prop} {Q1 : β → Hp → Prop} {o : Out α} {k : α → List O → Out γ} (hp : Post K W R' gA HA σ Q (o.bind k))
    (e0 : Ext gA HA g H) (s0 : SR K g S H) (h : ∀ a S1 g1 H1 b, Ext g H g1 H1 → SR K g1 S1 H1 → R g1 H1 a b → Post K W R' gA HA σ Q (k a S1) → Q1 b H1) : Post K W R g H σ Q1 o := by
  cases o with
  | ok a S => exact fun g1 H1 b e s r => h a S g1 H1 b e s r hp
  | exc C d S =>
    have hp : Post K W R' gA HA σ Q (.exc C d S) := hp
    exact fun g1 H1 c dd e s r => hp g1 H1 c dd (e0.tr s0 e) s r
  | stuck => exact hp

/-! ### keys, looking, putting -/
def keyOf : D → Option Key
  | .int i => some (.inl i)
  | .str s => some (.inr s)
  | _ => none
def getK : List (Key × D) → Key → Option D
  | [], _ => none
  | (j, d) :: r, k => if j = k then some d else getK r k
def hasK (kvs : List (Key × D)) (k : Key) : Bool := kvs.any fun kv => decide (kv.1 = k)
def putG (kvs : List (Key × D)) (k : Key) (v : D) : List (Key × D) :=
  if hasK kvs k = true then kvs.map (fun kv => if kv.1 = k then (kv.1, v) else kv) else kvs ++ [(k, v)]
def mergeG (kvs more : List (Key × D)) : List (Key × D) := more.foldl (fun acc kv => putG acc kv.1 kv.2) kvs
def dctOf (S : List O) : D → Option (List (Key × D))
  | .dct kvs => some kvs
  | .hnd i => (match S[i]? with
    | some (.dct kvs) => some kvs
    | _ => none)
  | _ => none
section
variable {K : PySem.W.Frag} {g : G} {H : Hp} {S : List O}
theorem keyOf_rv {d : D} {k : Key} {v : V} (h : keyOf d = some k) (r : RV K g H d v) : v = kV k := by
  cases d with
  | int i => cases h; exact rv_int r
  | str i => cases h; exact rv_str r
  | _ => cases h
theorem RKs.get : ∀ {kvs : List (Key × D)} {ws : List (Key × V)} (k : Key), RKs K g H kvs ws → (match getK kvs k with
    | some d => ∃ v, valV ws k = some v ∧ RV K g H d v
    | none => valV ws k = none)
  | [], _, k, h => by
    simp only [RKs] at h
    subst h
    exact valV_nil
  | (j, d) :: r, _, k, h => by
    simp only [RKs] at h
    obtain ⟨v, r', rfl, h1, h2⟩ := h
    unfold getK
    by_cases e : j = k
    · rw [if_pos e]
      exact ⟨v, valV_pos e, h1⟩
    · rw [if_neg e]
      have := RKs.get k h2
      rw [valV_neg (p := (j, v)) e]
      exact this
theorem RKs.has : ∀ {kvs : List (Key × D)} {ws : List (Key × V)} (k : Key), RKs K g H kvs ws → (ws.any fun kv => decide (kv.1 = k)) = hasK kvs k
  | [], _, k, h => by
    simp only [RKs] at h
    subst h
    rfl
  | (j, d) :: r, _, k, h => by
    simp only [RKs] at h
    obtain ⟨v, r', rfl, h1, h2⟩ := h
    have := RKs.has k h2
    unfold hasK at this ⊢
    rw [List.any_cons, List.any_cons, this]
theorem RKs.put {d : D} {v : V} (k : Key) (rv : RV K g H d v) : ∀ {kvs : List (Key × D)} {ws : List (Key × V)}, RKs K g H kvs ws → RKs K g H (kvs.map (fun kv => if kv.1 = k then (kv.1, d) else kv)) (ws.map (fun kv => if kv.1 = k then (kv.1, v) else kv))
  | [], _, h => by
    simp only [RKs] at h
    subst h
    simp only [List.map_nil, RKs]
  | (j, e) :: r, _, h => by
    simp only [RKs] at h
    obtain ⟨w, r', rfl, h1, h2⟩ := h
    have q := RKs.put k rv h2
    rw [List.map_cons, List.map_cons]
    by_cases ej : j = k
    · simp only [ej, if_true, RKs]
      exact ⟨v, _, rfl, rv, by simpa only [ej, if_true] using q⟩
    · simp only [ej, if_false, RKs]
      exact ⟨w, _, rfl, h1, q⟩
theorem RKs.snoc {d : D} {v : V} (k : Key) (rv : RV K g H d v) : ∀ {kvs : List (Key × D)} {ws : List (Key × V)}, RKs K g H kvs ws → RKs K g H (kvs ++ [(k, d)]) (ws ++ [(k, v)])
  | [], _, h => by
    simp only [RKs] at h
    subst h
    simp only [List.nil_append, RKs]
    exact ⟨v, [], rfl, rv, rfl⟩
  | (j, e) :: r, _, h => by
    simp only [RKs] at h
    obtain ⟨w, r', rfl, h1, h2⟩ := h
    simp only [List.cons_append, RKs]
    exact ⟨w, _, rfl, h1, RKs.snoc k rv h2⟩
theorem RKs.putG {d : D} {v : V} (k : Key) (rv : RV K g H d v) {kvs : List (Key × D)} {ws : List (Key × V)} (h : RKs K g H kvs ws) : RKs K g H (putG kvs k d) (putK ws k v) := by
  unfold TL.putG putK
  rw [h.has k]
  split
  · exact h.put k rv
  · exact h.snoc k rv
theorem RKs.merge : ∀ {more : List (Key × D)} {ms : List (Key × V)} {kvs : List (Key × D)} {ws : List (Key × V)}, RKs K g H more ms → RKs K g H kvs ws → RKs K g H (mergeG kvs more) (mergeK ws ms)
  | [], _, _, _, h, h0 => by
    simp only [RKs] at h
    subst h
    exact h0
  | (k, d) :: r, _, _, _, h, h0 => by
    simp only [RKs] at h
    obtain ⟨v, r', rfl, h1, h2⟩ := h
    show RKs K g H (mergeG (TL.putG _ k d) r) (mergeK (putK _ k v) r')
    exact RKs.merge (more := r) (ms := r') h2 (h0.putG k h1)
theorem dct_at (s : SR K g S H) {d : D} {kvs : List (Key × D)} {v : V} (h : dctOf S d = some kvs) (r : RV K g H d v) : ∃ a ws, v = .ref a ∧ Rd H a (.dK ws) ∧ RKs K g H kvs ws := by
  cases d with
  | dct es =>
    cases h
    simp only [RV] at r
    obtain ⟨a, ws, e, h1, _, h2⟩ := r
    exact ⟨a, ws, e, h1, h2⟩
  | hnd i =>
    simp only [dctOf] at h
    split at h
    · rename_i es q
      cases h
      simp only [RV] at r
      obtain ⟨a, e, h1⟩ := r
      obtain ⟨ws, h2, h3⟩ := s.rep i a _ h1 q
      exact ⟨a, ws, e, .inl h2, h3⟩
    · cases h
  | _ => cases h
end

/-! ### displays -/
def mkD (own : Bool) (kvs : List (Key × D)) (S : List O) : Out D := if own then .ok (.hnd S.length) (S ++ [.dct kvs]) else .ok (.dct kvs) S
section
variable {z : Sg} {pos : Pos}
theorem de_dct0 (own : Bool) : DE z (.Dict [] [] pos) (fun _ S => mkD own [] S) := by
  refine ⟨_, fun X f => pe_dnewK, fun g S ρ σ H Q s rs p q hq => ?_⟩
  have p : Post z.K z.W (RV z.K) g H σ Q (mkD own [] S) := p
  unfold mkD at p
  split at p
  · exact Post.newH s hq p (fun e => ⟨[], upd_same, by simp only [RKs]⟩) fun e => RV.newH s
  · refine Post.new s hq p fun e => ?_
    simp only [RV]
    exact ⟨q, [], rfl, .inl upd_same, s.unbad hq, by simp only [RKs]⟩
end
/-- the pairs of a display -/
abbrev TPx := Env1 → List O → Out (List (Key × D))
def RdP (z : Sg) (τ : List (TE × TE)) (t : TPx) : Prop := ∀ g S ρ σ H (Q : List (V × V) → Hp → Prop), SR z.K g S H → RS z.K g H ρ σ → Post z.K z.W (fun g' H' (ks : List (Key × D)) (ps : List (V × V)) => ∃ ws, ps = ws.map (fun kv => (kV kv.1, kv.2)) ∧ RKs z.K g' H' ks ws) g H σ Q (t ρ S) → tPairs τ σ H Q
def DPs (z : Sg) (pos : Pos) (keys : List (Option Expr)) (vals : List Expr) (t : TPx) : Prop := ∃ τ, (∀ X, Fits z X → PPs X pos keys vals τ) ∧ RdP z τ t
def pNil : TPx := fun _ S => .ok [] S
def pCons (a b : TEx) (r : TPx) : TPx := fun ρ S => (a ρ S).bind fun x S1 => (b ρ S1).bind fun y S2 => (r ρ S2).bind fun ks S3 => match keyOf x with
  | some k => .ok ((k, y) :: ks) S3
  | none => .stuck
section
variable {z : Sg} {pos : Pos} {k v : Expr} {ks : List (Option Expr)} {vs : List Expr} {a b : TEx} {r : TPx}
theorem dp_nil : DPs z pos [] [] pNil := ⟨_, fun _ _ => pps_nil, fun g S ρ σ H Q s rs p => p.here s ⟨[], rfl, by simp only [RKs]⟩⟩
theorem dp_cons (h1 : DE z k a) (h2 : DE z v b) (h3 : DPs z pos ks vs r) : DPs z pos (some k :: ks) (v :: vs) (pCons a b r) := by
  obtain ⟨τ, h1, q1⟩ := h1
  obtain ⟨τ2, h2, q2⟩ := h2
  obtain ⟨τ3, h3, q3⟩ := h3
  refine ⟨_, fun X f => pps_cons (h1 X f) (h2 X f) (h3 X f), fun g S ρ σ H Q s rs p => ?_⟩
  refine q1 g S ρ σ H _ s rs (p.bind fun x S1 g1 H1 u e1 s1 r1 p1 => ?_)
  refine q2 g1 S1 ρ σ H1 _ s1 (rs.mono s.live e1) (p1.bind fun y S2 g2 H2 w e2 s2 r2 p2 => ?_)
  refine q3 g2 S2 ρ σ H2 _ s2 ((rs.mono s.live e1).mono s1.live e2) (p2.bind fun es S3 g3 H3 ps e3 s3 r3 p3 => ?_)
  obtain ⟨ws, rfl, r3⟩ := r3
  split at p3
  · rename_i k' ek
    refine p3.here s3 ⟨(k', w) :: ws, ?_, ?_⟩
    · rw [keyOf_rv ek r1]
      rfl
    · simp only [RKs]
      exact ⟨w, ws, rfl, r2.mono s2.live e3 _ _, r3⟩
  · exact p3.elim
def eDct (own : Bool) (t : TPx) : TEx := fun ρ S => (t ρ S).bind fun ks S1 => if ks.length ≤ 15 then mkD own (mergeG [] ks) S1 else .stuck
theorem de_dct (own : Bool) {keys : List (Option Expr)} {t : TPx} (h : DPs z pos keys vs t) (hall : keys.all (·.isSome) = true := by rfl) (hl : keys.length = vs.length := by rfl) (h0 : keys ≠ [] := by exact fun e => nomatch e) (h15 : keys.length ≤ 15 := by decide) : DE z (.Dict keys vs pos) (eDct own t) := by
  obtain ⟨τ, h1, q1⟩ := h
  refine ⟨_, fun X f => pe_disp (h1 X f) hall hl h0 h15, fun g S ρ σ H Q s rs p Dp hn => ?_⟩
  have hd : Dp ∉ g.hs := fun h => s.unbad hn (s.live _ h)
  have l0 : NwAt z.K g H Dp (g.on Dp) (upd H Dp (.dK [])) S := NwAt.start s hn
  unfold eDct at p
  refine q1 (g.on Dp) S ρ σ _ _ l0.s (rs.mono s.live (Ext.on hn)) (Post.bindL p l0.ext l0.s fun ks S1 g1 H1 ps e1 s1 r1 p1 => ?_)
  obtain ⟨ws, rfl, r1⟩ := r1
  obtain ⟨l1, hD⟩ := l0.later s hd e1 s1
  rw [upd_same] at hD
  split at p1
  · rename_i hk
    refine ⟨hD, ws, rfl, by rw [r1.length]; exact hk, ?_⟩
    have rm : RKs z.K g1 H1 (mergeG [] ks) (mergeK [] ws) := RKs.merge r1 (by simp only [RKs])
    have l2 := l1.wr (u := .dK (mergeK [] ws)) hn hd
    have rm2 := rm.wk (l1.wk (u := .dK (mergeK [] ws))) _ _
    unfold mkD at p1
    split at p1
    · exact l2.finH (ob := .dct (mergeG [] ks)) hn hd ⟨_, upd_same, rm2⟩ p1
    · refine l2.finV s hn hd ?_ p1
      simp only [RV]
      exact ⟨Dp, _, rfl, .inl upd_same, fun h => h.2 rfl, RKs.anti (g := g1) (g0 := g1.off Dp) (fun b h => h.1) (fun _ _ h => h) _ _ rm2⟩
  · exact p1.elim
end

/-! ### looking up -/
def dgetD (x y : D) (S : List O) : Out D := match dctOf S x, keyOf y with
  | some kvs, some k => (match getK kvs k with
    | some d => .ok d S
    | none => .stuck)
  | _, _ => .stuck
def dinD (y x : D) (S : List O) : Out D := match dctOf S x, keyOf y with
  | some kvs, some k => .ok (.bl (hasK kvs k)) S
  | _, _ => .stuck
def dninD (y x : D) (S : List O) : Out D := match dctOf S x, keyOf y with
  | some kvs, some k => .ok (.bl (!hasK kvs k)) S
  | _, _ => .stuck
theorem getK_has : ∀ (kvs : List (Key × D)) (k : Key), (getK kvs k).isSome = hasK kvs k
  | [], _ => rfl
  | (j, d) :: r, k => by
    have := getK_has r k
    have e1 : getK ((j, d) :: r) k = if j = k then some d else getK r k := rfl
    have e2 : hasK ((j, d) :: r) k = (decide (j = k) || hasK r k) := rfl
    rw [e1, e2, ← this]
    by_cases e : j = k
    · simp [e]
    · simp [e]
section
variable {z : Sg} {a b : Expr} {ta tb : TEx} {pos : Pos}
theorem de_dget (ha : DE z a ta) (hb : DE z b tb) (hs : NoSl b := by intro _ _; rfl) : DE z (.Subscript a b pos) (eBin dgetD ta tb) := by
  refine de_bin (r := fun x y H2 Q => ∃ p v, x = .ref p ∧ DGet H2 p y (some v) ∧ Q v H2) (fun X fx τ τ' h1 h2 => pe_dget (by have := fx.hu; omega) h1 h2 hs) (fun g S H σ Q x y v u s rx ry p => ?_) ha hb
  unfold dgetD at p
  split at p
  · rename_i kvs k e1 e2
    obtain ⟨l, ws, rfl, h1, h2⟩ := dct_at s e1 rx
    have hg := h2.get k
    split at p
    · rename_i d q
      rw [q] at hg
      obtain ⟨w, h3, h4⟩ := hg
      exact ⟨l, w, rfl, .inl ⟨ws, k, h1, keyOf_rv e2 ry, h3.symm⟩, p.here s h4⟩
    · exact p.elim
  · exact p.elim
end
end TL
set_option Elab.async false
set_option linter.all false
set_option maxRecDepth 100000
set_option maxHeartbeats 4000000
/-! The tree layer, part 12: an error's own __init__, by super and one field. -/
namespace TLI
open PySem PySem.W PySem.Calls PyProof.Rows PySem.HandSPX
/-! ### the text of that def -/
def iScope : Scope := { kind := .function, names := [("self", .local), ("value", .local), ("__class__", .free), ("super", .globalImplicit)], isGenerator := false, isCoroutine := false, more := [] }
def iArgs (q1 q2 : Pos) : Arguments := { posonlyargs := [], args := [{ arg := "self", annotation := none, pos := q1 }, { arg := "value", annotation := none, pos := q2 }], vararg := none, kwonlyargs := [], kw_defaults := [], kwarg := none, defaults := [] }
def iBody (p0 p1 p2 p3 p4 p5 p6 p7 p8 p9 : Pos) : List Stmt := [.Expr (.Call (.Attribute (.Call (.Name "super" p0) [] [] p1) "__init__" p2) [.Name "value" p3] [] p4) p5, .Assign [.Attribute (.Name "self" p6) "value" p7] (.Name "value" p8) p9]
structure IFn (K : Frag) (P : Program) (D f : Addr) : Prop where
  fn : ∃ (cc cda : Addr) (oc : Value) (od : Option Addr) (osl : Array (Option Value)) (name qual : Str) (q1 q2 p0 p1 p2 p3 p4 p5 p6 p7 p8 p9 : Pos) (kV doc pm ct : Value) (an : Option Addr),
    (p2.endLine == p4.line) = true ∧
    K.lookup f = some ⟨oc, od, .func (ksFn name qual (iArgs q1 q2) (iBody p0 p1 p2 p3 p4 p5 p6 p7 p8 p9) iScope .none kV doc pm an (.ref cda) ct cc), osl⟩ ∧ codeIn K (.ref cda) qual = true ∧
    (∃ (ccl : Value) (cdd : Option Addr) (vs : Array Value) (ccs : Array (Option Value)) (file : Str) (tf : Tok), K.lookup cda = some ⟨ccl, cdd, .fields vs, ccs⟩ ∧ vs[2]? = some (.str file tf) ∧ ((P.main.file : Str) == file) = true) ∧
    (∃ (cl : Value) (cld : Option Addr) (csl : Array (Option Value)), K.lookup cc = some ⟨cl, cld, .cell (some (.ref D)), csl⟩)
  clsD : ∃ cdD, clsIn K D = some cdD
  opq : nsIn K cStatics "thirdparty.any" = some none
  top : (P.main.scope.names.lookup ("super" : Str)).isSome = false
  ty : typeIn K (.ref f) = some (.type "function")
structure ICls (K : Frag) (D f C : Addr) : Prop where
  oex : L2.OexC K C
  ini : findIn K (.ref C) "__init__" = some (some (.ref f))
  subD : mroIn K C (.ref D) = some true
  sup : ks_superIn K C D "__init__" = some (some (.builtin "ValueError.__init__"))
  subV : subIn K (.ref C) (.type "ValueError") = some true
  nov : findIn K (.ref C) "value" = some none
section
variable {prog : Program} {w : World} {A : Around} {E : Value → Shared → Prop} {h b0 : Heap} {g : Array GenState} {d : Drawn} {t : Nat} {os : OsState} {K : Frag} {mg : Str → Option Value} {D f C e t0 : Addr} {u : Value} {R : Result → Shared → Prop}
theorem call_back {uu e t0 : Addr} {rest : List Value} {Q : Value → Shared → Prop} {nm q : Str} {C N : Addr} {bs bm : List Value} {hdct : Bool} {sn : List Str} {sub : List Value} {ab : Bool} {col : Option Bool} {dd : Option Addr} {k0 k1 k2 k3 k5 : Option Value}
    (hC : h.get? C = some (excClassObj nm q C N bs bm hdct sn sub ab col dd k0 k1 k2 k3 k5 "ValueError.__new__")) (he : h.get? e = some (excO C t0)) (hu : h.get? uu = some (kxs_mw "ValueError.__init__" e)) (hrest : rest.length ≤ sizeLine)
    (hq : ∀ h' t1, (∀ b o, b ≠ e → h.get? b = some o → h'.get? b = some o) → h'.get? e = some (excO C t1) → Q .none ⟨h', g, d, t, os⟩) :
    wpAny (model prog w) A (call (.ref uu) rest) Q E ⟨h, g, d, t, os⟩ := by
  have FB : ExcBaseFacts "ValueError" "ValueError.__new__" "ValueError.__init__" _ := F.excBase_ValueError
  refine wpAny_call (codeAny_of_tree ?_)
  show wpAny _ A.in1 (callAny (.ref uu) ⟨rest, []⟩) _ _ _
  simp only [callAny]
  refine wpAny_bind (wpAny_load hu ?_)
  simp only [kxs_mw, show (Value.type "method-wrapper" == Value.type "method" || Value.type "method-wrapper" == Value.type "builtin_function_or_method" || Value.type "method-wrapper" == Value.type "method-wrapper") = true by decide, if_true]
  refine KFB.if_so (by decide) ?_
  refine wpAny_bind (check_bound_init FB.toExcCallFacts hC he rfl ?_)
  refine wpAny_bind (wpAny_pure (wpAny_pure ?_))
  refine ⟨plainId_quiet FB.init.plain _, codeAny_builtin FB.initEntry ?_⟩
  exact exc_init_tree (cls := .ref C) (t0 := t0) (dv := none) (c2 := .none) (c3 := .none) (b4 := .bool false) he hrest fun h' k e' _ => hq h' _ k e'
theorem at_meth {c : Code} {env : Env} {o : PySem.Expr} {e1 : PySem.Expr} {name : Str} {apos pos : Pos} {Q : Value → Shared → Prop} {s : Shared} (hline : (apos.endLine == pos.line) = true) (hs : starEach [e1] env = [(false, eval e1 env)])
    (h : _root_.PySem.wpAt (model prog w) A c (attributeBase o name env (eval o env)) (fun ov s₁ => ∀ pl, wpAny (model prog w) A (getMethod ov name pl) (fun fx s₂ => wpAny (model prog w) A (callWith pos fx.1 fx.2 [(false, eval e1 env)] []) Q E s₂) E s₁) E s) :
    _root_.PySem.wpAt (model prog w) A c (eval (.Call (.Attribute o name apos) [e1] [] pos) env) Q E s := by
  have hb : backTo pos (starEach [e1] env) = [(false, eval e1 env)] := by rw [hs]; rfl
  rw [arm_eval_Call, hb]
  refine _root_.PySem.wpAt_bind (_root_.PySem.wpAt_mono h (fun ov s₁ h₁ => _root_.PySem.wpAt_of_wpAny ?_) fun _ _ x => x)
  refine wpAny_bind (wpAny_standAt ?_)
  have hpos : methodCallPos true o env apos pos = pure pos := by unfold methodCallPos; simp [hline]
  show wpAny _ _ (holding [ov] (calleeOf true o env ov name) >>= fun x => methodCallPos true o env apos pos >>= fun cp => callWith cp x.1 x.2 [(false, eval e1 env)] []) _ _ _
  rw [hpos]
  unfold calleeOf
  rw [if_pos rfl]
  exact wpAny_bind (wpAny_holding (wpAny_mono (h₁ _) (fun fx s₂ h₂ => wpAny_bind (wpAny_pure h₂)) fun _ _ x => x))
theorem init_run (Fn : IFn K prog D f) (T : ICls K D f C) (X0 : K.In b0) (G0 : b0.Ns mainGlobals mg) (hsu : mg "super" = none) (B0 : ∃ mb, b0.Ns builtinsNs mb ∧ ∀ x : Str, x ≠ "__name__" → mb x = bootBuiltins x) (L0 : b0.NoLimit)
    (hroom : A.depth < recursionLimit) (hb : ∀ b o, b0.get? b = some o → h.get? b = some o ∧ b ≠ e) (he : h.get? e = some (excO C t0))
    (hq : ∀ h' t1 tk' dx, (∀ b o, b ≠ e → h.get? b = some o → h'.get? b = some o) → h.get? dx = none → dx ≠ e → h'.get? e = some { cls := .ref C, dict := some dx, data := .fields #[.ref t1, .none, .none, .none, .bool false, .none] } →
      h'.Ns1 dx (fun y => if y = "value" then some u else none) → R (.ok (.ret .none)) ⟨h', g, d, tk', os⟩) :
    codeAny (model prog w) A (.call (.ref f) ⟨[.ref e, u], []⟩) R ⟨h, g, d, t, os⟩ := by
  obtain ⟨cc, cda, oc, od, osl, name, qual, q1, q2, p0, p1, p2, p3, p4, p5, p6, p7, p8, p9, kV, doc, pm, ct, an, hline, hf, hcd, ⟨ccl, cdd, vs, ccs, file, tf, hcda, hvs, hfile⟩, ⟨cl, cld, csl, hcc⟩⟩ := Fn.fn
  obtain ⟨cdD, hD⟩ := Fn.clsD
  obtain ⟨nm, q, N, bs, bm, sn, sub, ab, col, dd, k0, k1, k2, k3, k5, hCl, hbm⟩ := T.oex.cls
  have hcl : clsIn K C = some { name := nm, bases := bs, mro := .ref C :: bm, ns := N, qualname := q, hasDict := true, slotNames := sn, subclasses := sub, abstract := ab, collection := col, hasDel := false } := by unfold clsIn; rw [hCl] <;> rfl
  obtain ⟨mb, hmb, hbt⟩ := B0
  have up0 : ∀ {h1 : Heap}, (∀ b o, b ≠ e → h.get? b = some o → h1.get? b = some o) → ∀ b o, b0.get? b = some o → h1.get? b = some o := fun k b o z => k b o (hb b o z).2 (hb b o z).1
  have Xh : ∀ {h1 : Heap}, (∀ b o, b ≠ e → h.get? b = some o → h1.get? b = some o) → K.In h1 := fun k => X0.keeps (up0 k)
  have X := Xh (h1 := h) fun _ _ _ z => z
  refine ks_codeAny_call_defAt (fd := ksFn name qual (iArgs q1 q2) (iBody p0 p1 p2 p3 p4 p5 p6 p7 p8 p9) iScope .none kV doc pm an (.ref cda) ct cc) (body := iBody p0 p1 p2 p3 p4 p5 p6 p7 p8 p9) (binds := [("self", .ref e), ("value", u)]) hroom (X _ _ hf) rfl
    (L0.keeps (up0 fun _ _ _ z => z)) (codeRec_of X hcd) rfl (BindsTo.of_eq rfl) (show ∀ x ∈ iScope.names, x.2 ≠ .cell by decide) (locs rfl) (fun h₁ hns hk₁ => ?_)
  have Lne : h.objs.size ≠ e := Nat.ne_of_gt (Heap.lt_size he)
  have k1 : ∀ b o, b ≠ e → h.get? b = some o → h₁.get? b = some o := fun b o _ z => hk₁ b o z
  have he1 : h₁.get? e = some (excO C t0) := hk₁ _ _ he
  have eC : e ≠ C := fun z => by
    subst z
    have := X _ _ hCl
    rw [he] at this
    cases this
  obtain ⟨oD, hD1, hD2⟩ : ∃ oD, h₁.get? D = some oD ∧ oD.data = .cls cdD := by
    unfold clsIn at hD
    split at hD
    · rename_i c d cd' sl ho
      cases hD
      exact ⟨_, Xh k1 _ _ ho, rfl⟩
    · cases hD
  have X1 := Xh k1
  refine ks_wpAt_execs_cons (ks_wpAt_Expr_any (at_meth hline rfl ?_) rfl rfl)
  refine ks_wpAt_super_base (of := ⟨oc, od, _, osl⟩) (ar := { arg := "self", annotation := none, pos := q1 }) rfl rfl rfl rfl (X1 _ _ hf) rfl rfl rfl (X1 _ _ hcda) rfl hvs hfile Fn.top ?_
  refine ks_loadName_global rfl rfl (loadGlobal_builtin (G0.keeps (up0 k1)) hsu (hmb.keeps (up0 k1)) ((hbt "super" (by decide)).trans (by decide +kernel)) ⟨rfl, ?_⟩)
  refine wpAny_loadName_free rfl rfl rfl ⟨_, X1 _ _ hcc, rfl⟩ ?_
  refine wpAny_loadName_local rfl rfl hns rfl ?_
  refine ks_wpAny_isType_cls hD1 hD2 ⟨rfl, ?_⟩
  refine ks_wpAny_call_super hD1 hD2 he1 rfl (fun c => nofun) (looks_mroIn X1 T.subD) (fun h2 hso k2 pl => ?_)
  have k12 : ∀ b o, b ≠ e → h.get? b = some o → h2.get? b = some o := fun b o n z => k2 _ _ (k1 _ _ n z)
  have he2 : h2.get? e = some (excO C t0) := k2 _ _ he1
  have X2 := Xh k12
  have hns2 : h2.Ns h.objs.size (fun x => ([("self", Value.ref e), ("value", u)] : List (Str × Value)).reverse.lookup x) := hns.keeps k2
  have hsup := T.sup
  unfold ks_superIn at hsup
  rw [hcl] at hsup
  refine kxs_getMethod kxs_ValueError hso (looks_opaque X2 Fn.opq) (l₀ := .ref C :: bm) (fun A Q E s k q => wpAny_bind ((looks_clsIn X2 hcl) A _ E s k (wpAny_pure q))) rfl X2 hsup ?_ eC (by decide) ?_
  · have I : InstAt h2 e (excO C t0) C none := ⟨he2, rfl, rfl, trivial⟩
    exact I.type.andThen (looks_subIn X2 T.subV)
  have hmw : (h2.push (kxs_mw "ValueError.__init__" e)).get? h2.objs.size = some (kxs_mw "ValueError.__init__" e) := Heap.get?_push_at rfl rfl
  have k3 : ∀ b o, h2.get? b = some o → (h2.push (kxs_mw "ValueError.__init__" e)).get? b = some o := fun b o z => Heap.get?_push_of_some _ z
  have he3 := k3 _ _ he2
  have hns3 := hns2.keeps k3
  refine kxs_callWith (i := "ValueError.__init__") (x := e) (args := [(false, eval (.Name "value" p3) _)]) rfl ?_
  refine evalArgs_plain (Calls.spliced_cons (ldc rfl rfl hns3 rfl (Calls.spliced_nil ⟨hmw, ?_⟩)))
  have k13 : ∀ b o, b ≠ e → h.get? b = some o → (h2.push (kxs_mw "ValueError.__init__" e)).get? b = some o := fun b o n z => k3 _ _ (k12 _ _ n z)
  refine call_back ((Xh k13) _ _ hCl) he3 hmw (by show 1 ≤ sizeLine; decide) fun h4 t1 k4 he4 => ?_
  have hns4 : h4.Ns h.objs.size (fun x => ([("self", Value.ref e), ("value", u)] : List (Str × Value)).reverse.lookup x) := by
    obtain ⟨o, es, ep, z, r⟩ := hns3
    exact ⟨o, es, ep, k4 _ _ Lne z, r⟩
  have k14 : ∀ b o, b ≠ e → h.get? b = some o → h4.get? b = some o := fun b o n z => k4 _ _ n (k13 _ _ n z)
  have X4 := Xh k14
  refine ks_wpAt_execs_cons (ks_wpAt_Assign_Attr (_root_.PySem.wpAt_of_wpAny (ldc rfl rfl hns4 rfl (ldc rfl rfl hns4 rfl ?_))) rfl)
  refine set_plain X4 (ox := excO C t1) (od := none) ⟨he4, rfl, rfl, trivial⟩ T.oex.sa ?_
  refine exc_osa X4 he4 hcl (show refsVE (.ref C :: bm) = true from hbm) rfl T.nov (fun h5 tk5 dx k5' dn dne hx hn => ?_)
  show _root_.PySem.wpAt _ _ _ (execs [] _) _ _ _
  refine _root_.PySem.wpAt_of_wpAny (wpAny_pure ?_)
  refine hq h5 t1 tk5 dx (fun b o n z => k5' _ _ n (k14 _ _ n z)) ?_ dne hx hn
  cases z : h.get? dx with
  | none => rfl
  | some o => exact absurd (Heap.lt_size (k14 _ _ dne z)) (Nat.not_lt.mpr dn)
end
end TLI
set_option Elab.async false
set_option linter.all false
set_option maxRecDepth 100000
set_option maxHeartbeats 4000000
/-! The tree layer, part 13: errors of own classes as values: made, asked, read. -/
namespace TL
open PySem PySem.Spec PyProof.Rows L2
section
variable {X : Cx} {C D f : Addr} {pins : List (Addr × Obj)} {σ : L2.St} {H : Hp} {s : Shared}
/-- two new objects at once -/
theorem laid2 {h' : Heap} {a dd : Addr} {o o2 : HO} {t' : Nat} (I : Inv X pins σ H s) (k : ∀ b u, s.heap.get? b = some u → h'.get? b = some u) (ha : s.heap.get? a = none) (hd : s.heap.get? dd = none) (ne : dd ≠ a)
    (n1 : ObjOk X.prog X.w (upd H dd o2) h' dd o2) (n2 : ObjOk X.prog X.w (upd (upd H dd o2) a o) h' a o) : Inv X pins σ (upd (upd H dd o2) a o) { s with heap := h', toks := t' } := by
  have na : H a = none := I.hok.gone ha
  have nd : H dd = none := I.hok.gone hd
  have na2 : upd H dd o2 a = none := by rw [upd_ne (Ne.symm ne)]; exact na
  have gone : ∀ b u, s.heap.get? b = some u → b ≠ a ∧ b ≠ dd := fun b u q => And.intro (fun z => nomatch (show none = some u from by rw [← ha, ← z, q])) (fun z => nomatch (show none = some u from by rw [← hd, ← z, q]))
  refine I.un { keep := fun b u q _ _ _ => k b u q, slot := fun b u q _ _ _ => ⟨u.slots, k b u q⟩, free := fun b u q n _ => ?_, there := fun b u q _ => ⟨u, k b u q⟩, tups := fun b xs q => ?_, frzs := fun b u xs q => ?_, tbls := fun b ps q => ⟨#[], ?_⟩ } ?_
  · rw [upd_ne (gone b u q).1, upd_ne (gone b u q).2]
    exact n
  · rw [upd_ne (ne_of_none q na), upd_ne (ne_of_none q nd)]
    exact q
  · rw [upd_ne (ne_of_none q na), upd_ne (ne_of_none q nd)]
    exact q
  · rw [upd_ne (ne_of_none q na), upd_ne (ne_of_none q nd), q]
    simp
  · exact HOk.laidN (HOk.laidN I.hok k nd n1) (fun _ _ z => z) na2 n2
def tMkE (C : Addr) (te : TE) : TE := fun σ H Q => te σ H fun v H1 => ∀ a dd, H1 a = none → H1 dd = none → dd ≠ a → Q (.ref a) (upd (upd H1 dd (.xd [("value", v)])) a (ExO (.ref C) (some dd) a))
theorem pe_mkE {x : Str} {e : Expr} {te : TE} {p pos : Pos} {k : Nat} (Fn : TLI.IFn X.K X.prog D f) (T : TLI.ICls X.K D f C) (hsu : X.mg "super" = none) (hr : Room (k + 1) X.A) (gC : X.mg x = some (.ref C)) (hg : Gl X x) (he : PE X e te)
    (hs : starEach [e] X.env = (false, eval e X.env) :: starEach [] X.env := by rfl) (hdb : (x == ("__debug__" : Str)) = false := by decide) : PE X (.Call (.Name x p) [e] [] pos) (tMkE C te) := by
  refine ⟨fun pins s σ H Q I h => ?_⟩
  obtain ⟨nm, q, N, bs, bm, sn, sub, ab, col, dd, k0, k1, k2, k3, k5, hC, hbm⟩ := T.oex.cls
  refine wpAny_Call_Name_kw (ld_glob I hg gC ?_ hdb)
  refine PySem.W.callWith_K (h₀ := X.base) I.ok.mod.kin T.oex.kC ?_ hs (by rfl)
  rw [hs]
  show wpAny _ _ (spliced ((false, eval e X.env) :: backTo pos (starEach [] X.env))) _ _ s
  refine Calls.spliced_cons (thn (he.run pins s σ H _ I h) fun u s1 ⟨v, H1, I1, r1, q1⟩ => ?_)
  refine Calls.spliced_nil ⟨I1.kIn, ?_⟩
  show wpAny _ _ (call (.ref C) [u]) _ _ _
  obtain ⟨hp, g, dr, tk, os⟩ := s1
  have hsz : hp.objs.size ≤ hp.objs.size + 1 := Nat.le_succ _
  have kk : ∀ b o, hp.get? b = some o → ((hp.push (PySem.W.kdv_tup [u])).push (PySem.HandSPX.excO C hp.objs.size)).get? b = some o := fun b o e => Heap.get?_push_of_some _ (Heap.get?_push_of_some _ e)
  have hget : ((hp.push (PySem.W.kdv_tup [u])).push (PySem.HandSPX.excO C hp.objs.size)).get? (hp.objs.size + 1) = some (PySem.HandSPX.excO C hp.objs.size) := by heap_get
  have hne : hp.get? (hp.objs.size + 1) = none := by
    cases z : hp.get? (hp.objs.size + 1) with
    | none => rfl
    | some o => exact absurd (Heap.lt_size z) (Nat.not_lt.mpr (Nat.le_succ _))
  refine wpAny_call (PySem.HandSPX.call_own F.excBase_ValueError (fun Y => PySem.HandSPX.refsVE_contains Y bm hbm) (I1.kIn _ _ hC) (PySem.W.looks_findIn I1.kIn T.ini) (fun self => PySem.W.bind_fn I1.kIn self Fn.ty) (by show 1 ≤ sizeLine; decide) ?_)
  refine TLI.init_run (C := C) (e := hp.objs.size + 1) (t0 := hp.objs.size) (b0 := X.base) Fn T I1.ok.mod.kin I1.ok.mod.glob hsu I1.ok.mod.blt I1.ok.mod.nolimit (hr.make C [u] []).depth (fun b o z => ⟨kk _ _ (I1.bk _ _ z), fun y => ?_⟩) hget
    (fun h' t1 tk' dx k5 nd dne hx hn => ?_)
  · have := I1.bk _ _ z
    rw [y, hne] at this
    cases this
  · have k6 : ∀ b o, hp.get? b = some o → h'.get? b = some o := fun b o z => k5 b o (fun y => by rw [y, hne] at z; cases z) (kk _ _ z)
    have nd' : hp.get? dx = none := by
      cases z : hp.get? dx with
      | none => rfl
      | some o =>
        rw [kk _ _ z] at nd
        cases nd
    have ha : H1 (hp.objs.size + 1) = none := I1.hok.gone hne
    have hd : H1 dx = none := I1.hok.gone nd'
    have hxo : ∃ o, h'.get? dx = some o := by
      obtain ⟨o, _, _, e', _⟩ := hn
      exact ⟨o, e'⟩
    refine ⟨rfl, .ref (hp.objs.size + 1), _, laid2 (t' := tk') (o := ExO (.ref C) (some dx) (hp.objs.size + 1)) (o2 := .xd [("value", v)]) I1 k6 hne nd' dne ⟨_, hn, relO_put (fs := []) r1 fun g => True.intro⟩ ?_, rfl, q1 _ _ ha hd dne⟩
    exact ⟨⟨_, _, hx, ⟨rfl, rfl⟩, rfl⟩, ⟨_, hx⟩, fun h1 h2 ⟨oe, vs, e1, e2⟩ kp => ⟨oe, vs, kp _ e1, e2⟩⟩
end

/-! ### over trees -/
def mkE (C : Str) (d : D) (S : List O) : Out D := .ok (.exc C d) S
theorem de_mkE {z : Sg} {D f : Addr} {x : Str} {e : Expr} {t : TEx} {p pos : Pos} (Fn : TLI.IFn z.K z.P D f) (T : TLI.ICls z.K D f (He.ga z.K x)) (hsu : z.mg "super" = none) (gC : z.mg x = some (.ref (He.ga z.K x))) (hl : 1 ≤ z.lv) (he : DE z e t) (hg : Gz z x := by rfl)
    (hs : ∀ env, starEach [e] env = (false, eval e env) :: starEach [] env := by intro _; rfl) (hdb : (x == ("__debug__" : Str)) = false := by decide) : DE z (.Call (.Name x p) [e] [] pos) (eUn (mkE x) t) := by
  refine de_un (r := fun v H1 Q => ∀ a dd, H1 a = none → H1 dd = none → dd ≠ a → Q (.ref a) (upd (upd H1 dd (.xd [("value", v)])) a (ExO (.ref (He.ga z.K x)) (some dd) a))) (fun X fx τ h => ?_) (fun g S H σ Q d v s rx p a dd na nd ne => ?_) he
  · exact pe_mkE (k := 0) (fx.prog ▸ fx.K ▸ Fn) (fx.K ▸ T) (fx.mgl hsu) (fx.room.mono (by omega)) (fx.mgl gC) (fx.gl hg) h (hs _) hdb
  · have e1 : ∀ b u, H b = some u → upd (upd H dd (.xd [("value", v)])) a (ExO (.ref (He.ga z.K x)) (some dd) a) b = some u := fun b u q => by
      rw [upd_ne (ne_of_none q na), upd_ne (ne_of_none q nd)]
      exact q
    refine p g _ _ (Ext.same e1) (s.same e1) ?_
    simp only [RV]
    exact ⟨a, dd, v, rfl, upd_same, s.unbad na, by rw [upd_ne ne]; exact upd_same, s.unbad nd, rx.mono s.live (Ext.same e1) _ _⟩
end TL
set_option Elab.async false
set_option linter.all false
set_option maxRecDepth 100000
set_option maxHeartbeats 4000000
/-! The tree layer, part 14: isinstance and fields of errors. -/
namespace TL
open PySem PySem.Spec PyProof.Rows L2

abbrev veB : List Value := [.type "ValueError", .type "Exception", .type "BaseException", .type "object"]
abbrev dErr : Str := "DialError"
/-- what the classes of errors say -/
structure ExC (K : PySem.W.Frag) (C : Str) : Prop where
  ic : TLI.ICls K (He.ga K dErr) (He.ma K (He.ga K dErr) "__init__") (He.ga K C)
  mro : ∃ cd, PySem.W.clsIn K (He.ga K C) = some cd ∧ cd.mro = .ref (He.ga K C) :: (if C = dErr then veB else .ref (He.ga K dErr) :: veB) ∧ cd.hasDict = true
  ty : PySem.W.typeIn K (.ref (He.ga K C)) = some (.type "type")
  gat : PySem.W.findIn K (.ref (He.ga K C)) "__getattribute__" = some (some (.builtin "BaseException.__getattribute__"))
  gtr : PySem.W.findIn K (.ref (He.ga K C)) "__getattr__" = some none
  cla : PySem.W.findIn K (.ref (He.ga K C)) "__class__" = some (some (.builtin "object.__class__"))
structure ExF (K : PySem.W.Frag) (ex : List Str) : Prop where
  nd : (ex.map (He.ga K)).Nodup
  de : dErr ∈ ex
  one : ∀ C ∈ ex, ExC K C
  spg : PySem.W.specialIn K (.builtin "object.__class__") "__get__" = some (some (.builtin "getset_descriptor.__get__"))
  tak : PySem.W.takesIn K (.builtin "object.__class__") = some true
section
variable {K : PySem.W.Frag} {ex : List Str} {B C : Str}
theorem ga_eq : ∀ {ex : List Str}, (ex.map (He.ga K)).Nodup → B ∈ ex → C ∈ ex → (He.ga K B = He.ga K C ↔ B = C)
  | [], _, h, _ => by cases h
  | x :: ex, nd, hB, hC => by
    rw [List.map_cons, List.nodup_cons] at nd
    refine ⟨fun e => ?_, fun e => by rw [e]⟩
    rcases List.mem_cons.mp hB with rfl | hB
    · rcases List.mem_cons.mp hC with rfl | hC
      · rfl
      · exact absurd (by rw [e]; exact List.mem_map_of_mem hC) nd.1
    · rcases List.mem_cons.mp hC with h | hC
      · rw [h] at e
        exact absurd (by rw [← e]; exact List.mem_map_of_mem hB) nd.1
      · exact (ga_eq nd.2 hB hC).mp e
theorem ExF.sub (F : ExF K ex) (hC : C ∈ ex) (c : Value) : PySem.W.subIn K (.ref (He.ga K C)) c = some ((.ref (He.ga K C) :: (if C = dErr then veB else .ref (He.ga K dErr) :: veB)).contains c) := by
  obtain ⟨cd, h1, h2, _⟩ := (F.one C hC).mro
  show PySem.W.mroIn K (He.ga K C) c = _
  unfold PySem.W.mroIn
  rw [h1, Option.bind_some, h2]
  rfl
def isErr (C B : Str) : Bool := decide (C = B) || decide (B = dErr)
theorem ExF.kit (F : ExF K ex) (hC : C ∈ ex) (hB : B ∈ ex) : PySem.W.kitOne K (.ref (He.ga K C)) (.ref (He.ga K B)) = some (isErr C B) := by
  have e1 : (Value.ref (He.ga K C) == Value.ref (He.ga K B)) = decide (C = B) := by
    by_cases h : C = B
    · rw [h]; simp
    · have : ¬ He.ga K C = He.ga K B := fun z => h ((ga_eq F.nd hC hB).mp z)
      simp [h, this]
  have e2 : (Value.ref (He.ga K dErr) == Value.ref (He.ga K B)) = decide (B = dErr) := by
    by_cases h : B = dErr
    · rw [h]; simp
    · have : ¬ He.ga K dErr = He.ga K B := fun z => h ((ga_eq F.nd F.de hB).mp z).symm
      simp [h, this]
  unfold PySem.W.kitOne
  rw [e1]
  by_cases h : C = B
  · simp [h, isErr]
  · obtain ⟨cd, h1, _⟩ := (F.one B hB).mro
    simp only [h, decide_false, Bool.false_eq_true, if_false, PySem.W.kitCls, h1, Option.isSome_some, (F.one B hB).ty, beq_self_eq_true, Bool.and_self, if_true]
    rw [F.sub hC]
    congr 1
    rw [List.contains_cons]
    have e1' : (Value.ref (He.ga K B) == Value.ref (He.ga K C)) = decide (C = B) := by rw [← e1]; exact Bool.beq_comm ..
    have e2' : (Value.ref (He.ga K B) == Value.ref (He.ga K dErr)) = decide (B = dErr) := by rw [← e2]; exact Bool.beq_comm ..
    have nv : ∀ a : Addr, veB.contains (.ref a) = false := fun a => rfl
    unfold isErr
    rw [e1']
    split
    · rename_i hd
      rw [nv]
      have : ¬ B = dErr := fun z => h (hd.trans z.symm)
      simp [this]
    · rw [List.contains_cons, e2', nv]
      simp
def tyErr (n : String) : Option Bool := if n ∈ ["ValueError", "Exception"] then some true else if n ∈ tyR then some false else none
theorem tyErr_all : ∀ n ∈ (["ValueError", "Exception"] : List String) ++ tyR, PySem.W.kitMeta n = true ∧ veB.contains (.type n) = decide (n ∈ (["ValueError", "Exception"] : List String)) := by decide +kernel
theorem ExF.kitT (F : ExF K ex) (hC : C ∈ ex) {n : String} {b : Bool} (h : tyErr n = some b) : PySem.W.kitOne K (.ref (He.ga K C)) (.type n) = some b := by
  have key : n ∈ (["ValueError", "Exception"] : List String) ++ tyR ∧ b = decide (n ∈ (["ValueError", "Exception"] : List String)) := by
    unfold tyErr at h
    split at h
    · rename_i q
      cases h
      exact ⟨List.mem_append_left _ q, by simp [q]⟩
    · rename_i q
      split at h
      · rename_i q2
        cases h
        exact ⟨List.mem_append_right _ q2, by simp [q]⟩
      · cases h
  obtain ⟨k1, rfl⟩ := key
  obtain ⟨m1, m2⟩ := tyErr_all n k1
  unfold PySem.W.kitOne
  rw [if_neg (show ¬ ((Value.ref (He.ga K C) == Value.type n) = true) from Bool.false_ne_true)]
  simp only [PySem.W.kitCls, m1, if_true]
  rw [F.sub hC, ← m2]
  congr 1
  split
  · rfl
  · rfl
def noErr (a : String) : Bool := a ∈ tyL
theorem noErr_all : ∀ a ∈ tyL, ((PySem.fastBuiltinMro a).any fun l => l.all fun v => match v with
    | .type _ => true
    | _ => false) = true := by decide +kernel
theorem kit_no {a : String} (h : a ∈ tyL) (F : ExF K ex) (hB : B ∈ ex) : PySem.W.kitOne K (.type a) (.ref (He.ga K B)) = some false := by
  have h1 := noErr_all a h
  unfold PySem.W.kitOne
  rw [if_neg (show ¬ ((Value.type a == Value.ref (He.ga K B)) = true) from Bool.false_ne_true)]
  obtain ⟨cd, h2, _⟩ := (F.one B hB).mro
  simp only [PySem.W.kitCls, h2, Option.isSome_some, (F.one B hB).ty, beq_self_eq_true, Bool.and_self, if_true]
  cases e : PySem.fastBuiltinMro a with
  | none => rw [e] at h1; cases h1
  | some l =>
    rw [e] at h1
    show (PySem.fastBuiltinMro a).map (·.contains (Value.ref (He.ga K B))) = some false
    rw [e]
    show some (l.contains _) = some false
    congr 1
    have h1 : (l.all fun v => match v with
      | .type _ => true
      | _ => false) = true := h1
    rw [List.all_eq_true] at h1
    refine Bool.eq_false_iff.mpr fun z => ?_
    have := h1 _ (List.contains_iff_mem.mp z)
    cases this
end

/-! ### the rules -/
section
variable {X : Cx} {ex : List Str} {C : Str}
def rIsE2 (K : PySem.W.Frag) (ex : List Str) : List V → Hp → VK → Prop := fun xs H Q => ∃ (a dd : Addr) (fs : List (Str × V)) (C : Str) (c : V) (cv : Value) (b : Bool), xs = [.ref a, c] ∧ C ∈ ex ∧ H a = some (ExO (.ref (He.ga K C)) (some dd) a) ∧ H dd = some (.xd fs) ∧ ClsV c cv ∧ PySem.W.kitOne K (.ref (He.ga K C)) cv = some b ∧ Q (.bl b) H
theorem exO_inst {pins : List (Addr × Obj)} {σ : L2.St} {H : Hp} {s : Shared} {a dd : Addr} {fs : List (Str × V)} (I : Inv X pins σ H s) (ha : H a = some (ExO (.ref (He.ga X.K C)) (some dd) a)) (hd : H dd = some (.xd fs)) :
    ∃ ox od mA, PySem.W.InstAt s.heap a ox (He.ga X.K C) (some od) ∧ s.heap.get? dd = some od ∧ s.heap.Ns1 dd mA ∧ (∀ f, RelO (fs.lookup f) (mA f)) ∧ ∀ name, PySem.W.lookIn name od = some (mA name) := by
  obtain ⟨⟨oe, vs, h1, ⟨h2, h3⟩, h4⟩, _, _⟩ := (show ObjOk X.prog X.w H s.heap a (.ext _) from I.hok a _ ha)
  obtain ⟨mA, hns, hr⟩ := (show ObjOk X.prog X.w H s.heap dd (.xd fs) from I.hok dd _ hd)
  obtain ⟨od, ho, hl⟩ := lookIn_ns hns
  exact ⟨oe, od, mA, ⟨h1, h2, by unfold PySem.W.notCls; rw [h4] <;> rfl, by rw [h3]; exact ho⟩, ho, hns, hr, hl⟩
theorem call_isE2 (F : ExF X.K ex) : CallR X (.builtin "isinstance") (rIsE2 X.K ex) := by
  intro pins s σ H xs us Q I r h
  obtain ⟨a, dd, fs, C, c, cv, b, rfl, hC, ha, hd, k, e, q⟩ := h
  obtain ⟨u1, u2, rfl, r1, r2⟩ := vals2 r
  cases r1
  have e2 := k.eq r2
  subst e2
  obtain ⟨ox, od, mA, J, _⟩ := exO_inst I ha hd
  have G := F.one C hC
  obtain ⟨cd, hcd, hm, _⟩ := G.mro
  have hob : PySem.W.mroIn X.K (He.ga X.K C) (.type "object") = some true := by
    have := F.sub hC (.type "object")
    have this : PySem.W.mroIn X.K (He.ga X.K C) (.type "object") = _ := this
    rw [this]
    congr 1
    split <;> rfl
  exact PySem.W.kia_one (PySem.W.kitx_exc (x := a) (ox := ox) (od := some od) (by rw [hcd]; rfl) G.gat G.gtr G.ic.oex.exC G.cla F.spg F.tak hob) I.kIn J e (fun z => nomatch z) fun tk => ⟨.bl b, H, I.tok tk, rfl, q⟩
def tFldE (K : PySem.W.Frag) (ex : List Str) (n : Str) (te : TE) : TE := fun σ H Q => te σ H fun x H1 => ∃ (a dd : Addr) (fs : List (Str × V)) (C : Str) (v : V), x = .ref a ∧ C ∈ ex ∧ H1 a = some (ExO (.ref (He.ga K C)) (some dd) a) ∧ H1 dd = some (.xd fs) ∧ PySem.W.findIn K (.ref (He.ga K C)) n = some none ∧ fs.lookup n = some v ∧ Q v H1
theorem pe_fldE {e : Expr} {te : TE} {pos : Pos} {n : Str} (F : ExF X.K ex) (he : PE X e te) (hb : attributeBase e n X.env (eval e X.env) = eval e X.env := by rfl) : PE X (.Attribute e n pos) (tFldE X.K ex n te) := by
  refine ⟨fun pins s σ H Q I h => ?_⟩
  refine attr_of hb (thn (he.run pins s σ H _ I h) fun u s1 ⟨x, H1, I1, rx, a, dd, fs, C, v, ex1, hC, ha, hd, hno, hl, q⟩ => ?_)
  subst ex1
  obtain rfl : u = Value.ref a := rx
  obtain ⟨ox, od, mA, J, ho, hns, hr, hlk⟩ := exO_inst I1 ha hd
  have G := F.one C hC
  obtain ⟨u, hu, ru⟩ := RelO.some_of (v := v) (o := mA n) (by rw [← hl]; exact hr n)
  obtain ⟨cd, hcd, hm, hdi⟩ := G.mro
  have hdI : PySem.W.hasDictIn X.K (He.ga X.K C) = true := by
    unfold PySem.W.hasDictIn
    rw [hcd]
    exact hdi
  exact HandSPX.exc_get I1.kIn J G.gat G.gtr G.ic.oex.exC (PySem.W.findObj_own hdI hno rfl (by rw [hlk, hu])) (handed_of ru) ⟨v, H1, I1.tok _, ru, q⟩
end

/-! ### over trees -/
def isiE (ex : List Str) (ds : List D) (S : List O) : Out D := match ds with
  | [.exc C _, .cls B] => if C ∈ ex ∧ B ∈ ex then .ok (.bl (isErr C B)) S else .stuck
  | [.exc C _, .ty n] => if C ∈ ex then (match tyErr n with
    | some b => .ok (.bl b) S
    | none => .stuck) else .stuck
  | _ => .stuck
def valE (ex : List Str) (x : D) (S : List O) : Out D := match x with
  | .exc C d => if C ∈ ex then .ok d S else .stuck
  | _ => .stuck
section
variable {z : Sg} {ex : List Str} {a b : Expr} {ta : TAx} {t : TEx} {p pos : Pos}
theorem de_isE (F : ExF z.K ex) (hm : z.mg "isinstance" = none) (ha : DA z [a, b] ta) (hg : Gz z "isinstance" := by rfl) (hs : ∀ env, starEach [a, b] env = (false, eval a env) :: starEach [b] env := by intro _; rfl) (hp : ∀ env, (backTo pos (starEach [b] env)).any (·.1) = false := by intro _; rfl) :
    DE z (.Call (.Name "isinstance" p) [a, b] [] pos) (eArgs (isiE ex) ta) := by
  refine de_callB (r := rIsE2 z.K ex) (fun X f => f.K ▸ call_isE2 (f.K ▸ F)) (fun g S H σ Q xs vs s r p => ?_) (by decide +kernel) hm ha hg (by decide) (by decide) hs hp
  unfold isiE at p
  split at p
  · split at p
    · rename_i C d B hc
      obtain ⟨v, u, rfl, r1, r2⟩ := rvs2 r
      simp only [RV] at r1 r2
      obtain ⟨l, dd, w, rfl, h1, _, h2, _, _⟩ := r1
      subst r2
      exact ⟨l, dd, _, C, _, _, _, rfl, hc.1, h1, h2, .own _, F.kit hc.1 hc.2, p.here s (by simp only [RV])⟩
    · exact p.elim
  · split at p
    · rename_i C d n hc
      split at p
      · rename_i k q
        obtain ⟨v, u, rfl, r1, r2⟩ := rvs2 r
        simp only [RV] at r1 r2
        obtain ⟨l, dd, w, rfl, h1, _, h2, _, _⟩ := r1
        subst r2
        exact ⟨l, dd, _, C, _, _, _, rfl, hc, h1, h2, .ty _, F.kitT hc q, p.here s (by simp only [RV])⟩
      · exact p.elim
    · exact p.elim
  · exact p.elim
theorem de_valE (F : ExF z.K ex) {e : Expr} (he : DE z e t) (hb : ∀ env, attributeBase e "value" env (eval e env) = eval e env := by intro _; rfl) : DE z (.Attribute e "value" pos) (eUn (valE ex) t) := by
  refine de_un (r := fun x H1 Q => ∃ (a dd : Addr) (fs : List (Str × V)) (C : Str) (v : V), x = .ref a ∧ C ∈ ex ∧ H1 a = some (ExO (.ref (He.ga z.K C)) (some dd) a) ∧ H1 dd = some (.xd fs) ∧ PySem.W.findIn z.K (.ref (He.ga z.K C)) "value" = some none ∧ fs.lookup (Str.ofString "value") = some v ∧ Q v H1)
    (fun X f τ h => f.K ▸ pe_fldE (f.K ▸ F) h (hb _)) (fun g S H σ Q x v s rx p => ?_) he
  unfold valE at p
  split at p
  · split at p
    · rename_i C d hc
      simp only [RV] at rx
      obtain ⟨l, dd, w, rfl, h1, _, h2, _, h3⟩ := rx
      exact ⟨l, dd, _, C, w, rfl, hc, h1, h2, (F.one C hc).ic.nov, rfl, p.here s h3⟩
    · exact p.elim
  · exact p.elim
end
end TL
set_option Elab.async false
set_option linter.all false
set_option maxRecDepth 100000
set_option maxHeartbeats 4000000
/-! The tree layer, part 15: a law's end. -/
namespace TL
open PySem PySem.Spec PyProof.Rows L2

abbrev G0 : G := ⟨fun _ => False, []⟩
theorem SR.empty {K : PySem.W.Frag} {H : Hp} : SR K G0 [] H := ⟨rfl, List.nodup_nil, fun a h => (by cases h), fun a h => h.elim, fun i a o h => (by simp at h)⟩
section
variable {P : Program} {w : World} {K : PySem.W.Frag} {mg mb : Str → Option Value} {k : Nat} {fa a : Addr} {fd : FuncData} {x : Str} {F : TF} {s1 : Shared} {vs : List Value} {ns : List Int}
/-- the law's def, called with the script -/
theorem law_tfn (KX : K.In s1.heap) (hns : s1.heap.Ns mainGlobals mg) (hmb : s1.heap.Ns builtinsNs mb) (hbb : ∀ y : Str, y ≠ "__name__" → mb y = bootBuiltins y) (nol : s1.heap.NoLimit) (gens : s1.gens = #[])
    (hobj : s1.heap.get? a = some { cls := .type "list", data := .seq vs.toArray }) (hi : IntsAre vs ns) (hlen : ns.length ≤ sizeLine) (room : Room k callerA)
    (hF : ∀ base : Heap, K.In base → base.Ns mainGlobals mg → TFn P w K mg base k fa fd [x] F) (hbind : ∀ (s : Shared) (u : Value), BindsTo s fd ⟨[u], []⟩ [(x, u)])
    (hval : ∃ S, F [.scr ns] [] = .ok (.bl true) S) :
    codeAny (model P w) callerA (.call (.ref fa) ⟨[.ref a], []⟩) (fun r s' => r = .ok (.ret (.bool true)) ∧ OldK s1.heap s'.heap ∧ s'.os = s1.os ∧ AllBare s'.gens) s1 := by
  obtain ⟨S1, hval⟩ := hval
  have rints := vals_ints hi
  have same := hi.length
  -- the abstract heap at the start: the script alone, if it is none of the module's objects
  have go : ∀ H : Hp, (∀ b, H b = none ∨ (b = a ∧ K.lookup a = none ∧ H b = some (.frz { cls := .type "list", data := .seq vs.toArray } (.lst (ns.map V.int))))) → ScrAt K G0 H a (ns.map V.int) →
      codeAny (model P w) callerA (.call (.ref fa) ⟨[.ref a], []⟩) (fun r s' => r = .ok (.ret (.bool true)) ∧ OldK s1.heap s'.heap ∧ s'.os = s1.os ∧ AllBare s'.gens) s1 := by
    intro H only scr
    have hb : ∀ {b : Addr} {o : Obj}, s1.heap.get? b = some o → (b = a → K.lookup a = none → False) → (hidT s1.heap H).get? b = some o := fun {b o} e n => hidT_get e (by
      rcases only b with z | ⟨z1, z2, _⟩
      · exact z
      · exact (n z1 z2).elim)
    have ns1 : ∀ {b : Addr} {m : Str → Option Value}, s1.heap.Ns b m → (hidT s1.heap H).Ns b m := fun {b m} ⟨o, es, ep, e, dd, r⟩ => ⟨o, es, ep, hb e (fun z _ => by
      rw [z, hobj] at e
      cases e
      cases (show Data.seq vs.toArray _ = Data.dict es ep from dd)), dd, r⟩
    have inB : K.In (hidT s1.heap H) := fun b o e => hb (KX b o e) fun z n => by
      rw [z, n] at e
      cases e
    have hok : HOk P w H s1.heap := fun b u e => by
      rcases only b with z | ⟨z1, _, z3⟩
      · rw [z] at e
        cases e
      · rw [z3] at e
        cases e
        rw [z1]
        exact ⟨hobj, by rw [List.length_map]; exact hlen, vs, _, rints, hobj⟩
    have md : Mod K mg (hidT s1.heap H) := ⟨inB, ns1 hns, ⟨mb, ns1 hmb, hbb⟩, let ⟨mc, y1, y2⟩ := nol; ⟨mc, ns1 y1, y2⟩⟩
    have e0 : Env0 P w K mg (hidT s1.heap H) callerA [] s1 H := ⟨rfl, md, fun _ _ e => of_hidT e, Nat.le_of_eq (hidT_size _ _), trivial, fun b m => (by cases (show b ∈ ([] : List Addr) from m)), hok, .of_eq gens⟩
    have post : Post K (wX fun _ _ _ => False) (RV K) G0 H [] (fun v _ => v = .bl true) (F [.scr ns] []) := by
      rw [hval]
      exact fun _ _ v _ _ r => rv_bl r
    have rv : RVs K G0 H [.scr ns] [.ref a] := by
      simp only [RVs, RV]
      exact ⟨_, _, rfl, ⟨a, rfl, scr⟩, rfl⟩
    refine codeAny_mono ((hF _ inB (ns1 hns)).run callerA [] s1 H ⟨[.ref a], []⟩ [.ref a] [.ref a] _ _ G0 [] [.scr ns] room rfl e0 (hbind s1 (.ref a)) (.cons rfl .nil) rfl SR.empty rv post) fun r s' hr => ?_
    have un_old : ∀ {H' : Hp}, Un (frs []) [] H H' s1.heap s'.heap → HOk P w H' s'.heap → OldK s1.heap s'.heap := fun {H'} un hk' => OldK.of_keep fun b o e => by
      rcases only b with z | ⟨z1, _, z3⟩
      · exact un.keep b o e z (by intro y; cases (show b ∈ ([] : List Addr) from y)) (by simp)
      · obtain ⟨y1, _⟩ := hk' b _ (un.frzs b _ _ z3)
        rw [z1, hobj] at e
        cases e
        rw [← z1] at *
        exact y1
    cases r with
    | error e =>
      obtain ⟨_, _, _, _, _, _, _, _, _, _, _, _, no⟩ := hr
      exact no.elim
    | ok fl =>
      cases fl with
      | ret u =>
        obtain ⟨v, H', o1, o2, o3, o4, r', q⟩ := hr
        have q : v = .bl true := q
        subst q
        obtain rfl : u = Value.bool true := r'
        exact ⟨rfl, un_old o3 o4, o1, o2⟩
      | _ => exact False.elim hr
  cases hk : K.lookup a with
  | some o =>
    have e := KX a o hk
    rw [hobj] at e
    cases e
    exact go (fun _ => none) (fun _ => .inl rfl) (.inr ⟨_, vs.toArray, _, hk, rfl, rfl, rfl, by rw [List.size_toArray, same]; exact hlen, by simpa using rints⟩)
  | none =>
    refine go (upd (fun _ => none) a (.frz { cls := .type "list", data := .seq vs.toArray } (.lst (ns.map V.int)))) (fun b => ?_) (.inl ⟨⟨_, upd_same⟩, fun h => h⟩)
    by_cases hba : b = a
    · exact .inr ⟨hba, hk, by rw [hba, upd_same]⟩
    · exact .inl (upd_ne hba)
end
/-- the goal of a head: F gives the written part and the law's def by name -/
theorem walk_T {l : PySem.W.OpenLaw} {n k : Nat} {q : Program} {loose : List Str} {XP : (Str → Option Value) → Heap → Prop} {YP : World → Heap → Prop} {d : DefRec} {x : Str} {F : TF}
    (hn : l.most = some n) (hn2 : n ≤ sizeLine) (hdf : d.params.defaults = []) (room : Room k callerA)
    (hF : ∀ (w : World) (mg : Str → Option Value) (fa : Addr) (h : Heap), YP w h → h.Ns mainGlobals mg → mg d.name = some (.ref fa) →
      ∃ (K : PySem.W.Frag) (fd : FuncData), K.In h ∧ (∀ (s : Shared) (u : Value), BindsTo s fd ⟨[u], []⟩ [(x, u)]) ∧ ∀ base : Heap, K.In base → base.Ns mainGlobals mg → TFn l.prog w K mg base k fa fd [x] F)
    (hval : ∀ ns : List Int, ns.length ≤ n → (∀ z ∈ ns, Builtin.Int.intBits z ≤ 1048576) → ∃ S, F [.scr ns] [] = .ok (.bl true) S) :
    PySem.W.WalkO q loose XP YP l.row.toRowW d [] (fun f vs => PySem.call f vs) := by
  refine Att.attach_callB hn hdf fun w s0 s1 mg mb fa o pm cd doc a vs ns Gr Y ho hd hcd hmg hobj hi hlen hbits gens => ?_
  obtain ⟨K, fd, KX, hb, hF⟩ := hF w mg fa _ Y Gr.T.g hmg
  exact law_tfn KX Gr.T.g Gr.T.b Gr.T.builtins Gr.T.nolimit gens hobj hi (Nat.le_trans hlen hn2) room hF hb (hval ns hlen hbits)
end TL
set_option Elab.async false
set_option linter.all false
set_option maxRecDepth 100000
set_option maxHeartbeats 4000000
/-! The tree layer, part 16: the head's facts. -/
namespace TL
open PySem PySem.Spec PyProof.Rows L2

/-! ### the errors' def -/
abbrev IniV : Type := Option (Str × Str × Arguments × FuncBody × Scope × Addr × List Str × Value × Addr)
def iniObs (K : PySem.W.Frag) : IniV := match K.lookup (He.ma K (He.ga K dErr) "__init__") with
  | some ⟨_, _, .func fd, _⟩ => some (fd.name, fd.qualname, fd.params, fd.body, fd.scope, fd.globals, fd.closure.map (·.1), fd.defaults, fd.builtins)
  | _ => none
structure IniD where
  name : Str
  qual : Str
  q1 : Pos
  q2 : Pos
  p0 : Pos
  p1 : Pos
  p2 : Pos
  p3 : Pos
  p4 : Pos
  p5 : Pos
  p6 : Pos
  p7 : Pos
  p8 : Pos
  p9 : Pos
def IniD.val (i : IniD) : IniV := some (i.name, i.qual, TLI.iArgs i.q1 i.q2, .stmts (TLI.iBody i.p0 i.p1 i.p2 i.p3 i.p4 i.p5 i.p6 i.p7 i.p8 i.p9), TLI.iScope, mainGlobals, ["__class__"], .none, builtinsNs)
/-- its code, its cell -/
def fileAt (K : PySem.W.Frag) (c : Addr) : Option Str := match K.lookup c with
  | some ⟨_, _, .fields vs, _⟩ => (match vs.toList with
    | _ :: _ :: .str fl _ :: _ => some fl
    | _ => none)
  | _ => none
def cellAt (K : PySem.W.Frag) (c : Addr) : Option Value := match K.lookup c with
  | some ⟨_, _, .cell (some v), _⟩ => some v
  | _ => none
theorem fileAt_ok {K : PySem.W.Frag} {c : Addr} {file : Str} (h : fileAt K c = some file) : ∃ (ccl : Value) (cdd : Option Addr) (vs : Array Value) (ccs : Array (Option Value)) (tf : Tok), K.lookup c = some ⟨ccl, cdd, .fields vs, ccs⟩ ∧ vs[2]? = some (.str file tf) := by
  unfold fileAt at h
  split at h
  · rename_i z1 z2 vs z4 q2
    split at h
    · rename_i a b fl tk r q3
      cases h
      obtain ⟨l⟩ := vs
      simp only at q3
      subst q3
      exact ⟨z1, z2, _, z4, tk, q2, rfl⟩
    · cases h
  · cases h
theorem cellAt_ok {K : PySem.W.Frag} {c : Addr} {v : Value} (h : cellAt K c = some v) : ∃ (cl : Value) (cld : Option Addr) (csl : Array (Option Value)), K.lookup c = some ⟨cl, cld, .cell (some v), csl⟩ := by
  unfold cellAt at h
  split at h
  · rename_i z1 z2 u z4 q2
    cases h
    exact ⟨z1, z2, z4, q2⟩
  · cases h
def codeB (file : Str) (K : PySem.W.Frag) (qual : Str) : Value → List (Str × Addr) → Bool
  | .ref cda, [(_, cc)] => PySem.W.codeIn K (.ref cda) qual && (decide (fileAt K cda = some file) && decide (cellAt K cc = some (.ref (He.ga K dErr))))
  | _, _ => false
theorem codeB_ok {file : Str} {K : PySem.W.Frag} {qual : Str} {v : Value} {cl : List (Str × Addr)} (h : codeB file K qual v cl = true) : ∃ cda x cc, v = .ref cda ∧ cl = [(x, cc)] ∧ PySem.W.codeIn K (.ref cda) qual = true ∧ fileAt K cda = some file ∧ cellAt K cc = some (.ref (He.ga K dErr)) := by
  unfold codeB at h
  split at h
  · rename_i cda x cc
    obtain ⟨d1, d⟩ := Bool.and_eq_true_iff.mp h
    obtain ⟨d2, d3⟩ := Bool.and_eq_true_iff.mp d
    exact ⟨cda, x, cc, rfl, rfl, d1, of_decide_eq_true d2, of_decide_eq_true d3⟩
  · cases h
def ifnB (file : Str) (K : PySem.W.Frag) : Bool := (match K.lookup (He.ma K (He.ga K dErr) "__init__") with
  | some ⟨_, _, .func fd, _⟩ => codeB file K fd.qualname fd.code fd.closure
  | _ => false) && ((PySem.W.clsIn K (He.ga K dErr)).isSome && (decide (PySem.W.nsIn K cStatics "thirdparty.any" = some none) && decide (PySem.W.typeIn K (.ref (He.ma K (He.ga K dErr) "__init__")) = some (.type "function"))))
theorem ifn_of {K : PySem.W.Frag} {P : Program} {i : IniD} (e : iniObs K = i.val) (c : ifnB P.main.file K = true) (hl : (i.p2.endLine == i.p4.line) = true) (top : (P.main.scope.names.lookup ("super" : Str)).isSome = false) : TLI.IFn K P (He.ga K dErr) (He.ma K (He.ga K dErr) "__init__") := by
  obtain ⟨c1, c⟩ := Bool.and_eq_true_iff.mp c
  obtain ⟨c2, c⟩ := Bool.and_eq_true_iff.mp c
  obtain ⟨c3, c4⟩ := Bool.and_eq_true_iff.mp c
  refine ⟨?_, Option.isSome_iff_exists.mp c2, of_decide_eq_true c3, top, of_decide_eq_true c4⟩
  unfold iniObs at e
  cases q : K.lookup (He.ma K (He.ga K dErr) "__init__") with
  | none => rw [q] at c1; cases c1
  | some o =>
    obtain ⟨oc, od, dt, osl⟩ := o
    rw [q] at c1 e
    cases dt with
    | func fd =>
      obtain ⟨n1, n2, n3, n4, n5, n6, n7, n8, n9, n10, n11, n12, n13, n14, n15⟩ := fd
      have e2 : (some (n1, n2, n3, n4, n5, n6, n7.map (·.1), n8, n15) : IniV) = i.val := e
      unfold IniD.val at e2
      simp only [Option.some.injEq, Prod.mk.injEq] at e2
      obtain ⟨h1, h2, h3, h4, h5, h6, h7, h8, h9⟩ := e2
      obtain ⟨cda, x, cc, rfl, rfl, d1, d2, d3⟩ := codeB_ok (show codeB P.main.file K n2 n13 n7 = true from c1)
      have hx : x = "__class__" := by
        simp only [List.map_cons, List.map_nil, List.cons.injEq, and_true] at h7
        exact h7
      obtain ⟨y1, y2, y3, y4, y5, y6, y7⟩ := fileAt_ok d2
      subst h1 h2 h3 h4 h5 h6 hx h8 h9
      exact ⟨cc, cda, oc, od, osl, _, _, i.q1, i.q2, i.p0, i.p1, i.p2, i.p3, i.p4, i.p5, i.p6, i.p7, i.p8, i.p9, n9, n10, n11, n14, n12, hl, rfl, d1, ⟨y1, y2, y3, y4, P.main.file, y5, y6, y7, beq_self_eq_true _⟩, cellAt_ok d3⟩
    | _ => cases c1

/-! ### a class of errors -/
def eqT (a b : Option (Option Value)) : Bool := decide (a = b)
def mroE (K : PySem.W.Frag) (C : Str) : List Value := if C = dErr then veB else .ref (He.ga K dErr) :: veB
def clsB (C : Str) (K : PySem.W.Frag) : Bool := match K.lookup (He.ga K C) with
  | some ⟨.type t, _, .cls cd, sl⟩ => (match sl.toList with
    | [_, _, _, _, some (.builtin n), _] => decide (t = "type") && (decide (cd.mro = .ref (He.ga K C) :: mroE K C) && (cd.hasDict && (!cd.hasDel && decide (n = "ValueError.__new__"))))
    | _ => false)
  | _ => false
def exB (C : Str) (K : PySem.W.Frag) : Bool := clsB C K && (eqT (PySem.W.findIn K (.ref (He.ga K C)) "__setattr__") (some (some (.builtin "object.__setattr__"))) && (PySem.W.keepIn K (.ref (He.ga K C)) &&
  (eqT (PySem.W.findIn K (.ref (He.ga K C)) "__init__") (some (some (.ref (He.ma K (He.ga K dErr) "__init__")))) && (eqT (PySem.W.ks_superIn K (He.ga K C) (He.ga K dErr) "__init__") (some (some (.builtin "ValueError.__init__"))) &&
  (eqT (PySem.W.findIn K (.ref (He.ga K C)) "value") (some none) && (eqT (PySem.W.findIn K (.ref (He.ga K C)) "__getattribute__") (some (some (.builtin "BaseException.__getattribute__"))) &&
  (eqT (PySem.W.findIn K (.ref (He.ga K C)) "__getattr__") (some none) && eqT (PySem.W.findIn K (.ref (He.ga K C)) "__class__") (some (some (.builtin "object.__class__")))))))))) && eqT (PySem.W.nsIn K mainGlobals C) (some (some (.ref (He.ga K C))))
def exsB (ex : List Str) (K : PySem.W.Frag) : Bool := ex.all (fun C => exB C K) && (decide (ex.map (He.ga K)).Nodup && (decide (dErr ∈ ex) && (eqT (PySem.W.specialIn K (.builtin "object.__class__") "__get__") (some (some (.builtin "getset_descriptor.__get__"))) && decide (PySem.W.takesIn K (.builtin "object.__class__") = some true))))
section
variable {K : PySem.W.Frag} {C : Str} {ex : List Str}
theorem refsVE_mro : PySem.HandSPX.refsVE (mroE K C) = true := by
  unfold mroE
  split <;> rfl
theorem clsB_ok (h : clsB C K = true) : (∃ nm q N bs bm sn sub ab col dd k0 k1 k2 k3 k5, K.lookup (He.ga K C) = some (excClassObj nm q (He.ga K C) N bs bm true sn sub ab col dd k0 k1 k2 k3 k5 "ValueError.__new__") ∧ bm = mroE K C) ∧ PySem.W.typeIn K (.ref (He.ga K C)) = some (.type "type") := by
  unfold clsB at h
  split at h
  · rename_i t od cd sl q
    split at h
    · rename_i k0 k1 k2 k3 n k5 hs
      obtain ⟨h1, h⟩ := Bool.and_eq_true_iff.mp h
      obtain ⟨h2, h⟩ := Bool.and_eq_true_iff.mp h
      obtain ⟨h3, h⟩ := Bool.and_eq_true_iff.mp h
      obtain ⟨h4, h5⟩ := Bool.and_eq_true_iff.mp h
      have h1 : t = "type" := of_decide_eq_true h1
      have h2 := of_decide_eq_true h2
      have h5 : n = "ValueError.__new__" := of_decide_eq_true h5
      subst h1 h5
      obtain ⟨nm, bs, mro, ns, qn, hd, sn, sub, ab, col, del⟩ := cd
      dsimp only at h2 h3 h4
      subst h2 h3
      have h4 : del = false := by simpa using h4
      subst h4
      have hsl : sl = #[k0, k1, k2, k3, some (.builtin "ValueError.__new__"), k5] := by
        obtain ⟨l⟩ := sl
        simp only at hs
        rw [hs]
      subst hsl
      refine ⟨⟨nm, qn, ns, bs, _, sn, sub, ab, col, od, k0, k1, k2, k3, k5, q, rfl⟩, ?_⟩
      show (K.lookup (He.ga K C)).map (·.cls) = _
      rw [q]
      rfl
    · cases h
  · cases h
theorem exC_of (h : exB C K = true) : ExC K C ∧ PySem.W.nsIn K mainGlobals C = some (some (.ref (He.ga K C))) := by
  obtain ⟨h, hg⟩ := Bool.and_eq_true_iff.mp h
  obtain ⟨h0, h⟩ := Bool.and_eq_true_iff.mp h
  obtain ⟨h1, h⟩ := Bool.and_eq_true_iff.mp h
  obtain ⟨h2, h⟩ := Bool.and_eq_true_iff.mp h
  obtain ⟨h3, h⟩ := Bool.and_eq_true_iff.mp h
  obtain ⟨h4, h⟩ := Bool.and_eq_true_iff.mp h
  obtain ⟨h5, h⟩ := Bool.and_eq_true_iff.mp h
  obtain ⟨h6, h⟩ := Bool.and_eq_true_iff.mp h
  obtain ⟨h7, h8⟩ := Bool.and_eq_true_iff.mp h
  obtain ⟨⟨nm, q, N, bs, bm, sn, sub, ab, col, dd, k0, k1, k2, k3, k5, hl, rfl⟩, hty⟩ := clsB_ok h0
  have hc : PySem.W.clsIn K (He.ga K C) = some { name := nm, bases := bs, mro := .ref (He.ga K C) :: mroE K C, ns := N, qualname := q, hasDict := true, slotNames := sn, subclasses := sub, abstract := ab, collection := col, hasDel := false } := by unfold PySem.W.clsIn; rw [hl] <;> rfl
  have sub : ∀ v : Value, PySem.W.mroIn K (He.ga K C) v = some ((Value.ref (He.ga K C) :: mroE K C).contains v) := fun v => by
    unfold PySem.W.mroIn
    rw [hc]
    rfl
  have tail : ∀ v : Value, veB.contains v = true → (Value.ref (He.ga K C) :: mroE K C).contains v = true := fun v z => by
    rw [List.contains_cons]
    unfold mroE
    split
    · rw [z, Bool.or_true]
    · rw [List.contains_cons, z, Bool.or_true, Bool.or_true]
  refine ⟨⟨⟨⟨⟨nm, q, N, bs, _, sn, _, ab, col, dd, k0, k1, k2, k3, k5, hl, refsVE_mro⟩, of_decide_eq_true h1, ?_, hty, h2⟩, of_decide_eq_true h3, ?_, of_decide_eq_true h4, ?_, of_decide_eq_true h5⟩, ⟨_, hc, rfl, rfl⟩, hty, of_decide_eq_true h6, of_decide_eq_true h7, of_decide_eq_true h8⟩, of_decide_eq_true hg⟩
  · show PySem.W.mroIn K (He.ga K C) _ = _
    rw [sub, tail _ (by decide)]
  · rw [sub]
    congr 1
    rw [List.contains_cons]
    unfold mroE
    split
    · rename_i hd
      rw [hd]
      simp
    · simp
  · show PySem.W.mroIn K (He.ga K C) _ = _
    rw [sub, tail _ (by decide)]
theorem exF_of (h : exsB ex K = true) : ExF K ex ∧ ∀ C ∈ ex, PySem.W.nsIn K mainGlobals C = some (some (.ref (He.ga K C))) := by
  obtain ⟨h1, h⟩ := Bool.and_eq_true_iff.mp h
  obtain ⟨h2, h⟩ := Bool.and_eq_true_iff.mp h
  obtain ⟨h3, h⟩ := Bool.and_eq_true_iff.mp h
  obtain ⟨h4, h5⟩ := Bool.and_eq_true_iff.mp h
  have h1 := List.all_eq_true.mp h1
  exact ⟨⟨of_decide_eq_true h2, of_decide_eq_true h3, fun C hC => (exC_of (h1 C hC)).1, of_decide_eq_true h4, of_decide_eq_true h5⟩, fun C hC => (exC_of (h1 C hC)).2⟩
end

/-! ### the Hook -/
abbrev Fb : Type := PySem.W.Frag → Bool
abbrev AlT : Type := Bool × List He.FnW × IniV
def obsT (fb : List Fb) (fn : List He.DefD) (K : PySem.W.Frag) : AlT := ((fb.all fun f => f K) && fn.all fun d => d.ok K, fn.map fun d => He.fnW K d.at_, iniObs K)
def valT (fn : List He.DefD) (i : IniV) : AlT := (true, fn.map He.DefD.val, i)
def fragT (n : Nat) (g : Addr → Option Obj) : PySem.W.Frag := He.frG g (He.asD g n ++ [sysModules, cStatics])
def obsTG (n : Nat) (fb : List Fb) (fn : List He.DefD) (g : Addr → Option Obj) : AlT := obsT fb fn (fragT n g)
def hookT (n : Nat) (fb : List Fb) (fn : List He.DefD) (i : IniV) : PySem.W.Hook where
  α := AlT
  obs := fun s => obsTG n fb fn s.heap.get?
  val := fun _ => valT fn i
  says := fun _ h => ∃ K : PySem.W.Frag, K.In h ∧ obsT fb fn K = valT fn i
  of := fun _ _ e => ⟨_, He.frG_in, e⟩
  keeps := fun _ _ _ ⟨K, hK, c⟩ k => ⟨K, PySem.W.Frag.In.keeps hK k, c⟩
theorem obsT_eq {n : Nat} {fb : List Fb} {fn : List He.DefD} {i : IniV} {g : Addr → Option Obj} {s : Shared} (h : ∀ a, g a = s.heap.get? a) : obsTG n fb fn g = (hookT n fb fn i).obs s := by
  have e : g = s.heap.get? := funext h
  rw [e] <;> rfl
section
variable {fb : List Fb} {fn : List He.DefD} {i : IniV} {K : PySem.W.Frag}
theorem saysT_fact (c : obsT fb fn K = valT fn i) (j : Nat) {f : Fb} (h : fb[j]? = some f := by rfl) : f K = true := by
  have c1 := (Bool.and_eq_true_iff.mp (show ((fb.all fun f => f K) && fn.all fun d => d.ok K) = true from congrArg (fun z : AlT => z.1) c)).1
  exact List.all_eq_true.mp c1 f (List.mem_of_getElem? h)
theorem saysT_ini (c : obsT fb fn K = valT fn i) : iniObs K = i := congrArg (fun z : AlT => z.2.2) c
theorem saysT_def (c : obsT fb fn K = valT fn i) (j : Nat) {d : He.DefD} (h : fn[j]? = some d := by rfl) : ∃ fd, FunD K d.name d.qual d.params d.body d.scope (d.dvs K) (d.kws K) (He.fAd K d.at_) fd := by
  have c2 := (Bool.and_eq_true_iff.mp (show ((fb.all fun f => f K) && fn.all fun d => d.ok K) = true from congrArg (fun z : AlT => z.1) c)).2
  have e : fn.map (fun d => He.fnW K d.at_) = fn.map He.DefD.val := congrArg (fun z : AlT => z.2.1) c
  have e2 : (fn.map fun d => He.fnW K d.at_)[j]? = (fn.map He.DefD.val)[j]? := by rw [e]
  rw [List.getElem?_map, List.getElem?_map, h] at e2
  exact He.DefD.funD (Option.some.inj e2) (List.all_eq_true.mp c2 d (List.mem_of_getElem? h))
end
/-- facts of plain names -/
def freeB (x : Str) (K : PySem.W.Frag) : Bool := (He.Fa.free x).ok K
def gloB (x : Str) (K : PySem.W.Frag) : Bool := (He.Fa.glo x).ok K
def sysB (K : PySem.W.Frag) : Bool := (K.lookup sysModules).isSome
end TL
set_option Elab.async false
set_option linter.all false
set_option maxRecDepth 100000
set_option maxHeartbeats 4000000
/-! The tree layer, part 17: a module's defs, as callers see them. -/
namespace TL
open PySem PySem.Spec PyProof.Rows L2

/-- the module's name x is a def of n arguments that does F -/
structure TDef (P : Program) (w : World) (K : PySem.W.Frag) (mg : Str → Option Value) (base : Heap) (k : Nat) (x : Str) (n : Nat) (F : TF) : Prop where
  ex : ∃ (f : Addr) (fd : FuncData) (ps : List Str), TFn P w K mg base k f fd ps F ∧ mg x = some (.ref f) ∧ PySem.W.keepIn K (.ref f) = true ∧ Binds K fd ps [] ∧ ps.length = n
  len : ∀ ds S, ds.length ≠ n → F ds S = .stuck
section
variable {P : Program} {w : World} {K : PySem.W.Frag} {mg : Str → Option Value} {base : Heap} {x qual : Str} {params : Arguments} {body : List Stmt} {scope : Scope} {f : Addr} {fd : FuncData} {N ps : List Str} {k : Nat} {t : TSx}
theorem tdef_of (F : FunD K x qual params body scope [] [] f fd) (hm : mg x = some (.ref f)) (S : FnScope N ps scope) (hb : Binds K fd ps []) (h : ∀ E, DSs (Sg.of P w K mg base N scope k E qual (cdAt K f)) body t) : TDef P w K mg base (k + 1) x ps.length (bodyF ps.length N t) :=
  ⟨⟨f, fd, ps, tfn_of F S h, hm, F.kp, hb, rfl⟩, fun ds S hne => if_neg hne⟩
theorem tdef_none {F : TF} (F0 : FunD K x qual params body scope [] [] f fd) (hm : mg x = some (.ref f)) (hb : Binds K fd ps []) (h : ∀ ds S, F ds S = .stuck) : TDef P w K mg base k x ps.length F :=
  ⟨⟨f, fd, ps, ⟨fun A outer s H args us vs Q E g S ds _ _ _ _ _ _ _ _ hp => by rw [h] at hp; exact hp.elim⟩, hm, F0.kp, hb, rfl⟩, fun ds S _ => h ds S⟩
theorem TDef.mono {j n : Nat} {F : TF} (h : TDef P w K mg base j x n F) (hj : j ≤ k) : TDef P w K mg base k x n F := by
  obtain ⟨f, fd, ps, h1, h2⟩ := h.ex
  exact ⟨⟨f, fd, ps, h1.mono hj, h2⟩, h.len⟩
end
section
variable {z : Sg} {k n : Nat} {x : Str} {F : TF} {e : Expr} {es : List Expr} {p pos : Pos} {ta : TAx}
theorem de_callT (T : TDef z.P z.w z.K z.mg z.base k x n F) (ha : DA z (e :: es) ta) (hk : k ≤ z.lv) (hg : Gz z x := by rfl) (hdb : (x == ("__debug__" : Str)) = false := by decide) (he : ∀ env, starEach (e :: es) env = (false, eval e env) :: starEach es env := by intro _; rfl) (hpl : ∀ env, (backTo pos (starEach es env)).any (·.1) = false := by intro _; rfl) :
    DE z (.Call (.Name x p) (e :: es) [] pos) (eArgs F ta) := by
  obtain ⟨f, fd, ps, h1, h2, h3, h4, h5⟩ := T.ex
  have q := de_call (dfl := []) (p := p) (pos := pos) h1 hk h2 h3 h4 .nil (fun g H => by simp only [RVs]) ha hg hdb he hpl
  have e2 : (fun (vs : List D) (S : List O) => if (vs ++ []).length = ps.length then F (vs ++ []) S else .stuck) = F := by
    funext vs S
    rw [List.append_nil]
    split
    · rfl
    · rename_i hne
      rw [T.len vs S (by rw [← h5]; exact hne)]
  rw [e2] at q
  exact q
end
/-- the law's own def -/
theorem TDef.law {P : Program} {w : World} {K : PySem.W.Frag} {mg : Str → Option Value} {base : Heap} {k : Nat} {x : Str} {F : TF} {fa : Addr} (T : TDef P w K mg base k x 1 F) (hm : mg x = some (.ref fa)) : ∃ fd y, TFn P w K mg base k fa fd [y] F := by
  obtain ⟨f, fd, ps, h1, h2, h3, h4, h5⟩ := T.ex
  rw [hm] at h2
  cases h2
  match ps, h5 with
  | [y], _ => exact ⟨fd, y, h1⟩
end TL
set_option Elab.async false
set_option linter.all false
set_option maxRecDepth 100000
set_option maxHeartbeats 4000000
/-! The tree layer, part 18: reckoning with it (rows for simp). -/
namespace TL
open PySem PySem.Spec PyProof.Rows L2
section
variable {α β : Type} (a b c : TEx) (f : D → D → List O → Out D) (g : D → List O → Out D) (h : List D → List O → Out D) (t u : TTx) (x y : TAx) (s r : TSx) (ρ : Env1) (S : List O) (d : D) (ds : List D) (k : α → List O → Out β) (v : α)
@[simp] theorem bind_ok : (Out.ok v S).bind k = k v S := rfl
@[simp] theorem bind_stuck : (Out.stuck : Out α).bind k = .stuck := rfl
@[simp] theorem bind_exc (C : Str) : (Out.exc C d S : Out α).bind k = .exc C d S := rfl
@[simp] theorem stm_ok (q : α → List O → OutS) : (Out.ok v S).stm ρ q = q v S := rfl
@[simp] theorem test_bl (q : Bool) : (Out.ok (.bl q) S).test = .ok q S := rfl
@[simp] theorem eC_ap : eC d ρ S = .ok d S := rfl
@[simp] theorem eUn_ap : eUn g a ρ S = (a ρ S).bind g := rfl
@[simp] theorem eBin_ap : eBin f a b ρ S = (a ρ S).bind fun p S1 => (b ρ S1).bind fun q S2 => f p q S2 := rfl
@[simp] theorem eArgs_ap : eArgs h x ρ S = (x ρ S).bind h := rfl
@[simp] theorem aNil_ap : aNil ρ S = .ok [] S := rfl
@[simp] theorem aCons_ap : aCons a x ρ S = (a ρ S).bind fun p S1 => (x ρ S1).bind fun q S2 => .ok (p :: q) S2 := rfl
@[simp] theorem eVar_ap {i : Nat} (e : ρ[i]? = some (some d)) : eVar i ρ S = .ok d S := by
  unfold eVar
  rw [e]
@[simp] theorem eIf_ap : eIf t a b ρ S = (t ρ S).bind fun q S1 => if q = true then a ρ S1 else b ρ S1 := rfl
@[simp] theorem tBl_ap : tBl a ρ S = (a ρ S).test := rfl
@[simp] theorem tTru_ap : tTru a ρ S = (a ρ S).bind fun q S1 => match truD S1 q with
  | some b => .ok b S1
  | none => .stuck := rfl
@[simp] theorem tAndT_ap : tAndT t u ρ S = (t ρ S).bind fun q S1 => if q = true then u ρ S1 else .ok false S1 := rfl
@[simp] theorem tOrT_ap : tOrT t u ρ S = (t ρ S).bind fun q S1 => if q = true then .ok true S1 else u ρ S1 := rfl
@[simp] theorem tNotT_ap : tNotT t ρ S = (t ρ S).bind fun q S1 => .ok (!q) S1 := rfl
@[simp] theorem eAnd_ap : eAnd a b ρ S = (a ρ S).bind fun q S1 => match truD S1 q with
  | some true => b ρ S1
  | some false => .ok q S1
  | none => .stuck := rfl
@[simp] theorem eOr_ap : eOr a b ρ S = (a ρ S).bind fun q S1 => match truD S1 q with
  | some true => .ok q S1
  | some false => b ρ S1
  | none => .stuck := rfl
@[simp] theorem eNot_ap : eNot a ρ S = (a ρ S).bind fun q S1 => match truD S1 q with
  | some b => .ok (.bl (!b)) S1
  | none => .stuck := rfl
@[simp] theorem sNext_ap : sNext ρ S = .nx ρ S := rfl
@[simp] theorem sSeq_ap : sSeq s r ρ S = (s ρ S).seq r := rfl
@[simp] theorem seq_nx : (OutS.nx ρ S).seq r = r ρ S := rfl
@[simp] theorem seq_rt : (OutS.rt d S).seq r = .rt d S := rfl
@[simp] theorem seq_bk : (OutS.bk ρ S).seq r = .bk ρ S := rfl
@[simp] theorem seq_ct : (OutS.ct ρ S).seq r = .ct ρ S := rfl
@[simp] theorem sSet_ap (i : Nat) : sSet i a ρ S = (a ρ S).stm ρ fun q S1 => .nx (ρ.set i (some q)) S1 := rfl
@[simp] theorem sRet_ap : sRet a ρ S = (a ρ S).stm ρ fun q S1 => .rt q S1 := rfl
@[simp] theorem sIf_ap : sIf t s r ρ S = (t ρ S).stm ρ fun q S1 => if q = true then s ρ S1 else r ρ S1 := rfl
@[simp] theorem sAsg_ap (w : TGx) : sAsg a w ρ S = (a ρ S).stm ρ fun q S1 => (w q ρ S1).only := rfl
@[simp] theorem only_nx : (OutS.nx ρ S).only = .nx ρ S := rfl
@[simp] theorem gNm_ap (i : Nat) : gNm i d ρ S = .nx (ρ.set i (some d)) S := rfl
@[simp] theorem gsNil_ap : gsNil [] ρ S = .nx ρ S := rfl
@[simp] theorem gsCons_ap (w : TGx) (ws : TGsx) : gsCons w ws (d :: ds) ρ S = (w d ρ S).only.seq (ws ds) := rfl
@[simp] theorem gTp_ap (n : Nat) (ws : TGsx) : gTp n ws (.tup ds) ρ S = if ds.length = n then ws ds ρ S else .stuck := rfl
@[simp] theorem fin_rt : (OutS.rt d S).fin = .ok d S := rfl
@[simp] theorem fin_nx : (OutS.nx ρ S).fin = .ok .non S := rfl
@[simp] theorem bodyF_ap (n : Nat) (N : List Str) : bodyF n N s ds S = if ds.length = n then (s (startD N ds) S).fin else .stuck := rfl
@[simp] theorem startD_ap (N : List Str) : startD N ds = ds.map some ++ List.replicate (N.length - ds.length) none := rfl
@[simp] theorem nox_nx : (OutS.nx ρ S).nox = .ok ρ S := rfl
@[simp] theorem nox_ok : (Out.ok v S).nox = .ok v S := rfl
@[simp] theorem tYes_ap : tYesD ρ S = .ok true S := rfl
@[simp] theorem oNil_ap : oNil ρ S = .ok none S := rfl
@[simp] theorem pNil_ap : pNil ρ S = .ok [] S := rfl
@[simp] theorem turn_nx : (OutS.nx ρ S).turn r = r ρ S := rfl
@[simp] theorem turn_ct : (OutS.ct ρ S).turn r = r ρ S := rfl
@[simp] theorem turn_rt : (OutS.rt d S).turn r = .rt d S := rfl
@[simp] theorem turn_bk : (OutS.bk ρ S).turn r = .nx ρ S := rfl
/-! operations -/
@[simp] theorem int_int (i : Int) : intD [.int i] S = .ok (.int i) S := rfl
@[simp] theorem int_bl (b : Bool) : intD [.bl b] S = .ok (.int (if b = true then 1 else 0)) S := rfl
@[simp] theorem abs_int (i : Int) : absD [.int i] S = .ok (.int (if i < 0 then -i else i)) S := rfl
@[simp] theorem add_int (i j : Int) : addD (.int i) (.int j) S = .ok (.int (i + j)) S := rfl
@[simp] theorem sub_int (i j : Int) : subD (.int i) (.int j) S = .ok (.int (i - j)) S := rfl
@[simp] theorem neg_int (i : Int) : negD (.int i) S = .ok (.int (-i)) S := rfl
@[simp] theorem gt_int (i j : Int) : gtD (.int i) (.int j) S = .ok (.bl (decide (j < i))) S := rfl
@[simp] theorem lt_int (i j : Int) : ltD (.int i) (.int j) S = .ok (.bl (decide (i < j))) S := rfl
@[simp] theorem ge_int (i j : Int) : geD (.int i) (.int j) S = .ok (.bl (decide (j ≤ i))) S := rfl
@[simp] theorem le_int (i j : Int) : leD (.int i) (.int j) S = .ok (.bl (decide (i ≤ j))) S := rfl
@[simp] theorem max2_int (i j : Int) : max2D [.int i, .int j] S = .ok (.int (if j > i then j else i)) S := rfl
@[simp] theorem min2_int (i j : Int) : min2D [.int i, .int j] S = .ok (.int (if j < i then j else i)) S := rfl
theorem mul_int {i j : Int} (e : CMul i j ∨ CMulW i j) : mulD (.int i) (.int j) S = .ok (.int (i * j)) S := if_pos e
theorem mod_int {i j : Int} (e : 0 < j) : modD (.int i) (.int j) S = .ok (.int (i % j)) S := if_pos e
theorem div_int {i j : Int} (e : CDivW i j) : divD (.int i) (.int j) S = .ok (.int (i / j)) S := if_pos e
theorem pow_intD {i j : Int} (e : CPowB i j) : powD (.int i) (.int j) S = .ok (.int (i ^ j.toNat)) S := if_pos e
theorem mkL_false (e : ds.length ≤ sizeLine) : mkL false ds S = .ok (.lst ds) S := if_pos e
theorem mkL_true (e : ds.length ≤ sizeLine) : mkL true ds S = .ok (.hnd S.length) (S ++ [.lst ds]) := if_pos e
theorem mkT_ok' (e : ds.length ≤ sizeLine) : mkT ds S = .ok (.tup ds) S := if_pos e
theorem lsRg1 {own : Bool} {j : Int} (e : RgOk 0 j) : lsRgD own [.int j] S = mkL own (rng 0 j) S := if_pos e
@[simp] theorem eListRg_ap (own : Bool) : eListRg own x ρ S = (x ρ S).bind (lsRgD own) := rfl
theorem small_line {n : Nat} (e : n ≤ 4096) : n ≤ sizeLine := by rw [sizeLine_eq]; omega
end
/-! stores and items -/
theorem ix_hnd {S : List O} {i : Nat} {ds : List D} {k : Int} {d : D} (h : S[i]? = some (.lst ds)) (e : atI ds k = some d) : ixD (.hnd i) (.int k) S = .ok d S := by
  unfold ixD seqOf lstOf
  simp [h, e]
theorem ix_lst {S : List O} {ds : List D} {k : Int} {d : D} (e : atI ds k = some d) : ixD (.lst ds) (.int k) S = .ok d S := by
  unfold ixD seqOf lstOf
  simp [e]
theorem ix_tup {S : List O} {ds : List D} {k : Int} {d : D} (e : atI ds k = some d) : ixD (.tup ds) (.int k) S = .ok d S := by
  unfold ixD seqOf lstOf tupOf
  simp [e]
theorem set_hnd {S : List O} {i : Nat} {ds es : List D} {k : Int} {d : D} (h : S[i]? = some (.lst ds)) (e : putLD ds k d = some es) : setD (.hnd i) (.int k) d S = some (S.set i (.lst es)) := by
  unfold setD
  simp [h, e]
@[simp] theorem gSb_ap (a b : TEx) (v : D) (ρ : Env1) (S : List O) : gSb a b v ρ S = (a ρ S).stm ρ fun x S1 => (b ρ S1).stm ρ fun i S2 => match setD x i v S2 with
  | some S3 => .nx ρ S3
  | none => .stuck := rfl
/-! loops -/
theorem compL_inv {vs : List Nat} {tg : TGx} {tt : TTx} {te : TEx} {ρ : Env1} (I : List O → Prop) (f : D → D) : ∀ (ds acc : List D) (S : List O), (∀ d ∈ ds, ∀ S, I S → ∃ ρ1 S1 S2, tg d (wipeD ρ vs) S = .nx ρ1 S1 ∧ tt ρ1 S1 = .ok true S1 ∧ te ρ1 S1 = .ok (f d) S2 ∧ I S2) → I S →
    ∃ S', compL vs tg tt te ds acc ρ S = .ok (acc ++ ds.map f) S' ∧ I S'
  | [], acc, S, _, h => ⟨S, by simp [compL], h⟩
  | d :: ds, acc, S, q, h => by
    obtain ⟨ρ1, S1, S2, e1, e2, e3, h2⟩ := q d (List.mem_cons_self ..) S h
    obtain ⟨S', e4, h4⟩ := compL_inv I f ds (acc ++ [f d]) S2 (fun x hx => q x (List.mem_cons_of_mem _ hx)) h2
    refine ⟨S', ?_, h4⟩
    unfold compL
    rw [e1]
    simp only [nox_nx, bind_ok, e2, nox_ok, if_true, e3]
    rw [e4]
    simp
theorem compL_pure {vs : List Nat} {tg : TGx} {tt : TTx} {te : TEx} {ρ : Env1} {S : List O} (f : D → D) (ds acc : List D) (q : ∀ d ∈ ds, ∃ ρ1, tg d (wipeD ρ vs) S = .nx ρ1 S ∧ tt ρ1 S = .ok true S ∧ te ρ1 S = .ok (f d) S) : compL vs tg tt te ds acc ρ S = .ok (acc ++ ds.map f) S := by
  obtain ⟨S', e, h⟩ := compL_inv (ρ := ρ) (vs := vs) (tg := tg) (tt := tt) (te := te) (fun S' => S' = S) f ds acc S (fun d hd S' hS => by
    subst hS
    obtain ⟨ρ1, e1, e2, e3⟩ := q d hd
    exact ⟨ρ1, _, _, e1, e2, e3, rfl⟩) rfl
  rw [e, h]
theorem forL_inv {tg : TGx} {tb : TSx} {S : List O} (I : Env1 → Prop) : ∀ (ds : List D) (ρ : Env1), (∀ d ∈ ds, ∀ ρ, I ρ → ∃ ρ1 ρ2, tg d ρ S = .nx ρ1 S ∧ (tb ρ1 S = .nx ρ2 S ∨ tb ρ1 S = .ct ρ2 S) ∧ I ρ2) → I ρ → ∃ ρ', forL tg tb ds ρ S = .nx ρ' S ∧ I ρ'
  | [], ρ, _, h => ⟨ρ, rfl, h⟩
  | d :: ds, ρ, q, h => by
    obtain ⟨ρ1, ρ2, e1, e2, h2⟩ := q d (List.mem_cons_self ..) ρ h
    obtain ⟨ρ', e3, h3⟩ := forL_inv I ds ρ2 (fun x hx => q x (List.mem_cons_of_mem _ hx)) h2
    refine ⟨ρ', ?_, h3⟩
    unfold forL
    rw [e1]
    simp only [only_nx, seq_nx]
    rcases e2 with e2 | e2
    · rw [e2, turn_nx, e3]
    · rw [e2, turn_ct, e3]
@[simp] theorem eLc_ap (own : Bool) (vs : List Nat) (ti : TIx) (tg : TGx) (tt : TTx) (te : TEx) (ρ : Env1) (S : List O) : eLc own vs ti tg tt te ρ S = (ti ρ S).bind fun ds S1 => if ds.length ≤ sizeLine then (compL vs tg tt te ds [] ρ S1).bind (mkL own) else .stuck := rfl
@[simp] theorem sFor_ap (ti : TIx) (tg : TGx) (tb : TSx) (ρ : Env1) (S : List O) : sFor ti tg tb ρ S = (ti ρ S).stm ρ fun ds S1 => forL tg tb ds ρ S1 := rfl
theorem rng_len (a b : Int) : (rng a b).length = (b - a).toNat := by
  unfold rng
  rw [List.length_map, List.length_range]
end TL
set_option Elab.async false
set_option linter.all false
set_option maxRecDepth 100000
set_option maxHeartbeats 4000000
/-! The tree layer, part 19: own classes: fields, methods, properties, making, isinstance. -/
namespace TL
open PySem PySem.Spec PyProof.Rows L2

/-! ### instances -/
def insOf (S : List O) : D → Option (Str × List (Str × D))
  | .ins C fs => some (C, fs)
  | .hnd i => (match S[i]? with
    | some (.ins C fs) => some (C, fs)
    | _ => none)
  | _ => none
section
variable {K : PySem.W.Frag} {g : G} {S : List O} {H : Hp}
theorem ins_at (s : SR K g S H) {d : D} {C : Str} {fs : List (Str × D)} {v : V} (h : insOf S d = some (C, fs)) (r : RV K g H d v) : ∃ a dx ws, v = .ref a ∧ H a = some (.ins (He.ga K C) dx ws) ∧ RFs K g H fs ws := by
  cases d with
  | ins C' fs' =>
    cases h
    simp only [RV] at r
    obtain ⟨a, dx, ws, e, h1, _, h2⟩ := r
    exact ⟨a, dx, ws, e, h1, h2⟩
  | hnd i =>
    simp only [insOf] at h
    split at h
    · rename_i C' fs' q
      cases h
      simp only [RV] at r
      obtain ⟨a, e, h1⟩ := r
      obtain ⟨dx, ws, h2, h3⟩ := s.rep i a _ h1 q
      exact ⟨a, dx, ws, e, h2, h3⟩
    · cases h
  | _ => cases h
theorem RFs.get {f : Str} : ∀ {fs : List (Str × D)} {ws : List (Str × V)}, RFs K g H fs ws → (match fs.lookup f with
    | some d => ∃ v, ws.lookup f = some v ∧ RV K g H d v
    | none => ws.lookup f = none)
  | [], _, h => by
    simp only [RFs] at h
    subst h
    rfl
  | (k, d) :: r, _, h => by
    simp only [RFs] at h
    obtain ⟨v, r', rfl, h1, h2⟩ := h
    have ih := RFs.get (f := f) h2
    simp only [List.lookup]
    cases f == k with
    | true => exact ⟨v, rfl, h1⟩
    | false => exact ih
def putFD (f : Str) (d : D) : List (Str × D) → List (Str × D)
  | [] => [(f, d)]
  | (k, e) :: r => if k = f then (k, d) :: r else (k, e) :: putFD f d r
theorem RFs.put {f : Str} {d : D} {v : V} (rv : RV K g H d v) : ∀ {fs : List (Str × D)} {ws : List (Str × V)}, RFs K g H fs ws → RFs K g H (putFD f d fs) (putF f v ws)
  | [], _, h => by
    simp only [RFs] at h
    subst h
    simp only [putFD, putF, RFs]
    exact ⟨v, [], rfl, rv, rfl⟩
  | (k, e) :: r, _, h => by
    simp only [RFs] at h
    obtain ⟨w, r', rfl, h1, h2⟩ := h
    have q := RFs.put (f := f) rv h2
    unfold putFD putF
    by_cases ek : k = f
    · rw [if_pos ek, if_pos ek]
      simp only [RFs]
      exact ⟨v, r', rfl, rv, h2⟩
    · rw [if_neg ek, if_neg ek]
      simp only [RFs]
      exact ⟨w, _, rfl, h1, q⟩
theorem RFs.len : ∀ {fs : List (Str × D)} {ws : List (Str × V)}, RFs K g H fs ws → ws.length = fs.length
  | [], _, h => by
    simp only [RFs] at h
    subst h
    rfl
  | (k, d) :: r, _, h => by
    simp only [RFs] at h
    obtain ⟨v, r', rfl, _, h2⟩ := h
    simp [RFs.len h2]
end
/-- what is known of the class C by name -/
abbrev CL (K : PySem.W.Frag) (C : Str) : Prop := Cls K (He.ga K C)

/-! ### x.f, a field -/
def fldD (Cs : List Str) (f : Str) (x : D) (S : List O) : Out D := match insOf S x with
  | some (C, fs) => if C ∈ Cs then (match fs.lookup f with
    | some d => .ok d S
    | none => .stuck) else .stuck
  | none => .stuck
section
variable {z : Sg} {e o : Expr} {t to : TEx} {pos : Pos} {f : Str} {Cs : List Str}
theorem de_fld (hc : ∀ C ∈ Cs, CL z.K C ∧ NoAttr z.K (He.ga z.K C) f) (he : DE z e t) (hb : ∀ env, attributeBase e f env (eval e env) = eval e env := by intro _; rfl) : DE z (.Attribute e f pos) (eUn (fldD Cs f) t) := by
  refine de_un (r := fun x H1 Q => ∃ a C dx fs v, x = .ref a ∧ H1 a = some (.ins C dx fs) ∧ Cls z.K C ∧ NoAttr z.K C f ∧ fs.lookup f = some v ∧ Q v H1) (fun X fx τ h => fx.K ▸ pe_fld h (hb _)) (fun g S H σ Q x v s rx p => ?_) he
  unfold fldD at p
  split at p
  · rename_i C fs q
    split at p
    · rename_i hC
      obtain ⟨a, dx, ws, rfl, h1, h2⟩ := ins_at s q rx
      have hg := h2.get (f := f)
      split at p
      · rename_i d q2
        rw [q2] at hg
        obtain ⟨w, h3, h4⟩ := hg
        exact ⟨a, _, dx, ws, w, rfl, h1, (hc C hC).1, (hc C hC).2, h3, p.here s h4⟩
      · exact p.elim
    · exact p.elim
  · exact p.elim
/-- o.f = e -/
def setF (Cs : List Str) (f : Str) (x v : D) (S : List O) : Option (List O) := match x with
  | .hnd n => (match S[n]? with
    | some (.ins C fs) => if C ∈ Cs ∧ fs.length < 900 then some (S.set n (.ins C (putFD f v fs))) else none
    | _ => none)
  | _ => none
def sFldD (Cs : List Str) (f : Str) (t to : TEx) : TSx := fun ρ S => (t ρ S).stm ρ fun v S1 => (to ρ S1).stm ρ fun x S2 => match setF Cs f x v S2 with
  | some S3 => .nx ρ S3
  | none => .stuck
theorem ds_fld {p' : Pos} (hc : ∀ C ∈ Cs, CL z.K C ∧ NoAttr z.K (He.ga z.K C) f) (ho : DE z o to) (he : DE z e t) (hs : ∀ env, swapsWith e (some (.Attribute o f p')) pos.line env = pure false := by intro _; rfl) : DS z (.Assign [.Attribute o f p'] e pos) (sFldD Cs f t to) := by
  obtain ⟨τ, h1, q1⟩ := ho
  obtain ⟨τ2, h2, q2⟩ := he
  refine ⟨_, fun X fx => fx.K ▸ ps_fld (h1 X fx) (h2 X fx) (hs _), fun g S ρ σ H T s rs p => ?_⟩
  refine q2 g S ρ σ H _ s rs (p.stm s rs fun d S1 g1 H1 v e1 s1 rs1 r1 p1 => ?_)
  refine q1 g1 S1 ρ σ H1 _ s1 rs1 (p1.stm s1 rs1 fun x S2 g2 H2 u e2 s2 rs2 r2 p2 => ?_)
  split at p2
  · rename_i S3 q
    unfold setF at q
    split at q
    · rename_i n
      split at q
      · rename_i C fs q3
        split at q
        · rename_i hC
          cases q
          have rv := r1.mono s1.live e2
          simp only [RV] at r2
          obtain ⟨a, rfl, h3⟩ := r2
          obtain ⟨dx, ws, h4, h5⟩ := s2.rep n a _ h3 q3
          refine ⟨a, _, dx, ws, rfl, h4, (hc C hC.1).1, (hc C hC.1).2, by rw [h5.len]; omega, ?_⟩
          have e3 : Ext g2 H2 g2 (upd H2 a (.ins (He.ga z.K C) dx (putF f v ws))) := Ext.write h3
          exact p2 g2 _ σ e3 (s2.write h3 fun e => ⟨dx, _, upd_same, (h5.put rv).mono s2.live e _ _⟩) (rs2.mono s2.live e3)
        · cases q
      · cases q
    · cases q
  · exact p2.elim
end

/-! ### methods -/
/-- the method m of the class C: n arguments, self first; dfl what stands for the last ones -/
structure TMet (P : Program) (w : World) (K : PySem.W.Frag) (mg : Str → Option Value) (base : Heap) (k : Nat) (C m : Str) (n : Nat) (F : TF) : Prop where
  ex : ∃ (f : Addr) (fd : FuncData) (ps : List Str), TFn P w K mg base k f fd ps F ∧ Meth K (He.ga K C) m f ∧ Binds K fd ps [] ∧ ps.length = n
  cl : CL K C
  len : ∀ ds S, ds.length ≠ n → F ds S = .stuck
theorem TMet.mono {P : Program} {w : World} {K : PySem.W.Frag} {mg : Str → Option Value} {base : Heap} {k j : Nat} {C m : Str} {n : Nat} {F : TF} (h : TMet P w K mg base j C m n F) (hj : j ≤ k) : TMet P w K mg base k C m n F := by
  obtain ⟨f, fd, ps, h1, h2⟩ := h.ex
  exact ⟨⟨f, fd, ps, h1.mono hj, h2⟩, h.cl, h.len⟩
/-- the receiver is an instance of C (no field of that name) -/
def recv (C m : Str) (x : D) (S : List O) (o : Out D) : Out D := match insOf S x with
  | some (C', fs) => if C' = C ∧ fs.lookup m = none then o else .stuck
  | none => .stuck
def eMeth (C m : Str) (F : TF) (t : TEx) (a : TAx) : TEx := fun ρ S => (t ρ S).bind fun x S1 => recv C m x S1 ((a ρ S1).bind fun xs S2 => F (x :: xs) S2)
section
variable {z : Sg} {k n : Nat} {C m : Str} {F : TF} {o e : Expr} {es : List Expr} {apos pos : Pos} {t : TEx} {ta : TAx}
theorem recv_ok {S : List O} {x : D} {oo : Out D} {K : PySem.W.Frag} {W : WX} {g : G} {H : Hp} {σ : L2.St} {Q : VK} {v : V} (s : SR K g S H) (r : RV K g H x v) (p : Post K W (RV K) g H σ Q (recv C m x S oo)) : ∃ a dx ws, v = .ref a ∧ H a = some (.ins (He.ga K C) dx ws) ∧ ws.lookup m = none ∧ Post K W (RV K) g H σ Q oo := by
  unfold recv at p
  split at p
  · rename_i C' fs q
    split at p
    · rename_i hC
      obtain ⟨a, dx, ws, rfl, h1, h2⟩ := ins_at s q r
      have hg := h2.get (f := m)
      rw [hC.2] at hg
      rw [hC.1] at h1
      exact ⟨a, dx, ws, rfl, h1, hg, p⟩
    · exact p.elim
  · exact p.elim
/-- o.m(e, ..) -/
theorem de_meth (T : TMet z.P z.w z.K z.mg z.base k C m n F) (ho : DE z o t) (ha : DA z (e :: es) ta) (hk : k ≤ z.lv)
    (ht : ∀ env, ∃ pl : Sem Bool, eval (.Call (.Attribute o m apos) (e :: es) [] pos) env = (do
      let ov ← eval o env
      standAt apos.atName
      let (f, first) ← holding [ov] (getMethod ov m pl)
      callWith pos f first (backTo pos (starEach (e :: es) env)) (backToKw pos (keywordEach [] env))) := by intro _; exact ⟨_, rfl⟩)
    (he : ∀ env, starEach (e :: es) env = (false, eval e env) :: starEach es env := by intro _; rfl) (hpl : ∀ env, (backTo pos (starEach es env)).any (·.1) = false := by intro _; rfl) :
    DE z (.Call (.Attribute o m apos) (e :: es) [] pos) (eMeth C m F t ta) := by
  obtain ⟨f, fd, ps, h1, h2, h3, h4⟩ := T.ex
  obtain ⟨τ, g1, q1⟩ := ho
  obtain ⟨τ2, g2, q2⟩ := ha
  refine ⟨fun σ H Q => τ σ H fun x H1 => ∃ a dx ws, x = .ref a ∧ H1 a = some (.ins (He.ga z.K C) dx ws) ∧ ws.lookup m = none ∧ τ2 σ H1 fun vs H2 => tCallD z.K z.W ps F σ (x :: vs) H2 Q, fun X fx => ⟨fun pins s σ H Q I h => ?_⟩, fun g S ρ σ H Q s rs p => ?_⟩
  · obtain ⟨pl, ht⟩ := ht X.env
    refine PySem.W.methodCall_KW (pl := pl) (thn ((g1 X fx).run pins s σ H _ I h) fun u s1 ⟨x, H1, I1, rx, a, dx, ws, ex, ea, l, q⟩ => ?_) ht
    subst ex
    obtain rfl : u = Value.ref a := rx
    refine getmeth_ok (C := He.ga z.K C) I1 ea (by rw [fx.K]; exact T.cl) (by rw [fx.K]; exact h2) l ?_
    have kp' : PySem.W.keepIn X.K (.ref f) = true := by rw [fx.K]; exact h2.kp
    refine PySem.W.callWith_K (first := [.ref a]) (h₀ := X.base) I1.ok.mod.kin kp' (thn ((g2 X fx).run pos pins s1 σ H1 _ I1 q) fun us s2 ⟨vs, H2, I2, r, q2⟩ => ⟨I2.kIn, ?_⟩) (he _) (hpl _)
    exact run_tfn (us := .ref a :: us) (vs := .ref a :: vs) (dvs := []) (ds := []) h1 fx hk h3 .nil I2 (.cons rfl r) (by rw [List.append_nil]; exact q2)
  · refine q1 g S ρ σ H _ s rs (p.bind fun x S1 g1 H1 v e1 s1 r1 p1 => ?_)
    obtain ⟨a, dx, ws, rfl, y1, y2, p2⟩ := recv_ok s1 r1 p1
    refine ⟨a, dx, ws, rfl, y1, y2, q2 g1 S1 ρ σ H1 _ s1 (rs.mono s.live e1) (p2.bind fun xs S2 g2 H2 vs e2 s2 r2 p3 => ?_)⟩
    by_cases hl : (x :: xs).length = n
    · refine ⟨?_, g2, S2, x :: xs, s2, ?_, p3⟩
      · rw [h4, ← hl, List.length_cons, List.length_cons, r2.length]
      · simp only [RVs]
        exact ⟨_, _, rfl, r1.mono s1.live e2 _ _, r2⟩
    · rw [T.len _ _ hl] at p3
      exact p3.elim
/-- o.m() -/
theorem de_meth0 (T : TMet z.P z.w z.K z.mg z.base k C m n F) (ho : DE z o t) (hk : k ≤ z.lv)
    (ht : ∀ env, ∃ pl : Sem Bool, eval (.Call (.Attribute o m apos) [] [] pos) env = (do
      let ov ← eval o env
      standAt apos.atName
      let (f, first) ← holding [ov] (getMethod ov m pl)
      callWith pos f first (backTo pos (starEach [] env)) (backToKw pos (keywordEach [] env))) := by intro _; exact ⟨_, rfl⟩) :
    DE z (.Call (.Attribute o m apos) [] [] pos) (eMeth C m F t aNil) := by
  obtain ⟨f, fd, ps, h1, h2, h3, h4⟩ := T.ex
  obtain ⟨τ, g1, q1⟩ := ho
  refine ⟨fun σ H Q => τ σ H fun x H1 => ∃ a dx ws, x = .ref a ∧ H1 a = some (.ins (He.ga z.K C) dx ws) ∧ ws.lookup m = none ∧ tCallD z.K z.W ps F σ [x] H1 Q, fun X fx => ⟨fun pins s σ H Q I h => ?_⟩, fun g S ρ σ H Q s rs p => ?_⟩
  · obtain ⟨pl, ht⟩ := ht X.env
    refine PySem.W.methodCall_KW (pl := pl) (thn ((g1 X fx).run pins s σ H _ I h) fun u s1 ⟨x, H1, I1, rx, a, dx, ws, ex, ea, l, q⟩ => ?_) ht
    subst ex
    obtain rfl : u = Value.ref a := rx
    refine getmeth_ok (C := He.ga z.K C) I1 ea (by rw [fx.K]; exact T.cl) (by rw [fx.K]; exact h2) l ?_
    have kp' : PySem.W.keepIn X.K (.ref f) = true := by rw [fx.K]; exact h2.kp
    refine PySem.W.callWith_K0 (first := [.ref a]) I1.kIn kp' ?_
    exact run_tfn (us := [.ref a]) (vs := [.ref a]) (dvs := []) (ds := []) h1 fx hk h3 .nil I1 (.cons rfl .nil) (by rw [List.append_nil]; exact q)
  · refine q1 g S ρ σ H _ s rs (p.bind fun x S1 g1 H1 v e1 s1 r1 p1 => ?_)
    obtain ⟨a, dx, ws, rfl, y1, y2, p2⟩ := recv_ok s1 r1 p1
    have p2 : Post z.K z.W (RV z.K) g1 H1 σ Q (F [x] S1) := p2
    refine ⟨a, dx, ws, rfl, y1, y2, ?_⟩
    by_cases hl : [x].length = n
    · refine ⟨?_, g1, S1, [x], s1, ?_, p2⟩
      · rw [h4, ← hl]
        rfl
      · simp only [RVs]
        exact ⟨_, _, rfl, r1, rfl⟩
    · rw [T.len _ _ hl] at p2
      exact p2.elim
end
end TL
set_option Elab.async false
set_option linter.all false
set_option maxRecDepth 100000
set_option maxHeartbeats 4000000
/-! The tree layer, part 20: properties, making, operators of own classes. -/
namespace TL
open PySem PySem.Spec PyProof.Rows L2

theorem Post.ofNox {α β : Type} {K : PySem.W.Frag} {W W2 : WX} {R : G → Hp → α → β → Prop} {g : G} {H : Hp} {σ σ2 : L2.St} {Q : β → Hp → Prop} : ∀ {o : Out α}, Post K W R g H σ Q o.nox → Post K W2 R g H σ2 Q o
  | .ok _ _, h => h
  | .exc _ _ _, h => h.elim
  | .stuck, h => h

/-! ### a property -/
structure TProp (P : Program) (w : World) (K : PySem.W.Frag) (mg : Str → Option Value) (base : Heap) (k : Nat) (C f : Str) (F : TF) : Prop where
  ex : ∃ (p g : Addr) (fd : FuncData) (x : Str), TFn P w K mg base k g fd [x] F ∧ PropOf K (He.ga K C) f p g ∧ Binds K fd [x] []
  cl : CL K C
theorem TProp.mono {P : Program} {w : World} {K : PySem.W.Frag} {mg : Str → Option Value} {base : Heap} {k j : Nat} {C f : Str} {F : TF} (h : TProp P w K mg base j C f F) (hj : j ≤ k) : TProp P w K mg base k C f F := by
  obtain ⟨p, g, fd, x, h1, h2⟩ := h.ex
  exact ⟨⟨p, g, fd, x, h1.mono hj, h2⟩, h.cl⟩
def propD (C : Str) (F : TF) (x : D) (S : List O) : Out D := match insOf S x with
  | some (C', _) => if C' = C then (F [x] S).nox else .stuck
  | none => .stuck
section
variable {z : Sg} {k : Nat} {C f : Str} {F : TF} {e : Expr} {pos : Pos} {t : TEx}
theorem de_prop (T : TProp z.P z.w z.K z.mg z.base k C f F) (he : DE z e t) (hk : k + 1 ≤ z.lv) (hb : ∀ env, attributeBase e f env (eval e env) = eval e env := by intro _; rfl) : DE z (.Attribute e f pos) (eUn (propD C F) t) := by
  obtain ⟨p, g, fd, x, h1, h2, h3⟩ := T.ex
  obtain ⟨τ, e1, q1⟩ := he
  refine ⟨fun σ H Q => τ σ H fun v H1 => ∃ a dx ws, v = .ref a ∧ H1 a = some (.ins (He.ga z.K C) dx ws) ∧ tCallD z.K (fun _ _ _ _ => False) [x] F σ [v] H1 Q, fun X fx => ⟨fun pins s σ H Q I h => ?_⟩, fun G S ρ σ H Q s rs pp => ?_⟩
  · refine attr_of (hb _) (thn ((e1 X fx).run pins s σ H _ I h) fun u s1 ⟨v, H1, I1, rx, a, dx, ws, ex, ea, q⟩ => ?_)
    subst ex
    obtain rfl : u = Value.ref a := rx
    obtain ⟨hl, G, S, es, hs, rv, hp⟩ := q
    have c : Cls X.K (He.ga z.K C) := by rw [fx.K]; exact T.cl
    have h2' : PropOf X.K (He.ga z.K C) f p g := by rw [fx.K]; exact h2
    obtain ⟨mA, O, _, _, _, _⟩ := ins_get I1.hok ea
    obtain ⟨od, J, _⟩ := O.look
    obtain ⟨rest, hrec⟩ := h2'.rec_
    have I2 := I1.tok (s1.toks + 1)
    have hc : (PySem.W.clsIn X.K (He.ga z.K C)).isSome = true := by
      obtain ⟨cd, hc, _⟩ := PySem.W.any_some c.hd
      rw [hc]
      rfl
    have e0 := I2.env0.in1
    have KX := I2.kIn
    rw [fx.prog, fx.w, fx.K, fx.mg, fx.base] at e0
    rw [fx.K] at KX
    have fin : ∀ (rr : Result) (s' : Shared), CR (CX X.prog X.w) X.stack X.prog X.w H1 { s1 with toks := s1.toks + 1 } Q (fun _ _ _ => False) rr s' → (match rr with | .ok (.ret u) => EP X pins σ Q u s' | .ok _ => False | .error e => False) := by
      intro rr s' hq
      cases rr with
      | error e =>
        obtain ⟨_, _, _, _, _, _, _, _, _, _, _, _, no⟩ := hq
        exact no.elim
      | ok fl =>
        cases fl with
        | ret u => exact I2.after hq
        | _ => exact hq
    refine PySem.W.get_bind I1.kIn J (PySem.W.plainGet_of (c.get f)).1 (PySem.W.findObj_data hc h2'.at_ h2'.get h2'.tak) (PySem.W.plainGet_of (c.get f)).2 (wpAny_call (PySem.W.prop_get (s := { s1 with toks := s1.toks + 1 }) I1.kIn hrec ?_))
    rw [fx.prog, fx.w] at fin ⊢
    refine codeAny_mono (h1.run X.A.in1 X.stack { s1 with toks := s1.toks + 1 } H1 ⟨[.ref a], []⟩ [.ref a] [.ref a] Q (fun _ _ _ => False) G S es ((fx.room.mono hk).in1) fx.gd e0 (by simpa using h3 _ [.ref a] KX rfl) (.cons rfl .nil) hl hs rv (Post.wx hp)) fun rr s' hq => ?_
    have zz := fin rr s' hq
    cases rr with
    | error er => exact zz.elim
    | ok fl =>
      cases fl with
      | ret u =>
        obtain ⟨v, H', I3, rv, q3⟩ := zz
        show wpAny _ _ (handedOut u) _ _ _
        rw [PySem.W.handedOut_of (handed_of rv)]
        exact wpAny_pure ⟨v, H', I3, rv, q3⟩
      | _ => exact zz.elim
  · refine q1 G S ρ σ H _ s rs (pp.bind fun d S1 g1 H1 v e2 s1 r1 p1 => ?_)
    unfold propD at p1
    split at p1
    · rename_i C' fs q
      split at p1
      · rename_i hC
        subst hC
        obtain ⟨a, dx, ws, rfl, y1, _⟩ := ins_at s1 q r1
        refine ⟨a, dx, ws, rfl, y1, rfl, g1, S1, [d], s1, ?_, Post.ofNox p1⟩
        simp only [RVs]
        exact ⟨_, _, rfl, r1, rfl⟩
      · exact p1.elim
    · exact p1.elim
end

/-! ### making an instance -/
/-- the class C, its __init__ does F (self first, n arguments with self; dfl stands for those left out) -/
structure TMk (P : Program) (w : World) (K : PySem.W.Frag) (mg : Str → Option Value) (base : Heap) (k : Nat) (C : Str) (n : Nat) (dfl : List D) (F : TF) : Prop where
  ex : ∃ (f : Addr) (fd : FuncData) (ps : List Str) (ds : List Value) (dvs : List V), TFn P w K mg base k f fd ps F ∧ Mk K (He.ga K C) f ∧ Binds K fd ps ds ∧ Vals dvs ds ∧ (∀ g H, RVs K g H dfl dvs) ∧ ps.length = n
  gl : mg C = some (.ref (He.ga K C))
  len : ∀ ds S, ds.length ≠ n → F ds S = .stuck
theorem TMk.mono {P : Program} {w : World} {K : PySem.W.Frag} {mg : Str → Option Value} {base : Heap} {k j : Nat} {C : Str} {n : Nat} {dfl : List D} {F : TF} (h : TMk P w K mg base j C n dfl F) (hj : j ≤ k) : TMk P w K mg base k C n dfl F := by
  obtain ⟨f, fd, ps, ds, dvs, h1, h2⟩ := h.ex
  exact ⟨⟨f, fd, ps, ds, dvs, h1.mono hj, h2⟩, h.gl, h.len⟩
def makeD (C : Str) (dfl : List D) (F : TF) (xs : List D) (S : List O) : Out D := (F (.hnd S.length :: (xs ++ dfl)) (S ++ [.ins C []])).bind fun r S1 => match r with
  | .non => .ok (.hnd S.length) S1
  | _ => .stuck
section
variable {z : Sg} {k n : Nat} {C : Str} {F : TF} {dfl : List D} {e : Expr} {es : List Expr} {p pos : Pos} {ta : TAx}
/-- what the call of a class asks -/
theorem run_mk {X : Cx} {pins : List (Addr × Obj)} {σ : L2.St} {H : Hp} {s : Shared} {Q : VK} {us : List Value} {vs : List V} {g : G} {S : List O} {xs : List D} (T : TMk z.P z.w z.K z.mg z.base k C n dfl F) (fx : Fits z X) (hk : k + 1 ≤ z.lv) (I : Inv X pins σ H s) (r : Vals vs us) (hs : SR z.K g S H) (rv : RVs z.K g H xs vs)
    (hp : Post z.K z.W (RV z.K) g H σ Q (makeD C dfl F xs S)) : wpAny (model X.prog X.w) X.A (call (.ref (He.ga z.K C)) us) (EP X pins σ Q) X.xe s := by
  obtain ⟨f, fd, ps, ds, dvs, h1, h2, h3, h4, h5, h6⟩ := T.ex
  have h2' : Mk X.K (He.ga z.K C) f := by rw [fx.K]; exact h2
  have I2 := Inv.made (C := He.ga z.K C) I
  have nx : H (s.heap.objs.size + 1) = none := I.hok.fresh (Nat.le_succ _)
  have nd : H s.heap.objs.size = none := I.hok.fresh (Nat.le_refl _)
  have ne : s.heap.objs.size ≠ s.heap.objs.size + 1 := Nat.ne_of_lt (Nat.lt_succ_self _)
  have k1 : ∀ b u, H b = some u → (upd (upd H s.heap.objs.size (.own (s.heap.objs.size + 1))) (s.heap.objs.size + 1) (.ins (He.ga z.K C) s.heap.objs.size [])) b = some u := fun b u q => by
    rw [upd_ne (ne_of_none q nx), upd_ne (ne_of_none q nd)]
    exact q
  generalize hH : upd (upd H s.heap.objs.size (.own (s.heap.objs.size + 1))) (s.heap.objs.size + 1) (.ins (He.ga z.K C) s.heap.objs.size []) = H2 at I2 k1
  have e2 : Ext g H (g.add (s.heap.objs.size + 1)) H2 := Ext.add nx k1
  have s2 : SR z.K (g.add (s.heap.objs.size + 1)) (S ++ [.ins C []]) H2 := hs.add nx k1 ⟨s.heap.objs.size, [], by rw [← hH]; exact upd_same, by simp only [RFs]⟩ ⟨_, by rw [← hH]; exact upd_same⟩
  have rself : RV z.K (g.add (s.heap.objs.size + 1)) H2 (.hnd S.length) (.ref (s.heap.objs.size + 1)) := RV.newH hs
  have rall : RVs z.K (g.add (s.heap.objs.size + 1)) H2 (.hnd S.length :: (xs ++ dfl)) (.ref (s.heap.objs.size + 1) :: (vs ++ dvs)) := by
    simp only [RVs]
    exact ⟨_, _, rfl, rself, (rv.mono hs.live e2 _ _).append (h5 _ _)⟩
  have p2 : Post z.K z.W (RV z.K) (g.add (s.heap.objs.size + 1)) H2 σ Q (makeD C dfl F xs S) := Post.later e2 s2 hp
  unfold makeD at p2
  have p3 : Post z.K z.W (RV z.K) (g.add (s.heap.objs.size + 1)) H2 σ (fun v H' => v = .non ∧ Q (.ref (s.heap.objs.size + 1)) H') (F (.hnd S.length :: (xs ++ dfl)) (S ++ [.ins C []])) := p2.bind fun d S1 g1 H1 v e s1 r1 p1 => by
    cases d with
    | non => exact ⟨rv_non r1, p1.here s1 (rself.mono s2.live e _ _)⟩
    | _ => exact p1.elim
  by_cases hl : (D.hnd S.length :: (xs ++ dfl)).length = n
  · have r2 : Vals (V.ref (s.heap.objs.size + 1) :: (vs ++ dvs)) (Value.ref (s.heap.objs.size + 1) :: (us ++ ds)) := .cons rfl (r.append h4)
    have hps : (V.ref (s.heap.objs.size + 1) :: (vs ++ dvs)).length = ps.length := by
      rw [h6, ← hl, rall.length]
    have e0 := I2.env0.make (He.ga z.K C) us []
    have KX := I2.kIn
    rw [fx.prog, fx.w, fx.K, fx.mg, fx.base] at e0
    rw [fx.K] at KX
    have bd := h3 _ (Value.ref (s.heap.objs.size + 1) :: us) KX (by rw [← hps, List.cons_append, ← r2.length])
    have fin : ∀ (rr : Result) (s' : Shared), CR (CX X.prog X.w) X.stack X.prog X.w H2 { s with heap := (s.heap.push PySem.W.emptyDict).push (PySem.W.instObj (He.ga z.K C) s.heap.objs.size) } (fun v H' => v = .non ∧ Q (.ref (s.heap.objs.size + 1)) H') (fun c dd H' => z.W c dd σ H') rr s' →
        PySem.W.InitBack (s.heap.objs.size + 1) (fun rr s' => match rr with | .ok (.ret u) => EP X pins σ Q u s' | .ok _ => False | .error e => X.xe e s') rr s' := by
      intro rr s' hq
      cases rr with
      | error e => exact fx.takes e s' (XE.of_call I2 (fun _ _ _ q => q) hq)
      | ok fl =>
        cases fl with
        | ret u =>
          obtain ⟨v, H', I3, rv, ev, q3⟩ := I2.after hq
          subst ev
          exact ⟨rv, ⟨V.ref (s.heap.objs.size + 1), H', I3, rfl, q3⟩⟩
        | _ => exact hq
    rw [fx.prog, fx.w] at fin ⊢
    refine wpAny_call (codeAny_mono (make_map (f := f) I.kIn h2'.makes h2'.init (beq_iff_eq.mp h2'.fn) (codeAny_mono (h1.run _ X.stack _ H2 ⟨Value.ref (s.heap.objs.size + 1) :: us, []⟩ (Value.ref (s.heap.objs.size + 1) :: (us ++ ds)) _ _ _ _ _ _ ((fx.room.mono hk).make (He.ga z.K C) us []) fx.gd e0 bd r2 hps s2 rall (Post.wx p3)) fin)) fun rr s' q => ?_)
    cases rr with
    | error e => exact q
    | ok fl =>
      cases fl with
      | ret u => exact q
      | _ => exact q.elim
  · rw [T.len _ _ hl] at p3
    exact p3.elim
/-- C(e, ..) -/
theorem de_make (T : TMk z.P z.w z.K z.mg z.base k C n dfl F) (ha : DA z (e :: es) ta) (hk : k + 1 ≤ z.lv) (hg : Gz z C := by rfl) (hdb : (C == ("__debug__" : Str)) = false := by decide) (he : ∀ env, starEach (e :: es) env = (false, eval e env) :: starEach es env := by intro _; rfl) (hpl : ∀ env, (backTo pos (starEach es env)).any (·.1) = false := by intro _; rfl) :
    DE z (.Call (.Name C p) (e :: es) [] pos) (eArgs (makeD C dfl F) ta) := by
  obtain ⟨τ, h1, q1⟩ := ha
  refine ⟨fun σ H Q => τ σ H fun vs H1 => ∃ g S xs, SR z.K g S H1 ∧ RVs z.K g H1 xs vs ∧ Post z.K z.W (RV z.K) g H1 σ Q (makeD C dfl F xs S), fun X fx => ⟨fun pins s σ H Q I h => ?_⟩, fun g S ρ σ H Q s rs pp => ?_⟩
  · refine wpAny_Call_Name_kw (ld_glob I (fx.gl hg) (fx.mgl T.gl) ?_ hdb)
    obtain ⟨f, fd, ps, ds, dvs, _, h2, _⟩ := T.ex
    have kp' : PySem.W.keepIn X.K (.ref (He.ga z.K C)) = true := by rw [fx.K]; exact h2.kp
    exact PySem.W.callWith_K (h₀ := X.base) I.ok.mod.kin kp' (thn ((h1 X fx).run pos pins s σ H _ I h) fun us s1 ⟨vs, H1, I1, r, g, S, xs, hs, rv, hp⟩ => ⟨I1.kIn, run_mk T fx hk I1 r hs rv hp⟩) (he _) (hpl _)
  · exact q1 g S ρ σ H _ s rs (pp.bind fun xs S1 g1 H1 vs e1 s1 r1 p1 => ⟨g1, S1, xs, s1, r1, p1⟩)
/-- C() -/
theorem de_make0 (T : TMk z.P z.w z.K z.mg z.base k C n dfl F) (hk : k + 1 ≤ z.lv) (hg : Gz z C := by rfl) (hdb : (C == ("__debug__" : Str)) = false := by decide) : DE z (.Call (.Name C p) [] [] pos) (fun _ S => makeD C dfl F [] S) := by
  refine ⟨fun σ H Q => ∃ g S, SR z.K g S H ∧ Post z.K z.W (RV z.K) g H σ Q (makeD C dfl F [] S), fun X fx => ⟨fun pins s σ H Q I h => ?_⟩, fun g S ρ σ H Q s rs pp => ⟨g, S, s, pp⟩⟩
  obtain ⟨g, S, hs, hp⟩ := h
  refine wpAny_Call_Name_kw (ld_glob I (fx.gl hg) (fx.mgl T.gl) ?_ hdb)
  obtain ⟨f, fd, ps, ds, dvs, _, h2, _⟩ := T.ex
  have kp' : PySem.W.keepIn X.K (.ref (He.ga z.K C)) = true := by rw [fx.K]; exact h2.kp
  exact PySem.W.callWith_K0 I.kIn kp' (run_mk (us := []) (vs := []) T fx hk I .nil hs (by simp only [RVs]) hp)
end
end TL
set_option Elab.async false
set_option linter.all false
set_option maxRecDepth 100000
set_option maxHeartbeats 4000000
/-! The tree layer, part 21: operators of own classes. -/
namespace TL
open PySem PySem.Spec PyProof.Rows L2

/-- a two-place operation does t -/
def OpS (z : Sg) (f : Value → Value → Sem Value) (t : D → D → List O → Out D) : Prop :=
  ∀ X, Fits z X → ∀ (pins : List (Addr × Obj)) (s : Shared) (σ : L2.St) (H : Hp) (x y : V) (v u : Value) (Q : VK), Inv X pins σ H s → RelV x v → RelV y u → ∀ (g : G) (S : List O) (dx dy : D), SR z.K g S H → RV z.K g H dx x → RV z.K g H dy y →
    Post z.K z.W (RV z.K) g H σ Q (t dx dy S) → wpAny (model X.prog X.w) X.A (f v u) (EP X pins σ Q) X.xe s
def UnS (z : Sg) (f : Value → Sem Value) (t : D → List O → Out D) : Prop :=
  ∀ X, Fits z X → ∀ (pins : List (Addr × Obj)) (s : Shared) (σ : L2.St) (H : Hp) (x : V) (v : Value) (Q : VK), Inv X pins σ H s → RelV x v → ∀ (g : G) (S : List O) (dx : D), SR z.K g S H → RV z.K g H dx x →
    Post z.K z.W (RV z.K) g H σ Q (t dx S) → wpAny (model X.prog X.w) X.A (f v) (EP X pins σ Q) X.xe s
section
variable {z : Sg} {f : Value → Value → Sem Value} {f1 : Value → Sem Value} {t : D → D → List O → Out D} {t1 : D → List O → Out D} {r : R2} {r1 : V → Hp → VK → Prop} {a b : Expr} {ta tb : TEx} {pos : Pos}
theorem OpS.ofR (ho : ∀ X, Fits z X → OpR X f r) (ok : OkB z.K z.W r t) : OpS z f t :=
  fun X fx pins s σ H x y v u Q I rx ry g S dx dy hs r1 r2 p => ho X fx pins s σ H x y v u Q I rx ry (ok g S H σ Q dx dy x y hs r1 r2 p)
theorem UnS.ofR (ho : ∀ X, Fits z X → UnR X f1 r1) (ok : OkU z.K z.W r1 t1) : UnS z f1 t1 :=
  fun X fx pins s σ H x v Q I rx g S dx hs r1 p => ho X fx pins s σ H x v Q I rx (ok g S H σ Q dx x hs r1 p)
def rS2 (z : Sg) (t : D → D → List O → Out D) (σ : L2.St) (x y : V) (H : Hp) (Q : VK) : Prop := ∃ g S dx dy, SR z.K g S H ∧ RV z.K g H dx x ∧ RV z.K g H dy y ∧ Post z.K z.W (RV z.K) g H σ Q (t dx dy S)
theorem de_binS {op : Operator} (h : OpS z (binaryOp op) t) (ha : DE z a ta) (hb : DE z b tb) : DE z (.BinOp a op b pos) (eBin t ta tb) := by
  obtain ⟨τ, h1, q1⟩ := ha
  obtain ⟨τ2, h2, q2⟩ := hb
  refine ⟨fun σ H Q => τ σ H fun x H1 => τ2 σ H1 fun y H2 => rS2 z t σ x y H2 Q, fun X fx => ⟨fun pins s σ H Q I hq => ?_⟩, fun g S ρ σ H Q s rs p => ?_⟩
  · exact wpAny_BinOp (binT (h1 X fx) (h2 X fx) I hq fun v u s2 x y H2 I2 rx ry q => by
      obtain ⟨g, S, dx, dy, hs, r1, r2, p⟩ := q
      exact h X fx pins s2 σ H2 x y v u Q I2 rx ry g S dx dy hs r1 r2 p)
  · exact q1 g S ρ σ H _ s rs (p.bind fun x S1 g1 H1 v e1 s1 r1 p1 => q2 g1 S1 ρ σ H1 _ s1 (rs.mono s.live e1) (p1.bind fun y S2 g2 H2 u e2 s2 r2 p2 => ⟨g2, S2, x, y, s2, r1.mono s1.live e2, r2, p2⟩))
theorem de_unS {op : UnaryOp} (h : UnS z (unaryOp op) t1) (ha : DE z a ta) : DE z (.UnaryOp op a pos) (eUn t1 ta) := by
  obtain ⟨τ, h1, q1⟩ := ha
  refine ⟨fun σ H Q => τ σ H fun x H1 => ∃ g S dx, SR z.K g S H1 ∧ RV z.K g H1 dx x ∧ Post z.K z.W (RV z.K) g H1 σ Q (t1 dx S), fun X fx => ⟨fun pins s σ H Q I hq => ?_⟩, fun g S ρ σ H Q s rs p => ?_⟩
  · refine UnaryOp_ (thn ((h1 X fx).run pins s σ H _ I hq) fun v s1 ⟨x, H1, I1, r1, g, S, dx, hs, rx, p⟩ => h X fx pins s1 σ H1 x v Q I1 r1 g S dx hs rx p)
  · exact q1 g S ρ σ H _ s rs (p.bind fun x S1 g1 H1 v e1 s1 r1 p1 => ⟨g1, S1, x, s1, r1, p1⟩)
theorem de_cmpS {op : CmpOp} (h : OpS z (compareOp op) t) (hm : behindInMarks op b = false) (ha : DE z a ta) (hb : DE z b tb) : DE z (.Compare a [op] [b] pos) (eBin t ta tb) := by
  obtain ⟨τ, h1, q1⟩ := ha
  obtain ⟨τ2, h2, q2⟩ := hb
  refine ⟨fun σ H Q => τ σ H fun x H1 => τ2 σ H1 fun y H2 => rS2 z t σ x y H2 Q, fun X fx => ⟨fun pins s σ H Q I hq => ?_⟩, fun g S ρ σ H Q s rs p => ?_⟩
  · exact wpAny_Compare1 (binT (h1 X fx) (h2 X fx) I hq fun v u s2 x y H2 I2 rx ry q => by
      obtain ⟨g, S, dx, dy, hs, r1, r2, p⟩ := q
      exact h X fx pins s2 σ H2 x y v u Q I2 rx ry g S dx dy hs r1 r2 p) hm
  · exact q1 g S ρ σ H _ s rs (p.bind fun x S1 g1 H1 v e1 s1 r1 p1 => q2 g1 S1 ρ σ H1 _ s1 (rs.mono s.live e1) (p1.bind fun y S2 g2 H2 u e2 s2 r2 p2 => ⟨g2, S2, x, y, s2, r1.mono s1.live e2, r2, p2⟩))
theorem dt_cmpS {op : CmpOp} (h : OpS z (compareOp op) t) (hm : behindInMarks op b = false) (ha : DE z a ta) (hb : DE z b tb) : DT z (.Compare a [op] [b] pos) (tBl (eBin t ta tb)) := by
  obtain ⟨τ, h1, q1⟩ := ha
  obtain ⟨τ2, h2, q2⟩ := hb
  refine dt_of (τ := fun σ H Q => τ σ H fun x H1 => τ2 σ H1 fun y H2 => rS2 z t σ x y H2 Q) (fun X fx => ⟨fun pins s σ H Q I hq => ?_⟩) fun g S ρ σ H Q s rs p => ?_
  · refine wpAny_isTrue_Compare1 (thn ((h1 X fx).run pins s σ H _ I hq) fun v s1 ⟨x, H1, I1, r1, q1⟩ => thn ((h2 X fx).run pins s1 σ H1 _ I1 q1) fun u s2 ⟨y, H2, I2, r2, g, S, dx, dy, hs, e1, e2, p⟩ =>
      thn (h X fx pins s2 σ H2 x y v u _ I2 r1 r2 g S dx dy hs e1 e2 p) fun c s3 ⟨w, H3, I3, r3, k, e, q3⟩ => ?_) hm
    subst e
    cases r3
    exact wpAny_truthy_bool ⟨H3, I3, q3⟩
  · exact q1 g S ρ σ H _ s rs (p.bind fun x S1 g1 H1 v e1 s1 r1 p1 => q2 g1 S1 ρ σ H1 _ s1 (rs.mono s.live e1) (p1.bind fun y S2 g2 H2 u e2 s2 r2 p2 => ⟨g2, S2, x, y, s2, r1.mono s1.live e2, r2, p2⟩))
end

/-! ### the left one's method -/
theorem cmpBack_ep {X : Cx} {pins : List (Addr × Obj)} {σ : L2.St} {Q : VK} {u : Value} {s : Shared} (h : EP X pins σ Q u s) : PySem.W.CmpBack (EP X pins σ Q) u s := by
  cases u <;> first
    | exact h
    | (obtain ⟨x, _, _, rx, _⟩ := h
       cases x <;> first | (obtain ⟨_, e⟩ := rx; cases e; done) | (cases rx; done))
/-- the value is an instance of C -/
def isOwn (C : Str) (S : List O) (d : D) : Bool := match insOf S d with
  | some (C', _) => C' == C
  | none => false
def own1 (C : Str) (F : TF) (x : D) (S : List O) : Out D := if isOwn C S x then F [x] S else .stuck
def own2 (C : Str) (F : TF) (x y : D) (S : List O) : Out D := if isOwn C S x && isOwn C S y then F [x, y] S else .stuck
def ownI (C : Str) (F : TF) (x y : D) (S : List O) : Out D := match y with
  | .int _ => if isOwn C S x then F [x, y] S else .stuck
  | _ => .stuck
def ownR (C : Str) (F : TF) (x y : D) (S : List O) : Out D := match x with
  | .int _ => if isOwn C S y then F [y, x] S else .stuck
  | _ => .stuck
theorem own_at {K : PySem.W.Frag} {g : G} {S : List O} {H : Hp} {C : Str} {d : D} {v : V} (s : SR K g S H) (h : isOwn C S d = true) (r : RV K g H d v) : ∃ a dx ws, v = .ref a ∧ H a = some (.ins (He.ga K C) dx ws) := by
  unfold isOwn at h
  split at h
  · rename_i C' fs q
    obtain ⟨a, dx, ws, rfl, h1, _⟩ := ins_at s q r
    rw [beq_iff_eq.mp h] at h1
    exact ⟨a, dx, ws, rfl, h1⟩
  · cases h
section
variable {z : Sg} {k : Nat} {C m : Str} {F : TF}
/-- a call of a method by its function -/
theorem run_met {n : Nat} (T : TMet z.P z.w z.K z.mg z.base k C m n F) {X : Cx} (fx : Fits z X) (hk : k ≤ z.lv) {pins : List (Addr × Obj)} {s : Shared} {σ : L2.St} {H : Hp} {Q : VK} {vs : List V} {us : List Value} (I : Inv X pins σ H s) (r : Vals vs us) {g : G} {S : List O} {ds : List D} (hs : SR z.K g S H) (rv : RVs z.K g H ds vs)
    (p : Post z.K z.W (RV z.K) g H σ Q (F ds S)) : ∃ f, Meth X.K (He.ga z.K C) m f ∧ wpAny (model X.prog X.w) X.A (call (.ref f) us) (EP X pins σ Q) X.xe s := by
  obtain ⟨f, fd, ps, h1, h2, h3, h4⟩ := T.ex
  refine ⟨f, by rw [fx.K]; exact h2, run_tfn (ds := []) (dvs := []) h1 fx hk h3 .nil I r ?_⟩
  rw [List.append_nil]
  by_cases hl : ds.length = n
  · exact ⟨by rw [rv.length, hl, h4], g, S, ds, hs, rv, p⟩
  · rw [T.len _ _ hl] at p
    exact p.elim
theorem inst_of {X : Cx} {pins : List (Addr × Obj)} {s : Shared} {σ : L2.St} {H : Hp} {a c dx : Addr} {fs : List (Str × V)} (I : Inv X pins σ H s) (e : H a = some (.ins c dx fs)) : ∃ ox od, PySem.W.InstAt s.heap a ox c od := by
  obtain ⟨mA, O, _⟩ := ins_get I.hok e
  obtain ⟨od, J, _⟩ := O.look
  exact ⟨_, _, J⟩
/-- own op own -/
theorem op_own {op : Operator} (T : TMet z.P z.w z.K z.mg z.base k C m 2 F) (hk : k ≤ z.lv) (hm : PySem.dunder op.info.2 = m) (hc : PySem.W.selfFirst z.K (He.ga z.K C) = true) : OpS z (binaryOp op) (own2 C F) := by
  intro X fx pins s σ H x y v u Q I rx ry g S dx dy hs r1 r2 p
  unfold own2 at p
  split at p
  · rename_i h
    obtain ⟨h1, h2⟩ := Bool.and_eq_true_iff.mp h
    obtain ⟨a, _, _, rfl, ea⟩ := own_at hs h1 r1
    obtain ⟨b, _, _, rfl, eb⟩ := own_at hs h2 r2
    obtain rfl : v = Value.ref a := rx
    obtain rfl : u = Value.ref b := ry
    obtain ⟨f, M, q⟩ := run_met T fx hk I (vs := [.ref a, .ref b]) (us := [.ref a, .ref b]) (.cons rfl (.cons rfl .nil)) hs (ds := [dx, dy]) (by simp only [RVs]; exact ⟨_, _, rfl, r1, _, _, rfl, r2, rfl⟩) p
    obtain ⟨ox, od, J⟩ := inst_of I ea
    obtain ⟨ox2, od2, J2⟩ := inst_of I eb
    obtain ⟨mm, fr⟩ := I.fr
    refine PySem.W.binop_K fr I.ok.mod.kin J J2.type (by rw [fx.K]; exact hc) (by rw [hm]; exact M.at_) M.fn (thn q fun u s' h => cmpBack_ep h)
  · exact p.elim
/-- what an operator needs to know where the other side is an int -/
structure OwnInt (K : PySem.W.Frag) (C : Str) (nm : String) : Prop where
  first : PySem.W.selfFirst K (He.ga K C) = true
  refl : ∃ rc, PySem.W.findIn K (.ref (He.ga K C)) (dunderR nm) = some rc ∧ (rc = none ∨ ∃ g : Addr, rc = some (.ref g))
  i1 : ∃ fo, PySem.W.findIn K (.type "int") (PySem.dunder nm) = some fo
  i2 : ∃ fo, PySem.W.findIn K (.type "int") (dunderR nm) = some fo
  sub : PySem.W.subIn K (.type "int") (.ref (He.ga K C)) = some false
theorem op_ownI {op : Operator} (T : TMet z.P z.w z.K z.mg z.base k C m 2 F) (hk : k ≤ z.lv) (hm : PySem.dunder op.info.2 = m) (hc : OwnInt z.K C op.info.2) : OpS z (binaryOp op) (ownI C F) := by
  intro X fx pins s σ H x y v u Q I rx ry g S dx dy hs r1 r2 p
  unfold ownI at p
  split at p
  · rename_i i
    split at p
    · rename_i h
      obtain ⟨a, _, _, rfl, ea⟩ := own_at hs h r1
      obtain rfl := rv_int r2
      obtain rfl : v = Value.ref a := rx
      obtain ⟨tk, rfl⟩ : ∃ t, u = Value.int i t := ry
      obtain ⟨f, M, q⟩ := run_met T fx hk I (vs := [.ref a, .int i]) (us := [.ref a, .int i tk]) (.cons rfl (.cons ⟨_, rfl⟩ .nil)) hs (ds := [dx, .int i]) (by simp only [RVs]; exact ⟨_, _, rfl, r1, _, _, rfl, r2, rfl⟩) p
      obtain ⟨ox, od, J⟩ := inst_of I ea
      obtain ⟨mm, fr⟩ := I.fr
      have hc' : OwnInt X.K C op.info.2 := by rw [fx.K]; exact hc
      obtain ⟨rc, c1, c2⟩ := hc'.refl
      obtain ⟨fo, c3⟩ := hc'.i1
      obtain ⟨ro, c4⟩ := hc'.i2
      have eg : He.ga X.K C = He.ga z.K C := by rw [fx.K]
      have c0 := hc'.first
      have c5 := hc'.sub
      rw [eg] at c0 c1 c5
      exact PySem.W.ksp_binT fr I.ok.mod.kin J rfl c0 (by rw [hm]; exact M.at_) M.fn c1 c2 c3 c4 c5 (thn q fun u s' h => cmpBack_ep h)
    · exact p.elim
  · exact p.elim
/-- -own -/
theorem un_neg_own (T : TMet z.P z.w z.K z.mg z.base k C "__neg__" 1 F) (hk : k ≤ z.lv) : UnS z (unaryOp .USub) (own1 C F) := by
  intro X fx pins s σ H x v Q I rx g S dx hs r1 p
  unfold own1 at p
  split at p
  · rename_i h
    obtain ⟨a, _, _, rfl, ea⟩ := own_at hs h r1
    obtain rfl : v = Value.ref a := rx
    obtain ⟨f, M, q⟩ := run_met T fx hk I (vs := [.ref a]) (us := [.ref a]) (.cons rfl .nil) hs (ds := [dx]) (by simp only [RVs]; exact ⟨_, _, rfl, r1, rfl⟩) p
    obtain ⟨ox, od, J⟩ := inst_of I ea
    obtain ⟨mm, fr⟩ := I.fr
    exact PySem.W.ksp_neg fr I.ok.mod.kin J M.at_ M.fn q
  · exact p.elim
/-- own == own, by its own __eq__ -/
theorem op_eq_own (T : TMet z.P z.w z.K z.mg z.base k C "__eq__" 2 F) (hk : k ≤ z.lv) : OpS z (compareOp .Eq) (own2 C F) := by
  intro X fx pins s σ H x y v u Q I rx ry g S dx dy hs r1 r2 p
  unfold own2 at p
  split at p
  · rename_i h
    obtain ⟨h1, h2⟩ := Bool.and_eq_true_iff.mp h
    obtain ⟨a, _, _, rfl, ea⟩ := own_at hs h1 r1
    obtain ⟨b, _, _, rfl, eb⟩ := own_at hs h2 r2
    obtain rfl : v = Value.ref a := rx
    obtain rfl : u = Value.ref b := ry
    obtain ⟨f, M, q⟩ := run_met T fx hk I (vs := [.ref a, .ref b]) (us := [.ref a, .ref b]) (.cons rfl (.cons rfl .nil)) hs (ds := [dx, dy]) (by simp only [RVs]; exact ⟨_, _, rfl, r1, _, _, rfl, r2, rfl⟩) p
    obtain ⟨ox, od, J⟩ := inst_of I ea
    obtain ⟨ox2, od2, J2⟩ := inst_of I eb
    obtain ⟨mm, fr⟩ := I.fr
    refine PySem.W.cmp_ofEq (PySem.W.cmp_K (by have := fx.hu; omega) fr I.ok.mod.kin J J2.type ?_ M.at_ M.fn (thn q fun u s' h => cmpBack_ep h))
    unfold PySem.W.notFirst
    rw [beq_self_eq_true, Bool.true_or]
  · exact p.elim
end
end TL
set_option Elab.async false
set_option linter.all false
set_option maxRecDepth 100000
set_option maxHeartbeats 4000000
/-! The tree layer, part 22: an int on the left of an own object; calls of own objects; != of own objects. -/
namespace TL
open PySem PySem.Spec PyProof.Rows L2

/-! ### int op own: the int declines -/
open Builtin in
theorem q_dec {prog : Program} {w : World} {A : Around} {E : Value → Shared → Prop} {s : Shared} {name : String} {f : Int → Int → Sem Fin} {r : Bool} {i : Int} {t : Tok} {b C dx : Addr} {Q : Fin → Shared → Prop} (hl : s.heap.get? b = some { cls := .ref C, dict := some dx, data := .plain })
    (h : Q (.done (.ret .notImplemented)) s) : wpAny (model prog w) A (Builtin.Int.intBinary name f r ⟨[.int i t, .ref b], []⟩) Q E s := by
  unfold Builtin.Int.intBinary
  refine wpAny_bind (wpAny_of_eq (show slotArgs name 1 ⟨[.int i t, .ref b], []⟩ = pure (.int i t, [.ref b]) from rfl) ?_)
  refine wpAny_bind (wpAny_of_eq (show Builtin.Int.intOfSelf (.int i t) = pure i from rfl) ?_)
  refine wpAny_bind (wpAny_bind (wpAny_load hl ?_))
  refine wpAny_pure ?_
  exact wpAny_bind (wpAny_rule (wpAny_pure h))
abbrev DecS (b C dx : Addr) : PySem.Spec := fun _ R s => s.heap.get? b = some { cls := .ref C, dict := some dx, data := .plain } ∧ R (.ok (.ret Value.notImplemented)) s
theorem q_add_dec (i : Int) (t : Tok) (b C dx : Addr) : Meets (Builtin.«int.__add__» ⟨[.int i t, .ref b], []⟩) (DecS b C dx) := .of_wp fun prog w A R s h => q_dec h.1 ⟨_, rfl, h.2⟩
theorem q_sub_dec (i : Int) (t : Tok) (b C dx : Addr) : Meets (Builtin.«int.__sub__» ⟨[.int i t, .ref b], []⟩) (DecS b C dx) := .of_wp fun prog w A R s h => q_dec h.1 ⟨_, rfl, h.2⟩
theorem q_mul_dec (i : Int) (t : Tok) (b C dx : Addr) : Meets (Builtin.«int.__mul__» ⟨[.int i t, .ref b], []⟩) (DecS b C dx) := .of_wp fun prog w A R s h => q_dec h.1 ⟨_, rfl, h.2⟩
/-- an int declines this operation with an own object -/
structure IntDec (nm : String) : Prop where
  fills : fillsNumberSlot (.type "int") nm = pure true
  dec : ∀ (prog : Program) (w : World) (A : Around) (E : Value → Shared → Prop) (s : Shared) (i : Int) (t : Tok) (b C dx : Addr) (Q : Option Value → Shared → Prop), s.heap.get? b = some { cls := .ref C, dict := some dx, data := .plain } → Q none s →
    wpAny (model prog w) A (tryMethod (.int i t) (PySem.dunder nm) (.ref b)) Q E s
theorem dec_add : IntDec "add" := by
  refine ⟨F.fills_int_add, fun prog w A E s i t b C dx Q h q => ?_⟩
  have a := F.args_int_add_2 (.int i t) (.ref b)
  have e := F.entry_int_add
  have z := F.slot_int_add
  have x : wpAny (model prog w) A (call (.builtin "int.__add__") [.int i t, .ref b]) (fun v s' => v = .notImplemented ∧ Q none s') E s := call_meets z (typeIs_int s i t) e a (q_add_dec i t b C dx) ⟨h, rfl, q⟩
  have y : s.TypeIs (.int i t) "int" := typeIs_int s i t
  generalize hd : PySem.dunder "add" = nn at z ⊢
  have r := wpAny_tryMethod_declines (M := model prog w) (A := A) (E := E) (Q := Q) y z x
  exact r
theorem dec_sub : IntDec "sub" := by
  refine ⟨F.fills_int_sub, fun prog w A E s i t b C dx Q h q => ?_⟩
  have a := F.args_int_sub_2 (.int i t) (.ref b)
  have e := F.entry_int_sub
  have z := F.slot_int_sub
  have x : wpAny (model prog w) A (call (.builtin "int.__sub__") [.int i t, .ref b]) (fun v s' => v = .notImplemented ∧ Q none s') E s := call_meets z (typeIs_int s i t) e a (q_sub_dec i t b C dx) ⟨h, rfl, q⟩
  have y : s.TypeIs (.int i t) "int" := typeIs_int s i t
  generalize hd : PySem.dunder "sub" = nn at z ⊢
  have r := wpAny_tryMethod_declines (M := model prog w) (A := A) (E := E) (Q := Q) y z x
  exact r
theorem dec_mul : IntDec "mul" := by
  refine ⟨F.fills_int_mul, fun prog w A E s i t b C dx Q h q => ?_⟩
  have a := F.args_int_mul_2 (.int i t) (.ref b)
  have e := F.entry_int_mul
  have z := F.slot_int_mul
  have x : wpAny (model prog w) A (call (.builtin "int.__mul__") [.int i t, .ref b]) (fun v s' => v = .notImplemented ∧ Q none s') E s := call_meets z (typeIs_int s i t) e a (q_mul_dec i t b C dx) ⟨h, rfl, q⟩
  have y : s.TypeIs (.int i t) "int" := typeIs_int s i t
  generalize hd : PySem.dunder "mul" = nn at z ⊢
  have r := wpAny_tryMethod_declines (M := model prog w) (A := A) (E := E) (Q := Q) y z x
  exact r
structure OwnRefl (K : PySem.W.Frag) (C : Str) (nm : String) : Prop where
  first : PySem.W.selfFirst K (He.ga K C) = true
  fwd : ∃ f : Addr, PySem.W.findIn K (.ref (He.ga K C)) (PySem.dunder nm) = some (some (.ref f))
  sub : PySem.W.subIn K (.ref (He.ga K C)) (.type "int") = some false
section
variable {z : Sg} {k : Nat} {C m : Str} {F : TF}
theorem inst_plain {X : Cx} {pins : List (Addr × Obj)} {s : Shared} {σ : L2.St} {H : Hp} {a c dx : Addr} {fs : List (Str × V)} (I : Inv X pins σ H s) (e : H a = some (.ins c dx fs)) : s.heap.get? a = some { cls := .ref c, dict := some dx, data := .plain } := by
  obtain ⟨_, _, _, h, _⟩ := (show ObjOk X.prog X.w H s.heap a (.ins c dx fs) from I.hok a _ e)
  exact h
theorem ownR_run {prog : Program} {w : World} {A : Around} {E : Value → Shared → Prop} {s : Shared} {K : PySem.W.Frag} {x c L f f' : Addr} {h₀ : Heap} {m : Str → Option Value} {ox : Obj} {od : Option Obj} {op : Operator} {i : Int} {t : Tok} {dx : Addr} {Q : Value → Shared → Prop}
    (D : IntDec op.info.2) (Fx : Fr h₀ L s.heap m) (X₀ : K.In h₀) (I : PySem.W.InstAt s.heap x ox c od) (hx : s.heap.get? x = some { cls := .ref c, dict := some dx, data := .plain }) (hc : PySem.W.selfFirst K c = true)
    (hs : PySem.W.findIn K (.ref c) (PySem.dunder op.info.2) = some (some (.ref f'))) (hr : PySem.W.findIn K (.ref c) (dunderR op.info.2) = some (some (.ref f))) (hf : PySem.W.isFn K (.ref f) = true) (hsub : PySem.W.subIn K (.ref c) (.type "int") = some false)
    (h : wpAny (model prog w) A (call (.ref f) [.ref x, .int i t]) (PySem.W.CmpBack Q) E s) : wpAny (model prog w) A (binaryOp op (.int i t) (.ref x)) Q E s := by
  have X := X₀.keeps Fx.keep
  obtain ⟨cd, rest, hcd, hm⟩ := PySem.W.ksp_first hc
  rcases hi : op.info with ⟨sym, nm'⟩
  rw [hi] at hs hr D
  dsimp only at hs hr D
  have one := PySem.W.ksp_try X I hr hf h
  have dec : ∀ (Q' : Option Value → Shared → Prop), Q' none s → wpAny (model prog w) A (tryMethod (.int i t) (PySem.dunder nm') (.ref x)) Q' E s := fun Q' q => D.dec prog w A E s i t x c dx Q' hx q
  obtain ⟨hh, g, d, tt, os⟩ := s
  have L1 : PySem.W.Looks (model prog w) hh (typeOf (.int i t)) (.type "int") := PySem.W.Looks.of_pure rfl
  have L2 : PySem.W.Looks (model prog w) hh (typeOf (.ref x)) (.ref c) := I.type
  have L3 : PySem.W.Looks (model prog w) hh (fillsNumberSlot (.type "int") nm') true := PySem.W.Looks.of_pure D.fills
  have L4 : PySem.W.Looks (model prog w) hh (fillsNumberSlot (.ref c) nm') true := PySem.W.fills_K X hcd hm hs
  have L5 : PySem.W.Looks (model prog w) hh (isSubtype (.ref c) (.type "int")) false := PySem.W.looks_subIn X hsub
  have L6 : PySem.W.Looks (model prog w) hh (numberSlotInPython (.type "int") nm') false := PySem.W.Looks.of_pure rfl
  have hne : (Value.type "int" == Value.ref c) = false := Bool.eq_false_iff.mpr fun q => by cases beq_iff_eq.mp q
  simp only [binaryOp, hi]
  refine wpAny_holding (wpAny_bind ?_)
  unfold binaryOp1
  refine wpAny_bind (L1.at (wpAny_bind (L2.at (wpAny_bind (L3.at ?_)))))
  simp only [hne, Bool.false_eq_true, if_false]
  refine wpAny_bind (L4.at ?_)
  simp only [Bool.and_self, if_true]
  refine wpAny_bind (L5.at ?_)
  simp only [Bool.false_eq_true, if_false]
  simp only [Bool.not_false, Bool.and_self, if_true]
  refine wpAny_bind (L6.at ?_)
  simp only [Bool.false_eq_true, if_false]
  refine wpAny_bind (dec _ ?_)
  refine wpAny_bind (wpAny_mono one (fun r s' hr' => ?_) fun _ _ e => e)
  obtain ⟨v, rfl, hq⟩ := hr'
  refine wpAny_bind (wpAny_rule ?_)
  refine wpAny_pure ?_
  exact wpAny_pure hq
end
end TL
set_option Elab.async false
set_option linter.all false
set_option maxRecDepth 100000
set_option maxHeartbeats 4000000
/-! The tree layer, part 23: the operators put together; calls of own objects; != of own objects. -/
namespace TL
open PySem PySem.Spec PyProof.Rows L2
section
variable {z : Sg} {k k' : Nat} {C m m' : Str} {F Fr : TF}
theorem op_ownR {op : Operator} (D : IntDec op.info.2) (T : TMet z.P z.w z.K z.mg z.base k C m 2 F) (hk : k ≤ z.lv) (hm : dunderR op.info.2 = m) (hc : OwnRefl z.K C op.info.2) : OpS z (binaryOp op) (ownR C F) := by
  intro X fx pins s σ H x y v u Q I rx ry g S dx dy hs r1 r2 p
  unfold ownR at p
  split at p
  · rename_i i
    split at p
    · rename_i h
      obtain ⟨b, dxx, _, rfl, eb⟩ := own_at hs h r2
      obtain rfl := rv_int r1
      obtain rfl : u = Value.ref b := ry
      obtain ⟨tk, rfl⟩ : ∃ t, v = Value.int i t := rx
      obtain ⟨f, M, q⟩ := run_met T fx hk I (vs := [.ref b, .int i]) (us := [.ref b, .int i tk]) (.cons rfl (.cons ⟨_, rfl⟩ .nil)) hs (ds := [dy, .int i]) (by simp only [RVs]; exact ⟨_, _, rfl, r2, _, _, rfl, r1, rfl⟩) p
      obtain ⟨ox, od, J⟩ := inst_of I eb
      obtain ⟨mm, fr⟩ := I.fr
      have hc' : OwnRefl X.K C op.info.2 := by rw [fx.K]; exact hc
      obtain ⟨fo, c3⟩ := hc'.fwd
      have eg : He.ga X.K C = He.ga z.K C := by rw [fx.K]
      have c0 := hc'.first
      have c5 := hc'.sub
      rw [eg] at c0 c3 c5
      exact ownR_run D fr I.ok.mod.kin J (inst_plain I eb) c0 c3 (by rw [hm]; exact M.at_) M.fn c5 (thn q fun u s' h => cmpBack_ep h)
    · exact p.elim
  · exact p.elim
/-- a op b: own on either side, else as before -/
def ownB (C : Str) (F Fr : TF) (base : D → D → List O → Out D) (x y : D) (S : List O) : Out D :=
  if isOwn C S x then (if isOwn C S y then F [x, y] S else ownI C F x y S) else if isOwn C S y then ownR C Fr x y S else base x y S
theorem op_ownB {op : Operator} {base : D → D → List O → Out D} (D : IntDec op.info.2) (T : TMet z.P z.w z.K z.mg z.base k C m 2 F) (T' : TMet z.P z.w z.K z.mg z.base k' C m' 2 Fr) (hb : OpS z (binaryOp op) base) (hc : OwnInt z.K C op.info.2) (hc' : OwnRefl z.K C op.info.2) (hm : PySem.dunder op.info.2 = m) (hm' : dunderR op.info.2 = m') (hk : k ≤ z.lv) (hk' : k' ≤ z.lv) :
    OpS z (binaryOp op) (ownB C F Fr base) := by
  intro X fx pins s σ H x y v u Q I rx ry g S dx dy hs r1 r2 p
  unfold ownB at p
  split at p
  · rename_i h1
    split at p
    · rename_i h2
      exact op_own T hk hm hc.first X fx pins s σ H x y v u Q I rx ry g S dx dy hs r1 r2 (by unfold own2; rw [h1, h2]; exact p)
    · exact op_ownI T hk hm hc X fx pins s σ H x y v u Q I rx ry g S dx dy hs r1 r2 p
  · split at p
    · exact op_ownR D T' hk' hm' hc' X fx pins s σ H x y v u Q I rx ry g S dx dy hs r1 r2 p
    · exact hb X fx pins s σ H x y v u Q I rx ry g S dx dy hs r1 r2 p
/-- op where just own op own is of the class -/
def ownO (C : Str) (F : TF) (base : D → D → List O → Out D) (x y : D) (S : List O) : Out D := if isOwn C S x then own2 C F x y S else base x y S
theorem op_ownO {op : Operator} {base : D → D → List O → Out D} (T : TMet z.P z.w z.K z.mg z.base k C m 2 F) (hb : OpS z (binaryOp op) base) (hc : PySem.W.selfFirst z.K (He.ga z.K C) = true) (hm : PySem.dunder op.info.2 = m) (hk : k ≤ z.lv) : OpS z (binaryOp op) (ownO C F base) := by
  intro X fx pins s σ H x y v u Q I rx ry g S dx dy hs r1 r2 p
  unfold ownO at p
  split at p
  · exact op_own T hk hm hc X fx pins s σ H x y v u Q I rx ry g S dx dy hs r1 r2 p
  · exact hb X fx pins s σ H x y v u Q I rx ry g S dx dy hs r1 r2 p
theorem op_eqO {base : D → D → List O → Out D} (T : TMet z.P z.w z.K z.mg z.base k C "__eq__" 2 F) (hb : OpS z (compareOp .Eq) base) (hk : k ≤ z.lv) : OpS z (compareOp .Eq) (ownO C F base) := by
  intro X fx pins s σ H x y v u Q I rx ry g S dx dy hs r1 r2 p
  unfold ownO at p
  split at p
  · exact op_eq_own T hk X fx pins s σ H x y v u Q I rx ry g S dx dy hs r1 r2 p
  · exact hb X fx pins s σ H x y v u Q I rx ry g S dx dy hs r1 r2 p
def ownU (C : Str) (F : TF) (base : D → List O → Out D) (x : D) (S : List O) : Out D := if isOwn C S x then F [x] S else base x S
theorem un_negO {base : D → List O → Out D} (T : TMet z.P z.w z.K z.mg z.base k C "__neg__" 1 F) (hb : UnS z (unaryOp .USub) base) (hk : k ≤ z.lv) : UnS z (unaryOp .USub) (ownU C F base) := by
  intro X fx pins s σ H x v Q I rx g S dx hs r1 p
  unfold ownU at p
  split at p
  · rename_i h1
    exact un_neg_own T hk X fx pins s σ H x v Q I rx g S dx hs r1 (by unfold own1; rw [h1]; exact p)
  · exact hb X fx pins s σ H x v Q I rx g S dx hs r1 p

/-! ### a call's code -/
/-- a call of a method by its function, as code (one level deeper may be asked: A) -/
theorem code_met {n : Nat} (T : TMet z.P z.w z.K z.mg z.base k C m n F) {X : Cx} (fx : Fits z X) {A : Around} (hr : Room k A) (hgd : A.guards = some []) (hfn : ∀ f : Addr, PySem.W.findIn z.K (.ref (He.ga z.K C)) m = some (some (.ref f)) → PySem.W.fnIn z.K f = true) {pins : List (Addr × Obj)} {s : Shared} {σ : L2.St} {H : Hp} {Q : VK} {vs : List V} {us : List Value} (I : Inv X pins σ H s) (e0 : Env0 z.P z.w z.K z.mg z.base A X.stack s H) (r : Vals vs us) {g : G} {S : List O} {ds : List D} (hs : SR z.K g S H) (rv : RVs z.K g H ds vs)
    (p : Post z.K z.W (RV z.K) g H σ Q (F ds S)) : ∃ f, Meth X.K (He.ga z.K C) m f ∧ PySem.W.fnIn X.K f = true ∧ codeAny (model X.prog X.w) A (.call (.ref f) ⟨us, []⟩) (fun rr s' => match rr with | .ok (.ret u) => EP X pins σ Q u s' | .ok _ => False | .error e => X.xe e s') s := by
  obtain ⟨f, fd, ps, h1, h2, h3, h4⟩ := T.ex
  by_cases hl : ds.length = n
  · refine ⟨f, by rw [fx.K]; exact h2, ?_, ?_⟩
    · rw [fx.K]
      exact hfn f h2.at_
    · have KX := I.kIn
      have fin : ∀ (rr : Result) (s' : Shared), CR (CX X.prog X.w) X.stack X.prog X.w H s Q (fun c dd H' => z.W c dd σ H') rr s' → (match rr with | .ok (.ret u) => EP X pins σ Q u s' | .ok _ => False | .error e => X.xe e s') := by
        intro rr s' hq
        cases rr with
        | error e => exact fx.takes e s' (XE.of_call I (fun _ _ _ q => q) hq)
        | ok fl =>
          cases fl with
          | ret u => exact I.after hq
          | _ => exact hq
      rw [fx.K] at KX
      rw [fx.prog, fx.w] at fin ⊢
      have hlen : vs.length = ps.length := by rw [rv.length, hl, h4]
      refine codeAny_mono (h1.run A X.stack s H ⟨us, []⟩ us vs Q _ g S ds hr hgd e0 (by simpa using h3 s us KX (by rw [List.append_nil, ← r.length]; exact hlen)) r hlen hs rv p.wx) fin
  · rw [T.len _ _ hl] at p
    exact p.elim
end
end TL
set_option Elab.async false
set_option linter.all false
set_option maxRecDepth 100000
set_option maxHeartbeats 4000000
/-! The tree layer, part 24: calls of own objects; != of own objects. -/
namespace TL
open PySem PySem.Spec PyProof.Rows L2

/-- the method's function is a def of the program -/
def fnB (C m : Str) (K : PySem.W.Frag) : Bool := match PySem.W.findIn K (.ref (He.ga K C)) m with
  | some (some (.ref f)) => PySem.W.fnIn K f
  | _ => false
theorem fnB_ok {K : PySem.W.Frag} {C m : Str} (h : fnB C m K = true) : ∀ f : Addr, PySem.W.findIn K (.ref (He.ga K C)) m = some (some (.ref f)) → PySem.W.fnIn K f = true := fun f e => by
  unfold fnB at h
  rw [e] at h
  exact h

section
variable {M : Model} {A : Around} {E : Value → Shared → Prop} {s : Shared} {env : Env} {pos : Pos} {x : Addr} {Q : Value → Shared → Prop}
/-- a call of an object that is no function -/
theorem callWith_obj {e : Expr} {rest : List Expr} (h : wpAny M A (spliced (backTo pos (starEach (e :: rest) env))) (fun vs s1 => (∃ ox, s1.heap.get? x = some ox ∧ ox.data = .plain) ∧ wpAny M A (call (.ref x) vs) Q E s1) E s)
    (he : starEach (e :: rest) env = (false, eval e env) :: starEach rest env) (hpl : (backTo pos (starEach rest env)).any (·.1) = false) : wpAny M A (callWith pos (.ref x) [] (backTo pos (starEach (e :: rest) env)) []) Q E s := by
  rw [he] at h ⊢
  have np : ((backTo pos ((false, eval e env) :: starEach rest env)).any (·.1) || ([] : List (Option Str × Sem Value)).any (·.1.isNone)) = false := by
    show ((false || (backTo pos (starEach rest env)).any (·.1)) || false) = false
    rw [hpl]
    rfl
  have h' : wpAny M A (evalArgs (.ref x) true (backTo pos ((false, eval e env) :: starEach rest env)) []) (fun a s1 => (∃ ox, s1.heap.get? x = some ox ∧ ox.data = .plain) ∧ wpAny M A (call (.ref x) a.pos a.kw) Q E s1) E s := PySem.Calls.evalArgs_plain h
  unfold callWith
  refine wpAny_bind (wpAny_holding (wpAny_mono h' (fun a s1 h1 => ?_) fun _ _ y => y))
  refine wpAny_bind (wpAny_standAt ?_)
  obtain ⟨⟨ox, h2, h3⟩, h4⟩ := h1
  have kp : PySem.W.Looks M s1.heap (keeperOf (.ref x)) .caller := (PySem.W.Looks.ld (part := none) h2).andThen (by
    simp only [h3]
    exact .now)
  simp only [np]
  refine wpAny_bind (kp.here (wpAny_bind (wpAny_mono (wpAny_operateT h4) (fun r s2 hr => ?_) fun _ _ y => y)))
  exact wpAny_bind (wpAny_holding (wpAny_point (wpAny_pure hr)))
end
section
variable {z : Sg} {k n : Nat} {C : Str} {F : TF} {o e : Expr} {es : List Expr} {pos : Pos} {t : TEx} {ta : TAx}
def eCallO (C : Str) (F : TF) (t : TEx) (ta : TAx) : TEx := fun ρ S => (t ρ S).bind fun x S1 => if isOwn C S1 x then (ta ρ S1).bind fun xs S2 => if isOwn C S2 x then F (x :: xs) S2 else .stuck else .stuck
/-- o(e, ..), o an own object -/
theorem de_callO (T : TMet z.P z.w z.K z.mg z.base k C "__call__" n F) (ho : DE z o t) (ha : DA z (e :: es) ta) (hf : fnB C "__call__" z.K = true) (hk : k ≤ z.lv)
    (ht : ∀ env, eval (.Call o (e :: es) [] pos) env = (do callWith pos (← eval o env) [] (backTo pos (starEach (e :: es) env)) (backToKw pos (keywordEach [] env))) := by intro _; rfl)
    (he : ∀ env, starEach (e :: es) env = (false, eval e env) :: starEach es env := by intro _; rfl) (hpl : ∀ env, (backTo pos (starEach es env)).any (·.1) = false := by intro _; rfl) : DE z (.Call o (e :: es) [] pos) (eCallO C F t ta) := by
  obtain ⟨τ, g1, q1⟩ := ho
  obtain ⟨τ2, g2, q2⟩ := ha
  refine ⟨fun σ H Q => τ σ H fun x H1 => ∃ a, x = .ref a ∧ τ2 σ H1 fun vs H2 => ∃ dx ws, H2 a = some (.ins (He.ga z.K C) dx ws) ∧ ∃ g S ds, SR z.K g S H2 ∧ RVs z.K g H2 ds (.ref a :: vs) ∧ Post z.K z.W (RV z.K) g H2 σ Q (F ds S), fun X fx => ⟨fun pins s σ H Q I h => ?_⟩, fun g S ρ σ H Q s rs p => ?_⟩
  · rw [ht]
    refine wpAny_bind (thn ((g1 X fx).run pins s σ H _ I h) fun u s1 ⟨x, H1, I1, rx, a, ex, q⟩ => ?_)
    subst ex
    obtain rfl : u = Value.ref a := rx
    refine callWith_obj (thn ((g2 X fx).run pos pins s1 σ H1 _ I1 q) fun us s2 ⟨vs, H2, I2, r, dx, ws, ea, g, S, ds, hs, rv, hp⟩ => ⟨⟨_, inst_plain I2 ea, rfl⟩, ?_⟩) (he _) (hpl _)
    have e0 := I2.env0
    rw [fx.prog, fx.w, fx.K, fx.mg, fx.base] at e0
    obtain ⟨f, M, fn, q3⟩ := code_met T fx (fx.room.mono hk) fx.gd (fnB_ok hf) I2 e0 (.cons (show RelV (.ref a) (.ref a) from rfl) r) hs rv hp
    obtain ⟨ox, od, J⟩ := inst_of I2 ea
    have J2 : ox = { cls := .ref (He.ga z.K C), dict := some dx, data := .plain } := by
      have a1 := J.at_
      rw [inst_plain I2 ea] at a1
      exact (Option.some.inj a1).symm
    exact wpAny_call (PySem.W.kco_code (K := X.K) I2.kIn J (by rw [J2]) M.at_ M.fn fn q3)
  · refine q1 g S ρ σ H _ s rs (p.bind fun x S1 g1 H1 v e1 s1 r1 p1 => ?_)
    split at p1
    · rename_i h1
      obtain ⟨a, dx, ws, rfl, _⟩ := own_at s1 h1 r1
      refine ⟨a, rfl, q2 g1 S1 ρ σ H1 _ s1 (rs.mono s.live e1) (p1.bind fun xs S2 g2 H2 vs e2 s2 r2 p2 => ?_)⟩
      split at p2
      · rename_i h2
        have r1' := r1.mono s1.live e2 _ _
        obtain ⟨a', dx', ws', ea, h3⟩ := own_at s2 h2 r1'
        cases ea
        exact ⟨dx', ws', h3, g2, S2, x :: xs, s2, by simp only [RVs]; exact ⟨_, _, rfl, r1', r2⟩, p2⟩
      · exact p2.elim
    · exact p1.elim

/-! ### != -/
def ownNe (C : Str) (F : TF) (base : D → D → List O → Out D) (x y : D) (S : List O) : Out D := if isOwn C S x then (if isOwn C S y then (F [x, y] S).bind fun d S1 => match d with
  | .bl b => .ok (.bl (!b)) S1
  | _ => .stuck else .stuck) else base x y S
/-- C has object's own __ne__ -/
structure NeB (K : PySem.W.Frag) (C : Str) : Prop where
  at_ : PySem.W.findIn K (.ref (He.ga K C)) "__ne__" = some (some (.builtin "object.__ne__"))
  sub : PySem.W.subIn K (.ref (He.ga K C)) (.type "object") = some true
theorem op_neO {base : D → D → List O → Out D} (T : TMet z.P z.w z.K z.mg z.base k C "__eq__" 2 F) (hb : OpS z (compareOp .NotEq) base) (N : NeB z.K C) (hk : k + 1 ≤ z.lv) (hf : fnB C "__eq__" z.K = true) : OpS z (compareOp .NotEq) (ownNe C F base) := by
  intro X fx pins s σ H x y v u Q I rx ry g S dx dy hs r1 r2 p
  unfold ownNe at p
  split at p
  · rename_i h1
    split at p
    · rename_i h2
      obtain ⟨a, dxa, _, rfl, ea⟩ := own_at hs h1 r1
      obtain ⟨b, _, _, rfl, eb⟩ := own_at hs h2 r2
      obtain rfl : v = Value.ref a := rx
      obtain rfl : u = Value.ref b := ry
      have p' : Post z.K z.W (RV z.K) g H σ (fun w H' => ∃ c, w = .bl c ∧ Q (.bl (!c)) H') (F [dx, dy] S) := Post.bind (R' := RV z.K) (Q := Q) p fun d S1 g1 H1 w e s1 r1 p1 => by
        cases d with
        | bl c => exact ⟨c, rv_bl r1, p1.here s1 (by simp only [RV])⟩
        | _ => exact p1.elim
      have e0 := I.env0.in1
      rw [fx.prog, fx.w, fx.K, fx.mg, fx.base] at e0
      have hu := fx.hu
      obtain ⟨f, M, fn, q⟩ := code_met T fx (A := X.A.in1) ((fx.room.mono hk).in1) fx.gd (fnB_ok hf) I e0 (us := [.ref a, .ref b]) (vs := [.ref a, .ref b]) (.cons rfl (.cons rfl .nil)) hs (ds := [dx, dy]) (by simp only [RVs]; exact ⟨_, _, rfl, r1, _, _, rfl, r2, rfl⟩) p'
      obtain ⟨ox, od, J⟩ := inst_of I ea
      obtain ⟨ox2, od2, J2⟩ := inst_of I eb
      have KX := I.kIn
      have N' : NeB X.K C := by rw [fx.K]; exact N
      have n1 := N'.at_
      have n2 := N'.sub
      rw [show He.ga X.K C = He.ga z.K C by rw [fx.K]] at n1 n2
      refine PySem.W.cmp_ofNotEq ?_
      unfold richCompare
      simp only [oneThing_ref]
      refine wpAny_holding (wpAny_bind (wpAny_cRoomFor (by omega) ?_))
      refine wpAny_bind (J.type.here (wpAny_bind (J2.type.here ?_)))
      simp only [bne_self_eq_false, Bool.false_eq_true, if_false]
      refine wpAny_bind (wpAny_pure ?_)
      simp only [Bool.false_eq_true, if_false]
      have one : wpAny (model X.prog X.w) X.A (tryCompare (.ref a) "__ne__" (.ref b)) (fun r s' => ∃ v, r = some v ∧ EP X pins σ Q v s') X.xe s := by
        simp only [tryCompare, callSpecialIfBound?, bindSpecialIfBound?]
        have fin : wpAny (model X.prog X.w) X.A (call (.builtin "object.__ne__") [.ref a, .ref b]) (EP X pins σ Q) X.xe s := by
          refine wpAny_call (codeAny_call_builtin PySem.F.cmp_object.ne.plain PySem.F.cmpEntry_ne (PySem.W.check_slot PySem.F.cmpKind_ne PySem.F.cmpSplit_ne (J.type.andThen (PySem.W.looks_subIn KX n2)) (PySem.F.cmpArgs_ne _ _) ?_))
          unfold Builtin.«object.__ne__»
          refine wpAny_bind (wpAny_of_eq (show slotArgs "__ne__" 1 ⟨[.ref a, .ref b], []⟩ = pure (.ref a, [.ref b]) from rfl) ?_)
          dsimp only
          refine wpAny_bind (wpAny_cRoomFor (show X.A.units + 1 < cLine by omega) ?_)
          refine wpAny_bind (PySem.W.ifBound_K (K := X.K) KX J M.at_ M.fn (wpAny_mono (wpAny_call q) (fun w s' hw => ?_) fun _ _ e => e))
          obtain ⟨w', H', I', rw', c, rfl, q'⟩ := hw
          cases rw'
          refine wpAny_bind (wpAny_truthy_bool ?_)
          exact wpAny_pure (show EP X pins σ Q (.bool (!c)) s' from ⟨.bl (!c), H', I', rfl, q'⟩)
        refine wpAny_bind (wpAny_holding (wpAny_bind (wpAny_bind (wpAny_bind (J.type.here ((PySem.W.looks_findIn KX n1).here ?_))))))
        simp only [PySem.F.cmp_object.ne.bind]
        have fin2 : wpAny (model X.prog X.w) X.A (call (.builtin "object.__ne__") ([.ref a] ++ [.ref b]) >>= fun v => pure (some v)) (fun r s' => wpAny (model X.prog X.w) X.A (match r with
          | some .notImplemented | none => pure none
          | some v => pure (some v)) (fun r s' => ∃ v, r = some v ∧ EP X pins σ Q v s') X.xe s') X.xe s := wpAny_bind (wpAny_mono fin (fun v s' h' => wpAny_pure (by
            have h2 := cmpBack_ep h'
            cases v <;> first | exact h2.elim | exact wpAny_pure ⟨_, rfl, h'⟩)) fun _ _ e => e)
        refine wpAny_bind (wpAny_askSetting (wpAny_ite ?_))
        split
        · exact wpAny_bind (wpAny_pure (wpAny_pure fin2))
        · exact wpAny_tryCatch (wpAny_bind (wpAny_pure (wpAny_pure fin2)))
      refine wpAny_bind (wpAny_mono one (fun r s' z => ?_) fun _ _ e => e)
      obtain ⟨v, rfl, hq⟩ := z
      exact wpAny_pure hq
    · exact p.elim
  · exact hb X fx pins s σ H x y v u Q I rx ry g S dx dy hs r1 r2 p
end
end TL
set_option Elab.async false
set_option linter.all false
set_option maxRecDepth 100000
set_option maxHeartbeats 4000000
/-! The tree layer, part 25: sets of texts: set(xs) of a list of texts, sorted of such a set. -/
namespace TLX
open PySem PySem.Spec PyProof.Rows L2
/-- the text of an entry -/
def txtE (e : Int × Value) : Str := match e.2 with
  | .str x _ => x
  | _ => Str.empty
/-- a table of texts that can be walked -/
structure Tab (w : World) (es : Array (Int × Value)) (t : SetTable) (L : List Str) : Prop where
  good : ∀ e ∈ es.toList, ∃ x tk, e.2 = Value.str x tk ∧ e.1 = hashStr w x
  keys : (es.toList.map txtE).Perm L
  nd : L.Nodup
  few : es.size < scanBound
  fits : t.fits es.size = true
  ris : Ris t.place.toList
  led : w.params.followText "set-order" = true ∨ t.led = true
/-- the set at a has just the texts of L -/
def SetT (w : World) (h : Heap) (a : Addr) (L : List Str) : Prop := ∃ o es ep t, h.get? a = some o ∧ o.ExactSet ∧ o.data = .set es ep t ∧ Tab w es t L
section
variable {P : Program} {w : World} {A : Around} {E : Value → Shared → Prop} {s : Shared} {a : Addr} {L : List Str} {h h' : Heap} {es es' : Array (Int × Value)} {t t' : SetTable}
theorem Tab.lay (T : Tab w es t L) (p : es'.toList.Perm es.toList) (f : t'.fits es'.size = true) (r : Ris t'.place.toList) (l : t'.led = t.led) : Tab w es' t' L where
  good := fun e he => T.good e (p.mem_iff.mp he)
  keys := (p.map txtE).trans T.keys
  nd := T.nd
  few := by rw [← Array.length_toList, p.length_eq, Array.length_toList]; exact T.few
  fits := f
  ris := r
  led := by rw [l]; exact T.led
theorem Tab.els (T : Tab w es t L) : ElemsOf (PySem.strKind P w) es.toList := fun e he => by
  obtain ⟨x, tk, h1, h2⟩ := T.good e he
  rw [h1]
  exact ⟨⟨x, strKind_is P w x tk, h2⟩, rfl⟩
theorem Tab.has (T : Tab w es t L) (x : Str) : x ∈ L ↔ ∃ e ∈ es.toList, (PySem.strKind P w).is x e.2 = true := by
  rw [← T.keys.mem_iff, List.mem_map]
  constructor <;> rintro ⟨e, he, q⟩ <;> refine ⟨e, he, ?_⟩ <;> obtain ⟨y, tk, h1, _⟩ := T.good e he
  · unfold txtE at q
    rw [h1] at q
    rw [h1, ← q]
    exact strKind_is P w y tk
  · rw [h1] at q
    unfold txtE
    rw [h1]
    exact (PySem.strKind P w).inj _ _ _ (strKind_is P w y tk) q
/-- what is stored, then laid anew if it must -/
theorem lay_tail {g : Bool → Sem Unit} (hg : ∀ (b : Bool) (s1 : Shared) (Q' : Unit → Shared → Prop), Q' () s1 → wpAny (model P w) A (g b) Q' E s1) {o : Obj} {es0 : Array (Int × Value)} {ep : Nat} {t0 : SetTable} (ho : s.heap.get? a = some o) (hx : o.ExactSet) (hd : o.data = .set es0 ep t0)
    (T : Tab w es t L) {wd : Bool} {R : Option Bool → Shared → Prop} (hR : ∀ h', Heap.SameBut a s.heap h' → SetT w h' a L → R (some true) { s with heap := h' }) :
    wpAny (model P w) A (storeSet a es t >>= fun _ => if (!wd && t.tooFull) = true then (g (relayAll t es (SetTable.grown es.size)).2.2 >>= fun _ => storeSet a (relayAll t es (SetTable.grown es.size)).1 (relayAll t es (SetTable.grown es.size)).2.1 >>= fun _ => pure (some true)) else pure (some true)) R E s := by
  have sb := Heap.SameBut.update s.heap a (Obj.putSet es t)
  have at1 := store_at (es' := es) (t' := t) ho hd
  refine wpAny_bind (wpAny_storeSet_of ho hd ?_ (fits_of_scanBound T.few))
  by_cases hc : (!wd && t.tooFull) = true
  · rw [if_pos hc]
    have T2 := T.lay (relayAll_perm t es (SetTable.grown es.size)) (relayAll_fits t es (SetTable.grown es.size)) (relayAll_ris t es (SetTable.grown es.size)) (relayAll_led t es (SetTable.grown es.size))
    refine wpAny_bind (hg _ _ _ (wpAny_bind (wpAny_storeSet_of at1 rfl ?_ (fits_of_scanBound T2.few))))
    exact wpAny_pure (hR _ (sb.trans (Heap.SameBut.update _ a _)) ⟨_, _, _, _, store_at at1 rfl, hx, rfl, T2⟩)
  · rw [if_neg hc]
    exact wpAny_pure (hR _ sb ⟨_, _, _, _, at1, hx, rfl, T⟩)
/-- one text put in -/
def insT (L : List Str) (x : Str) : List Str := if x ∈ L then L else L ++ [x]
theorem add_txt {x : Str} {tk : Tok} {Q : Bool → Shared → Prop} (R : SetT w s.heap a L) (room : L.length + 1 < scanBound) (hQ : ∀ (b : Bool) h', Heap.SameBut a s.heap h' → SetT w h' a (insT L x) → Q b { s with heap := h' }) :
    wpAny (model P w) A (setAddHashed a (.str x tk) (hashStr w x)) Q E s := by
  obtain ⟨o, es, ep, t, ho, hx, hd, T⟩ := R
  have hk : (PySem.strKind P w).is x (.str x tk) = true := strKind_is P w x tk
  unfold setAddHashed setAddHashedIn
  refine wpAny_holding (wpAny_bind (wpAny_setState_of ho hd T.fits ?_))
  dsimp only
  rw [byScan_of (knd := PySem.strKind P w) rfl T.few T.els, if_pos rfl]
  unfold setAddByScan
  refine wpAny_bind (wpAny_bind (wpAny_rule (wpAny_bind ?_)))
  refine wpAny_setScan_of (knd := PySem.strKind P w) hk ho hd T.fits T.els ?_
  cases hf : List.findIdx? (fun e => (PySem.strKind P w).is x e.2) es.toList with
  | some j =>
    obtain ⟨hj, pj, _⟩ := List.findIdx?_eq_some_iff_getElem.mp hf
    have hm : x ∈ L := (T.has (P := P) x).mpr ⟨_, List.getElem_mem hj, pj⟩
    have q := hQ false s.heap (Heap.SameBut.refl a s.heap) (by unfold insT; rw [if_pos hm]; exact ⟨o, es, ep, t, ho, hx, hd, T⟩)
    exact wpAny_pure (wpAny_pure q)
  | none =>
    have hm : x ∉ L := fun z => by
      obtain ⟨e, he, q⟩ := (T.has (P := P) x).mp z
      have c := List.findIdx?_eq_none_iff.mp hf e he
      rw [q] at c
      cases c
    have p := layNew_perm t es (hashStr w x) (.str x tk)
    rw [Array.toList_push] at p
    have T1 : Tab w (layNew t es (hashStr w x) (.str x tk)).1 (layNew t es (hashStr w x) (.str x tk)).2.1 (L ++ [x]) := by
      refine ⟨fun e he => ?_, ?_, ?_, ?_, layNew_fits _ _ _ _, layNew_ris _ _ _ _ T.ris, ?_⟩
      · rcases List.mem_append.mp (p.mem_iff.mp he) with z | z
        · exact T.good e z
        · exact ⟨x, tk, by rw [List.mem_singleton.mp z], by rw [List.mem_singleton.mp z]⟩
      · refine (p.map txtE).trans ?_
        rw [List.map_append]
        exact T.keys.append (.refl _)
      · exact List.nodup_append.mpr ⟨T.nd, by simp, fun a ha b hb => by
          rw [List.mem_singleton.mp hb]
          exact fun e => hm (e ▸ ha)⟩
      · have z := T.keys.length_eq
        rw [List.length_map] at z
        rw [← Array.length_toList, p.length_eq, List.length_append, z]
        exact room
      · rw [layNew_led]
        exact T.led
    have fin : ∀ h', Heap.SameBut a s.heap h' → SetT w h' a (L ++ [x]) → Q true { s with heap := h' } := fun h' sb r => hQ true h' sb (by unfold insT; rw [if_neg hm]; exact r)
    generalize layNew t es (hashStr w x) (.str x tk) = Z at T1 ⊢
    obtain ⟨es1, t1, wd, gv⟩ := Z
    dsimp only at T1 ⊢
    have off : ∀ b : Bool, Tab w es1 (if b = true then t1 else { t1 with plain := false }) (L ++ [x]) := fun b => by
      cases b
      · exact ⟨T1.good, T1.keys, T1.nd, T1.few, SetTable.fits_plain_off T1.fits, T1.ris, T1.led⟩
      · exact T1
    refine wpAny_bind ?_
    have gv0 : ∀ (s1 : Shared) (Q' : Unit → Shared → Prop), Q' () s1 → wpAny (model P w) A (match gv with | true => rule "set.scan.the-table-gave-way" | false => pure ()) Q' E s1 := fun s1 Q' q => by cases gv <;> first | exact wpAny_pure q | exact wpAny_rule q
    refine gv0 _ _ ?_
    by_cases hp : t1.plain = true
    · rw [if_pos hp]
      refine wpAny_bind ?_
      rw [hashByValue_scannable 8 (x := .str x tk) rfl]
      refine wpAny_pure (lay_tail ?_ ho hx hd (off _) ?_)
      · intro b s1 Q' q
        cases b <;> first | exact wpAny_pure q | exact wpAny_rule q
      · intro h' sb r
        exact wpAny_pure (fin h' sb r)
    · rw [if_neg hp]
      refine wpAny_bind (wpAny_pure (lay_tail ?_ ho hx hd (off _) ?_))
      · intro b s1 Q' q
        cases b <;> first | exact wpAny_pure q | exact wpAny_rule q
      · intro h' sb r
        exact wpAny_pure (fin h' sb r)
/-- the texts of a list, each once, in the order met -/
def onceT (xs : List Str) : List Str := xs.foldl insT []
theorem onceT_snoc (xs : List Str) (x : Str) : onceT (xs ++ [x]) = insT (onceT xs) x := by
  unfold onceT
  rw [List.foldl_append]
  rfl
theorem insT_len (L : List Str) (x : Str) : (insT L x).length ≤ L.length + 1 := by
  unfold insT
  split
  · omega
  · simp
theorem foldT_len : ∀ (xs L : List Str), (xs.foldl insT L).length ≤ L.length + xs.length
  | [], L => by simp
  | x :: r, L => by
    have a := foldT_len r (insT L x)
    have b := insT_len L x
    simp only [List.foldl_cons, List.length_cons]
    omega
theorem SetT.at (R : SetT w h a L) (k : ∀ o, h.get? a = some o → h'.get? a = some o) : SetT w h' a L := by
  obtain ⟨o, es, ep, t, ho, r⟩ := R
  exact ⟨o, es, ep, t, k o ho, r⟩
end
section
variable {P : Program} {w : World} {A : Around} {R : Result → Shared → Prop} {I : Addr} {fp wr : List Addr} {G : Array GenState → Array GenState → Prop} {n : Nat} {Pv : Nat → Value → Prop} {St : Nat → Shared → Prop}
/-- the turns of set(xs) -/
theorem turnsT (W : WalksS P w A.in1 I fp wr G n Pv St) (S : Addr) (off : S ∉ fp) {xs : List Str} (hn : xs.length = n) (few : n + 1 < scanBound) (val : ∀ i v, Pv i v → ∃ t, v = .str (xs.getD i Str.empty) t) :
    ∀ (k i : Nat), i + k = n → ∀ s : Shared, St i s → SetT w s.heap S (onceT (xs.take i)) → (∀ s', Moved (S :: wr) G s s' → SetT w s'.heap S (onceT xs) → R (.ok (.ret .none)) s') →
      codeAny (model P w) A (.builtin "set.update.loop" ⟨[.ref S, .ref I], []⟩) R s := by
  have sw : S ∉ wr := fun h => off (W.sub _ h)
  have inc : ∀ b ∈ wr, b ∈ S :: wr := fun b hb => .tail _ hb
  intro k
  induction k with
  | zero =>
    intro i e s st hS fin
    rw [show i = n by omega] at st hS
    refine codeAny_builtin PyProof.Rows.F.entry_set_update_loop ?_
    rw [Around.under_plainId PyProof.Rows.F.plain_set_update_loop _]
    refine wpAny_bind (m := pyNext (.ref I)) (W.done s _ _ st fun s' mv => ?_)
    rw [List.take_of_length_le (by omega)] at hS
    exact wpAny_pure (fin s' (mv.mono inc) (hS.at fun o q => mv.heap S o sw q))
  | succ k ih =>
    intro i e s st hS fin
    refine codeAny_builtin PyProof.Rows.F.entry_set_update_loop ?_
    rw [Around.under_plainId PyProof.Rows.F.plain_set_update_loop _]
    refine wpAny_bind (m := pyNext (.ref I)) (W.item i s _ _ (by omega) st fun v s' pv st' mv => ?_)
    obtain ⟨t, rfl⟩ := val i v pv
    have hS1 := hS.at (h' := s'.heap) fun o q => mv.heap S o sw q
    refine wpAny_bind (m := holding [Value.str (xs.getD i Str.empty) t] (setAdd S (.str (xs.getD i Str.empty) t))) (wpAny_holding ?_)
    unfold setAdd
    refine wpAny_holding (wpAny_bind ((PySem.strKind P w).pyHash (k := xs.getD i Str.empty) (strKind_is _ _ _ _) ?_))
    have room : (onceT (xs.take i)).length + 1 < scanBound := by
      have z := foldT_len (xs.take i) []
      rw [List.length_take, List.length_nil] at z
      unfold onceT
      omega
    refine add_txt (s := { s' with toks := s'.toks + 1 }) hS1 room fun b h2 sb hS2 => ?_
    have e1 : xs.take (i + 1) = xs.take i ++ [xs.getD i Str.empty] := by
      have hi : i < xs.length := by omega
      rw [List.take_succ, List.getElem?_eq_getElem hi, List.getD_eq_getElem?_getD, List.getElem?_eq_getElem hi]
      rfl
    rw [← onceT_snoc, ← e1] at hS2
    have keep : ∀ b o, b ≠ S → s'.heap.get? b = some o → h2.get? b = some o := fun b o ne q => (sb.2 b ne).trans q
    refine wpAny_pure ⟨plainId_quiet PyProof.Rows.F.plain_set_update_loop _, ih (i + 1) (by omega) _ (W.frame _ s' _ _ st' (Nat.le_succ _) fun b hb o q => keep b o (fun z => off (z ▸ hb)) q) hS2 fun s3 mv3 hS3 => ?_⟩
    exact fin s3 (Moved.trans W.gtrans ((mv.mono inc).then_heap (Nat.le_succ _) fun b o hb q => keep b o (fun z => hb (z ▸ .head _)) q) mv3) hS3
end
section
variable {P : Program} {w : World} {A : Around} {E : Value → Shared → Prop} {s : Shared}
/-- a new set object -/
abbrev freshT (w : World) : Obj := { cls := .type "set", dict := none, data := .set #[] 0 (.fresh 0 0 (!w.params.followText "set-order")) }
theorem newT (a : Value) {Q1 : Value → Shared → Prop} (h : Q1 (.ref s.heap.objs.size) { s with heap := s.heap.push (freshT w) }) : codeAny (model P w) A (.call (.builtin "set.__new__") ⟨[.type "set", a], []⟩) (wants Q1 E) s := by
  refine codeAny_of_tree (wpAny_bind (m := checkBuiltinCall "set.__new__" ⟨[.type "set", a], []⟩) (wpAny_of_eq (PySem.F.newCall_set_1 a) (wpAny_pure ⟨plainId_quiet PySem.F.plain_set_new _, codeAny_builtin PySem.F.entry_set_new ?_⟩)))
  rw [Around.under_plainId PySem.F.plain_set_new _]
  unfold Builtin.«set.__new__» Builtin.Frozenset.newClass
  have hs := sub_set_self
  obtain ⟨hp, g, d, tk, os⟩ := s
  wp_walk
  refine wpAny_askSetting (wpAny_pure ?_)
  simp only [newObj]
  exact wpAny_bind (wpAny_alloc (wpAny_pure (wpAny_pure h)))
theorem freshT_ok (h : Heap) (w : World) : SetT w (h.push (freshT w)) h.objs.size [] :=
  ⟨_, #[], 0, _, Heap.get?_push_size _ rfl, ⟨rfl, rfl, rfl⟩, rfl, fun e he => by simp at he, by simp, by simp, by decide, by rfl, List.Pairwise.nil, by
    show _ ∨ (!w.params.followText "set-order") = true
    cases w.params.followText "set-order"
    · exact .inr rfl
    · exact .inl rfl⟩
/-- a new set's __init__ with a list of texts -/
theorem initT {S l : Addr} {items : Array Value} {xs : List Str} {R : Result → Shared → Prop} (hh : A.handled = none) (hS : s.heap.get? S = some (freshT w)) (nS : s.heap.objs.size = S + 1) (hl : s.heap.IsList l items) (ne : l < S) (hi : StrsAre items.toList xs) (few : xs.length + 1 < scanBound)
    (h : ∀ (h' : Heap) (tk : Nat), SetT w h' S (onceT xs) → (∀ b o, b < S → s.heap.get? b = some o → h'.get? b = some o) → R (.ok (.ret .none)) { s with heap := h', toks := tk }) : codeAny (model P w) A (.call (.builtin "set.__init__") ⟨[.ref S, .ref l], []⟩) R s := by
  have hT : s.TypeIs (.ref S) "set" := ⟨_, hS, rfl⟩
  refine codeAny_call_builtin PySem.F.called_set.init.plain PySem.F.entry_set_init (check_set_init_1 hT ?_)
  obtain ⟨⟨c1, d1, dt, sl⟩, hol, hcl, nl, hdl⟩ := id hl
  simp only at hcl hdl
  subst hcl
  subst hdl
  have n1 := PySem.F.sub_list_set
  have n2 := PySem.F.sub_list_frozenset
  have n3 : (Value.type "list" == Value.type "dict") = false := by decide
  unfold Builtin.«set.__init__» noKeywords Builtin.Frozenset.updateFrom
  generalize hPI : pyIter = PI
  wp_walk
  subst hPI
  refine wpAny_pyIter_list hl (wpAny_bind (wpAny_runValue ?_))
  have lI : l ≠ s.heap.objs.size := Nat.ne_of_lt (by rw [nS]; exact Nat.lt_succ_of_lt ne)
  have oS : S ∉ [s.heap.objs.size, l] := by
    simp only [List.mem_cons, List.not_mem_nil, or_false, not_or]
    exact ⟨Nat.ne_of_lt (by rw [nS]; exact Nat.lt_succ_self _), Nat.ne_of_gt ne⟩
  have len : xs.length = items.size := by rw [← StrsAre.len_eq hi, Array.length_toList]
  have h3 : A.in1.in1.handled = none := by simp [hh]
  have seen : ∀ (i : Nat) (v : Value), items[i]? = some v → ∃ t, v = .str (xs.getD i Str.empty) t := fun i v q => SS.strs_at hi i v (by rw [Array.getElem?_toList]; exact q)
  have z0 : SetT w (s.heap.push { cls := .type "list_iterator", data := .fields #[.ref l, .int 0 0] }) S (onceT (xs.take 0)) := by
    refine SetT.at (h := s.heap) ?_ fun o q => Heap.get?_push_of_some _ q
    exact ⟨_, #[], 0, _, hS, ⟨rfl, rfl, rfl⟩, rfl, fun e he => by simp at he, by simp [onceT], by simp [onceT], by decide, by rfl, List.Pairwise.nil, by
      show _ ∨ (!w.params.followText "set-order") = true
      cases w.params.followText "set-order"
      · exact .inr rfl
      · exact .inl rfl⟩
  refine turnsT ((Walks.list h3 _ l lI items).toS) S oS len (by omega) seen items.size 0 (Nat.zero_add _) { s with heap := s.heap.push { cls := .type "list_iterator", data := .fields #[.ref l, .int 0 0] } } ⟨⟨_, Heap.get?_push_size _ rfl, rfl, rfl⟩, hl.push _⟩ z0 fun s2 mv z => ?_
  obtain ⟨h2, g2, d2, t2, o2⟩ := s2
  obtain rfl : g2 = s.gens := mv.gens
  obtain rfl : d2 = s.drawn := mv.drawn
  obtain rfl : o2 = s.os := mv.os
  refine wpAny_pure (wpAny_pure (h h2 t2 z fun b o hb q => ?_))
  refine mv.heap b o ?_ (Heap.get?_push_of_some _ q)
  simp only [List.mem_cons, List.not_mem_nil, or_false, not_or]
  exact ⟨Nat.ne_of_lt hb, Nat.ne_of_lt (by rw [nS]; exact Nat.lt_succ_of_lt hb)⟩
/-- set(l), l a list of texts -/
theorem set_of_list {l : Addr} {items : Array Value} {xs : List Str} {Q : Value → Shared → Prop} (hh : A.handled = none) (hl : s.heap.IsList l items) (hi : StrsAre items.toList xs) (few : xs.length + 1 < scanBound)
    (h : ∀ (h' : Heap) (tk : Nat), SetT w h' s.heap.objs.size (onceT xs) → (∀ b o, b < s.heap.objs.size → s.heap.get? b = some o → h'.get? b = some o) → Q (.ref s.heap.objs.size) { s with heap := h', toks := tk }) :
    wpAny (model P w) A (call (.type "set") [.ref l]) Q E s := by
  have ct := PySem.F.called_set
  obtain ⟨c0, tl0, mro0⟩ := ct.mro
  have made0 := ct.made
  have sub0 := ct.sub
  refine wpAny_call (codeAny_of_tree (wpAny_pure (M := model P w) ⟨Code.quiet_builtin _ (by decide +kernel), codeAny_builtin PySem.F.entry_type_call ?_⟩))
  rw [Around.under_plain (weight_type_call_type "set" [.ref l] []) rfl]
  have nt0 := ct.notType
  have cc0 := ct.canCreate
  have tc0 := PySem.F.typeCall_set_1 (.ref l)
  repeat (any_goals (first | (assumption) | (wp_step)))
  refine codeAny_mono (newT (w := w) (.ref l) (E := E) (Q1 := fun v s1 => v = .ref s.heap.objs.size ∧ s1 = { s with heap := s.heap.push (freshT w) }) ⟨rfl, rfl⟩) fun r s1 hr => ?_
  rcases r with e | (_ | _ | _ | v)
  · exact hr
  all_goals try exact (show False from hr).elim
  obtain ⟨rfl, rfl⟩ := (show _ ∧ _ from hr)
  have hS : (s.heap.push (freshT w)).get? s.heap.objs.size = some (freshT w) := Heap.get?_push_size _ rfl
  have hT : Shared.TypeIs { s with heap := s.heap.push (freshT w) } (.ref s.heap.objs.size) "set" := ⟨_, hS, rfl⟩
  have li0 := ct.init.lookup
  have bi0 := ct.init.bind (.ref s.heap.objs.size)
  repeat (any_goals (first | (assumption) | (wp_step)))
  have lt : l < s.heap.objs.size := by
    obtain ⟨o, ho, _⟩ := hl
    exact Heap.lt_size ho
  refine initT (w := w) (A := A.in1) hh hS (Heap.size_push _ _) (hl.push _) lt hi few fun h' tk z kp => ?_
  repeat (any_goals (first | (assumption) | (wp_step)))
  exact h h' tk z fun b o hb q => kp b o hb (Heap.get?_push_of_some _ q)
end
end TLX
set_option Elab.async false
set_option linter.all false
set_option maxRecDepth 100000
set_option maxHeartbeats 4000000
/-! The tree layer, part 26: sorted(set(xs)) of texts. -/
namespace TLX
open PySem PySem.Spec PyProof.Rows L2
section
variable {P : Program} {w : World} {A : Around} {E : Value → Shared → Prop} {s : Shared} {a : Addr} {L : List Str}
theorem strs_of : ∀ {vs : List Value} {es : List (Int × Value)}, vs = es.map (·.2) → (∀ e ∈ es, ∃ x tk, e.2 = Value.str x tk ∧ e.1 = hashStr w x) → StrsAre vs (es.map txtE)
  | _, [], rfl, _ => .nil
  | _, e :: r, rfl, g => by
    obtain ⟨x, tk, h1, _⟩ := g e (.head _)
    have ht : txtE e = x := by unfold txtE; rw [h1]
    rw [List.map_cons, List.map_cons, h1, ht]
    exact .cons x tk (strs_of rfl fun e' he => g e' (.tail _ he))
theorem perm_map_inv {α β : Type} (f : α → β) {l : List β} : ∀ {m : List α}, l.Perm (m.map f) → ∃ m' : List α, m'.Perm m ∧ l = m'.map f := by
  intro m p
  generalize hb : m.map f = b at p
  induction p generalizing m with
  | nil =>
    cases m with
    | nil => exact ⟨[], .refl _, rfl⟩
    | cons _ _ => cases hb
  | cons x _ ih =>
    cases m with
    | nil => cases hb
    | cons y m =>
      rw [List.map_cons] at hb
      injection hb with h1 h2
      obtain ⟨m', p', e⟩ := ih h2
      exact ⟨y :: m', p'.cons y, by rw [List.map_cons, h1, e]⟩
  | swap x y l =>
    match m, hb with
    | u :: v :: m, hb =>
      simp only [List.map_cons, List.cons.injEq] at hb
      obtain ⟨h1, h2, h3⟩ := hb
      exact ⟨v :: u :: m, .swap _ _ _, by simp [h1, h2, h3]⟩
  | trans _ _ ih1 ih2 =>
    obtain ⟨m1, p1, e1⟩ := ih2 hb
    obtain ⟨m2, p2, e2⟩ := ih1 e1.symm
    exact ⟨m2, p2.trans p1, e2⟩
/-- sorted(S), S a set of texts -/
theorem sorted_of_set {Q : Value → Shared → Prop} (R : SetT w s.heap a L) (hh : A.handled = none)
    (hQ : ∀ s' p (out : Array Value) (c : Nat) (ys : List Str), (∀ b o, s.heap.get? b = some o → s'.heap.get? b = some o) → s'.gens = s.gens → s'.os = s.os → s.heap.objs.size ≤ p → s'.heap.get? p = some (seqObj "list" out c) → StrsAre out.toList ys → ys.Perm L → sortedS ys = true → Q (.ref p) s') :
    wpAny (model P w) A (call (.builtin "sorted") [.ref a]) Q E s := by
  obtain ⟨o, es, ep, t, ho, hx, hd, T⟩ := R
  refine Calls.call_function_entry kind_sorted plain_sorted entry_sorted (args_sorted1 _) ?_
  unfold Builtin.«sorted»
  refine wpAny_bind (m := checkCount "sorted" 1 1 _) (wpAny_pure (wpAny_bind ?_))
  refine collect_set (A := A.in1) hh ⟨o, ho, hx.1, hd⟩ T.fits T.few T.ris T.led fun s1 vs k1 z1 g1 o1 pm => ?_
  obtain ⟨es', pe, ev⟩ := perm_map_inv (fun x : Int × Value => x.2) pm
  have hS : StrsAre vs (es'.map txtE) := strs_of ev fun e he => T.good e (pe.mem_iff.mp he)
  have hp : (es'.map txtE).Perm L := (pe.map txtE).trans T.keys
  have hz : vs.length ≤ sizeLine := by
    rw [ev, List.length_map, pe.length_eq, Array.length_toList]
    exact fits_of_scanBound T.few
  refine wpAny_bind (wpAny_newList ?_ hz)
  have at1 : (s1.heap.push (seqObj "list" vs.toArray 0)).get? s1.heap.objs.size = some (seqObj "list" vs.toArray 0) := Heap.get?_push_size _ rfl
  refine wpAny_bind (wpAny_holding (wpAny_call_entry slot_list_sort ⟨_, at1, rfl⟩ entry_list_sort (list_sort_treeKAny strKind_oneLt at1 hS.keysOf (fun v1 v2 rest e => keyKind_strs (by rw [← e]; exact hS)) hz fun st p1 p2 => ⟨_, rfl, ?_⟩) (args_list_sort _)))
  obtain ⟨ys, y1, y2, y3⟩ := sorted_out_str hS p1 p2
  obtain ⟨c, hc⟩ := sortedHeap_at (vs := vs) (out := (arrOf st).map (·.2)) at1
  refine wpAny_pure ⟨_, rfl, hQ _ s1.heap.objs.size _ c ys (fun b u q => ?_) g1 o1 z1 hc y1 (y2.trans hp) y3⟩
  have q1 := k1 b u q
  have lt := Heap.lt_size q1
  refine (sortedHeap_old (Nat.ne_of_lt lt) (by rw [size_push']; exact Nat.lt_succ_of_lt lt)).trans ?_
  exact Heap.get?_push_of_some _ q1
end

/-! ### in the layer -/
def SetO' (w : World) (a : Addr) (L : List Str) : HO := .ext fun h => SetT w h a L
section
variable {X : Cx}
def rSetL (K : PySem.W.Frag) (w : World) : List V → Hp → VK → Prop := fun vs H Q => ∃ (a : Addr) (xs : List Str), vs = [V.ref a] ∧ SqL K H a (xs.map V.str) ∧ xs.length + 1 < scanBound ∧ ∀ p, H p = none → Q (.ref p) (upd H p (SetO' w p (onceT xs)))
theorem cr_setL (hc : X.calm = true) : CallR X (.type "set") (rSetL X.K X.w) := by
  intro pins s σ H vs us Q I r h
  obtain ⟨a, xs, rfl, hs, few, q⟩ := h
  obtain ⟨its, rv, hl, _⟩ := I.list hs
  rw [Vals.ref1 r]
  refine set_of_list (I.ok.hd hc) hl.isList rv.strs few fun h' tk z kp => ?_
  have k2 : ∀ b o, s.heap.get? b = some o → h'.get? b = some o := fun b o e => kp b o (Heap.lt_size e) e
  have ok : ObjOk X.prog X.w (upd H s.heap.objs.size (SetO' X.w s.heap.objs.size (onceT xs))) h' s.heap.objs.size (SetO' X.w s.heap.objs.size (onceT xs)) := by
    obtain ⟨o, es, ep, t, ho, _⟩ := id z
    exact ⟨z, ⟨o, ho⟩, fun h1 h2 p k => SetT.at p k⟩
  exact ⟨.ref _, upd H s.heap.objs.size (SetO' X.w s.heap.objs.size (onceT xs)), I.laid (t' := tk) k2 (Nat.le_refl _) ok, rfl, q _ (I.hok.fresh (Nat.le_refl _))⟩
def rSortSet (w : World) : List V → Hp → VK → Prop := fun vs H Q => ∃ (a : Addr) (L : List Str), vs = [V.ref a] ∧ H a = some (SetO' w a L) ∧ L.length ≤ sizeLine ∧
  ∀ (ys : List Str) (p : Addr), ys.Perm L → sortedS ys = true → H p = none → Q (.ref p) (upd H p (.lst (ys.map V.str)))
theorem cr_sortSet (hc : X.calm = true) : CallR X (.builtin "sorted") (rSortSet X.w) := by
  intro pins s σ H vs us Q I r h
  obtain ⟨a, L, rfl, ha, hz, q⟩ := h
  have R : SetT X.w s.heap a L := (I.hok a _ ha).1
  rw [Vals.ref1 r]
  refine sorted_of_set R (I.ok.hd hc) fun s' p out c ys k g o hp hg hi pm hs => ?_
  have len : (ys.map V.str).length ≤ sizeLine := by rw [List.length_map, pm.length_eq]; exact hz
  have fr : H p = none := I.hok.fresh hp
  obtain ⟨h2, g2, d2, t2, o2⟩ := s'
  obtain rfl : o2 = s.os := o
  exact ⟨.ref p, upd H p (.lst (ys.map V.str)), I.call (ch := []) (Un.laid k hp fr) (I.hok.laid k hp ⟨len, out.toList, c, vals_of_strs hi, hg⟩) (by rw [show g2 = s.gens from g]; exact I.bare) (fun _ z => nomatch z), rfl, q ys p pm hs fr⟩
end
/-! ### the sorted texts as a function -/
def insS (x : Str) : List Str → List Str
  | [] => [x]
  | y :: r => if y.cps.toList < x.cps.toList then y :: insS x r else x :: y :: r
def sortT : List Str → List Str
  | [] => []
  | x :: r => insS x (sortT r)
def LeS (x y : Str) : Prop := ¬ y.cps.toList < x.cps.toList
theorem LeS.trans {x y z : Str} (a : LeS x y) (b : LeS y z) : LeS x z := List.not_lt.mpr (List.le_trans (List.not_lt.mp a) (List.not_lt.mp b))
theorem LeS.anti {x y : Str} (a : LeS x y) (b : LeS y x) : x = y := by
  have e := List.le_antisymm (List.not_lt.mp a) (List.not_lt.mp b)
  cases x
  cases y
  simp only [Str.mk.injEq]
  exact Array.toList_inj.mp e
theorem insS_perm (x : Str) : ∀ l, (insS x l).Perm (x :: l)
  | [] => .refl _
  | y :: r => by
    unfold insS
    split
    · exact ((insS_perm x r).cons y).trans (.swap _ _ _)
    · exact .refl _
theorem sortT_perm : ∀ l, (sortT l).Perm l
  | [] => .refl _
  | x :: r => (insS_perm x _).trans ((sortT_perm r).cons x)
theorem insS_pw (x : Str) : ∀ {l : List Str}, l.Pairwise LeS → (insS x l).Pairwise LeS
  | [], _ => by simp [insS]
  | y :: r, h => by
    obtain ⟨h1, h2⟩ := List.pairwise_cons.mp h
    unfold insS
    split
    · rename_i hlt
      refine List.pairwise_cons.mpr ⟨fun z hz => ?_, insS_pw x h2⟩
      rcases List.mem_cons.mp ((insS_perm x r).mem_iff.mp hz) with e | e
      · rw [e]
        exact fun q => List.lt_irrefl _ (List.lt_trans hlt q)
      · exact h1 z e
    · rename_i hle
      refine List.pairwise_cons.mpr ⟨fun z hz => ?_, h⟩
      rcases List.mem_cons.mp hz with e | e
      · rw [e]
        exact hle
      · exact LeS.trans hle (h1 z e)
theorem sortT_pw : ∀ l, (sortT l).Pairwise LeS
  | [] => .nil
  | x :: r => insS_pw x (sortT_pw r)
theorem pw_uniq : ∀ {l m : List Str}, l.Perm m → l.Pairwise LeS → m.Pairwise LeS → l = m
  | [], m, p, _, _ => p.symm.eq_nil.symm ▸ rfl
  | x :: l, [], p, _, _ => by cases p.eq_nil
  | x :: l, y :: m, p, h1, h2 => by
    obtain ⟨a1, a2⟩ := List.pairwise_cons.mp h1
    obtain ⟨b1, b2⟩ := List.pairwise_cons.mp h2
    have e : x = y := by
      rcases List.mem_cons.mp (p.mem_iff.mp (.head _)) with q | q
      · exact q
      · rcases List.mem_cons.mp (p.mem_iff.mpr (.head _)) with q2 | q2
        · exact q2.symm
        · exact LeS.anti (a1 y q2) (b1 x q)
    subst e
    rw [pw_uniq (List.Perm.cons_inv p) a2 b2]
theorem rising_pw : ∀ (p : Str) (l : List Str), risingS p l = true → (p :: l).Pairwise LeS
  | p, [], _ => by simp
  | p, x :: r, h => by
    unfold risingS at h
    obtain ⟨h1, h2⟩ := Bool.and_eq_true_iff.mp h
    have le : LeS p x := by
      unfold LeS
      rw [ltCps_eq, Bool.not_eq_true', decide_eq_false_iff_not] at h1
      exact h1
    have ih := rising_pw x r h2
    refine List.pairwise_cons.mpr ⟨fun z hz => ?_, ih⟩
    rcases List.mem_cons.mp hz with e | e
    · rw [e]
      exact le
    · exact le.trans ((List.pairwise_cons.mp ih).1 z e)
theorem sorted_eq {ys L : List Str} (p : ys.Perm L) (h : sortedS ys = true) : ys = sortT L := by
  refine pw_uniq (p.trans (sortT_perm L).symm) ?_ (sortT_pw L)
  cases ys with
  | nil => exact .nil
  | cons x r => exact rising_pw x r h
end TLX
set_option Elab.async false
set_option linter.all false
set_option maxRecDepth 100000
set_option maxHeartbeats 4000000
/-! The tree layer, part 27: sorted(set(xs)) of texts as an expression; dicts that change; lists' methods. -/
namespace TL
open PySem PySem.Spec PyProof.Rows L2 TLX

def sortSetD (own : Bool) (ds : List D) (S : List O) : Out D := match ds with
  | [d] => (match (lstOf S d).bind strsOf with
    | some xs => if xs.length + 1 < scanBound then mkL own ((sortT (onceT xs)).map D.str) S else .stuck
    | none => .stuck)
  | _ => .stuck
section
variable {z : Sg} {e : Expr} {p p2 pos pos2 : Pos} {ta : TAx}
theorem SetO'.keep {K : PySem.W.Frag} {g : G} {S : List O} {H : Hp} {q : Addr} {o : HO} (s : SR K g S H) (hq : H q = none) : SR K g S (upd H q o) ∧ Ext g H g (upd H q o) := ⟨s.same (same_new hq), Ext.same (same_new hq)⟩
theorem de_sortSet (own : Bool) (hm : z.mg "sorted" = none) (hm2 : z.mg "set" = none) (ha : DA z [e] ta) (hg : Gz z "sorted" := by rfl) (hg2 : Gz z "set" := by rfl) (hs : ∀ env, starEach [e] env = (false, eval e env) :: starEach [] env := by intro _; rfl) :
    DE z (.Call (.Name "sorted" p) [.Call (.Name "set" p2) [e] [] pos2] [] pos) (eArgs (sortSetD own) ta) := by
  obtain ⟨τ, h1, q1⟩ := ha
  refine ⟨_, fun X fx => fx.K ▸ fx.w ▸ pe_callB (cr_sortSet (fx.calm)) (fx.gl hg) (fx.mgl hm) (by decide +kernel) (pa_cons (pe_callTy (cr_setL fx.calm) (fx.gl hg2) (fx.mgl hm2) (by decide +kernel) (h1 X fx) (by decide) (by decide) (hs _) rfl) pa_nil rfl) (by decide) (by decide) rfl rfl, fun g S ρ σ H Q s rs p => ?_⟩
  refine q1 g S ρ σ H _ s rs (p.bind fun xs S1 g1 H1 vs e1 s1 r1 p1 => ?_)
  unfold sortSetD at p1
  split at p1
  · rename_i d
    split at p1
    · rename_i xs q
      split at p1
      · rename_i few
        obtain ⟨v, rfl, rr⟩ := rvs1 r1
        obtain ⟨ds, h2, h3⟩ := Option.bind_eq_some_iff.mp q
        obtain ⟨a, ws, rfl, h4, h5⟩ := lst_at s1 h2 rr
        rw [strs_vals h3 h5] at h4
        refine ⟨a, xs, rfl, h4, few, fun q hq => ⟨q, onceT xs, rfl, upd_same, ?_, fun ys b pm hs hb => ?_⟩⟩
        · have l := foldT_len xs []
          have := fits_of_scanBound few
          unfold onceT
          simp only [List.length_nil] at l
          omega
        · obtain ⟨s2, e2⟩ := SetO'.keep (o := SetO' z.w q (onceT xs)) s1 hq
          rw [sorted_eq pm hs]
          exact mkL_ok s2 (strs_vals2 _) (Post.later e2 s2 p1) b hb
      · exact p1.elim
    · exact p1.elim
  · exact p1.elim
end
end TL
set_option Elab.async false
set_option linter.all false
set_option maxRecDepth 100000
set_option maxHeartbeats 4000000
/-! The tree layer, part 28: walks over a dict, which is locked where the walk starts. -/
namespace TL
open PySem PySem.Spec PyProof.Rows L2

/-- locking where a value is read -/
def tLk (td : TE) : TE := fun σ H Q => td σ H fun x H1 => ∃ d ws, x = .ref d ∧ ((∃ o, H1 d = some (.frz o (.dK ws)) ∧ Q x H1) ∨ (H1 d = some (.dK ws) ∧ ∀ od, Q x (upd H1 d (.frz od (.dK ws)))))
theorem pe_lk {X : Cx} {e : Expr} {td : TE} (he : PE X e td) : PE X e (tLk td) := by
  refine ⟨fun pins s σ H Q I h => ?_⟩
  refine thn (he.run pins s σ H _ I h) fun u s1 ⟨x, H1, I1, rx, d, ws, ex, q⟩ => ?_
  rcases q with ⟨o, _, q⟩ | ⟨hd, q⟩
  · exact ⟨_, H1, I1, rx, q⟩
  · obtain ⟨od, I2⟩ := I1.lock hd trivial
    exact ⟨_, _, I2, rx, q od⟩
section
variable {K : PySem.W.Frag} {g : G} {S : List O} {H : Hp} {a : Addr} {ws : List (Key × V)} {od : Obj}
theorem Wk.lk (h : H a = some (.dK ws)) : Wk g H g (upd H a (.frz od (.dK ws))) := by
  refine ⟨fun b o q n => ?_, fun _ _ _ n => n, fun _ _ h => h⟩
  by_cases e : b = a
  · subst e
    rw [h] at q
    cases q
    exact .inr ⟨ws, od, rfl, upd_same⟩
  · exact .inl (by rw [upd_ne e]; exact q)
theorem Ext.lk (h : H a = some (.dK ws)) (n : ¬ g.bad a) : Ext g H g (upd H a (.frz od (.dK ws))) := by
  refine ⟨fun b o q _ => ?_, fun b o q _ hb => ?_, fun _ _ _ n => n, fun _ h => h, [], by simp, fun _ h => by cases h⟩
  · by_cases e : b = a
    · subst e
      rw [h] at q
      cases q
      exact .inr ⟨ws, od, rfl, upd_same⟩
    · exact .inl (by rw [upd_ne e]; exact q)
  · rw [upd_ne (fun e => n (by rw [← e]; exact hb))]
    exact q
theorem SR.lk (s : SR K g S H) (h : H a = some (.dK ws)) (n : ¬ g.bad a) : SR K g S (upd H a (.frz od (.dK ws))) := by
  have w : Wk g H g (upd H a (.frz od (.dK ws))) := Wk.lk h
  refine ⟨s.len, s.nd, s.live, fun b hb => ?_, fun i b o h1 h2 => ?_⟩
  · obtain ⟨o, q⟩ := s.trk b hb
    exact ⟨o, by rw [upd_ne (fun e => n (by rw [← e]; exact hb))]; exact q⟩
  · have ne : b ≠ a := fun e => n (by rw [← e]; exact s.live b (List.mem_of_getElem? h1))
    have q := s.rep i b o h1 h2
    cases o with
    | lst ds =>
      obtain ⟨xs, e1, e2⟩ := q
      exact ⟨xs, by rw [upd_ne ne]; exact e1, e2.wk w ds xs⟩
    | dct kvs =>
      obtain ⟨xs, e1, e2⟩ := q
      exact ⟨xs, by rw [upd_ne ne]; exact e1, e2.wk w kvs xs⟩
    | ins C fs =>
      obtain ⟨dx, xs, e1, e2⟩ := q
      exact ⟨dx, xs, by rw [upd_ne ne]; exact e1, e2.wk w fs xs⟩
    | tbl q' =>
      obtain ⟨⟨ps, e1, e2, e3⟩, ea⟩ := q
      exact ⟨⟨ps, by rw [upd_ne ne]; exact e1, e2, fun pos cv y => let ⟨c, y1, y2, y3⟩ := e3 pos cv y; ⟨c, y1, by rw [upd_ne (fun z => by rw [z, h] at y2; unfold LamX.CodeO at y2; cases y2)]; exact y2, y3⟩⟩, ea⟩
end
def keyD : Key → D
  | .inl i => .int i
  | .inr x => .str x
theorem keyD_rv {K : PySem.W.Frag} {g : G} {H : Hp} : ∀ k : Key, RV K g H (keyD k) (kV k)
  | .inl i => by simp only [keyD, RV, kV]
  | .inr x => by simp only [keyD, RV, kV]
theorem RKs.at {K : PySem.W.Frag} {g : G} {H : Hp} : ∀ {kvs : List (Key × D)} {ws : List (Key × V)} {i : Nat} {k : Key} {v : V}, RKs K g H kvs ws → ws[i]? = some (k, v) → ∃ d, kvs[i]? = some (k, d) ∧ RV K g H d v
  | [], _, i, k, v, h, e => by
    simp only [RKs] at h
    subst h
    simp at e
  | (j, d) :: r, _, i, k, v, h, e => by
    simp only [RKs] at h
    obtain ⟨w, r', rfl, h1, h2⟩ := h
    cases i with
    | zero =>
      simp at e
      obtain ⟨rfl, rfl⟩ := e
      exact ⟨d, rfl, h1⟩
    | succ i =>
      have e' : r'[i]? = some (k, v) := by simpa using e
      obtain ⟨d', h3, h4⟩ := RKs.at (kvs := r) h2 e'
      exact ⟨d', by simpa using h3, h4⟩
/-- for k in d -/
def iDk (t : TEx) : TIx := fun ρ S => (t ρ S).bind fun d S1 => match d with
  | .dct kvs => .ok (kvs.map fun kv => keyD kv.1) S1
  | _ => .stuck
section
variable {z : Sg} {tg e : Expr} {t : TEx}
theorem itr_keys {K : PySem.W.Frag} {g : G} {H : Hp} {S : List O} {d : Addr} {o : Obj} {kvs : List (Key × D)} {ws : List (Key × V)} (s : SR K g S H) (h : H d = some (.frz o (.dK ws))) (n : ¬ g.bad d) (r : RKs K g H kvs ws) : ItR K g H (kvs.map fun kv => keyD kv.1) (Itk d o ws) := by
  refine ⟨_, _, by rw [List.length_map, ← r.length]; exact walk_keys, fun g' H' e => e.keep _ _ h fun m => n (s.live _ m), fun i H1 x H2 g1 S1 hi e s1 y => ?_⟩
  obtain ⟨rfl, k, v, h1, rfl⟩ := y
  obtain ⟨dd, h2, _⟩ := r.at h1
  exact ⟨fun _ _ q => q, keyD k, by rw [List.getElem?_map, h2]; rfl, keyD_rv k⟩
theorem di_keys (h : DE z e t) : DI z tg e (iDk t) := by
  obtain ⟨τ, h1, q1⟩ := h
  refine ⟨_, fun X f => pi_keys (pe_lk (h1 X f)), fun g S ρ σ H R s rs p => ?_⟩
  refine q1 g S ρ σ H _ s rs (p.bind fun d S1 g1 H1 v e1 s1 r1 p1 => ?_)
  split at p1
  · rename_i kvs
    simp only [RV] at r1
    obtain ⟨a, ws, rfl, h2, n, h3⟩ := r1
    rcases h2 with h2 | ⟨o, h2⟩
    · refine ⟨a, ws, rfl, .inr ⟨h2, fun od => ⟨a, od, rfl, .inl ⟨ws, upd_same, ?_⟩⟩⟩⟩
      have s2 := s1.lk (od := od) h2 n
      exact p1 g1 _ _ (Ext.lk h2 n) s2 (itr_keys s2 upd_same n (h3.wk (Wk.lk h2) _ _))
    · exact ⟨a, ws, rfl, .inl ⟨o, h2, a, o, rfl, .inl ⟨ws, h2, p1.here s1 (itr_keys s1 h2 n h3)⟩⟩⟩
  · exact p1.elim
/-- for a, b in d.items() -/
def iDi (t : TEx) : TIx := fun ρ S => (t ρ S).bind fun d S1 => match d with
  | .dct kvs => .ok (kvs.map fun kv => D.tup [keyD kv.1, kv.2]) S1
  | _ => .stuck
theorem itr_items {K : PySem.W.Frag} {g : G} {H : Hp} {S : List O} {d : Addr} {o : Obj} {kvs : List (Key × D)} {ws : List (Key × V)} (s : SR K g S H) (h : H d = some (.frz o (.dK ws))) (n : ¬ g.bad d) (r : RKs K g H kvs ws) : ItR K g H (kvs.map fun kv => D.tup [keyD kv.1, kv.2]) (Iti d o ws) := by
  refine itr_pair walk_items (by rw [List.length_map, ← r.length]) (fun g' H' e => e.keep _ _ h fun m => n (s.live _ m)) fun i x y g1 H1 h1 h2 e => ?_
  cases q : ws[i]? with
  | none =>
    rw [q] at h1
    cases h1
  | some p =>
    obtain ⟨k, v⟩ := p
    rw [q] at h1 h2
    cases h1
    cases h2
    obtain ⟨dd, h3, h4⟩ := r.at q
    exact ⟨keyD k, dd, by rw [List.getElem?_map, h3]; rfl, keyD_rv k, h4.mono s.live e _ _⟩
theorem di_items {elts : List Expr} {kk : Nat} {tpos apos cpos : Pos} (h : DE z e t) (hb : ∀ env, attributeBase e "items" env (eval e env) = eval e env := by intro _; rfl) (hl : (apos.endLine == cpos.line) = true := by rfl) : DI z (.Tuple elts kk tpos) (.Call (.Attribute e "items" apos) [] [] cpos) (iDi t) := by
  obtain ⟨τ, h1, q1⟩ := h
  refine ⟨_, fun X f => pi_items (pe_lk (h1 X f)) (hb _) hl, fun g S ρ σ H R s rs p => ?_⟩
  refine q1 g S ρ σ H _ s rs (p.bind fun d S1 g1 H1 v e1 s1 r1 p1 => ?_)
  split at p1
  · rename_i kvs
    simp only [RV] at r1
    obtain ⟨a, ws, rfl, h2, n, h3⟩ := r1
    rcases h2 with h2 | ⟨o, h2⟩
    · refine ⟨a, ws, rfl, .inr ⟨h2, fun od => ⟨a, od, ws, rfl, upd_same, ?_⟩⟩⟩
      have s2 := s1.lk (od := od) h2 n
      exact p1 g1 _ _ (Ext.lk h2 n) s2 (itr_items s2 upd_same n (h3.wk (Wk.lk h2) _ _))
    · exact ⟨a, ws, rfl, .inl ⟨o, h2, a, o, ws, rfl, h2, p1.here s1 (itr_items s1 h2 n h3)⟩⟩
  · exact p1.elim
end
end TL
set_option Elab.async false
set_option linter.all false
set_option maxRecDepth 100000
set_option maxHeartbeats 4000000
/-! The tree layer, part 29: k in d, d.get, d[k] = v. -/
namespace TL
open PySem PySem.Spec PyProof.Rows L2
section
variable {z : Sg} {a b c : Expr} {ta tb tc : TEx} {pos : Pos}
theorem din_q {τ τ2 : TE} (q1 : RdE z τ ta) (q2 : RdE z τ2 tb) : RdE z (tDIn τ τ2) (eBin dinD ta tb) := by
  intro g S ρ σ H Q s rs p
  refine q1 g S ρ σ H _ s rs (p.bind fun y S1 g1 H1 v e1 s1 r1 p1 => q2 g1 S1 ρ σ H1 _ s1 (rs.mono s.live e1) (p1.bind fun x S2 g2 H2 u e2 s2 r2 p2 => ?_))
  unfold dinD at p2
  split at p2
  · rename_i kvs k h1 h2
    obtain ⟨l, ws, rfl, h3, h4⟩ := dct_at s2 h1 r2
    have hg := h4.get k
    refine ⟨l, valV ws k, rfl, .inl ⟨ws, k, h3, keyOf_rv h2 (r1.mono s1.live e2 _ _), rfl⟩, p2.here s2 ?_⟩
    have e : (valV ws k).isSome = hasK kvs k := by
      rw [← getK_has]
      cases q : getK kvs k with
      | none =>
        rw [q] at hg
        have hg : valV ws k = none := hg
        rw [hg]
        rfl
      | some d =>
        rw [q] at hg
        obtain ⟨w, h5, _⟩ := hg
        rw [h5]
        rfl
    rw [e]
    simp only [RV]
  · exact p2.elim
theorem de_din (ha : DE z a ta) (hb : DE z b tb) (hm : behindInMarks .In b = false := by rfl) : DE z (.Compare a [.In] [b] pos) (eBin dinD ta tb) := by
  obtain ⟨τ, h1, q1⟩ := ha
  obtain ⟨τ2, h2, q2⟩ := hb
  exact ⟨_, fun X fx => pe_cmp (pc_din (by have := fx.hu; omega) (h1 X fx) (h2 X fx)) hm, din_q q1 q2⟩
/-- d.get(k, x) -/
def dgt2D (x y v : D) (S : List O) : Out D := match dctOf S x, keyOf y with
  | some kvs, some k => .ok ((getK kvs k).getD v) S
  | _, _ => .stuck
def eGet2 (t u v : TEx) : TEx := fun ρ S => (t ρ S).bind fun x S1 => if (dctOf S1 x).isSome then (u ρ S1).bind fun y S2 => (v ρ S2).bind fun w S3 => dgt2D x y w S3 else .stuck
theorem de_get2 {apos cpos : Pos} (hd : DE z a ta) (hk : DE z b tb) (hv : DE z c tc) (m : ∀ X : Cx, M2 X a "get" apos b c cpos) : DE z (.Call (.Attribute a "get" apos) [b, c] [] cpos) (eGet2 ta tb tc) := by
  obtain ⟨τ, h1, q1⟩ := hd
  obtain ⟨τ2, h2, q2⟩ := hk
  obtain ⟨τ3, h3, q3⟩ := hv
  refine ⟨_, fun X fx => pe_dget2 (by have := fx.hu; omega) (h1 X fx) (h2 X fx) (h3 X fx) (m X), fun g S ρ σ H Q s rs p => ?_⟩
  refine q1 g S ρ σ H _ s rs (p.bind fun x S1 g1 H1 v e1 s1 r1 p1 => ?_)
  split at p1
  · rename_i hx
    obtain ⟨kvs0, hx⟩ := Option.isSome_iff_exists.mp hx
    obtain ⟨l, ws0, rfl, h4, _⟩ := dct_at s1 hx r1
    refine ⟨l, rfl, .inl ⟨ws0, h4⟩, q2 g1 S1 ρ σ H1 _ s1 (rs.mono s.live e1) (p1.bind fun y S2 g2 H2 u e2 s2 r2 p2 => q3 g2 S2 ρ σ H2 _ s2 ((rs.mono s.live e1).mono s1.live e2) (p2.bind fun w S3 g3 H3 wv e3 s3 r3 p3 => ?_))⟩
    unfold dgt2D at p3
    split at p3
    · rename_i kvs k h5 h6
      obtain ⟨l', ws, el, h7, h8⟩ := dct_at s3 h5 ((r1.mono s1.live e2 _ _).mono s2.live e3 _ _)
      cases el
      have hg := h8.get k
      refine ⟨valV ws k, .inl ⟨ws, k, h7, keyOf_rv h6 (r2.mono s2.live e3 _ _), rfl⟩, p3.here s3 ?_⟩
      cases q : getK kvs k with
      | none =>
        rw [q] at hg
        have hg : valV ws k = none := hg
        rw [hg]
        exact r3
      | some d =>
        rw [q] at hg
        obtain ⟨w', h9, h10⟩ := hg
        rw [h9]
        exact h10
    · exact p3.elim
  · exact p1.elim
/-- d[k] = v, d a handle -/
def setDk (x y v : D) (S : List O) : Option (List O) := match x, keyOf y with
  | .hnd n, some k => (match S[n]? with
    | some (.dct kvs) => if kvs.length < sizeLine then some (S.set n (.dct (putG kvs k v))) else none
    | _ => none)
  | _, _ => none
def sDput (t u v : TEx) : TSx := fun ρ S => (v ρ S).stm ρ fun w S1 => (t ρ S1).stm ρ fun x S2 => (u ρ S2).stm ρ fun y S3 => match setDk x y w S3 with
  | some S4 => .nx ρ S4
  | none => .stuck
theorem ds_dput {p' : Pos} (hd : DE z a ta) (hk : DE z b tb) (hv : DE z c tc) (hs : ∀ env, swapsWith c (some (.Subscript a b p')) pos.line env = pure false := by intro _; rfl) : DS z (.Assign [.Subscript a b p'] c pos) (sDput ta tb tc) := by
  obtain ⟨τ, h1, q1⟩ := hd
  obtain ⟨τ2, h2, q2⟩ := hk
  obtain ⟨τ3, h3, q3⟩ := hv
  refine ⟨_, fun X fx => ps_dput (by have := fx.hu; omega) (h1 X fx) (h2 X fx) (h3 X fx) (hs _), fun g S ρ σ H T s rs p => ?_⟩
  refine q3 g S ρ σ H _ s rs (p.stm s rs fun w S1 g1 H1 wv e1 s1 rs1 r1 p1 => ?_)
  refine q1 g1 S1 ρ σ H1 _ s1 rs1 (p1.stm s1 rs1 fun x S2 g2 H2 xv e2 s2 rs2 r2 p2 => ?_)
  refine q2 g2 S2 ρ σ H2 _ s2 rs2 (p2.stm s2 rs2 fun y S3 g3 H3 yv e3 s3 rs3 r3 p3 => ?_)
  split at p3
  · rename_i S4 q
    unfold setDk at q
    split at q
    · rename_i n k hy
      split at q
      · rename_i kvs q4
        split at q
        · rename_i hz
          cases q
          have rw' := (r1.mono s1.live e2 _ _).mono s2.live e3 _ _
          have rx := r2.mono s2.live e3 _ _
          simp only [RV] at rx
          obtain ⟨l, rfl, h4⟩ := rx
          obtain ⟨ws, h5, h6⟩ := s3.rep n l _ h4 q4
          have e4 : Ext g3 H3 g3 (upd H3 l (.dK (putK ws k wv))) := Ext.write h4
          refine ⟨l, _, rfl, .inl ⟨ws, k, h5, keyOf_rv hy r3, by rw [h6.length]; exact hz, rfl⟩, ?_⟩
          exact p3 g3 _ σ e4 (s3.write h4 fun e => ⟨_, upd_same, (h6.putG k rw').mono s3.live e _ _⟩) (rs3.mono s3.live e4)
        · cases q
      · cases q
    · cases q
  · exact p3.elim
end
end TL
set_option Elab.async false
set_option linter.all false
set_option maxRecDepth 100000
set_option maxHeartbeats 4000000
/-! The tree layer, part 30: a body's first statements apart. -/
namespace TL
open PySem PySem.Spec PyProof.Rows L2

theorem execs_two (b : List Stmt) (env : Env) : ∀ a : List Stmt, execs (a ++ b) env = (execs a env >>= fun f => match f with
    | .next => execs b env
    | f => pure f)
  | [] => by
    show execs b env = (pure Flow.next >>= _)
    rw [pure_bind]
  | st :: a => by
    rw [List.cons_append, execs_cons, execs_cons, bind_assoc]
    congr 1
    funext f
    cases f with
    | next => exact execs_two b env a
    | _ => rw [pure_bind]
theorem pss_two {X : Cx} {a b : List Stmt} {t u : TS} (ha : PSs X a t) (hb : PSs X b u) : PSs X (a ++ b) (tSeq t u) := by
  refine ⟨fun pins s σ H D I h => ?_⟩
  rw [execs_two]
  refine wpAny_bind (thn (ha.run pins s σ H { D with nx := u D } I h) fun f s1 q => ?_)
  cases f with
  | next =>
    obtain ⟨σ', H', I1, q⟩ := q
    exact hb.run pins s1 σ' H' D I1 q
  | _ => exact wpAny_pure q
/-- the first n statements, then the others -/
theorem dss_two (n : Nat) {z : Sg} {l : List Stmt} {t u : TSx} (h1 : DSs z (l.take n) t) (h2 : DSs z (l.drop n) u) : DSs z l (sSeq t u) := by
  obtain ⟨τ, h1, q1⟩ := h1
  obtain ⟨τ2, h2, q2⟩ := h2
  refine ⟨tSeq τ τ2, fun X fx => by
    have q := pss_two (h1 X fx) (h2 X fx)
    rw [List.take_append_drop] at q
    exact q, fun g S ρ σ H T s rs p => ?_⟩
  exact q1 g S ρ σ H _ s rs (PostS.seq p fun ρ' S' g1 H1 σ1 e s1 rs1 p1 => q2 g1 S' ρ' σ1 H1 _ s1 rs1 p1)
end TL
set_option Elab.async false
set_option linter.all false
set_option maxRecDepth 100000
set_option maxHeartbeats 4000000
/-! The tree layer, part 31: xs.append(y), xs.pop(i), xs.extend(ys), xs a handle. -/
namespace TL
open PySem PySem.Spec PyProof.Rows L2

/-- a method of a list that is a handle, one argument -/
def eLm (f : Nat → List D → D → List O → Out D) (t u : TEx) : TEx := fun ρ S => (t ρ S).bind fun x S1 => match x with
  | .hnd i => (match S1[i]? with
    | some (.lst _) => (u ρ S1).bind fun y S2 => (match S2[i]? with
      | some (.lst ds) => f i ds y S2
      | _ => .stuck)
    | _ => .stuck)
  | _ => .stuck
def appD (i : Nat) (ds : List D) (y : D) (S : List O) : Out D := if ds.length < sizeLine then .ok .non (S.set i (.lst (ds ++ [y]))) else .stuck
def popD (i : Nat) (ds : List D) (y : D) (S : List O) : Out D := match y with
  | .int n => if 0 ≤ n ∧ n < 2 ^ 63 then (match ds[n.toNat]? with
    | some d => .ok d (S.set i (.lst (ds.eraseIdx n.toNat)))
    | none => .stuck) else .stuck
  | _ => .stuck
section
variable {z : Sg} {a b : Expr} {ta tb : TEx} {apos cpos : Pos} {name : Str} {id : String} {r : V → List V → Hp → VK → Prop} {f : Nat → List D → D → List O → Out D}
theorem de_lm (slot : Slot "list" name id) (hty : typeOf (.builtin id) = pure (.type "method_descriptor")) (hm : ∀ X, MtR X id r)
    (ok : ∀ g S H σ Q l i ds y w xs, SR z.K g S H → g.hs[i]? = some l → H l = some (.lst xs) → RVs z.K g H ds xs → RV z.K g H y w → Post z.K z.W (RV z.K) g H σ Q (f i ds y S) → r (.ref l) [w] H Q)
    (ha : DE z a ta) (hb : DE z b tb) (hbase : ∀ env, attributeBase a name env (eval a env) = eval a env := by intro _; rfl)
    (hfew : ∀ env, ((backTo cpos (starEach [b] env)).all (fun x => !x.1) && (backToKw cpos (keywordEach [] env)).all (fun x => x.1.isSome) && decide ([b].length + ([] : List Keyword).length + (if ([] : List Keyword).isEmpty then 0 else 1) < 30)) = true := by intro _; rfl)
    (hline : (apos.endLine == cpos.line) = true := by rfl) (hs : ∀ env, starEach [b] env = (false, eval b env) :: starEach [] env := by intro _; rfl) : DE z (.Call (.Attribute a name apos) [b] [] cpos) (eLm f ta tb) := by
  obtain ⟨τ, h1, q1⟩ := ha
  obtain ⟨τ2, h2, q2⟩ := hb
  refine ⟨_, fun X fx => fx.K ▸ pe_bm PySem.F.plainAttrs_list slot hty (hm X) (h1 X fx) (pa_cons (h2 X fx) pa_nil (hs _)) (hbase _) (hfew _) hline (hs _) rfl, fun g S ρ σ H Q s rs p => ?_⟩
  refine q1 g S ρ σ H _ s rs (p.bind fun x S1 g1 H1 v e1 s1 r1 p1 => ?_)
  split at p1
  · rename_i i
    split at p1
    · rename_i ds0 h0
      have r1' := r1
      simp only [RV] at r1
      obtain ⟨l, rfl, h3⟩ := r1
      obtain ⟨xs0, h4, _⟩ := s1.rep i l _ h3 h0
      refine ⟨.inl ⟨rfl, xs0, .inl (.inl h4)⟩, q2 g1 S1 ρ σ H1 _ s1 (rs.mono s.live e1) (p1.bind fun y S2 g2 H2 w e2 s2 r2 p2 => ?_)⟩
      split at p2
      · rename_i ds h5
        have r3 := r1'.mono s1.live e2 _ _
        simp only [RV] at r3
        obtain ⟨l', el, h6⟩ := r3
        cases el
        obtain ⟨xs, h7, h8⟩ := s2.rep i l _ h6 h5
        exact ok g2 S2 H2 σ Q l i ds y w xs s2 h6 h7 h8 r2 p2
      · exact p2.elim
    · exact p1.elim
  · exact p1.elim
theorem de_append (ha : DE z a ta) (hb : DE z b tb) (hbase : ∀ env, attributeBase a "append" env (eval a env) = eval a env := by intro _; rfl)
    (hfew : ∀ env, ((backTo cpos (starEach [b] env)).all (fun x => !x.1) && (backToKw cpos (keywordEach [] env)).all (fun x => x.1.isSome) && decide ([b].length + ([] : List Keyword).length + (if ([] : List Keyword).isEmpty then 0 else 1) < 30)) = true := by intro _; rfl)
    (hline : (apos.endLine == cpos.line) = true := by rfl) (hs : ∀ env, starEach [b] env = (false, eval b env) :: starEach [] env := by intro _; rfl) : DE z (.Call (.Attribute a "append" apos) [b] [] cpos) (eLm appD ta tb) :=
  de_lm PySem.F.slot_list_append PySem.F.type_list_append (fun X => mt_append) (fun g S H σ Q l i ds y w xs s h1 h2 h3 h4 p => by
    unfold appD at p
    split at p
    · rename_i hz
      refine ⟨l, xs, w, rfl, rfl, h2, by rw [h3.length]; exact hz, ?_⟩
      exact Post.write s h1 p (fun e => ⟨_, upd_same, (h3.snoc h4).mono s.live e _ _⟩) fun e => by simp only [RV]
    · exact p.elim) ha hb hbase hfew hline hs
theorem de_pop1 (ha : DE z a ta) (hb : DE z b tb) (hbase : ∀ env, attributeBase a "pop" env (eval a env) = eval a env := by intro _; rfl)
    (hfew : ∀ env, ((backTo cpos (starEach [b] env)).all (fun x => !x.1) && (backToKw cpos (keywordEach [] env)).all (fun x => x.1.isSome) && decide ([b].length + ([] : List Keyword).length + (if ([] : List Keyword).isEmpty then 0 else 1) < 30)) = true := by intro _; rfl)
    (hline : (apos.endLine == cpos.line) = true := by rfl) (hs : ∀ env, starEach [b] env = (false, eval b env) :: starEach [] env := by intro _; rfl) : DE z (.Call (.Attribute a "pop" apos) [b] [] cpos) (eLm popD ta tb) :=
  de_lm PySem.F.slot_list_pop PySem.F.type_list_pop (fun X => mt_popAt) (fun g S H σ Q l i ds y w xs s h1 h2 h3 h4 p => by
    unfold popD at p
    split at p
    · rename_i n
      split at p
      · rename_i hn
        split at p
        · rename_i d hd
          obtain ⟨v, hv, rv⟩ := h3.get hd
          have hk : n.toNat < xs.length := (List.getElem?_eq_some_iff.mp hv).1
          refine ⟨l, xs, n, n.toNat, v, rfl, by rw [rv_int h4], h2, by omega, hn.2, ?_, hv, ?_⟩
          · unfold seqIndex?
            have h0 : ¬ n < 0 := by omega
            have h5 : n < xs.length := by omega
            simp [h0, h5, hn.1]
          · exact Post.write s h1 p (fun e => ⟨_, upd_same, (h3.eraseIdx n.toNat).mono s.live e _ _⟩) fun e => rv.mono s.live e _ _
        · exact p.elim
      · exact p.elim
    · exact p.elim) ha hb hbase hfew hline hs
end
end TL
set_option Elab.async false
set_option linter.all false
set_option maxRecDepth 100000
set_option maxHeartbeats 4000000
/-! The tree layer, part 32: dict(pairs), list(dict), a sign in a text, isinstance of all kinds. -/
namespace TL
open PySem PySem.Spec PyProof.Rows L2
theorem mkD_ok {K : PySem.W.Frag} {g : G} {S : List O} {H : Hp} {σ : L2.St} {W : WX} {Q : VK} {own : Bool} {kvs : List (Key × D)} {ws : List (Key × V)} (s : SR K g S H) (r : RKs K g H kvs ws) (h : Post K W (RV K) g H σ Q (mkD own kvs S)) (p : Addr) (hp : H p = none) : Q (.ref p) (upd H p (.dK ws)) := by
  unfold mkD at h
  split at h
  · exact Post.newH s hp h (fun e => ⟨ws, upd_same, RKs.mono s.live e _ _ r⟩) fun e => RV.newH s
  · refine Post.new s hp h fun e => ?_
    simp only [RV]
    exact ⟨p, ws, rfl, .inl upd_same, s.unbad hp, RKs.mono s.live e _ _ r⟩
/-! ### dict(list of pairs) -/
def pairsOf : List D → Option (List (Key × D))
  | [] => some []
  | d :: r => match d with
    | .tup [k, v] => (keyOf k).bind fun k => (pairsOf r).map fun r => (k, v) :: r
    | _ => none
def dictLD (own : Bool) (ds : List D) (S : List O) : Out D := match ds with
  | [d] => (match (lstOf S d).bind pairsOf with
    | some kvs => mkD own (mergeG [] kvs) S
    | none => .stuck)
  | _ => .stuck
theorem pairs_vals {K : PySem.W.Frag} {g : G} {H : Hp} : ∀ {ds : List D} {kvs : List (Key × D)} {xs : List V}, pairsOf ds = some kvs → RVs K g H ds xs → ∃ (ps : List Addr) (ws : List (Key × V)), xs = ps.map V.ref ∧ RKs K g H kvs ws ∧ Paired (fun p (kv : Key × V) => SqT K H p [kV kv.1, kv.2]) ps ws
  | [], kvs, xs, h, r => by
    cases h
    simp only [RVs] at r
    subst r
    exact ⟨[], [], rfl, by simp only [RKs], .nil⟩
  | d :: ds, kvs, xs, h, r => by
    simp only [RVs] at r
    obtain ⟨v, xs, rfl, r1, r2⟩ := r
    unfold pairsOf at h
    split at h
    · rename_i k w
      obtain ⟨k', h1, h2⟩ := Option.bind_eq_some_iff.mp h
      obtain ⟨kvs', h3, h4⟩ := Option.map_eq_some_iff.mp h2
      subst h4
      obtain ⟨ps, ws, rfl, h5, h6⟩ := pairs_vals h3 r2
      obtain ⟨a, ys, rfl, h7, h8⟩ := tup_at (d := .tup [k, w]) rfl r1
      simp only [RVs] at h8
      obtain ⟨u1, q1, rfl, h9, u2, q2, rfl, h10, rfl⟩ := h8
      have hk := keyOf_rv h1 h9
      subst hk
      refine ⟨a :: ps, (k', u2) :: ws, rfl, ?_, .cons h7 h6⟩
      simp only [RKs]
      exact ⟨u2, ws, rfl, h10, h5⟩
    · cases h
theorem ok_dictL {K : PySem.W.Frag} {W : WX} (own : Bool) : OkL K W (fun xs H Q => ∃ (a : Addr) (ps : List Addr) (kvs : List (Key × V)), xs = [.ref a] ∧ SqL K H a (ps.map V.ref) ∧ Paired (fun p kv => SqT K H p [kV kv.1, kv.2]) ps kvs ∧ ∀ p, H p = none → Q (.ref p) (upd H p (.dK (mergeK [] kvs)))) (dictLD own) := by
  intro g S H σ Q xs vs s r p
  unfold dictLD at p
  split at p
  · split at p
    · rename_i d kvs q
      obtain ⟨v, rfl, rr⟩ := rvs1 r
      obtain ⟨ds, h2, h3⟩ := Option.bind_eq_some_iff.mp q
      obtain ⟨a, ws, rfl, h4, h5⟩ := lst_at s h2 rr
      obtain ⟨ps, ws', rfl, h6, h7⟩ := pairs_vals h3 h5
      refine ⟨a, ps, ws', rfl, h4, h7, fun b hb => mkD_ok s ?_ p b hb⟩
      exact RKs.merge h6 (by simp only [RKs])
    · exact p.elim
  · exact p.elim
section
variable {z : Sg} {e a b : Expr} {ta : TAx} {p pos : Pos} {t tb : TEx}
theorem de_dictL (own : Bool) (hm : z.mg "dict" = none) (ha : DA z [e] ta) (hg : Gz z "dict" := by rfl) (hs : ∀ env, starEach [e] env = (false, eval e env) :: starEach [] env := by intro _; rfl) : DE z (.Call (.Name "dict" p) [e] [] pos) (eArgs (dictLD own) ta) :=
  de_callTy (fun X f => f.K ▸ call_dictP f.calm) (ok_dictL own) (by decide +kernel) hm ha hg (by decide) (by decide) hs
/-! ### list(dict), the dict a handle -/
def listKD (own : Bool) (ds : List D) (S : List O) : Out D := match ds with
  | [.hnd i] => (match S[i]? with
    | some (.dct kvs) => if kvs.length ≤ sizeLine then mkL own (kvs.map fun kv => keyD kv.1) S else .stuck
    | _ => .stuck)
  | _ => .stuck
theorem keys_vals {K : PySem.W.Frag} {g : G} {H : Hp} : ∀ {kvs : List (Key × D)} {ws : List (Key × V)}, RKs K g H kvs ws → RVs K g H (kvs.map fun kv => keyD kv.1) (ws.map fun kv => kV kv.1)
  | [], ws, h => by
    simp only [RKs] at h
    subst h
    simp only [List.map_nil, RVs]
  | (k, d) :: r, ws, h => by
    simp only [RKs] at h
    obtain ⟨v, r', rfl, _, h2⟩ := h
    simp only [List.map_cons, RVs]
    exact ⟨_, _, rfl, keyD_rv k, keys_vals h2⟩
theorem ok_listK {K : PySem.W.Frag} {W : WX} (own : Bool) : OkL K W rListD (listKD own) := by
  intro g S H σ Q xs vs s r p
  unfold listKD at p
  split at p
  · rename_i i
    split at p
    · rename_i kvs q
      split at p
      · obtain ⟨v, rfl, rr⟩ := rvs1 r
        simp only [RV] at rr
        obtain ⟨a, rfl, h1⟩ := rr
        obtain ⟨ws, h2, h3⟩ := s.rep i a _ h1 q
        exact ⟨a, ws, rfl, h2, fun l hl => mkL_ok s (keys_vals h3) p l hl⟩
      · exact p.elim
    · exact p.elim
  · exact p.elim
theorem de_listK (own : Bool) (hm : z.mg "list" = none) (ha : DA z [e] ta) (hg : Gz z "list" := by rfl) (hs : ∀ env, starEach [e] env = (false, eval e env) :: starEach [] env := by intro _; rfl) : DE z (.Call (.Name "list" p) [e] [] pos) (eArgs (listKD own) ta) :=
  de_callTy (fun X f => call_list_dK f.calm) (ok_listK own) (by decide +kernel) hm ha hg (by decide) (by decide) hs
/-! ### a sign in a text -/
def insgD (x y : D) (S : List O) : Out D := match x, y with
  | .str a, .str b => (match a.cps.toList with
    | [c] => .ok (.bl (decide (c ∈ b.cps.toList))) S
    | _ => .stuck)
  | _, _ => .stuck
theorem ok_insg {K : PySem.W.Frag} {W : WX} : OkB K W (fun x y H Q => ∃ (c : Nat) (z : Str), x = .str ⟨#[c]⟩ ∧ y = .str z ∧ Q (.bl (decide (c ∈ z.cps.toList))) H) insgD := by
  intro g S H σ Q x y v u s r1 r2 p
  unfold insgD at p
  split at p
  · rename_i a b
    split at p
    · rename_i c hc
      have e : a = ⟨#[c]⟩ := by
        cases a with
        | mk cs =>
          congr 1
          have hc : cs.toList = [c] := hc
          rw [← Array.toArray_toList (xs := cs), hc]
      subst e
      rw [rv_str r1, rv_str r2]
      exact ⟨c, b, rfl, rfl, p.here s (by simp only [RV])⟩
    · exact p.elim
  · exact p.elim
theorem de_insg (ha : DE z a t) (hb : DE z b tb) (hm : behindInMarks .In b = false := by rfl) : DE z (.Compare a [.In] [b] pos) (eBin insgD t tb) := de_cmp (fun X f => op_in_sign) ok_insg hm ha hb
theorem dt_insg (ha : DE z a t) (hb : DE z b tb) (hm : behindInMarks .In b = false := by rfl) : DT z (.Compare a [.In] [b] pos) (tBl (eBin insgD t tb)) := dt_cmp (fun X f => op_in_sign) ok_insg hm ha hb
theorem dt_din (ha : DE z a t) (hb : DE z b tb) (hm : behindInMarks .In b = false := by rfl) : DT z (.Compare a [.In] [b] pos) (tBl (eBin dinD t tb)) := by
  obtain ⟨τ, h1, q1⟩ := ha
  obtain ⟨τ2, h2, q2⟩ := hb
  exact dt_of (fun X fx => pt_cmp (pc_din (by have := fx.hu; omega) (h1 X fx) (h2 X fx)) hm) (din_q q1 q2)
end
/-! ### isinstance of all kinds -/
/-- what is known of own classes and errors by isinstance -/
structure IsF (K : PySem.W.Frag) (ex own : List Str) : Prop where
  F : ExF K ex
  cl : ∀ C ∈ own, CL K C ∧ PySem.W.findIn K (.ref (He.ga K C)) "__class__" = some (some (.builtin "object.__class__")) ∧ PySem.W.mroIn K (He.ga K C) (.type "object") = some true
  ty : ∀ C ∈ own, ∀ n ∈ tyR, PySem.W.kitOne K (.ref (He.ga K C)) (.type n) = some false
  yt : ∀ C ∈ own, ∀ n ∈ tyL, PySem.W.kitOne K (.type n) (.ref (He.ga K C)) = some false
  oo : ∀ C ∈ own, ∀ B ∈ own, PySem.W.kitOne K (.ref (He.ga K C)) (.ref (He.ga K B)) = some (decide (C = B))
  oe : ∀ C ∈ own, ∀ B ∈ ex, PySem.W.kitOne K (.ref (He.ga K C)) (.ref (He.ga K B)) = some false
  eo : ∀ C ∈ ex, ∀ B ∈ own, PySem.W.kitOne K (.ref (He.ga K C)) (.ref (He.ga K B)) = some false
def isfB (ex own : List Str) (K : PySem.W.Frag) : Bool :=
  own.all (fun C => (He.Fa.cls C).ok K && (eqT (PySem.W.findIn K (.ref (He.ga K C)) "__class__") (some (some (.builtin "object.__class__"))) && decide (PySem.W.mroIn K (He.ga K C) (.type "object") = some true))) &&
  (own.all (fun C => tyR.all fun n => decide (PySem.W.kitOne K (.ref (He.ga K C)) (.type n) = some false)) &&
  (own.all (fun C => tyL.all fun n => decide (PySem.W.kitOne K (.type n) (.ref (He.ga K C)) = some false)) &&
  (own.all (fun C => own.all fun B => decide (PySem.W.kitOne K (.ref (He.ga K C)) (.ref (He.ga K B)) = some (decide (C = B)))) &&
  (own.all (fun C => ex.all fun B => decide (PySem.W.kitOne K (.ref (He.ga K C)) (.ref (He.ga K B)) = some false)) &&
  ex.all (fun C => own.all fun B => decide (PySem.W.kitOne K (.ref (He.ga K C)) (.ref (He.ga K B)) = some false))))))
theorem all2_of {α β : Type} {l : List α} {m : List β} {f : α → β → Bool} (h : l.all (fun a => m.all fun b => f a b) = true) : ∀ a ∈ l, ∀ b ∈ m, f a b = true := fun a ha b hb => List.all_eq_true.mp (List.all_eq_true.mp h a ha) b hb
theorem isf_of {K : PySem.W.Frag} {ex own : List Str} (F : ExF K ex) (h : isfB ex own K = true) : IsF K ex own := by
  unfold isfB at h
  simp only [Bool.and_eq_true] at h
  obtain ⟨h1, h2, h3, h4, h5, h6⟩ := h
  refine ⟨F, fun C hC => ?_, fun C hC n hn => of_decide_eq_true (all2_of h2 C hC n hn), fun C hC n hn => of_decide_eq_true (all2_of h3 C hC n hn), fun C hC n hn => of_decide_eq_true (all2_of h4 C hC n hn), fun C hC n hn => of_decide_eq_true (all2_of h5 C hC n hn), fun C hC n hn => of_decide_eq_true (all2_of h6 C hC n hn)⟩
  have := List.all_eq_true.mp h1 C hC
  simp only [Bool.and_eq_true] at this
  exact ⟨He.cls_ok this.1, of_decide_eq_true this.2.1, of_decide_eq_true this.2.2⟩
def isiA (ex own : List Str) (ds : List D) (S : List O) : Out D := match ds with
  | [x, .ty n] => (match tyD S x with
    | some a => (match isTy a n with
      | some b => .ok (.bl b) S
      | none => .stuck)
    | none => (match x with
      | .exc C _ => if C ∈ ex then (match tyErr n with
        | some b => .ok (.bl b) S
        | none => .stuck) else .stuck
      | x => (match insOf S x with
        | some (C, _) => if C ∈ own ∧ n ∈ tyR then .ok (.bl false) S else .stuck
        | none => .stuck)))
  | [x, .cls B] => (match tyD S x with
    | some a => if a ∈ tyL ∧ (B ∈ own ∨ B ∈ ex) then .ok (.bl false) S else .stuck
    | none => (match x with
      | .exc C _ => if C ∈ ex then (if B ∈ ex then .ok (.bl (isErr C B)) S else if B ∈ own then .ok (.bl false) S else .stuck) else .stuck
      | x => (match insOf S x with
        | some (C, _) => if C ∈ own then (if B ∈ own then .ok (.bl (decide (C = B))) S else if B ∈ ex then .ok (.bl false) S else .stuck) else .stuck
        | none => .stuck)))
  | _ => .stuck
theorem call_isA {X : Cx} {ex : List Str} (F : ExF X.K ex) : CallR X (.builtin "isinstance") (fun xs H Q => rIsi X.K xs H Q ∨ rIsE2 X.K ex xs H Q) := call_isi.or (call_isE2 F)
theorem ok_isA {K : PySem.W.Frag} {W : WX} {ex own : List Str} (I : IsF K ex own) : OkL K W (fun xs H Q => rIsi K xs H Q ∨ rIsE2 K ex xs H Q) (isiA ex own) := by
  intro g S H σ Q xs vs s r p
  have ins1 : ∀ {x : D} {C : Str} {fs : List (Str × D)} {v : V}, insOf S x = some (C, fs) → C ∈ own → RV K g H x v → TyX K H v (.ref (He.ga K C)) := fun q hC rr => by
    obtain ⟨a, dx, ws, rfl, h1, _⟩ := ins_at s q rr
    obtain ⟨c1, c2, c3⟩ := I.cl _ hC
    exact .base (.ins h1 c1 c2 I.F.spg I.F.tak c3)
  unfold isiA at p
  split at p
  · rename_i x n
    obtain ⟨v, u, rfl, r1, r2⟩ := rvs2 r
    simp only [RV] at r2
    subst r2
    split at p
    · rename_i a q
      split at p
      · rename_i b q2
        exact .inl ⟨v, _, _, _, b, rfl, .ty _, tyD_ok s r1 q, isTy_ok q2, p.here s (by simp only [RV])⟩
      · exact p.elim
    · split at p
      · rename_i C d e0
        split at p
        · rename_i hC
          split at p
          · rename_i b q
            simp only [RV] at r1
            obtain ⟨l, dd, w, rfl, h1, _, h2, _, _⟩ := r1
            exact .inr ⟨l, dd, _, C, _, _, _, rfl, hC, h1, h2, .ty _, I.F.kitT hC q, p.here s (by simp only [RV])⟩
          · exact p.elim
        · exact p.elim
      · split at p
        · rename_i C fs q
          split at p
          · rename_i hC
            exact .inl ⟨v, _, _, _, false, rfl, .ty _, ins1 q hC.1 r1, I.ty C hC.1 n hC.2, p.here s (by simp only [RV])⟩
          · exact p.elim
        · exact p.elim
  · rename_i x B
    obtain ⟨v, u, rfl, r1, r2⟩ := rvs2 r
    simp only [RV] at r2
    subst r2
    split at p
    · rename_i a q
      split at p
      · rename_i hc
        refine .inl ⟨v, _, _, _, false, rfl, .own _, tyD_ok s r1 q, ?_, p.here s (by simp only [RV])⟩
        rcases hc.2 with hB | hB
        · exact I.yt B hB a hc.1
        · exact kit_no hc.1 I.F hB
      · exact p.elim
    · split at p
      · rename_i C d e0
        split at p
        · rename_i hC
          simp only [RV] at r1
          obtain ⟨l, dd, w, rfl, h1, _, h2, _, _⟩ := r1
          split at p
          · rename_i hB
            exact .inr ⟨l, dd, _, C, _, _, _, rfl, hC, h1, h2, .own _, I.F.kit hC hB, p.here s (by simp only [RV])⟩
          · split at p
            · rename_i hB
              exact .inr ⟨l, dd, _, C, _, _, _, rfl, hC, h1, h2, .own _, I.eo C hC B hB, p.here s (by simp only [RV])⟩
            · exact p.elim
        · exact p.elim
      · split at p
        · rename_i C fs q
          split at p
          · rename_i hC
            split at p
            · rename_i hB
              exact .inl ⟨v, _, _, _, _, rfl, .own _, ins1 q hC r1, I.oo C hC B hB, p.here s (by simp only [RV])⟩
            · split at p
              · rename_i hB
                exact .inl ⟨v, _, _, _, _, rfl, .own _, ins1 q hC r1, I.oe C hC B hB, p.here s (by simp only [RV])⟩
              · exact p.elim
          · exact p.elim
        · exact p.elim
  · exact p.elim
theorem de_isA {z : Sg} {a b : Expr} {ta : TAx} {p pos : Pos} {ex own : List Str} (I : IsF z.K ex own) (hm : z.mg "isinstance" = none) (ha : DA z [a, b] ta) (hg : Gz z "isinstance" := by rfl) (hs : ∀ env, starEach [a, b] env = (false, eval a env) :: starEach [b] env := by intro _; rfl) (hp : ∀ env, (backTo pos (starEach [b] env)).any (·.1) = false := by intro _; rfl) :
    DE z (.Call (.Name "isinstance" p) [a, b] [] pos) (eArgs (isiA ex own) ta) :=
  de_callB (fun X f => f.K ▸ call_isA (f.K ▸ I.F)) (ok_isA I) (by decide +kernel) hm ha hg (by decide) (by decide) hs hp
end TL
set_option Elab.async false
set_option linter.all false
set_option maxRecDepth 100000
set_option maxHeartbeats 4000000
/-! The tree layer, part 33: heads with classes; what a module's classes do, as callers see them. -/
namespace TL
open PySem PySem.Spec PyProof.Rows L2
/-! ### addresses -/
def adG (x : Str) (K : PySem.W.Frag) : Addr := He.ga K x
def adM (C m : Str) (K : PySem.W.Frag) : Addr := He.ma K (He.ga K C) m
/-- what stands first in the record (a property, a staticmethod) that the class C has at f -/
def adR (C f : Str) (T : String) (K : PySem.W.Frag) : Addr := match PySem.W.recIn K (adM C f K) T with
  | some (.ref g :: _) => g
  | _ => 0
/-- the i-th default of the def at ad -/
def adD (ad : PySem.W.Frag → Addr) (i : Nat) (K : PySem.W.Frag) : Addr := match K.lookup (ad K) with
  | some ⟨_, _, .func fd, _⟩ => (match fd.defaults with
    | .ref T => (match K.lookup T with
      | some ⟨_, _, .seq its _, _⟩ => (match its.toList[i]? with
        | some (.ref a) => a
        | _ => 0)
      | _ => 0)
    | _ => 0)
  | _ => 0
/-! ### defs -/
structure DefX where
  ad : PySem.W.Frag → Addr
  name : Str
  qual : Str
  params : Arguments
  body : List Stmt
  scope : Scope
  dfl : List He.Dv := []
  kwd : List (Str × He.Dv) := []
def fnX (K : PySem.W.Frag) (a : Addr) : He.FnW := match K.lookup a with
  | some ⟨_, _, .func fd, _⟩ => some (fd.name, fd.qualname, fd.params, fd.body, fd.scope, fd.globals, fd.closure, fd.builtins)
  | _ => none
def DefX.val (d : DefX) : He.FnW := some (d.name, d.qual, d.params, .stmts d.body, d.scope, mainGlobals, [], builtinsNs)
def DefX.dvs (K : PySem.W.Frag) (d : DefX) : List V := d.dfl.map (He.Dv.v K)
def DefX.kws (K : PySem.W.Frag) (d : DefX) : List (Str × V) := d.kwd.map fun q => (q.1, q.2.v K)
def DefX.ok (K : PySem.W.Frag) (d : DefX) : Bool := PySem.W.keepIn K (.ref (d.ad K)) && (match K.lookup (d.ad K) with
  | some ⟨_, _, .func fd, _⟩ => PySem.W.codeIn K fd.code d.qual && (He.dflB K fd.defaults (d.dvs K) && He.kwdB K fd.kwdefaults (d.kws K))
  | _ => false)
theorem DefX.funD {K : PySem.W.Frag} {d : DefX} (e : fnX K (d.ad K) = d.val) (c : d.ok K = true) : ∃ fd, FunD K d.name d.qual d.params d.body d.scope (d.dvs K) (d.kws K) (d.ad K) fd := by
  obtain ⟨kp, c2⟩ := He.ba c
  unfold fnX at e
  cases q : K.lookup (d.ad K) with
  | none =>
    rw [q] at c2
    cases c2
  | some o =>
    obtain ⟨oc, od, dt, osl⟩ := o
    rw [q] at c2 e
    cases dt with
    | func fd =>
      obtain ⟨n1, n2, n3, n4, n5, n6, n7, n8, n9, n10, n11, n12, n13, n14, n15⟩ := fd
      have e2 : (some (n1, n2, n3, n4, n5, n6, n7, n15) : He.FnW) = some (d.name, d.qual, d.params, .stmts d.body, d.scope, mainGlobals, [], builtinsNs) := e
      simp only [Option.some.injEq, Prod.mk.injEq] at e2
      obtain ⟨h1, h2, h3, h4, h5, h6, h7, h8⟩ := e2
      subst h1 h2 h3 h4 h5 h6 h7 h8
      have c3 : (PySem.W.codeIn K n13 d.qual && (He.dflB K n8 (d.dvs K) && He.kwdB K n9 (d.kws K))) = true := c2
      obtain ⟨k1, k2⟩ := He.ba c3
      obtain ⟨k3, k4⟩ := He.ba k2
      exact ⟨_, ⟨oc, od, n8, n9, n10, n11, n12, n13, n14, osl, rfl, q, k1, He.dflB_ok k3, He.kwdB_ok k4⟩, kp⟩
    | _ => cases c2
/-! ### the Hook -/
def obsX (fb : List Fb) (fn : List DefX) (K : PySem.W.Frag) : AlT := ((fb.all fun f => f K) && fn.all fun d => d.ok K, fn.map fun d => fnX K (d.ad K), iniObs K)
def valX (fn : List DefX) (i : IniV) : AlT := (true, fn.map DefX.val, i)
def obsXG (n : Nat) (fb : List Fb) (fn : List DefX) (g : Addr → Option Obj) : AlT := obsX fb fn (fragT n g)
def hookX (n : Nat) (fb : List Fb) (fn : List DefX) (i : IniV) : PySem.W.Hook where
  α := AlT
  obs := fun s => obsXG n fb fn s.heap.get?
  val := fun _ => valX fn i
  says := fun _ h => ∃ K : PySem.W.Frag, K.In h ∧ obsX fb fn K = valX fn i
  of := fun _ _ e => ⟨_, He.frG_in, e⟩
  keeps := fun _ _ _ ⟨K, hK, c⟩ k => ⟨K, PySem.W.Frag.In.keeps hK k, c⟩
theorem obsX_eq {n : Nat} {fb : List Fb} {fn : List DefX} {i : IniV} {g : Addr → Option Obj} {s : Shared} (h : ∀ a, g a = s.heap.get? a) : obsXG n fb fn g = (hookX n fb fn i).obs s := by
  have e : g = s.heap.get? := funext h
  rw [e] <;> rfl
section
variable {fb : List Fb} {fn : List DefX} {i : IniV} {K : PySem.W.Frag}
theorem saysX_fact (c : obsX fb fn K = valX fn i) (j : Nat) {f : Fb} (h : fb[j]? = some f := by rfl) : f K = true := by
  have c1 := (Bool.and_eq_true_iff.mp (show ((fb.all fun f => f K) && fn.all fun d => d.ok K) = true from congrArg (fun z : AlT => z.1) c)).1
  exact List.all_eq_true.mp c1 f (List.mem_of_getElem? h)
theorem saysX_ini (c : obsX fb fn K = valX fn i) : iniObs K = i := congrArg (fun z : AlT => z.2.2) c
theorem saysX_def (c : obsX fb fn K = valX fn i) (j : Nat) {d : DefX} (h : fn[j]? = some d := by rfl) : ∃ fd, FunD K d.name d.qual d.params d.body d.scope (d.dvs K) (d.kws K) (d.ad K) fd := by
  have c2 := (Bool.and_eq_true_iff.mp (show ((fb.all fun f => f K) && fn.all fun d => d.ok K) = true from congrArg (fun z : AlT => z.1) c)).2
  have e : fn.map (fun d => fnX K (d.ad K)) = fn.map DefX.val := congrArg (fun z : AlT => z.2.1) c
  have e2 : (fn.map fun d => fnX K (d.ad K))[j]? = (fn.map DefX.val)[j]? := by rw [e]
  rw [List.getElem?_map, List.getElem?_map, h] at e2
  exact DefX.funD (Option.some.inj e2) (List.all_eq_true.mp c2 d (List.mem_of_getElem? h))
end
/-! ### facts -/
def faB (f : He.Fa) (K : PySem.W.Frag) : Bool := f.ok K
def propB (C f : Str) (K : PySem.W.Frag) : Bool := eqT (PySem.W.findIn K (.ref (He.ga K C)) f) (some (some (.ref (adM C f K)))) && (eqT (PySem.W.specialIn K (.ref (adM C f K)) "__get__") (some (some (.builtin "property.__get__"))) && (decide (PySem.W.takesIn K (.ref (adM C f K)) = some true) &&
  (match PySem.W.recIn K (adM C f K) "property" with
  | some (.ref _ :: _) => true
  | _ => false)))
theorem propB_ok {C f : Str} {K : PySem.W.Frag} (h : propB C f K = true) : PropOf K (He.ga K C) f (adM C f K) (adR C f "property" K) := by
  unfold propB at h
  simp only [Bool.and_eq_true] at h
  obtain ⟨h1, h2, h3, h4⟩ := h
  refine ⟨of_decide_eq_true h1, of_decide_eq_true h2, of_decide_eq_true h3, ?_⟩
  unfold adR
  split at h4
  · rename_i g r q
    rw [q]
    exact ⟨r, rfl⟩
  · cases h4
def ownIntB (C : Str) (nm : String) (K : PySem.W.Frag) : Bool := PySem.W.selfFirst K (He.ga K C) && ((match PySem.W.findIn K (.ref (He.ga K C)) (dunderR nm) with
  | some none => true
  | some (some (.ref _)) => true
  | _ => false) && ((PySem.W.findIn K (.type "int") (PySem.dunder nm)).isSome && ((PySem.W.findIn K (.type "int") (dunderR nm)).isSome && decide (PySem.W.subIn K (.type "int") (.ref (He.ga K C)) = some false))))
theorem ownIntB_ok {C : Str} {nm : String} {K : PySem.W.Frag} (h : ownIntB C nm K = true) : OwnInt K C nm := by
  unfold ownIntB at h
  simp only [Bool.and_eq_true] at h
  obtain ⟨h1, h2, h3, h4, h5⟩ := h
  refine ⟨h1, ?_, Option.isSome_iff_exists.mp h3, Option.isSome_iff_exists.mp h4, of_decide_eq_true h5⟩
  split at h2
  · rename_i q
    exact ⟨_, q, .inl rfl⟩
  · rename_i g q
    exact ⟨_, q, .inr ⟨g, rfl⟩⟩
  · cases h2
def ownReflB (C : Str) (nm : String) (K : PySem.W.Frag) : Bool := PySem.W.selfFirst K (He.ga K C) && ((match PySem.W.findIn K (.ref (He.ga K C)) (PySem.dunder nm) with
  | some (some (.ref _)) => true
  | _ => false) && decide (PySem.W.subIn K (.ref (He.ga K C)) (.type "int") = some false))
theorem ownReflB_ok {C : Str} {nm : String} {K : PySem.W.Frag} (h : ownReflB C nm K = true) : OwnRefl K C nm := by
  unfold ownReflB at h
  simp only [Bool.and_eq_true] at h
  obtain ⟨h1, h2, h3⟩ := h
  refine ⟨h1, ?_, of_decide_eq_true h3⟩
  split at h2
  · rename_i g q
    exact ⟨g, q⟩
  · cases h2
def neB (C : Str) (K : PySem.W.Frag) : Bool := eqT (PySem.W.findIn K (.ref (He.ga K C)) "__ne__") (some (some (.builtin "object.__ne__"))) && decide (PySem.W.subIn K (.ref (He.ga K C)) (.type "object") = some true)
theorem neB_ok {C : Str} {K : PySem.W.Frag} (h : neB C K = true) : NeB K C := by
  unfold neB at h
  simp only [Bool.and_eq_true] at h
  exact ⟨of_decide_eq_true h.1, of_decide_eq_true h.2⟩
/-- the written part has an empty tuple there -/
def tup0B (ad : PySem.W.Frag → Addr) (K : PySem.W.Frag) : Bool := match K.lookup (ad K) with
  | some ⟨.type t, _, .seq its _, _⟩ => decide (t = "tuple") && decide (its.size = 0)
  | _ => false
theorem tup0B_ok {ad : PySem.W.Frag → Addr} {K : PySem.W.Frag} (h : tup0B ad K = true) (g : G) (H : Hp) : RV K g H (.tup []) (.ref (ad K)) := by
  unfold tup0B at h
  split at h
  · rename_i t d its n sl q
    simp only [Bool.and_eq_true] at h
    obtain ⟨h1, h2⟩ := h
    have h1 := of_decide_eq_true h1
    have h2 := of_decide_eq_true h2
    subst h1
    simp only [RV]
    have e : its.toList = [] := by
      have : its.toList.length = 0 := h2
      exact List.length_eq_zero_iff.mp this
    exact ⟨_, [], rfl, .inr ⟨_, its, n, q, rfl, rfl, by rw [h2]; exact Nat.zero_le _, by rw [e]; exact .nil⟩, by simp only [RVs]⟩
  · cases h
/-! ### what callers see -/
def cutF (F : TF) : TF := fun ds S => (F ds S).cut S.length
theorem cutF_len {F : TF} {n : Nat} (h : ∀ ds S, ds.length ≠ n → F ds S = .stuck) : ∀ ds S, ds.length ≠ n → cutF F ds S = .stuck := fun ds S hne => by
  unfold cutF
  rw [h ds S hne]
  rfl
section
variable {P : Program} {w : World} {K : PySem.W.Frag} {mg : Str → Option Value} {base : Heap} {C x m qual : Str} {params : Arguments} {body : List Stmt} {scope : Scope} {dvs : List V} {kws : List (Str × V)} {f : Addr} {fd : FuncData} {N ps : List Str} {k : Nat} {t : TSx} {F : TF}
theorem TDef.cut {n : Nat} (h : TDef P w K mg base k x n F) : TDef P w K mg base k x n (cutF F) := by
  obtain ⟨f, fd, ps, h1, h2⟩ := h.ex
  exact ⟨⟨f, fd, ps, h1.cut, h2⟩, cutF_len h.len⟩
theorem TMet.cut {n : Nat} (h : TMet P w K mg base k C m n F) : TMet P w K mg base k C m n (cutF F) := by
  obtain ⟨f, fd, ps, h1, h2⟩ := h.ex
  exact ⟨⟨f, fd, ps, h1.cut, h2⟩, h.cl, cutF_len h.len⟩
theorem TProp.cut (h : TProp P w K mg base k C m F) : TProp P w K mg base k C m (cutF F) := by
  obtain ⟨p, g, fd, y, h1, h2⟩ := h.ex
  exact ⟨⟨p, g, fd, y, h1.cut, h2⟩, h.cl⟩
theorem tmet_of (Fd : FunD K x qual params body scope [] [] (adM C m K) fd) (hM : (He.Fa.meth C m).ok K = true) (cl : CL K C) (S : FnScope N ps scope) (hb : Binds K fd ps []) (h : ∀ E, DSs (Sg.of P w K mg base N scope k E qual (cdAt K (adM C m K))) body t) : TMet P w K mg base (k + 1) C m ps.length (bodyF ps.length N t) :=
  ⟨⟨_, fd, ps, tfn_of Fd S h, He.meth_ok hM, hb, rfl⟩, cl, fun ds S hne => if_neg hne⟩
theorem tprop_of {y : Str} (Fd : FunD K x qual params body scope [] [] (adR C m "property" K) fd) (hM : propB C m K = true) (cl : CL K C) (S : FnScope N [y] scope) (hb : Binds K fd [y] []) (h : ∀ E, DSs (Sg.of P w K mg base N scope k E qual (cdAt K (adR C m "property" K))) body t) : TProp P w K mg base (k + 1) C m (bodyF 1 N t) :=
  ⟨⟨_, _, fd, y, tfn_of Fd S h, propB_ok hM, hb⟩, cl⟩
theorem tmk_of {dfl : List D} {j : Nat} (Fd : FunD K x qual params body scope dvs kws (adM C "__init__" K) fd) (hM : (He.Fa.mkr C).ok K = true) (gl : mg C = some (.ref (He.ga K C))) (S : FnScope N ps scope) (hb : ∃ ds, Vals (dvs.drop j) ds ∧ Binds K fd ps ds) (hr : ∀ g H, RVs K g H dfl (dvs.drop j)) (h : ∀ E, DSs (Sg.of P w K mg base N scope k E qual (cdAt K (adM C "__init__" K))) body t) : TMk P w K mg base (k + 1) C ps.length dfl (bodyF ps.length N t) := by
  obtain ⟨ds, h1, h2⟩ := hb
  exact ⟨⟨_, fd, ps, ds, _, tfn_of Fd S h, He.mkr_ok hM, h2, h1, hr, rfl⟩, gl, fun ds S hne => if_neg hne⟩
theorem mk0_of {dfl : List D} (Fd : FunD K x qual params body scope [] kws (adM C "__init__" K) fd) (hM : (He.Fa.mkr C).ok K = true) (gl : mg C = some (.ref (He.ga K C))) (S : FnScope N ps scope) (hb : Binds K fd ps []) (h : ∀ E, DSs (Sg.of P w K mg base N scope k E qual (cdAt K (adM C "__init__" K))) body t) : TMk P w K mg base (k + 1) C ps.length [] (bodyF ps.length N t) :=
  ⟨⟨_, fd, ps, [], [], tfn_of Fd S h, He.mkr_ok hM, hb, .nil, fun g H => by simp only [RVs], rfl⟩, gl, fun ds S hne => if_neg hne⟩
end
/-- x(e, ..), then its new handles dropped -/
theorem makeD_cut {z : Sg} {e : Expr} {t : TEx} (h : DE z e t) : DE z e (eCut t) := de_cut h
end TL
set_option Elab.async false
set_option linter.all false
set_option maxRecDepth 100000
set_option maxHeartbeats 4000000
/-! The tree layer, part 34: dict comprehensions. -/
namespace TL
open PySem PySem.Spec PyProof.Rows L2
/-- the turns of a dict comprehension -/
def compD (vs : List Nat) (tg : TGx) (tt : TTx) (tk tv : TEx) : List D → List (Key × D) → Env1 → List O → Out (List (Key × D))
  | [], acc, _, S => .ok acc S
  | d :: ds, acc, ρ, S => (tg d (wipeD ρ vs) S).nox.bind fun ρ1 S1 => (tt ρ1 S1).nox.bind fun k S2 => if k = true then (tk ρ1 S2).nox.bind fun y S3 => (tv ρ1 S3).nox.bind fun u S4 => (match keyOf y with
    | some q => compD vs tg tt tk tv ds (putG acc q u) ρ S4
    | none => .stuck) else compD vs tg tt tk tv ds acc ρ S2
def eDc (own : Bool) (vs : List Nat) (ti : TIx) (tg : TGx) (tt : TTx) (tk tv : TEx) : TEx := fun ρ S => (ti ρ S).bind fun ds S1 => if ds.length ≤ sizeLine then (compD vs tg tt tk tv ds [] ρ S1).bind (mkD own) else .stuck
theorem putG_len (kvs : List (Key × D)) (k : Key) (v : D) : (putG kvs k v).length ≤ kvs.length + 1 := by
  unfold putG
  split <;> simp
theorem dc_it {J : It} {n : Nat} {Gd : Hp → Prop} {Y : Nat → Hp → V → Hp → Prop} (w : Walk J n Gd Y) {g : TG} {tt : TT} {tk tv : TE} {vs : List Nat} {σ : L2.St} {H1 : Hp} {Dp : Addr} {Qd : Hp → Prop} (Pv : Nat → Hp → Prop) (h0 : Pv 0 (upd H1 Dp (.dK []))) (hG : ∀ i H, i ≤ n → Pv i H → Gd H)
    (hs : ∀ i x H H', i < n → Pv i H → Y i H x H' → g x (L2.wipe σ vs) H' fun σ2 H2 => L2.wipe σ2 vs = L2.wipe σ vs ∧ tt σ2 H2 fun b H3 =>
      if b = true then tk σ2 H3 fun y H4 => tv σ2 H4 fun z H5 => ∃ kvs k, y = kV k ∧ H5 Dp = some (.dK kvs) ∧ kvs.length < sizeLine ∧ Pv (i + 1) (upd H5 Dp (.dK (putK kvs k z))) else Pv (i + 1) H3) (hd : ∀ H, Pv n H → Qd H) :
    ∃ W : Nat → Nat → Hp → Prop, (∃ m, W 0 m (upd H1 Dp (.dK []))) ∧ ∀ i m H, W i m H →
      (J.stop i H ∧ Qd H) ∨ (J.go i H ∧ ∃ Nx : Hp → Prop, (∀ H', Nx H' → ∃ m', m' < m ∧ W (i + 1) m' H') ∧ ∀ x H', J.yld i H x H' → g x (L2.wipe σ vs) H' fun σ2 H2 => L2.wipe σ2 vs = L2.wipe σ vs ∧ tt σ2 H2 fun b H3 =>
        if b = true then tk σ2 H3 fun y H4 => tv σ2 H4 fun z H5 => ∃ kvs k, y = kV k ∧ H5 Dp = some (.dK kvs) ∧ kvs.length < sizeLine ∧ Nx (upd H5 Dp (.dK (putK kvs k z))) else Nx H3) := by
  refine ⟨fun i m H => m = n - i ∧ i ≤ n ∧ Pv i H, ⟨n, by simp, Nat.zero_le _, h0⟩, ?_⟩
  rintro i m H ⟨rfl, hi, p⟩
  have q := hG i H hi p
  by_cases hlt : i < n
  · refine .inr ⟨w.goes i H hlt q, Pv (i + 1), fun H' p' => ⟨n - (i + 1), by omega, rfl, hlt, p'⟩, fun x H' y => hs i x H H' hlt p (w.yields i H x H' hlt q y)⟩
  · have e : i = n := by omega
    subst e
    exact .inl ⟨w.stops H q, hd H p⟩
section
variable {z : Sg} {pos : Pos}
theorem de_dc (own : Bool) (ow : List (Str × Nat)) {kx vx tg iter : Expr} {ifs : List Expr} {scope : Scope} {ws : List Nat} {ti : TIx} {t : TGx} {tt : TTx} {tk tv : TEx} (hi : DI z tg iter ti) (hg : DG (z.blk scope) tg ws t) (ht : DTs (z.blk scope) ifs tt) (hk : DE (z.blk scope) kx tk) (he : DE (z.blk scope) vx tv)
    (ok : blkC z.N z.scope scope ow = true := by decide +kernel) (hw : ∀ j ∈ ws, j ∈ ow.map (·.2) := by decide) (hs : ∀ env x, foldedSetIterable iter env x = pure x := by intro _ _; rfl) :
    DE z (.DictComp kx vx [⟨tg, iter, ifs, 0⟩] scope pos) (eDc own (ow.map (·.2)) ti t tt tk tv) := by
  obtain ⟨wi, h1, q1⟩ := hi
  obtain ⟨τg, h2, q2⟩ := hg
  obtain ⟨τt, h3, q3⟩ := ht
  obtain ⟨τk, h5, q5⟩ := hk
  obtain ⟨τe, h4, q4⟩ := he
  refine ⟨tDc wi τg τt τk τe (ow.map (·.2)), fun X f => pe_dc f.calm f.ndX (h1 X f) (by rw [f.N, f.scope]; exact blkOk_by ok) (fun s H C cl fp => h2 _ (f.blk scope s H C cl fp)) (fun s H C cl fp => h3 _ (f.blk scope s H C cl fp)) (fun s H C cl fp => h5 _ (f.blk scope s H C cl fp)) (fun s H C cl fp => h4 _ (f.blk scope s H C cl fp)) (hs _), fun g S ρ σ H Q s rs p => ?_⟩
  refine q1 g S ρ σ H _ s rs (p.bind fun ds S1 g1 H1 J e1 s1 r1 p1 => ?_)
  split at p1
  · rename_i hlen
    obtain ⟨Gd, Y, w, hG, hY⟩ := r1
    intro Dp hn
    have hd : Dp ∉ g1.hs := fun h => s1.unbad hn (s1.live _ h)
    have rs1 := rs.mono s.live e1
    have l0 : NwAt z.K g1 H1 Dp (g1.on Dp) (upd H1 Dp (.dK [])) S1 := NwAt.start s1 hn
    have bnd : ∀ {i : Nat} {acc : List (Key × D)}, acc.length ≤ i → i < ds.length → acc.length < sizeLine := fun h1 h2 => by omega
    refine dc_it w (fun i H' => ∃ g' S' acc us, NwAt z.K g1 H1 Dp g' H' S' ∧ H' Dp = some (.dK us) ∧ RKs z.K g' H' acc us ∧ RS z.K g' H' ρ σ ∧ acc.length ≤ i ∧ Post z.K z.W (RV z.K) g1 H1 σ Q ((compD (ow.map (·.2)) t tt tk tv (ds.drop i) acc ρ S').bind (mkD own)))
      ⟨_, S1, [], [], l0, upd_same, by simp only [RKs], rs1.mono s1.live (Ext.on hn), Nat.le_refl _, p1⟩ (fun i H' _ h => ?_) (fun i x H' H2 hi h y => ?_) fun H' h => ?_
    · obtain ⟨g', S', acc, us, l, _⟩ := h
      exact hG g' H' l.ext
    · obtain ⟨g', S', acc, us, l, hDp, rk, rs', hacc, p'⟩ := h
      obtain ⟨hk, d, hdx, rd⟩ := hY i H' x H2 g' S' hi l.ext l.s y
      have e2 : Ext g' H' g' H2 := Ext.same hk
      obtain ⟨l2, hD2⟩ := l.later s1 hd e2 (l.s.same hk)
      rw [hDp] at hD2
      have rk2 := rk.mono l.s.live e2
      have rs2 := rs'.mono l.s.live e2
      have eq : ds.drop i = d :: ds.drop (i + 1) := by
        obtain ⟨hl, hv⟩ := List.getElem?_eq_some_iff.mp hdx
        rw [List.drop_eq_getElem_cons hl, hv]
      rw [eq] at p'
      unfold compD at p'
      rw [Out.bind_assoc] at p'
      refine q2 g' S' _ _ H2 d x _ l2.s (rs2.wipe _) rd (PostG.nox p' fun ρ3 S3 g3 H3 σ3 e3 s3 r3 off p3 => ?_)
      refine ⟨wipe_off off hw, ?_⟩
      obtain ⟨l3, hD3⟩ := l2.later s1 hd e3 s3
      rw [hD2] at hD3
      have rk3 := rk2.mono l2.s.live e3
      have rs3 := rs2.mono l2.s.live e3
      rw [Out.bind_assoc] at p3
      refine q3 g3 S3 ρ3 σ3 H3 _ s3 r3 (Post.bindN p3 fun k S4 g4 H4 k' e4 s4 r4 p4 => ?_)
      have r4 : k = k' := r4
      subst r4
      obtain ⟨l4, hD4⟩ := l3.later s1 hd e4 s4
      rw [hD3] at hD4
      have rk4 := rk3.mono l3.s.live e4
      have rs4 := rs3.mono l3.s.live e4
      show if k = true then _ else _
      split
      · rename_i hkt
        rw [if_pos hkt, Out.bind_assoc] at p4
        have r34 := r3.mono s3.live e4
        refine q5 g4 S4 ρ3 σ3 H4 _ s4 r34 (Post.bindN p4 fun yv S5 g5 H5 v e5 s5 r5 p5 => ?_)
        obtain ⟨l5, hD5⟩ := l4.later s1 hd e5 s5
        rw [hD4] at hD5
        have rk5 := rk4.mono l4.s.live e5
        have rs5 := rs4.mono l4.s.live e5
        rw [Out.bind_assoc] at p5
        refine q4 g5 S5 ρ3 σ3 H5 _ s5 (r34.mono s4.live e5) (Post.bindN p5 fun uv S6 g6 H6 u e6 s6 r6 p6 => ?_)
        obtain ⟨l6, hD6⟩ := l5.later s1 hd e6 s6
        rw [hD5] at hD6
        have rk6 := rk5.mono l5.s.live e6
        have rs6 := rs5.mono l5.s.live e6
        split at p6
        · rename_i q hq
          have rk7 := rk6.putG q r6
          have wk := l6.wk (u := .dK (putK us q u))
          have hlen := putG_len acc q uv
          exact ⟨us, q, keyOf_rv hq r5, hD6, by rw [rk6.length]; exact bnd hacc hi, g6, S6, putG acc q uv, putK us q u, l6.wr hn hd, upd_same, rk7.wk wk _ _, rs6.wk wk _ _, by omega, p6⟩
        · exact p6.elim
      · rename_i hkf
        rw [if_neg hkf] at p4
        exact ⟨g4, S4, acc, us, l4, hD4, rk4, rs4, by omega, p4⟩
    · obtain ⟨g', S', acc, us, l, hDp, rk, _, _, p'⟩ := h
      rw [List.drop_length] at p'
      have p' : Post z.K z.W (RV z.K) g1 H1 σ Q (mkD own acc S') := p'
      unfold mkD at p'
      split at p'
      · exact l.finH (ob := .dct acc) hn hd ⟨_, hDp, rk⟩ p'
      · refine l.finV s1 hn hd ?_ p'
        simp only [RV]
        exact ⟨Dp, _, rfl, .inl hDp, fun h => h.2 rfl, RKs.anti (g := g') (g0 := g'.off Dp) (fun b h => h.1) (fun _ _ h => h) _ _ rk⟩
  · exact p1.elim
end
end TL
set_option Elab.async false
set_option linter.all false
set_option maxRecDepth 100000
set_option maxHeartbeats 4000000
/-! The tree layer, part 35: raise X(e), X an error's own class. -/
namespace TL
open PySem PySem.Spec PyProof.Rows L2
section
variable {X : Cx} {C D f : Addr} {x : Str} {e : Expr} {te : TE} {p pos : Pos} {k : Nat}
/-- what making an error to be raised asks -/
def tMkX (C : Addr) (te : TE) : L2.St → Hp → XK → Prop := fun σ H Q => te σ H fun v H1 => ∀ dd, H1 dd = none → Q (.ref C) (some dd) (upd H1 dd (.xd [("value", v)]))
theorem pmk_mkE (Fn : TLI.IFn X.K X.prog D f) (T : TLI.ICls X.K D f C) (hR : Raises X (.ref C)) (hsu : X.mg "super" = none) (hr : Room (k + 1) X.A) (gC : X.mg x = some (.ref C)) (hg : Gl X x) (he : PE X e te)
    (hs : starEach [e] X.env = (false, eval e X.env) :: starEach [] X.env := by rfl) (hdb : (x == ("__debug__" : Str)) = false := by decide) : PMk X (.Call (.Name x p) [e] [] pos) (tMkX C te) := by
  intro pins s σ H Q I h
  obtain ⟨nm, q, N, bs, bm, sn, sub, ab, col, dd, k0, k1, k2, k3, k5, hC, hbm⟩ := T.oex.cls
  refine wpAny_Call_Name_kw (ld_glob I hg gC ?_ hdb)
  refine PySem.W.callWith_K (h₀ := X.base) I.ok.mod.kin T.oex.kC ?_ hs (by rfl)
  rw [hs]
  show wpAny _ _ (spliced ((false, eval e X.env) :: backTo pos (starEach [] X.env))) _ _ s
  refine Calls.spliced_cons (thn (he.run pins s σ H _ I h) fun u s1 ⟨v, H1, I1, r1, q1⟩ => ?_)
  refine Calls.spliced_nil ⟨I1.kIn, ?_⟩
  show wpAny _ _ (call (.ref C) [u]) _ _ _
  obtain ⟨hp, g, dr, tk, os⟩ := s1
  have kk : ∀ b o, hp.get? b = some o → ((hp.push (PySem.W.kdv_tup [u])).push (PySem.HandSPX.excO C hp.objs.size)).get? b = some o := fun b o e => Heap.get?_push_of_some _ (Heap.get?_push_of_some _ e)
  have hget : ((hp.push (PySem.W.kdv_tup [u])).push (PySem.HandSPX.excO C hp.objs.size)).get? (hp.objs.size + 1) = some (PySem.HandSPX.excO C hp.objs.size) := by heap_get
  have hne : hp.get? (hp.objs.size + 1) = none := by
    cases z : hp.get? (hp.objs.size + 1) with
    | none => rfl
    | some o => exact absurd (Heap.lt_size z) (Nat.not_lt.mpr (Nat.le_succ _))
  refine wpAny_call (PySem.HandSPX.call_own F.excBase_ValueError (fun Y => PySem.HandSPX.refsVE_contains Y bm hbm) (I1.kIn _ _ hC) (PySem.W.looks_findIn I1.kIn T.ini) (fun self => PySem.W.bind_fn I1.kIn self Fn.ty) (by show 1 ≤ sizeLine; decide) ?_)
  refine TLI.init_run (C := C) (e := hp.objs.size + 1) (t0 := hp.objs.size) (b0 := X.base) Fn T I1.ok.mod.kin I1.ok.mod.glob hsu I1.ok.mod.blt I1.ok.mod.nolimit (hr.make C [u] []).depth (fun b o z => ⟨kk _ _ (I1.bk _ _ z), fun y => ?_⟩) hget
    (fun h' t1 tk' dx k5 nd dne hx hn => ?_)
  · have := I1.bk _ _ z
    rw [y, hne] at this
    cases this
  · have k6 : ∀ b o, hp.get? b = some o → h'.get? b = some o := fun b o z => k5 b o (fun y => by rw [y, hne] at z; cases z) (kk _ _ z)
    have nd' : hp.get? dx = none := by
      cases z : hp.get? dx with
      | none => rfl
      | some o =>
        rw [kk _ _ z] at nd
        cases nd
    have ha : H1 (hp.objs.size + 1) = none := I1.hok.gone hne
    have hd : H1 dx = none := I1.hok.gone nd'
    obtain ⟨Gh, g1, g2⟩ := restrict h' fun b => decide (b ≠ hp.objs.size + 1)
    have gk : ∀ b o, b ≠ hp.objs.size + 1 → h'.get? b = some o → Gh.get? b = some o := fun b o hb z => by
      rw [g1 b (decide_eq_true hb)]
      exact z
    have gn : Gh.get? (hp.objs.size + 1) = none := g2 _ (decide_eq_false fun z => z rfl)
    have gs : ∀ b o, Gh.get? b = some o → h'.get? b = some o := fun b o z => by
      by_cases hb : b = hp.objs.size + 1
      · rw [hb, gn] at z
        cases z
      · rw [← g1 b (decide_eq_true hb)]
        exact z
    have hnG : ∀ m, h'.Ns1 dx m → Gh.Ns1 dx m := fun m ⟨o, es, ep, e', r⟩ => ⟨o, es, ep, gk _ _ dne e', r⟩
    have k7 : ∀ b o, hp.get? b = some o → Gh.get? b = some o := fun b o z => gk b o (fun y => by rw [y, hne] at z; cases z) (k6 b o z)
    have J := I1.laidN (h' := Gh) (o := .xd [("value", v)]) (t' := tk') k7 nd' hd ⟨_, hnG _ hn, relO_put (fs := []) r1 fun g => True.intro⟩
    refine ⟨rfl, hp.objs.size + 1, _, _, _, _, .ref C, some dx, rfl, J, gs, gn, hx, ⟨rfl, rfl⟩, rfl, rfl, ?_, rfl, I1.bare, hR, q1 dx hd⟩
    rw [upd_ne (Ne.symm dne)]
    exact ha
end
def sRaise (C : Str) (t : TEx) : TSx := fun ρ S => (t ρ S).stm ρ fun d S1 => .exc C d ρ S1
theorem ExF.raises {X : Cx} {ex : List Str} {C : Str} (F : ExF X.K ex) (hC : C ∈ ex) : Raises X (.ref (He.ga X.K C)) := by
  refine raises_own ?_ (F.one C hC).ty
  rw [F.sub hC]
  congr 1
  split <;> rfl
theorem ds_raise {z : Sg} {ex : List Str} {x : Str} {e : Expr} {t : TEx} {p pos pos' : Pos} (F : ExF z.K ex) (hC : x ∈ ex) (Fn : TLI.IFn z.K z.P (He.ga z.K dErr) (He.ma z.K (He.ga z.K dErr) "__init__")) (hsu : z.mg "super" = none) (gC : z.mg x = some (.ref (He.ga z.K x))) (hl : 1 ≤ z.lv) (he : DE z e t) (hg : Gz z x := by rfl)
    (hs : ∀ env, starEach [e] env = (false, eval e env) :: starEach [] env := by intro _; rfl) (hdb : (x == ("__debug__" : Str)) = false := by decide) : DS z (.Raise (some (.Call (.Name x p) [e] [] pos)) none pos') (sRaise x t) := by
  obtain ⟨τ, h1, q1⟩ := he
  refine ⟨fun _ σ H => tMkX (He.ga z.K x) τ σ H fun cls d H' => z.W cls d σ H', fun X fx => ?_, fun g S ρ σ H T s rs p => ?_⟩
  · exact ps_raise fx.calm fx.takes (pmk_mkE (k := 0) (fx.prog ▸ fx.K ▸ Fn) (fx.K ▸ (F.one x hC).ic) (fx.K ▸ (fx.K ▸ F : ExF X.K ex).raises hC) (fx.mgl hsu) (fx.room.mono (by omega)) (fx.mgl gC) (fx.gl hg) (h1 X fx) (hs _) hdb)
  · refine q1 g S ρ σ H _ s rs (p.stm s rs fun v S1 g1 H1 w e1 s1 rs1 r1 p1 dd hd => ?_)
    have k1 : ∀ b u, H1 b = some u → upd H1 dd (.xd [("value", w)]) b = some u := same_new hd
    refine p1 g1 _ σ _ (some dd) (Ext.same k1) (s1.same k1) (rs1.mono s1.live (Ext.same k1)) ⟨rfl, dd, w, rfl, upd_same, s1.unbad hd, r1.mono s1.live (Ext.same k1) _ _⟩
end TL
set_option Elab.async false
set_option linter.all false
set_option maxRecDepth 100000
set_option maxHeartbeats 4000000
/-! The tree layer, part 36: an error that is caught and kept; a lambda that is handed to a def. -/
namespace TL
open PySem PySem.Spec PyProof.Rows L2
section
variable {X : Cx} {pins : List (Addr × Obj)} {σ : L2.St} {H : Hp} {s : Shared}
/-- an object that stands in the heap is tracked from now on -/
theorem inv_track {a : Addr} {o : HO} (I : Inv X pins σ H s) (n0 : X.s_0.heap.get? a = none) (hn : H a = none) (hL : X.env.locals ≠ a) (hC : ∀ x c, X.env.cells.lookup x = some c → c ≠ a) (hP : ∀ q ∈ X.pn ++ pins, q.1 ≠ a)
    (new : ObjOk X.prog X.w (upd H a o) s.heap a o) : Inv X pins σ (upd H a o) s where
  ok := I.ok
  os := I.os
  bare := I.bare
  base :=
    { keep := I.base.keep
      slot := I.base.slot
      there := I.base.there
      free := fun b u e n hx => by
        rw [upd_ne (fun z => by rw [z, n0] at e; cases e)]
        exact I.base.free b u e n hx
      tups := fun b xs e => by
        have q := I.base.tups b xs e
        rw [upd_ne (ne_of_none q hn)]
        exact q
      frzs := fun b u y e => by
        have q := I.base.frzs b u y e
        rw [upd_ne (ne_of_none q hn)]
        exact q
      tbls := fun b ps e => by
        obtain ⟨m, q⟩ := I.base.tbls b ps e
        exact ⟨m, by rw [upd_ne (ne_of_none q hn)]; exact q⟩ }
  loc := I.loc
  cell := I.cell
  free := by
    rw [upd_ne hL]
    exact I.free
  freeC := fun x c e => by
    rw [upd_ne (hC x c e)]
    exact I.freeC x c e
  pin := fun q hq => by
    obtain ⟨e, n, z⟩ := I.pin q hq
    exact ⟨e, by rw [upd_ne (hP q hq)]; exact n, z⟩
  hok := HOk.laidN I.hok (fun _ _ z => z) hn new
  len := I.len
/-- behind 'except C as n: m = n' (n in slot i, m in slot j): the error is kept -/
def wKeep (K : PySem.W.Frag) (c : Value) (i j : Nat) (Wout : WX) (D : Ends) : WX := fun cls d σ H =>
  ∃ b, PySem.W.exmOne K cls c = some b ∧ (b = true → ∀ a, H a = none → D.nx (((σ.set i (some (.ref a))).set j (some (.ref a))).set i none) (upd H a (ExO cls d a))) ∧ (b = false → Wout cls d σ H)
theorem ps_try_kp {x n m : Str} {c : Value} {i j : Nat} {body : List Stmt} {np mp np2 ap pos pos' : Pos} {tb : WX → TS} {Wout : WX} (hs : X.stack = X.env :: X.outer) (hf : X.env.frame = some X.env.locals) (hN : X.N.Nodup) (hi : X.N[i]? = some n) (hj : X.N[j]? = some m)
    (hln : X.env.kindOf n = some .local) (hlm : X.env.kindOf m = some .local) (hex : X.ex = []) (hc : Names X x c) (tk : Takes X Wout) (hd1 : (n == ("__debug__" : Str)) = false) (hd2 : (n == ("__classdict__" : Str)) = false)
    (hb : ∀ (W : WX) (pn : List (Addr × Obj)) (xe : Value → Shared → Prop), Takes (X.tr pn xe) W → PassesOwn (model X.prog X.w) X.A X.env xe → PSs (X.tr pn xe) body (tb W)) :
    PS X (.Try body [.ExceptHandler (some (.Name x np)) (some n) [.Assign [.Name m mp] (.Name n np2) ap] pos'] [] [] pos) (fun D σ H => tb (wKeep X.K c i j Wout D) D σ H) := by
  refine ⟨fun pins s σ H D I h => ?_⟩
  have ok := I.ok
  have hfr : X.A.frames = some (X.env :: X.outer) := by rw [ok.frames, hs]
  refine wpAny_Try_except ?_
  refine wpAny_mono ((hb (wKeep X.K c i j Wout D) (X.pn ++ pins) (fun e s₁ => wpAny (model X.prog X.w) X.A (noteFrame e X.env) (fun _ s₂ => wpAny (model X.prog X.w) X.A (setFlight e none) (fun _ s₃ =>
    wpAny (model X.prog X.w) X.A (handleBy e X.env [.ExceptHandler (some (.Name x np)) (some n) [.Assign [.Name m mp] (.Name n np2) ap] pos']) (SP X pins D) X.xe s₃) X.xe s₂) X.xe s₁) (fun u s' xx => ?_) PassesOwn.looking).run [] s σ H D (I.toTry _) h) (fun f s1 hsp => ?_) (fun e s1 he => he)
  · obtain ⟨a, B, sI, pins', σ', H', cls, d, rfl, J', nb, up, sky, na, os, ag, b, hb1, hyes, hno⟩ := xx
    have J : Inv X pins σ' H' sI := J'.ofTry ok
    have sky' : Sky B (X.env :: X.outer) a (Zc cls d) X.env.locals s'.heap := by rw [← hs]; exact sky
    show wpAny (model X.prog X.w) X.A (noteFrame (.ref a) X.env) _ _ _
    refine Sky.land Zc.steady hfr hf sky' fun h3 fl3 up3 => ?_
    have J3 : Inv X pins σ' H' { s' with heap := h3 } := J.landed nb fl3.1 (up.trans up3) os ag
    obtain ⟨oe3, vs3, he3, hz3, hd3⟩ := fl3.there
    have off : ∀ {h : Heap} {o : Obj} {vs : Array Value}, h.FunFrames B (X.env :: X.outer) → h.get? a = some o → o.data = .fields vs → a ∉ frs (X.env :: X.outer) := fun {h o vs} ff e dd hm => by
      obtain ⟨_, o', e', hnf⟩ := ff.mem hm
      rw [e] at e'
      cases e'
      exact hnf _ dd
    have nfr := off fl3.2.2.1 he3 hd3
    have nL : a ≠ X.env.locals := fun z => nfr (List.mem_filterMap.mpr ⟨X.env, List.mem_cons_self, by rw [hf, z]⟩)
    have nF : a ∉ X.fs := fun hm => by
      obtain ⟨e, he, q⟩ := List.mem_filterMap.mp hm
      exact nfr (List.mem_filterMap.mpr ⟨e, List.mem_cons_of_mem _ he, q⟩)
    -- the error is new
    have nI : sI.heap.get? a = none := by
      cases z : sI.heap.get? a with
      | none => rfl
      | some o =>
        have y := nb a o z (by rw [hs]; exact nfr)
        rw [fl3.2.1] at y
        cases y
    have n0 : X.s_0.heap.get? a = none := by
      cases z : X.s_0.heap.get? a with
      | none => rfl
      | some o =>
        obtain ⟨o', y⟩ := J.base.there a o z (by rw [hex]; exact fun q => nomatch q)
        rw [nI] at y
        cases y
    have nC : ∀ y c, X.env.cells.lookup y = some c → c ≠ a := fun y c e z => by
      obtain ⟨v, o, ho, _⟩ := J.cell y c e
      rw [z, nI] at ho
      cases ho
    have nP : ∀ q ∈ X.pn ++ pins, q.1 ≠ a := fun q hq z => by
      have y := (J.pin q hq).1
      rw [z, nI] at y
      cases y
    have S3 := J3.suite he3 hd3 na nL nF
    refine wpAny_handleBy_cons (codeAny_handlers_test ?_) (by intro q; cases q)
    have LT : PySem.W.Looks (model X.prog X.w) h3 (typeOf (.ref a)) cls := fun A Q E s k q => wpAny_typeOf_ref (k _ _ he3) (by rw [hz3.1]; exact q)
    have LM := PySem.W.exm_one (M := model X.prog X.w) (J3.kIn) LT hb1
    have test : ∀ {Q : Value → Shared → Prop} {E : Value → Shared → Prop}, Q c { s' with heap := h3 } → wpAny (model X.prog X.w) (X.A.mark (some (.ref a))) (eval (.Name x np) X.env) Q E { s' with heap := h3 } := fun {Q E} q => by
      obtain ⟨hg, hdbg, hm | ⟨hm, hv, hnn⟩⟩ := hc
      · exact ld_glob (X := X.suite a ((a, oe3) :: (X.pn ++ pins))) S3 hg hm q hdbg
      · exact ld_blt (X := X.suite a ((a, oe3) :: (X.pn ++ pins))) S3 hg hm hv q hnn hdbg
    refine test (LM.here ?_)
    cases b with
    | true =>
      refine codeAny_handlers_suite_as ?_
      refine HandSPX.lands_againZ fl3 fun h4 fl4 up4 => ?_
      have J4 : Inv X pins σ' H' { s' with heap := h4 } := J.landed nb fl4.1 ((up.trans up3).trans up4) os ag
      obtain ⟨oe4, vs4, he4, hz4, hd4⟩ := fl4.there
      have S4 := J4.suite he4 hd4 na nL nF
      refine store_ok (X := X.suite a ((a, oe4) :: (X.pn ++ pins))) (v := .ref a) S4 hN hi (.inl hln) rfl (fun s5 S5 => ?_) (.inr hln)
      have li : i < σ'.length := by
        rw [J.len]
        exact (List.getElem?_eq_some_iff.mp hi).1
      have sv : (σ'.set i (some (V.ref a)))[i]? = some (some (V.ref a)) := List.getElem?_set_self li
      have su : PSs (X.suite a ((a, oe4) :: (X.pn ++ pins))) [.Assign [.Name m mp] (.Name n np2) ap] (tAsg (tVar i) (gName j)) :=
        pss_one (ps_set (X := X.suite a ((a, oe4) :: (X.pn ++ pins))) hN hj (.inl hlm) (pe_var (X := X.suite a ((a, oe4) :: (X.pn ++ pins))) hi (.inl hln) hd1 hd2) rfl (.inr hlm))
      refine wpAny_mono (su.run [] s5 _ H' { nx := fun σ6 H6 => σ6 = (σ'.set i (some (V.ref a))).set j (some (V.ref a)) ∧ H6 = H', rt := fun _ _ => False, bk := fun _ _ => False, ct := fun _ _ => False } S5 ⟨V.ref a, sv, rfl, rfl⟩) (fun f s6 hsp => ?_) (fun _ _ z => False.elim z)
      cases f with
      | next =>
        obtain ⟨σ6, H6, S6, e6, eH⟩ := hsp
        subst e6 eH
        have K6 : Inv X ((a, oe4) :: pins) _ H6 s6 := ⟨ok, S6.os, S6.bare, S6.base, S6.loc, S6.cell, S6.free, S6.freeC, fun q hq => by
          refine S6.pin q (List.mem_append_left _ ?_)
          rcases List.mem_append.mp hq with z | z
          · exact List.mem_cons_of_mem _ (List.mem_append_left _ z)
          · rcases List.mem_cons.mp z with z | z
            · rw [z]
              exact List.mem_cons_self
            · exact List.mem_cons_of_mem _ (List.mem_append_right _ z), S6.hok, S6.len⟩
        refine gone_ok K6 hN hi hln fun s7 J7 => ?_
        have ea : s7.heap.get? a = some oe4 := (J7.pin (a, oe4) (List.mem_append_right _ List.mem_cons_self)).1
        have J8 : Inv X pins _ H6 s7 := ⟨ok, J7.os, J7.bare, J7.base, J7.loc, J7.cell, J7.free, J7.freeC, fun q hq => J7.pin q (by
          rcases List.mem_append.mp hq with z | z
          · exact List.mem_append_left _ z
          · exact List.mem_append_right _ (List.mem_cons_of_mem _ z)), J7.hok, J7.len⟩
        refine ⟨_, _, inv_track (o := ExO cls d a) J8 n0 na nL.symm nC nP ?_, hyes rfl a na⟩
        exact ⟨⟨oe4, vs4, ea, hz4, hd4⟩, ⟨oe4, ea⟩, fun h1 h2 ⟨oe, vs, e1, e2⟩ kp => ⟨oe, vs, kp _ e1, e2⟩⟩
      | brk =>
        obtain ⟨σ6, H6, S6, q6⟩ := hsp
        exact q6.elim
      | cont =>
        obtain ⟨σ6, H6, S6, q6⟩ := hsp
        exact q6.elim
      | ret u =>
        obtain ⟨v6, σ6, H6, S6, r6, q6⟩ := hsp
        exact q6.elim
    | false =>
      show wpAny _ X.A (handleBy (.ref a) X.env []) _ _ _
      refine wpAny_handleBy_nil ?_
      obtain ⟨k1, k2, k3, oe, vs, T, oT, ts', he, hz, hd, h1, hr⟩ := id fl3
      unfold PySem.passOn
      refine wpAny_bind (wpAny_field he hd h1 ?_)
      rw [if_neg (show ¬ ((Value.ref T == Value.none) = true) from by simp)]
      have fin : wpAny (model X.prog X.w) X.A (setFlight (.ref a) X.env.frame) (fun _ s4 => wpAny (model X.prog X.w) X.A (throw (.ref a) : Sem Flow) (SP X pins D) X.xe s4) X.xe { s' with heap := h3 } := by
        rw [hf]
        refine HandSPX.setFlight_upZ fl3 fun h4 hh4 up4 => wpAny_throw (tk _ _ ?_)
        exact ⟨a, B, sI, pins, σ', H', cls, d, rfl, J, nb, (up.trans up3).trans up4, .inr (.inr (by rw [hs]; exact hh4)), na, os, ag, hno rfl⟩
      first
        | exact wpAny_bind (wpAny_pure (wpAny_bind fin))
        | exact wpAny_bind fin
  · cases f with
    | next =>
      obtain ⟨σ', H', J', q⟩ := hsp
      exact wpAny_execs_nil ⟨σ', H', J'.ofTry ok, q⟩
    | brk =>
      obtain ⟨σ', H', J', q⟩ := hsp
      exact ⟨σ', H', J'.ofTry ok, q⟩
    | cont =>
      obtain ⟨σ', H', J', q⟩ := hsp
      exact ⟨σ', H', J'.ofTry ok, q⟩
    | ret u =>
      obtain ⟨v, σ', H', J', r, q⟩ := hsp
      exact ⟨v, σ', H', J'.ofTry ok, r, q⟩
end
end TL
set_option Elab.async false
set_option linter.all false
set_option maxRecDepth 100000
set_option maxHeartbeats 4000000
/-! The tree layer, part 38: one reading for several kinds. -/
namespace TL
open PySem PySem.Spec PyProof.Rows L2
section
variable {z : Sg} {e tg a b : Expr} {t t1 t2 ta tb : TEx} {i i1 i2 : TIx} {pos : Pos}
theorem DE.or (h1 : DE z e t1) (h2 : DE z e t2) (h : ∀ ρ S, t ρ S = t1 ρ S ∨ t ρ S = t2 ρ S) : DE z e t := by
  obtain ⟨τ1, p1, q1⟩ := h1
  obtain ⟨τ2, p2, q2⟩ := h2
  refine ⟨fun σ H Q => τ1 σ H Q ∨ τ2 σ H Q, fun X fx => ⟨fun pins s σ H Q I y => y.elim ((p1 X fx).run pins s σ H Q I) ((p2 X fx).run pins s σ H Q I)⟩, fun g S ρ σ H Q s rs p => ?_⟩
  rcases h ρ S with e | e <;> rw [e] at p
  · exact .inl (q1 g S ρ σ H Q s rs p)
  · exact .inr (q2 g S ρ σ H Q s rs p)
theorem DI.or (h1 : DI z tg e i1) (h2 : DI z tg e i2) (h : ∀ ρ S, i ρ S = i1 ρ S ∨ i ρ S = i2 ρ S) : DI z tg e i := by
  obtain ⟨τ1, p1, q1⟩ := h1
  obtain ⟨τ2, p2, q2⟩ := h2
  refine ⟨fun σ H Q => τ1 σ H Q ∨ τ2 σ H Q, fun X fx => ⟨fun pins s σ H Q I y => y.elim ((p1 X fx).run pins s σ H Q I) ((p2 X fx).run pins s σ H Q I)⟩, fun g S ρ σ H Q s rs p => ?_⟩
  rcases h ρ S with e | e <;> rw [e] at p
  · exact .inl (q1 g S ρ σ H Q s rs p)
  · exact .inr (q2 g S ρ σ H Q s rs p)
theorem eBin_or {f f1 f2 : D → D → List O → Out D} (h : ∀ x y S, f x y S = f1 x y S ∨ f x y S = f2 x y S) (a b : TEx) : ∀ (ρ : Env1) (S : List O), eBin f a b ρ S = eBin f1 a b ρ S ∨ eBin f a b ρ S = eBin f2 a b ρ S := by
  intro ρ S
  unfold eBin
  cases a ρ S with
  | ok x S1 =>
    simp only [Out.bind]
    cases b ρ S1 with
    | ok y S2 => exact h x y S2
    | exc C d S2 => exact .inl rfl
    | stuck => exact .inl rfl
  | exc C d S1 => exact .inl rfl
  | stuck => exact .inl rfl
theorem eArgs_or {f f1 f2 : List D → List O → Out D} (h : ∀ x S, f x S = f1 x S ∨ f x S = f2 x S) (a : TAx) (ρ : Env1) (S : List O) : eArgs f a ρ S = eArgs f1 a ρ S ∨ eArgs f a ρ S = eArgs f2 a ρ S := by
  unfold eArgs
  cases a ρ S with
  | ok x S1 => exact h x S1
  | exc C d S1 => exact .inl rfl
  | stuck => exact .inl rfl
/-- x[y] -/
def ixU (x y : D) (S : List O) : Out D := if (dctOf S x).isSome then dgetD x y S else ixD x y S
theorem de_ixU (ha : DE z a ta) (hb : DE z b tb) (hs : NoSl b := by intro _ _; rfl) (hs2 : PlainIx b := by intro _ _; rfl) : DE z (.Subscript a b pos) (eBin ixU ta tb) :=
  DE.or (de_dget ha hb hs) (de_ix ha hb hs2) (eBin_or (fun x y S => by
    unfold ixU
    split
    · exact .inl rfl
    · exact .inr rfl) _ _)
/-- x + y -/
def addU (own : Bool) (x y : D) (S : List O) : Out D := if (lstOf S x).isSome then catD own x y S else addD x y S
theorem de_addU (own : Bool) (ha : DE z a ta) (hb : DE z b tb) : DE z (.BinOp a .Add b pos) (eBin (addU own) ta tb) :=
  DE.or (de_cat own ha hb) (de_add ha hb) (eBin_or (fun x y S => by
    unfold addU
    split
    · exact .inl rfl
    · exact .inr rfl) _ _)
/-- what is gone over -/
def iA1 (t : TEx) : TIx := fun ρ S => (t ρ S).bind fun d S1 => match d with
  | .lst ds => .ok ds S1
  | .scr ns => .ok (ns.map D.int) S1
  | .tup ds => .ok ds S1
  | _ => .stuck
def iA2 (t : TEx) : TIx := fun ρ S => (t ρ S).bind fun d S1 => match d with
  | .str x => .ok (signs x) S1
  | .dct kvs => .ok (kvs.map fun kv => keyD kv.1) S1
  | _ => .stuck
def iAny (t : TEx) : TIx := fun ρ S => (t ρ S).bind fun d S1 => match d with
  | .lst ds => .ok ds S1
  | .scr ns => .ok (ns.map D.int) S1
  | .tup ds => .ok ds S1
  | .str x => .ok (signs x) S1
  | .dct kvs => .ok (kvs.map fun kv => keyD kv.1) S1
  | _ => .stuck
theorem bind_or {α β : Type} {o : Out α} {k k1 k2 : α → List O → Out β} (h : ∀ d S, k d S = k1 d S ∨ k d S = k2 d S) : o.bind k = o.bind k1 ∨ o.bind k = o.bind k2 := by
  cases o with
  | ok x S1 => exact h x S1
  | exc C d S1 => exact .inl rfl
  | stuck => exact .inl rfl
theorem di_any (h : DE z e t) : DI z tg e (iAny t) := by
  have h1 : DI z tg e (iA1 t) := DI.or (di_lst h) (di_tup h) fun ρ S => bind_or fun d S => by cases d <;> first | exact .inl rfl | exact .inr rfl
  have h2 : DI z tg e (iA2 t) := DI.or (di_str h) (di_keys h) fun ρ S => bind_or fun d S => by cases d <;> first | exact .inl rfl | exact .inr rfl
  exact DI.or h1 h2 fun ρ S => bind_or fun d S => by cases d <;> first | exact .inl rfl | exact .inr rfl
end
/-! the operators, as own classes' rules and chains want them -/
def addI (x y : D) (S : List O) : Out D := match x, y with
  | .int i, .int j => .ok (.int (i + j)) S
  | _, _ => .stuck
section
variable {z : Sg}
theorem opsAdd : OpS z (binaryOp .Add) addI := OpS.ofR (fun X f => op_add) fun g S H σ Q x y v u s rx ry p => by
  unfold addI at p
  split at p
  · exact ⟨_, _, rv_int rx, rv_int ry, p.here s (by simp only [RV])⟩
  · exact p.elim
theorem opsSub : OpS z (binaryOp .Sub) subD := OpS.ofR (fun X f => op_sub) fun g S H σ Q x y v u s rx ry p => by
  unfold subD at p
  split at p
  · exact ⟨_, _, rv_int rx, rv_int ry, p.here s (by simp only [RV])⟩
  · exact p.elim
theorem opsMul : OpS z (binaryOp .Mult) mulD := OpS.ofR (fun X f => op_mul.or op_mulW) fun g S H σ Q x y v u s rx ry p => by
  unfold mulD at p
  split at p
  · split at p
    · rename_i hc
      rcases hc with hc | hc
      · exact .inl ⟨_, _, rv_int rx, rv_int ry, hc, p.here s (by simp only [RV])⟩
      · exact .inr ⟨_, _, rv_int rx, rv_int ry, hc, p.here s (by simp only [RV])⟩
    · exact p.elim
  · exact p.elim
theorem opsMod : OpS z (binaryOp .Mod) modD := OpS.ofR (fun X f => op_mod) fun g S H σ Q x y v u s rx ry p => by
  unfold modD at p
  split at p
  · split at p
    · exact ⟨_, _, rv_int rx, rv_int ry, by assumption, p.here s (by simp only [RV])⟩
    · exact p.elim
  · exact p.elim
theorem unsNeg : UnS z (unaryOp .USub) negD := UnS.ofR (fun X f => un_neg) fun g S H σ Q x v s rx p => by
  unfold negD at p
  split at p
  · exact ⟨_, rv_int rx, p.here s (by simp only [RV])⟩
  · exact p.elim
theorem opsEq : OpS z (compareOp .Eq) eqD := OpS.ofR op_eqA ok_eq
theorem opsNe : OpS z (compareOp .NotEq) neD := OpS.ofR op_neA ok_ne
theorem op_leX (X : Cx) (_ : Fits z X) : OpR X (compareOp .LtE) (rI0 fun i j => .bl (decide (i ≤ j))) := op_le
theorem op_geX (X : Cx) (_ : Fits z X) : OpR X (compareOp .GtE) (rI0 fun i j => .bl (decide (j ≤ i))) := op_ge
theorem op_gtX (X : Cx) (_ : Fits z X) : OpR X (compareOp .Gt) (rI0 fun i j => .bl (decide (j < i))) := op_gt
theorem op_ltX (X : Cx) (_ : Fits z X) : OpR X (compareOp .Lt) (fun x y H Q => rI0 (fun i j => .bl (decide (i < j))) x y H Q ∨ ∃ i j, x = .str i ∧ y = .str j ∧ Q (.bl (decide (i.cps.toList < j.cps.toList))) H) := op_lt.or op_lt_str
end
end TL
set_option Elab.async false
set_option linter.all false
set_option maxRecDepth 100000
set_option maxHeartbeats 4000000
/-! The tree layer, part 39: reckoning, further rows for simp; what is cut; data that can be shown and compared. -/
namespace TL
open PySem PySem.Spec PyProof.Rows L2
/-! ### trees without handles -/
mutual
def noh : D → Bool
  | .hnd _ => false
  | .any => false
  | .tup ds => nohs ds
  | .lst ds => nohs ds
  | .dct kvs => nohk kvs
  | .ins _ fs => nohf fs
  | .exc _ d => noh d
  | _ => true
def nohs : List D → Bool
  | [] => true
  | d :: ds => noh d && nohs ds
def nohk : List (Key × D) → Bool
  | [] => true
  | (_, d) :: ds => noh d && nohk ds
def nohf : List (Str × D) → Bool
  | [] => true
  | (_, d) :: ds => noh d && nohf ds
end
def nohO : O → Bool
  | .lst ds => nohs ds
  | .dct kvs => nohk kvs
  | .ins _ fs => nohf fs
  | .tbl _ => true
mutual
theorem sub_noh (f : Nat → D) : ∀ d : D, noh d = true → D.sub f d = d
  | .hnd _, h => by simp only [noh] at h; cases h
  | .any, h => by simp only [noh] at h; cases h
  | .tup ds, h => by simp only [noh] at h; simp only [D.sub, subs_noh f ds h]
  | .lst ds, h => by simp only [noh] at h; simp only [D.sub, subs_noh f ds h]
  | .dct kvs, h => by simp only [noh] at h; simp only [D.sub, subk_noh f kvs h]
  | .ins _ fs, h => by simp only [noh] at h; simp only [D.sub, subf_noh f fs h]
  | .exc _ d, h => by simp only [noh] at h; simp only [D.sub, sub_noh f d h]
  | .non, _ => by simp only [D.sub]
  | .bl _, _ => by simp only [D.sub]
  | .int _, _ => by simp only [D.sub]
  | .str _, _ => by simp only [D.sub]
  | .ty _, _ => by simp only [D.sub]
  | .scr _, _ => by simp only [D.sub]
  | .cls _, _ => by simp only [D.sub]
theorem subs_noh (f : Nat → D) : ∀ ds : List D, nohs ds = true → D.subs f ds = ds
  | [], _ => by simp only [D.subs]
  | d :: ds, h => by
    simp only [nohs, Bool.and_eq_true] at h
    simp only [D.subs, sub_noh f d h.1, subs_noh f ds h.2]
theorem subk_noh (f : Nat → D) : ∀ ds : List (Key × D), nohk ds = true → D.subk f ds = ds
  | [], _ => by simp only [D.subk]
  | (k, d) :: ds, h => by
    simp only [nohk, Bool.and_eq_true] at h
    simp only [D.subk, sub_noh f d h.1, subk_noh f ds h.2]
theorem subf_noh (f : Nat → D) : ∀ ds : List (Str × D), nohf ds = true → D.subf f ds = ds
  | [], _ => by simp only [D.subf]
  | (k, d) :: ds, h => by
    simp only [nohf, Bool.and_eq_true] at h
    simp only [D.subf, sub_noh f d h.1, subf_noh f ds h.2]
end
theorem ofz_noh (f : Nat → D) : ∀ o : O, nohO o = true → ofz f o = o
  | .lst ds, h => by simp only [nohO] at h; simp only [ofz, subs_noh f ds h]
  | .dct ds, h => by simp only [nohO] at h; simp only [ofz, subk_noh f ds h]
  | .ins _ fs, h => by simp only [nohO] at h; simp only [ofz, subf_noh f fs h]
  | .tbl _, _ => rfl
theorem nohs_all : ∀ ds : List D, nohs ds = ds.all noh
  | [] => rfl
  | d :: ds => by simp only [nohs, List.all_cons, nohs_all ds]
/-- a store whose objects hold no handles -/
def Flat (S : List O) : Prop := ∀ o ∈ S, nohO o = true
theorem Flat.nil : Flat [] := fun _ h => by cases h
theorem Flat.snoc {S : List O} {o : O} (h : Flat S) (ho : nohO o = true) : Flat (S ++ [o]) := fun x hx => by
  rcases List.mem_append.mp hx with q | q
  · exact h x q
  · rw [List.mem_singleton.mp q]
    exact ho
theorem Flat.set {S : List O} {o : O} {i : Nat} (h : Flat S) (ho : nohO o = true) : Flat (S.set i o) := fun x hx => by
  rcases List.mem_or_eq_of_mem_set hx with q | q
  · exact h x q
  · rw [q]
    exact ho
theorem Flat.left {S N : List O} (h : Flat (S ++ N)) : Flat S := fun x hx => h x (List.mem_append_left _ hx)
theorem sfz_flat {S N : List O} (h : Flat S) : sfz S.length (S ++ N) = S := by
  unfold sfz
  split
  · rename_i hl
    have : N = [] := by
      rw [List.length_append] at hl
      exact List.length_eq_zero_iff.mp (by omega)
    rw [this, List.append_nil]
  · have : (S ++ N).take S.length = S := by simp
    rw [this]
    have e : ∀ l : List O, (∀ o ∈ l, nohO o = true) → l.map (ofz (hfz S.length (S ++ N) fzd)) = l := fun l hl => by
      induction l with
      | nil => rfl
      | cons o r ih => rw [List.map_cons, ofz_noh _ o (hl o List.mem_cons_self), ih fun o ho => hl o (List.mem_cons_of_mem _ ho)]
    exact e S h
theorem dfz_noh {n : Nat} {S : List O} {d : D} (h : noh d = true) : dfz n S d = d := by
  unfold dfz
  split
  · rfl
  · exact sub_noh _ d h
theorem cut_ok {S N : List O} {d : D} (h : Flat S) (hd : noh d = true) : (Out.ok d (S ++ N)).cut S.length = .ok d S := by
  show Out.ok _ _ = _
  rw [dfz_noh hd, sfz_flat h]
theorem cut_exc {S N : List O} {C : Str} {d : D} (h : Flat S) (hd : noh d = true) : (Out.exc C d (S ++ N)).cut S.length = .exc C d S := by
  show Out.exc _ _ _ = _
  rw [dfz_noh hd, sfz_flat h]
/-- a new object that is given out -/
def frz : O → D
  | .lst ds => .lst ds
  | .dct kvs => .dct kvs
  | .ins C fs => .ins C fs
  | .tbl _ => .any
theorem hfz_new {S N : List O} {i k : Nat} {o : O} (hi : S.length ≤ i) (h : (S ++ N)[i]? = some o) (ho : nohO o = true) : hfz S.length (S ++ N) (k + 1) i = frz o := by
  unfold hfz
  rw [if_neg (by omega), h]
  cases o with
  | lst ds => simp only [nohO] at ho; simp only [subs_noh _ ds ho, frz]
  | dct ds => simp only [nohO] at ho; simp only [subk_noh _ ds ho, frz]
  | ins C fs => simp only [nohO] at ho; simp only [subf_noh _ fs ho, frz]
  | tbl q => rfl
theorem cut_new {S N : List O} {i : Nat} {o : O} (h : Flat S) (hi : S.length ≤ i) (hs : (S ++ N)[i]? = some o) (ho : nohO o = true) : (Out.ok (.hnd i) (S ++ N)).cut S.length = .ok (frz o) S := by
  have hl : i < (S ++ N).length := (List.getElem?_eq_some_iff.mp hs).1
  show Out.ok (dfz _ _ _) _ = _
  rw [sfz_flat h]
  unfold dfz
  rw [if_neg (by omega)]
  simp only [D.sub]
  rw [hfz_new hi hs ho]
/-- a new last object, given out -/
theorem cut_last {S : List O} {o : O} (h : Flat S) (ho : nohO o = true) : (Out.ok (.hnd S.length) (S ++ [o])).cut S.length = .ok (frz o) S := cut_new h (Nat.le_refl _) (by simp) ho
/-- the old store may have changed in place -/
theorem cut_ok' {n : Nat} {S N : List O} {d : D} (hn : S.length = n) (h : Flat S) (hd : noh d = true) : (Out.ok d (S ++ N)).cut n = .ok d S := by
  subst hn
  exact cut_ok h hd
theorem cut_new' {n : Nat} {S N : List O} {i : Nat} {o : O} (hn : S.length = n) (h : Flat S) (hi : n ≤ i) (hs : (S ++ N)[i]? = some o) (ho : nohO o = true) : (Out.ok (.hnd i) (S ++ N)).cut n = .ok (frz o) S := by
  subst hn
  exact cut_new h hi hs ho
/-! ### rows -/
def rg1 (ds : List D) (S1 : List O) : Out (List D) := match ds with
  | [.int j] => if -(2 ^ 62) ≤ j ∧ j < 2 ^ 62 then .ok (rng 0 j) S1 else .stuck
  | _ => .stuck
def rg2 (ds : List D) (S1 : List O) : Out (List D) := match ds with
  | [.int i, .int j] => if -(2 ^ 62) ≤ i ∧ i < 2 ^ 62 ∧ -(2 ^ 62) ≤ j ∧ j < 2 ^ 62 then .ok (rng i j) S1 else .stuck
  | _ => .stuck
theorem rg1_ok {j : Int} {S : List O} (h0 : 0 ≤ j) (h : j < 2 ^ 62) : rg1 [.int j] S = .ok (rng 0 j) S := by
  show (if _ then _ else _) = _
  rw [if_pos ⟨by omega, h⟩]
theorem rg2_ok {i j : Int} {S : List O} (h0 : 0 ≤ i) (h : i < 2 ^ 62) (h1 : 0 ≤ j) (h2 : j < 2 ^ 62) : rg2 [.int i, .int j] S = .ok (rng i j) S := by
  show (if _ then _ else _) = _
  rw [if_pos ⟨by omega, h, by omega, h2⟩]
@[simp] theorem iRg1_ap (x : TAx) (ρ : Env1) (S : List O) : iRg1 x ρ S = (x ρ S).bind rg1 := rfl
@[simp] theorem iRg2_ap (x : TAx) (ρ : Env1) (S : List O) : iRg2 x ρ S = (x ρ S).bind rg2 := rfl
def itAny (d : D) (S1 : List O) : Out (List D) := match d with
  | .lst ds => .ok ds S1
  | .scr ns => .ok (ns.map D.int) S1
  | .tup ds => .ok ds S1
  | .str x => .ok (TL.signs x) S1
  | .dct kvs => .ok (kvs.map fun kv => keyD kv.1) S1
  | _ => .stuck
def itTp (d : D) (S1 : List O) : Out (List D) := match d with
  | .tup ds => .ok ds S1
  | _ => .stuck
def itLst (d : D) (S1 : List O) : Out (List D) := match d with
  | .lst ds => .ok ds S1
  | .scr ns => .ok (ns.map D.int) S1
  | _ => .stuck
def itDk (d : D) (S1 : List O) : Out (List D) := match d with
  | .dct kvs => .ok (kvs.map fun kv => keyD kv.1) S1
  | _ => .stuck
def itDi (d : D) (S1 : List O) : Out (List D) := match d with
  | .dct kvs => .ok (kvs.map fun kv => D.tup [keyD kv.1, kv.2]) S1
  | _ => .stuck
def itStx (d : D) (S1 : List O) : Out (List D) := match d with
  | .str x => .ok (TL.signs x) S1
  | _ => .stuck
section
variable (a b c : TEx) (t : TSx) (ρ : Env1) (S : List O) (d : D) (ds : List D)
@[simp] theorem eCut_ap : eCut a ρ S = (a ρ S).cut S.length := rfl
@[simp] theorem sCut_ap : sCut t ρ S = (t ρ S).cut S.length := rfl
@[simp] theorem sExpr_ap : sExpr a ρ S = (a ρ S).stm ρ fun _ S1 => .nx ρ S1 := rfl
@[simp] theorem sRaise_ap (C : Str) : sRaise C a ρ S = (a ρ S).stm ρ fun q S1 => .exc C q ρ S1 := rfl
@[simp] theorem sPar_ap (i j : Nat) (u : TAx) : sPar i j u ρ S = (u ρ S).stm ρ fun ds S1 => match ds with
  | [x, y] => .nx ((ρ.set i (some x)).set j (some y)) S1
  | _ => .stuck := rfl
@[simp] theorem sPar3_ap (i j l : Nat) (u : TAx) : sPar3 i j l u ρ S = (u ρ S).stm ρ fun ds S1 => match ds with
  | [x, y, w] => .nx (((ρ.set i (some x)).set j (some y)).set l (some w)) S1
  | _ => .stuck := rfl
@[simp] theorem sFldD_ap (Cs : List Str) (f : Str) : sFldD Cs f a b ρ S = (a ρ S).stm ρ fun v S1 => (b ρ S1).stm ρ fun x S2 => match setF Cs f x v S2 with
  | some S3 => .nx ρ S3
  | none => .stuck := rfl
@[simp] theorem sDput_ap : sDput a b c ρ S = (c ρ S).stm ρ fun w S1 => (a ρ S1).stm ρ fun x S2 => (b ρ S2).stm ρ fun y S3 => match setDk x y w S3 with
  | some S4 => .nx ρ S4
  | none => .stuck := rfl
@[simp] theorem eGet2_ap : eGet2 a b c ρ S = (a ρ S).bind fun x S1 => if (dctOf S1 x).isSome then (b ρ S1).bind fun y S2 => (c ρ S2).bind fun w S3 => dgt2D x y w S3 else .stuck := rfl
@[simp] theorem eMeth_ap (C m : Str) (F : TF) (u : TAx) : eMeth C m F a u ρ S = (a ρ S).bind fun x S1 => recv C m x S1 ((u ρ S1).bind fun xs S2 => F (x :: xs) S2) := rfl
@[simp] theorem eCallO_ap (C : Str) (F : TF) (u : TAx) : eCallO C F a u ρ S = (a ρ S).bind fun x S1 => if isOwn C S1 x then (u ρ S1).bind fun xs S2 => if isOwn C S2 x then F (x :: xs) S2 else .stuck else .stuck := rfl
@[simp] theorem eDc_ap (own : Bool) (vs : List Nat) (ti : TIx) (tg : TGx) (tt : TTx) (tk tv : TEx) : eDc own vs ti tg tt tk tv ρ S = (ti ρ S).bind fun ds S1 => if ds.length ≤ sizeLine then (compD vs tg tt tk tv ds [] ρ S1).bind (mkD own) else .stuck := rfl
@[simp] theorem eChain_ap (f f' : D → D → List O → Out D) : eChain f f' a b c ρ S = (a ρ S).bind fun x S1 => (b ρ S1).bind fun y S2 => (f x y S2).test.bind fun k S3 => if k = true then (c ρ S3).bind fun z S4 => f' y z S4 else .ok (.bl false) S3 := rfl
@[simp] theorem eBinS_ap (f : D → D → List O → Out D) : eBinS f a b ρ S = (a ρ S).bind fun x S1 => strGd x ((b ρ S1).bind fun y S2 => f x y S2) := rfl
@[simp] theorem eSl_ap (own : Bool) (u w : TOx) : eSl own a u w ρ S = (a ρ S).bind fun x S1 => (u ρ S1).bind fun lo S2 => (w ρ S2).bind fun hi S3 => slD own x lo hi S3 := rfl
@[simp] theorem oSome_ap : oSome a ρ S = (a ρ S).bind fun d S1 => match d with
  | .int i => .ok (some i) S1
  | _ => .stuck := rfl
@[simp] theorem iAny_ap : iAny a ρ S = (a ρ S).bind itAny := rfl
@[simp] theorem iTp_ap : iTp a ρ S = (a ρ S).bind itTp := rfl
@[simp] theorem iLst_ap : iLst a ρ S = (a ρ S).bind itLst := rfl
@[simp] theorem iDk_ap : iDk a ρ S = (a ρ S).bind itDk := rfl
@[simp] theorem iDi_ap : iDi a ρ S = (a ρ S).bind itDi := rfl
@[simp] theorem iStx_ap : iStx a ρ S = (a ρ S).bind itStx := rfl
@[simp] theorem itTp_tup : itTp (.tup ds) S = .ok ds S := rfl
@[simp] theorem itLst_lst : itLst (.lst ds) S = .ok ds S := rfl
@[simp] theorem itLst_scr (ns : List Int) : itLst (.scr ns) S = .ok (ns.map D.int) S := rfl
@[simp] theorem itAny_tup : itAny (.tup ds) S = .ok ds S := rfl
@[simp] theorem itAny_lst : itAny (.lst ds) S = .ok ds S := rfl
@[simp] theorem itAny_str (x : Str) : itAny (.str x) S = .ok (TL.signs x) S := rfl
@[simp] theorem itAny_dct (k : List (Key × D)) : itAny (.dct k) S = .ok (k.map fun kv => keyD kv.1) S := rfl
@[simp] theorem itDk_dct (k : List (Key × D)) : itDk (.dct k) S = .ok (k.map fun kv => keyD kv.1) S := rfl
@[simp] theorem itDi_dct (k : List (Key × D)) : itDi (.dct k) S = .ok (k.map fun kv => D.tup [keyD kv.1, kv.2]) S := rfl
@[simp] theorem itStx_str (x : Str) : itStx (.str x) S = .ok (TL.signs x) S := rfl
@[simp] theorem iZp_ap (u : TAx) : iZp u ρ S = (u ρ S).bind fun ds S1 => match ds with
  | [.lst as, .lst bs] => .ok (zipD as bs) S1
  | _ => .stuck := rfl
@[simp] theorem cut_stuck (n : Nat) : (Out.stuck : Out D).cut n = .stuck := rfl
@[simp] theorem stm_stuck {α : Type} (q : α → List O → OutS) : (Out.stuck : Out α).stm ρ q = .stuck := rfl
@[simp] theorem stm_exc {α : Type} (C : Str) (q : α → List O → OutS) : (Out.exc C d S : Out α).stm ρ q = .exc C d ρ S := rfl
@[simp] theorem seq_exc (C : Str) (r : TSx) : (OutS.exc C d ρ S).seq r = .exc C d ρ S := rfl
@[simp] theorem seq_stuck (r : TSx) : OutS.stuck.seq r = .stuck := rfl
@[simp] theorem fin_exc (C : Str) : (OutS.exc C d ρ S).fin = .exc C d S := rfl
@[simp] theorem test_exc (C : Str) : (Out.exc C d S).test = .exc C d S := rfl
@[simp] theorem tru_bl (b : Bool) : truD S (.bl b) = some b := rfl
@[simp] theorem tru_int (i : Int) : truD S (.int i) = some (i != 0) := rfl
@[simp] theorem tru_non : truD S .non = some false := rfl
@[simp] theorem tru_tup : truD S (.tup ds) = some (!ds.isEmpty) := rfl
@[simp] theorem tru_lst : truD S (.lst ds) = some (!ds.isEmpty) := rfl
@[simp] theorem addU_int (o : Bool) (i j : Int) : addU o (.int i) (.int j) S = .ok (.int (i + j)) S := rfl
@[simp] theorem addU_tup (o : Bool) (a b : List D) : addU o (.tup a) (.tup b) S = addD (.tup a) (.tup b) S := rfl
@[simp] theorem addU_str (o : Bool) (a b : Str) : addU o (.str a) (.str b) S = addD (.str a) (.str b) S := rfl
@[simp] theorem addU_lst (o : Bool) (a b : List D) : addU o (.lst a) (.lst b) S = catD o (.lst a) (.lst b) S := rfl
@[simp] theorem ixU_lst (a : List D) (i : D) : ixU (.lst a) i S = ixD (.lst a) i S := rfl
@[simp] theorem ixU_tup (a : List D) (i : D) : ixU (.tup a) i S = ixD (.tup a) i S := rfl
@[simp] theorem ixU_scr (a : List Int) (i : D) : ixU (.scr a) i S = ixD (.scr a) i S := rfl
@[simp] theorem ixU_dct (a : List (Key × D)) (i : D) : ixU (.dct a) i S = dgetD (.dct a) i S := rfl
/-! isinstance -/
@[simp] theorem isi_int_int (ex ow : List Str) (i : Int) : isiA ex ow [.int i, .ty "int"] S = .ok (.bl true) S := rfl
@[simp] theorem isi_int_bool (ex ow : List Str) (i : Int) : isiA ex ow [.int i, .ty "bool"] S = .ok (.bl false) S := rfl
@[simp] theorem isi_int_tuple (ex ow : List Str) (i : Int) : isiA ex ow [.int i, .ty "tuple"] S = .ok (.bl false) S := rfl
@[simp] theorem isi_int_str (ex ow : List Str) (i : Int) : isiA ex ow [.int i, .ty "str"] S = .ok (.bl false) S := rfl
@[simp] theorem isi_str_str (ex ow : List Str) (x : Str) : isiA ex ow [.str x, .ty "str"] S = .ok (.bl true) S := rfl
@[simp] theorem isi_str_int (ex ow : List Str) (x : Str) : isiA ex ow [.str x, .ty "int"] S = .ok (.bl false) S := rfl
@[simp] theorem isi_tup_tuple (ex ow : List Str) : isiA ex ow [.tup ds, .ty "tuple"] S = .ok (.bl true) S := rfl
@[simp] theorem isi_tup_int (ex ow : List Str) : isiA ex ow [.tup ds, .ty "int"] S = .ok (.bl false) S := rfl
@[simp] theorem isi_dct_dict (ex ow : List Str) (k : List (Key × D)) : isiA ex ow [.dct k, .ty "dict"] S = .ok (.bl true) S := rfl
theorem isi_ins_ty {ex ow : List Str} {C : Str} {fs : List (Str × D)} {n : String} (h : C ∈ ow) (hn : n ∈ tyR) : isiA ex ow [.ins C fs, .ty n] S = .ok (.bl false) S := by
  show (if C ∈ ow ∧ n ∈ tyR then _ else _) = _
  rw [if_pos ⟨h, hn⟩]
theorem isi_ins_cls {ex ow : List Str} {C B : Str} {fs : List (Str × D)} (h : C ∈ ow) (hB : B ∈ ow) : isiA ex ow [.ins C fs, .cls B] S = .ok (.bl (decide (C = B))) S := by
  show (if C ∈ ow then _ else _) = _
  rw [if_pos h, if_pos hB]
theorem isi_int_cls {ex ow : List Str} {i : Int} {B : Str} (hB : B ∈ ow) : isiA ex ow [.int i, .cls B] S = .ok (.bl false) S := by
  show (if _ ∧ (B ∈ ow ∨ B ∈ ex) then _ else _) = _
  rw [if_pos ⟨by decide, .inl hB⟩]
/-! fields -/
theorem fld_ins {Cs : List Str} {f C : Str} {fs : List (Str × D)} {v : D} (h : C ∈ Cs) (hv : fs.lookup f = some v) : fldD Cs f (.ins C fs) S = .ok v S := by
  show (if C ∈ Cs then _ else _) = _
  rw [if_pos h, hv]
theorem prop_ins {C : Str} {F : TF} {fs : List (Str × D)} : propD C F (.ins C fs) S = (F [.ins C fs] S).nox := by
  show (if C = C then _ else _) = _
  rw [if_pos rfl]
theorem isOwn_ins {C C' : Str} {fs : List (Str × D)} : isOwn C S (.ins C' fs) = (C' == C) := rfl
@[simp] theorem isOwn_int {C : Str} {i : Int} : isOwn C S (.int i) = false := rfl
theorem setF_last {Cs : List Str} {f C : Str} {fs : List (Str × D)} {v : D} (h : C ∈ Cs) (hl : fs.length < 900) : setF Cs f (.hnd S.length) v (S ++ [.ins C fs]) = some (S ++ [.ins C (putFD f v fs)]) := by
  unfold setF
  simp only [List.getElem?_append_right (Nat.le_refl _), Nat.sub_self, List.getElem?_cons_zero]
  rw [if_pos ⟨h, hl⟩]
  simp
end
/-! ### comprehensions that are reckoned -/
/-- a comprehension that changes nothing, with a test -/
theorem compL_sel {vs : List Nat} {tg : TGx} {tt : TTx} {te : TEx} {ρ : Env1} {S : List O} (c : D → Bool) (f : D → D) : ∀ (ds acc : List D), (∀ d ∈ ds, ∃ ρ1, tg d (wipeD ρ vs) S = .nx ρ1 S ∧ tt ρ1 S = .ok (c d) S ∧ (c d = true → te ρ1 S = .ok (f d) S)) → compL vs tg tt te ds acc ρ S = .ok (acc ++ (ds.filter c).map f) S
  | [], acc, _ => by simp [compL]
  | d :: ds, acc, q => by
    obtain ⟨ρ1, h1, h2, h3⟩ := q d List.mem_cons_self
    unfold compL
    rw [h1]
    simp only [nox_nx, bind_ok, h2, nox_ok]
    by_cases hc : c d = true
    · rw [if_pos hc, h3 hc]
      simp only [nox_ok, bind_ok]
      rw [compL_sel c f ds _ fun d hd => q d (List.mem_cons_of_mem _ hd)]
      simp [hc]
    · rw [if_neg hc, compL_sel c f ds _ fun d hd => q d (List.mem_cons_of_mem _ hd)]
      simp [hc]
/-- the same by the members' own forms: ds = xs.map of -/
theorem compL_map {α : Type} {vs : List Nat} {tg : TGx} {tt : TTx} {te : TEx} {ρ : Env1} {S : List O} (of : α → D) (f : α → D) : ∀ (xs : List α) (acc : List D), (∀ x ∈ xs, ∃ ρ1, tg (of x) (wipeD ρ vs) S = .nx ρ1 S ∧ tt ρ1 S = .ok true S ∧ te ρ1 S = .ok (f x) S) → compL vs tg tt te (xs.map of) acc ρ S = .ok (acc ++ xs.map f) S
  | [], acc, _ => by simp [compL]
  | x :: xs, acc, q => by
    obtain ⟨ρ1, h1, h2, h3⟩ := q x List.mem_cons_self
    rw [List.map_cons]
    unfold compL
    rw [h1]
    simp only [nox_nx, bind_ok, h2, nox_ok, if_true, h3]
    rw [compL_map of f xs _ fun d hd => q d (List.mem_cons_of_mem _ hd)]
    simp
theorem compL_filt {α : Type} {vs : List Nat} {tg : TGx} {tt : TTx} {te : TEx} {ρ : Env1} {S : List O} (of : α → D) (c : α → Bool) (f : α → D) : ∀ (xs : List α) (acc : List D), (∀ x ∈ xs, ∃ ρ1, tg (of x) (wipeD ρ vs) S = .nx ρ1 S ∧ tt ρ1 S = .ok (c x) S ∧ (c x = true → te ρ1 S = .ok (f x) S)) → compL vs tg tt te (xs.map of) acc ρ S = .ok (acc ++ (xs.filter c).map f) S
  | [], acc, _ => by simp [compL]
  | x :: xs, acc, q => by
    obtain ⟨ρ1, h1, h2, h3⟩ := q x List.mem_cons_self
    rw [List.map_cons]
    unfold compL
    rw [h1]
    simp only [nox_nx, bind_ok, h2, nox_ok]
    by_cases hc : c x = true
    · rw [if_pos hc, h3 hc]
      simp only [nox_ok, bind_ok]
      rw [compL_filt of c f xs _ fun d hd => q d (List.mem_cons_of_mem _ hd)]
      simp [hc]
    · rw [if_neg hc, compL_filt of c f xs _ fun d hd => q d (List.mem_cons_of_mem _ hd)]
      simp [hc]
/-- a dict comprehension with unlike keys -/
theorem hasK_snoc (kvs : List (Key × D)) (k : Key) (d : D) (j : Key) : hasK (kvs ++ [(k, d)]) j = (hasK kvs j || decide (k = j)) := by
  unfold hasK
  simp
theorem compD_map {α : Type} {vs : List Nat} {tg : TGx} {tt : TTx} {tk tv : TEx} {ρ : Env1} {S : List O} (of : α → D) (k : α → Key) (v : α → D) : ∀ (xs : List α) (acc : List (Key × D)), (∀ x ∈ xs, hasK acc (k x) = false) → (xs.map k).Nodup →
    (∀ x ∈ xs, ∃ ρ1 y, tg (of x) (wipeD ρ vs) S = .nx ρ1 S ∧ tt ρ1 S = .ok true S ∧ tk ρ1 S = .ok y S ∧ keyOf y = some (k x) ∧ tv ρ1 S = .ok (v x) S) → compD vs tg tt tk tv (xs.map of) acc ρ S = .ok (acc ++ xs.map fun x => (k x, v x)) S
  | [], acc, _, _, _ => by simp [compD]
  | x :: xs, acc, hn, nd, q => by
    obtain ⟨ρ1, y, h1, h2, h3, h4, h5⟩ := q x List.mem_cons_self
    rw [List.map_cons] at nd
    obtain ⟨nd1, nd2⟩ := List.nodup_cons.mp nd
    rw [List.map_cons]
    unfold compD
    rw [h1]
    simp only [nox_nx, bind_ok, h2, nox_ok, if_true, h3, h4, h5]
    have e : putG acc (k x) (v x) = acc ++ [(k x, v x)] := by
      unfold putG
      rw [hn x List.mem_cons_self]
      rfl
    rw [e, compD_map of k v xs _ (fun z hz => ?_) nd2 fun d hd => q d (List.mem_cons_of_mem _ hd)]
    · simp
    · rw [hasK_snoc, hn z (List.mem_cons_of_mem _ hz)]
      simp only [Bool.false_or, decide_eq_false_iff_not]
      exact fun e => nd1 (by rw [e]; exact List.mem_map.mpr ⟨z, hz, rfl⟩)
/-- merging unlike keys -/
theorem mergeG_nodup : ∀ (more acc : List (Key × D)), (∀ p ∈ more, hasK acc p.1 = false) → (more.map (·.1)).Nodup → mergeG acc more = acc ++ more
  | [], acc, _, _ => by simp [mergeG]
  | (k, d) :: more, acc, hn, nd => by
    rw [List.map_cons] at nd
    obtain ⟨nd1, nd2⟩ := List.nodup_cons.mp nd
    have e : putG acc k d = acc ++ [(k, d)] := by
      unfold putG
      rw [hn (k, d) List.mem_cons_self]
      rfl
    show mergeG (putG acc k d) more = _
    rw [e, mergeG_nodup more _ (fun z hz => ?_) nd2]
    · simp
    · rw [hasK_snoc, hn z (List.mem_cons_of_mem _ hz)]
      simp only [Bool.false_or, decide_eq_false_iff_not]
      exact fun e => nd1 (by rw [e]; exact List.mem_map.mpr ⟨z, hz, rfl⟩)
/-! ### data that can be shown and compared -/
/-- plain data of this depth and weight, its ints short -/
structure Gd (k w : Nat) (d : D) (x : PyData) : Prop where
  eq : TL.pd d = some x
  lay : x.canLay0 = true
  small : x.intsShort 13 = true
  can : x.showable = true
  dep : x.depth ≤ k
  wei : x.weight ≤ w
theorem Gd.up {k w k' w' : Nat} {d : D} {x : PyData} (h : Gd k w d x) (hk : k ≤ k') (hw : w ≤ w') : Gd k' w' d x := ⟨h.eq, h.lay, h.small, h.can, Nat.le_trans h.dep hk, Nat.le_trans h.wei hw⟩
theorem log2_lt {i : Int} {n : Nat} (h : i.natAbs < 2 ^ n) (hn : 0 < n) : i.natAbs.log2 < n := by
  by_cases h0 : i.natAbs = 0
  · rw [h0]
    simpa using hn
  · exact (Nat.log2_lt h0).mpr h
theorem gd_int {i : Int} (h : i.natAbs < 10 ^ 12) : Gd 0 41 (.int i) (.int i) := by
  have h2 : i.natAbs.log2 < 40 := log2_lt (by omega) (by decide)
  have h3 := PyData.intsShortAll_ints [i] (fun n hn => by rw [List.mem_singleton.mp hn]; exact h)
  refine ⟨by simp only [TL.pd], rfl, ?_, ?_, by simp [PyData.depth], ?_⟩
  · simpa only [List.map_cons, List.map_nil, PyData.intsShortAll, Bool.and_true] using h3
  · simp only [PyData.showable, decide_eq_true_eq]
    omega
  · simp only [PyData.weight]
    split <;> omega
theorem gd_str {x : Str} {w : Nat} (h : PyData.strOk x = true) (hw : x.cps.size ≤ w) : Gd 0 w (.str x) (.str x) :=
  ⟨by simp only [TL.pd], by simpa only [PyData.canLay0] using h, rfl, rfl, by simp [PyData.depth], by simpa only [PyData.weight] using hw⟩
theorem gd_bl {b : Bool} : Gd 0 0 (.bl b) (.bool b) := ⟨by simp only [TL.pd], rfl, rfl, rfl, by simp [PyData.depth], by simp [PyData.weight]⟩
theorem gd_non : Gd 0 0 .non .none := ⟨by simp only [TL.pd], rfl, rfl, rfl, by simp [PyData.depth], by simp [PyData.weight]⟩
/-- lists of data -/
structure Gds (k w : Nat) (ds : List D) (xs : List PyData) : Prop where
  eq : pds ds = some xs
  lay : PyData.canLayAll0 xs = true
  small : PyData.intsShortAll 13 xs = true
  can : PyData.showableAll xs = true
  dep : PyData.depthAll xs ≤ k
  wei : PyData.weightAll xs ≤ w
theorem gds_nil {k w : Nat} : Gds k w [] [] := ⟨by simp only [pds], rfl, rfl, rfl, by simp [PyData.depthAll], by simp [PyData.weightAll]⟩
theorem gds_cons {k w w' : Nat} {d : D} {x : PyData} {ds : List D} {xs : List PyData} (h : Gd k w d x) (r : Gds k w' ds xs) : Gds k (w + 1 + w') (d :: ds) (x :: xs) := by
  refine ⟨?_, ?_, ?_, ?_, ?_, ?_⟩
  · simp only [pds, h.eq, r.eq, Option.bind_some, Option.map_some]
  · simp only [PyData.canLayAll0, h.lay, r.lay, Bool.and_self]
  · simp only [PyData.intsShortAll, h.small, r.small, Bool.and_self]
  · simp only [PyData.showableAll, h.can, r.can, Bool.and_self]
  · simp only [PyData.depthAll]
    have := h.dep
    have := r.dep
    omega
  · simp only [PyData.weightAll]
    have := h.wei
    have := r.wei
    omega
theorem gd_tup {k w : Nat} {ds : List D} {xs : List PyData} (r : Gds k w ds xs) : Gd (k + 1) w (.tup ds) (.tuple xs) := by
  refine ⟨by simp only [TL.pd, r.eq, Option.map_some], ?_, ?_, ?_, ?_, ?_⟩
  · simpa only [PyData.canLay0] using r.lay
  · simpa only [PyData.intsShort] using r.small
  · simpa only [PyData.showable] using r.can
  · simp only [PyData.depth]
    have := r.dep
    omega
  · simpa only [PyData.weight] using r.wei
theorem gd_lst {k w : Nat} {ds : List D} {xs : List PyData} (r : Gds k w ds xs) : Gd (k + 1) w (.lst ds) (.list xs) := by
  refine ⟨by simp only [TL.pd, r.eq, Option.map_some], ?_, ?_, ?_, ?_, ?_⟩
  · simpa only [PyData.canLay0] using r.lay
  · simpa only [PyData.intsShort] using r.small
  · simpa only [PyData.showable] using r.can
  · simp only [PyData.depth]
    have := r.dep
    omega
  · simpa only [PyData.weight] using r.wei
theorem gds_map {α : Type} {k w : Nat} (f : α → D) (g : α → PyData) : ∀ l : List α, (∀ a ∈ l, Gd k w (f a) (g a)) → Gds k (l.length * (w + 1)) (l.map f) (l.map g)
  | [], _ => by simpa using gds_nil
  | a :: l, h => by
    have := gds_cons (h a List.mem_cons_self) (gds_map f g l fun b hb => h b (List.mem_cons_of_mem _ hb))
    rw [List.map_cons, List.map_cons, List.length_cons, Nat.succ_mul]
    have e : l.length * (w + 1) + (w + 1) = w + 1 + l.length * (w + 1) := by omega
    rw [e]
    exact this
theorem gd_repr {k w : Nat} {d : D} {x : PyData} {S : List O} (h : Gd k w d x) (hk : k ≤ 32) (hw : w ≤ 2 ^ 20) : reprD [d] S = .ok (.str x.shown) S := by
  have l : x.layable0 = true := by
    show (PyData.canLay0 x && decide (PyData.depth x ≤ 64) && decide (PyData.weight x ≤ 2 ^ 20)) = true
    simp only [h.lay, Bool.true_and, Bool.and_eq_true, decide_eq_true_eq]
    exact ⟨Nat.le_trans h.dep (by omega), Nat.le_trans h.wei hw⟩
  have s := PyData.shown_fits_of_layable0 (B := 13) (by decide) (by decide) l h.small
  have ok : reprOk x = true := by
    unfold reprOk
    simp only [h.can, Bool.true_and, Bool.and_eq_true, decide_eq_true_eq]
    exact ⟨Nat.le_trans h.dep hk, s⟩
  unfold reprD
  simp only [h.eq]
  rw [if_pos ok]
theorem Gd.shaped {k w : Nat} {d : D} {x : PyData} (h : Gd k w d x) (hk : k ≤ 32) : SeqAt.shaped x = true := by
  unfold SeqAt.shaped
  simp only [h.lay, Bool.true_and, decide_eq_true_eq]
  exact Nat.le_trans h.dep (by omega)
theorem gd_eq_tup {k w k' w' : Nat} {a b : List D} {x y : PyData} {S : List O} (h : Gd k w (.tup a) x) (h' : Gd k' w' (.tup b) y) (hk : k ≤ 32) (hk' : k' ≤ 32) : eqD (.tup a) (.tup b) S = .ok (.bl (PyData.eqv x y)) S := by
  unfold eqD
  simp only [h.eq, h'.eq]
  rw [if_pos ⟨h.shaped hk, h'.shaped hk'⟩]
theorem gd_ne_tup {k w k' w' : Nat} {a b : List D} {x y : PyData} {S : List O} (h : Gd k w (.tup a) x) (h' : Gd k' w' (.tup b) y) (hk : k ≤ 32) (hk' : k' ≤ 32) : neD (.tup a) (.tup b) S = .ok (.bl (!PyData.eqv x y)) S := by
  unfold neD
  simp only [h.eq, h'.eq]
  rw [if_pos ⟨h.shaped hk, h'.shaped hk'⟩]
@[simp] theorem eq_str {x y : Str} {S : List O} : eqD (.str x) (.str y) S = .ok (.bl (decide (x = y))) S := rfl
@[simp] theorem eq_int {x y : Int} {S : List O} : eqD (.int x) (.int y) S = .ok (.bl (decide (x = y))) S := rfl
@[simp] theorem ne_str {x y : Str} {S : List O} : neD (.str x) (.str y) S = .ok (.bl (!decide (x = y))) S := rfl
@[simp] theorem ne_int {x y : Int} {S : List O} : neD (.int x) (.int y) S = .ok (.bl (!decide (x = y))) S := rfl
end TL
set_option Elab.async false
set_option linter.all false
set_option maxRecDepth 100000
set_option maxHeartbeats 4000000
/-! The tree layer, part 37: told(lambda: e): what a lambda gives back, or the error that it raises. -/
namespace TL
open PySem PySem.Spec PyProof.Rows L2 LamX
section
variable {X : Cx} {pins : List (Addr × Obj)} {σ : L2.St} {H : Hp} {s : Shared}
/-- the lambda's call in the def that got it -/
theorem pe_actG {Ng : List Str} {qg : Str} {sg : Scope} {g f c' : Addr} {cdg pm ctv : Value} {params : Arguments} {body : Expr} {scope : Scope} {k i : Nat} {a : Str} {pn : List (Addr × Obj)} {xe : Value → Shared → Prop} {W : WX} {E : XK} {tb : TE} {p1 p2 : Pos}
    (I : Inv X pins σ H s) (gd : X.A.guards = some []) (L : LamS X.env.scope scope) (hf : s.heap.get? f = some (PySem.W.kla_obj "<lambda>" (X.env.qual ++ "<lambda>") params body scope (cloFrom X.env.cells scope.names []) pm c' ctv)) (hfn : H f = none) (hfr : f ∉ frs X.stack)
    (hbind : bindArgs (PySem.W.kla_fn "<lambda>" (X.env.qual ++ "<lambda>") params body scope (cloFrom X.env.cells scope.names []) pm (.ref c') ctv) ⟨[], []⟩ = pure [])
    (tk : Takes ((cxOf C8.CX0 X.prog X.w X.K X.mg X.base Ng qg sg g cdg X.A X.stack s H C8.E0).tr pn xe) W) (hr : Room (k + 1) (X.A.deeper (envOfC qg sg s.heap.objs.size g cdg)))
    (hbody : ∀ (A : Around) (outer : List Env) (s : Shared) (H : Hp), Room k (A.deeper (lamEnv X scope s.heap.objs.size f c')) → A.guards = some [] → PE (lamCx X A outer s H E scope f c') body tb)
    (hN : Ng[i]? = some a) (hv : Vis sg a) (hd : (a == ("__debug__" : Str)) = false := by decide) (hcd : (a == ("__classdict__" : Str)) = false := by decide) :
    PE ((cxOf C8.CX0 X.prog X.w X.K X.mg X.base Ng qg sg g cdg X.A X.stack s H C8.E0).tr pn xe) (.Call (.Name a p1) [] [] p2)
      (fun σ1 H1 Q => (∀ cls d H', E cls d H' → W cls d σ1 H') ∧ σ1[i]? = some (some (.ref f)) ∧ H1 c' = some (CodeO c' (X.env.qual ++ "<lambda>")) ∧ tb σ H1 Q) := by
  refine ⟨fun pins1 s0 σ1 H0 Q I0 h => ?_⟩
  obtain ⟨hW, hs, hc, ht⟩ := h
  refine wpAny_Call_Name_kw (thn ((pe_var (pos := p1) (i := i) hN hv hd hcd).run pins1 s0 σ1 H0 (fun v H1 => v = .ref f ∧ H1 = H0) I0 ⟨.ref f, hs, rfl, rfl⟩) fun u s1 ⟨v, H1, I1, r1, ev, eH⟩ => ?_)
  subst ev eH
  obtain rfl : u = Value.ref f := r1
  have at1 : s1.heap.get? f = some (PySem.W.kla_obj "<lambda>" (X.env.qual ++ "<lambda>") params body scope (cloFrom X.env.cells scope.names []) pm c' ctv) := I1.base.keep f _ hf hfn hfr (fun z => nomatch (show f ∈ ([] : List Addr) from z))
  refine PySem.W.callWith_F0 ⟨_, _, _, _, at1⟩ ?_
  have un : Un (frs X.stack) [] H H1 s.heap s1.heap := I1.base
  obtain ⟨⟨oc, vs, t, hoc, hdc, hvc⟩, _, _⟩ := I1.hok c' _ hc
  have rc : codeAny (model X.prog X.w) (X.A.deeper (envOfC qg sg s.heap.objs.size g cdg)) (.call (.ref f) ⟨[], []⟩) (CR (L2.CX X.prog X.w) (envOfC qg sg s.heap.objs.size g cdg :: X.stack) X.prog X.w H1 s1 Q E) s1 := by
    refine PySem.W.kla_callFunE hr.depth at1 rfl L.co L.gen rfl ⟨c', oc, vs, t, rfl, hoc, hdc, hvc⟩ ?_
    rw [hbind]
    refine wpAny_pure (wpAny_newFunctionEnv (fun y hy => (L.own y hy).2) (fun y hy => absurd hy (by simp)) (fun h₁ hns hsb => ⟨I1.nolimit.fresh _ hsb, ?_⟩) L.kind)
    show codeAny _ _ (.expr body (lamEnv X scope s1.heap.objs.size f c')) _ _
    have kp : ∀ b o, s1.heap.get? b = some o → h₁.get? b = some o := fun b o e => hsb.extBut b o (Nat.ne_of_lt (Heap.lt_size e)) (Heap.get?_push_of_some _ e)
    have J := lam_start2 (E := E) (f := f) (c' := c') (tk := s1.toks + ([] : List (Str × Value)).length) I L I1.env0 hr.hd un hns kp
    refine PySem.W.kla_codeExpr (wpAny_mono ((hbody _ _ s1 H1 (hr.deeper _) gd).run [] _ _ H1 Q J ht) (fun v s' hq => ?_) fun e s' hq => hq)
    obtain ⟨w', H', J', rv, q⟩ := hq
    exact ⟨w', H', J'.os, J'.bare, J'.base, J'.hok, rv, q⟩
  refine wpAny_call (codeAny_mono rc fun r s' hq => ?_)
  cases r with
  | error e => exact tk e s' (XE.of_call I1 (fun cls d H' h => hW cls d H' h) hq)
  | ok fl =>
    cases fl with
    | ret u => exact I1.after hq
    | next => exact False.elim hq
    | brk => exact False.elim hq
    | cont => exact False.elim hq
/-! ### the def told -/
abbrev nLook : Str := "_law_look"
abbrev nCaught : Str := "_law_caught"
abbrev nBack : Str := "_law_back"
abbrev nErr : Str := "error"
abbrev Ntold : List Str := [nLook, nCaught, nBack, nErr]
/-- what told makes of what the lambda does -/
def QTold (f : Addr) (Q : VK) : VK := fun v H' => tRet (tTup (tCons (tVar 1) (tCons (tVar 2) tNil))) { nx := fun _ H' => Q .non H', rt := Q } [some (.ref f), some .non, some v, none] H'
theorem qtold {f : Addr} {Q : VK} {v : V} {H' : Hp} (h : ∀ p, H' p = none → Q (.ref p) (upd H' p (.tup [.non, v]))) : QTold f Q v H' := ⟨_, rfl, _, rfl, by rw [sizeLine_eq]; simp, h⟩
def ETold (K : PySem.W.Frag) (CS : Addr) (Q : VK) : XK := fun cls dd H' => ∃ b, PySem.W.exmOne K cls (.ref CS) = some b ∧ (b = true → ∀ a p, H' a = none → upd H' a (ExO cls dd a) p = none → Q (.ref p) (upd (upd H' a (ExO cls dd a)) p (.tup [.ref a, .non]))) ∧ (b = false → False)
structure ToldS (sg : Scope) : Prop where
  look : sg.names.lookup nLook = some .local
  caught : sg.names.lookup nCaught = some .local
  back : sg.names.lookup nBack = some .local
  err : sg.names.lookup nErr = some .local
  de : sg.names.lookup dErr = some .globalImplicit
theorem told_body {sg : Scope} {g f c' CS : Addr} {cdg : Value} {q x : Str} {tl : XK → Hp → VK → Prop} {Q : VK} {p1 p2 p3 p4 p5 p6 p7 p8 p9 q1 q2 q3 q4 q5 q6 q7 q8 q9 r1 r2 r3 : Pos} {k1 k2 k3 k4 k5} (T : ToldS sg) (hme : X.mg dErr = some (.ref CS))
    (hw : ∀ env : Env, env.scope = sg → swappedStores [.Tuple [.Name nCaught p1, .Name nBack p2] k1 p3] (.Tuple [.Constant .none k2 p4, .Constant .none k3 p5] k4 p6) env = pure none)
    (act : ∀ (W : WX) (pn : List (Addr × Obj)) (xe : Value → Shared → Prop) (E : XK) (p1 p2 : Pos), Takes ((cxOf C8.CX0 X.prog X.w X.K X.mg X.base Ntold x sg g cdg X.A X.stack s H C8.E0).tr pn xe) W →
      PE ((cxOf C8.CX0 X.prog X.w X.K X.mg X.base Ntold x sg g cdg X.A X.stack s H C8.E0).tr pn xe) (.Call (.Name nLook p1) [] [] p2) (fun σ1 H1 Q => (∀ cls d H', E cls d H' → W cls d σ1 H') ∧ σ1[0]? = some (some (.ref f)) ∧ H1 c' = some (CodeO c' q) ∧ tl E H1 Q))
    (hc : H c' = some (CodeO c' q)) (h : ∀ p, H p = none → tl (ETold X.K CS Q) (upd H p (.tup [.non, .non])) (QTold f Q)) :
    ∃ t, PSs (cxOf C8.CX0 X.prog X.w X.K X.mg X.base Ntold x sg g cdg X.A X.stack s H C8.E0).nox
      [.Assign [.Tuple [.Name nCaught p1, .Name nBack p2] k1 p3] (.Tuple [.Constant .none k2 p4, .Constant .none k3 p5] k4 p6) p7,
       .Try [.Assign [.Name nBack q1] (.Call (.Name nLook q2) [] [] q3) q4] [.ExceptHandler (some (.Name dErr q5)) (some nErr) [.Assign [.Name nCaught q6] (.Name nErr q7) q8] q9] [] [] p8,
       .Return (some (.Tuple [.Name nCaught r1, .Name nBack r2] k5 r3)) p9] t ∧ t { nx := fun _ H' => Q .non H', rt := Q } (L2.start Ntold [.ref f]) H := by
  have nd : Ntold.Nodup := by decide +kernel
  have hgl : Gl (cxOf C8.CX0 X.prog X.w X.K X.mg X.base Ntold x sg g cdg X.A X.stack s H C8.E0).nox dErr := T.de
  have d1 : (nCaught == ("__debug__" : Str)) = false := by decide
  have d2 : (nBack == ("__debug__" : Str)) = false := by decide
  have s0 : L2.start Ntold [V.ref f] = [some (.ref f), none, none, none] := rfl
  refine ⟨_, pss_cons (ps_asg (X := (cxOf C8.CX0 X.prog X.w X.K X.mg X.base Ntold x sg g cdg X.A X.stack s H C8.E0).nox) (pe_tup (pa_cons pe_non (pa_cons pe_non pa_nil rfl) rfl)) (pg_tup (X := (cxOf C8.CX0 X.prog X.w X.K X.mg X.base Ntold x sg g cdg X.A X.stack s H C8.E0).nox) (n := 2) rfl (pgs_cons (pg_name (X := (cxOf C8.CX0 X.prog X.w X.K X.mg X.base Ntold x sg g cdg X.A X.stack s H C8.E0).nox) (i := 1) nd rfl (.inl T.caught) (.inr T.caught)) (pgs_cons (pg_name (X := (cxOf C8.CX0 X.prog X.w X.K X.mg X.base Ntold x sg g cdg X.A X.stack s H C8.E0).nox) (i := 2) nd rfl (.inl T.back) (.inr T.back)) pgs_nil rfl) rfl) rfl rfl) rfl (hw _ rfl) rfl)
    (pss_cons (ps_try_kp (X := (cxOf C8.CX0 X.prog X.w X.K X.mg X.base Ntold x sg g cdg X.A X.stack s H C8.E0).nox) (c := .ref CS) (n := nErr) (m := nCaught) (i := 3) (j := 1)
      (tb := fun W D σ H => ∃ Ech : XK, (∀ cls d H', Ech cls d H' → W cls d σ H') ∧ σ[0]? = some (some (.ref f)) ∧ H c' = some (CodeO c' q) ∧ tl Ech H fun v H' => D.nx (σ.set 2 (some v)) H')
      rfl rfl nd rfl rfl T.err T.caught rfl ⟨hgl, by decide, .inl hme⟩ L2.takes0 (by decide) (by decide) (fun W pn xe tk _ => ?_))
    (pss_one (ps_ret (pe_tup (pa_cons (pe_var (X := (cxOf C8.CX0 X.prog X.w X.K X.mg X.base Ntold x sg g cdg X.A X.stack s H C8.E0).nox) (i := 1) rfl (.inl T.caught) d1 (by decide)) (pa_cons (pe_var (X := (cxOf C8.CX0 X.prog X.w X.K X.mg X.base Ntold x sg g cdg X.A X.stack s H C8.E0).nox) (i := 2) rfl (.inl T.back) d2 (by decide)) pa_nil rfl) rfl))))), ?_⟩
  · refine ⟨fun pins s' σ H' D I h' => ?_⟩
    obtain ⟨Ech, hW, h1, h2, h3⟩ := h'
    have hp := act W pn xe Ech q2 q3 tk
    have hq := pss_one (ps_set (X := (cxOf C8.CX0 X.prog X.w X.K X.mg X.base Ntold x sg g cdg X.A X.stack s H C8.E0).tr pn xe) (pos := q4) (pos' := q1) (i := 2) nd rfl (.inl T.back) hp rfl (.inr T.back))
    exact hq.run pins s' σ H' D I ⟨hW, h1, h2, h3⟩
  · refine ⟨by rw [sizeLine_eq]; simp, fun p0 hp0 => ⟨p0, [V.non, V.non], rfl, .inl (.inl upd_same), rfl, V.non, _, rfl, V.non, _, rfl, rfl, ETold X.K CS Q, fun cls d H' hE => ?_, rfl, by rw [upd_ne (ne_of_none hc hp0)]; exact hc, ?_⟩⟩
    · obtain ⟨b, e1, e2, e3⟩ := hE
      refine ⟨b, e1, fun hb a ha => ?_, fun hb => e3 hb⟩
      exact ⟨_, rfl, _, rfl, by rw [sizeLine_eq]; simp, fun p hp => e2 hb a p ha hp⟩
    · exact h p0 hp0
end
end TL
set_option Elab.async false
set_option linter.all false
set_option maxRecDepth 100000
set_option maxHeartbeats 4000000
/-! The tree layer, part 40: told(lambda: e) at a place that makes the lambda. -/
namespace TL
open PySem PySem.Spec PyProof.Rows L2 LamX
/-- a lambda is made: the table is as it was, or has one code object more -/
def Mk (H : Hp) (P : Addr) (q : Str) (A : Addr → Prop) (H1 : Hp) : Prop := H1 = H ∨ ∃ (ps1 : Array Value) (c' : Addr), H c' = none ∧ H1 = upd (upd H P (.tbl ps1)) c' (CodeO c' q) ∧ TriplesOk ps1.toList ∧
  ∀ (pos : Pos) (cv : Value), codeAmong pos ps1.toList = some cv → (∃ c2, cv = .ref c2 ∧ H c2 = some (CodeO c2 q) ∧ A c2) ∨ cv = .ref c'
section
variable {X : Cx} {pins : List (Addr × Obj)} {σ : L2.St} {H : Hp} {s : Shared}
theorem lam_mk {P c : Addr} {A : Addr → Prop} {ps : Array Value} {params : Arguments} {body : Expr} {scope : Scope} {pos : Pos} {E Q : Value → Shared → Prop} (I : Inv X pins σ H s) (B : TabB X.base X.mg c P) (hco : X.env.code = .ref c)
    (hP : H P = some (.tbl ps)) (tri : TriplesOk ps.toList) (known : ∀ (pos : Pos) (cv : Value), codeAmong pos ps.toList = some cv → ∃ c2, cv = .ref c2 ∧ H c2 = some (CodeO c2 (X.env.qual ++ "<lambda>")) ∧ A c2)
    (hde : defaultsOf params X.env = ([], [])) (hcap : ∀ y ∈ scope.names, y.2 = .free → ∃ c, X.env.cells.lookup y.1 = some c)
    (h : ∀ (f c' : Addr) (pm ctv : Value) (H1 : Hp) (s1 : Shared), Inv X pins σ H1 s1 → Mk H P (X.env.qual ++ "<lambda>") A H1 →
      s1.heap.get? f = some (PySem.W.kla_obj "<lambda>" (X.env.qual ++ "<lambda>") params body scope (cloFrom X.env.cells scope.names []) pm c' ctv) → H1 f = none → f ∉ frs X.stack → H1 c' = some (CodeO c' (X.env.qual ++ "<lambda>")) → Q (.ref f) s1) :
    wpAny (model X.prog X.w) X.A (eval (.Lambda params body scope pos) X.env) Q E s := by
  refine PySem.W.kla_eval hde ?_
  have bm := B.bm.keeps I.bk
  have atP := I.hok P _ hP
  have far : ∀ f, s.heap.objs.size ≤ f → f ∉ frs X.stack := fun f hf hm => by
    rcases List.mem_cons.mp (I.stkSub _ hm) with e | e
    · have lt := I.lt
      rw [← e] at lt
      exact Nat.lt_irrefl _ (Nat.lt_of_lt_of_le lt hf)
    · exact I.nofs hf e
  cases hc : codeAmong pos ps.toList with
  | some cv =>
    obtain ⟨c2, rfl, hc2, _⟩ := known pos cv hc
    refine PySem.W.kla_makeFunctionHit (closure_ok hcap) I.ok.glob (I.mod.glob.keeps I.bk) hco (B.code.keeps I.bk) atP tri hc bm fun ctv h' tk hx hsz => ?_
    exact h h'.objs.size c2 ((X.mg "__name__").getD .none) ctv H _ (I.kept fun b o e => Heap.get?_push_of_some _ (hx b o e)) (.inl rfl) (Heap.get?_push_size _ rfl) (I.hok.fresh hsz) (far _ hsz) hc2
  | none =>
    refine PySem.W.kla_makeFunction (closure_ok hcap) I.ok.glob (I.mod.glob.keeps I.bk) hco (B.code.keeps I.bk) atP tri hc B.gP bm fun c2 ctv h' tk hx hge hlt rec tab => ?_
    obtain ⟨_, oc, vs, t, e2, hoc, hd, hv⟩ := rec
    cases e2
    have big : s.heap.objs.size ≤ h'.objs.size := Nat.le_trans hge (Nat.le_of_lt hlt)
    have new : H c2 = none := I.hok.fresh hge
    have J := inv_table (t' := tk) (more := #[rawInt pos.line, rawInt pos.col, .ref c2]) (h' := h'.push (PySem.W.kla_obj "<lambda>" (X.env.qual ++ "<lambda>") params body scope (cloFrom X.env.cells scope.names []) ((X.mg "__name__").getD .none) c2 ctv)) I hP
      (fun b o hb e => Heap.get?_push_of_some _ (hx b o hb e)) (Heap.get?_push_of_some _ tab) hge ⟨oc, vs, t, Heap.get?_push_of_some _ hoc, hd, hv⟩
    have eL : (ps ++ #[rawInt pos.line, rawInt pos.col, .ref c2]).toList = ps.toList ++ [rawInt pos.line, rawInt pos.col, .ref c2] := by simp
    refine h h'.objs.size c2 ((X.mg "__name__").getD .none) ctv _ _ J (.inr ⟨_, c2, new, rfl, by rw [eL]; exact PySem.TriplesOk_snoc _ _ _ _ tri, fun p' cv hcv => ?_⟩) (Heap.get?_push_size _ rfl) ?_ (far _ big) upd_same
    · rw [eL] at hcv
      exact (among_app _ tri hcv).imp (fun z => known p' cv z) id
    · rw [upd_ne (Nat.ne_of_gt hlt), upd_ne (Nat.ne_of_gt (Nat.lt_of_lt_of_le (Heap.lt_size atP) big))]
      exact I.hok.fresh big
end
/-- the store behind it -/
theorem sr_mk {K : PySem.W.Frag} {g : G} {S : List O} {H H1 : Hp} {P : Addr} {x : Str} {j : Nat} (s : SR K g S H) (hj : g.hs[j]? = some P) (ht : tabA K x = some P) (hS : S[j]? = some (.tbl x)) (m : Mk H P (lamQ x) (fun c => ¬ g.bad c) H1) : Ext g H g H1 ∧ SR K g S H1 := by
  rcases m with rfl | ⟨ps1, c', new, rfl, tri, kn⟩
  · exact ⟨Ext.refl _ _, s⟩
  · have hm : P ∈ g.hs := List.mem_of_getElem? hj
    obtain ⟨oP, eP⟩ := s.hl P hm
    have nPc : P ≠ c' := ne_of_none eP new
    have at_ : ∀ b u, H b = some u → b ≠ P → upd (upd H P (.tbl ps1)) c' (CodeO c' (lamQ x)) b = some u := fun b u e n => by
      rw [upd_ne (ne_of_none e new), upd_ne n]
      exact e
    have e : Ext g H g (upd (upd H P (.tbl ps1)) c' (CodeO c' (lamQ x))) := ⟨fun b u e n => .inl (at_ b u e fun z => n (z ▸ hm)), fun b u e n _ => at_ b u e fun z => n (z ▸ hm), fun _ _ _ n => n, fun _ h => h, [], by simp, fun _ h => by cases h⟩
    refine ⟨e, s.len, s.nd, s.live, fun a ha => ?_, fun i a o h1 h2 => ?_⟩
    · obtain ⟨u, eu⟩ := s.trk a ha
      by_cases z : a = P
      · rw [z, upd_ne nPc, upd_same]
        exact ⟨_, rfl⟩
      · exact ⟨u, at_ a u eu z⟩
    · by_cases z : a = P
      · subst z
        have ij : i = j := (List.getElem?_inj (List.getElem?_eq_some_iff.mp h1).1 s.nd).mp (h1.trans hj.symm)
        subst ij
        rw [hS] at h2
        cases h2
        refine ⟨⟨ps1, by rw [upd_ne nPc, upd_same], tri, fun pos cv hc => ?_⟩, ht⟩
        rcases kn pos cv hc with ⟨c2, rfl, h3, h4⟩ | rfl
        · refine ⟨c2, rfl, at_ c2 _ h3 fun z => ?_, h4⟩
          rw [z] at h4
          exact h4 (s.live _ hm)
        · exact ⟨c', rfl, upd_same, s.unbad new⟩
      · exact RO.mono s.live e (fun u eu => at_ a u eu z) (s.rep i a o h1 h2)
/-- the place of a lambda's body -/
def Sg.lam (z : Sg) (scope : Scope) (k : Nat) (E : XK) (cd : Value) : Sg := ⟨z.P, z.w, z.K, z.mg, z.base, z.N, scope, fun _ => false, k, wX E, (z.qual ++ "<lambda>") ++ ".<locals>.", cd⟩
theorem fits_lam {z : Sg} {X : Cx} {scope : Scope} {k : Nat} {E : XK} {f c' : Addr} {A : Around} {outer : List Env} {s : Shared} {H : Hp} (fx : Fits z X) (hr : Room k (A.deeper (lamEnv X scope s.heap.objs.size f c'))) (hg : A.guards = some []) :
    Fits (z.lam scope k E (.ref c')) (lamCx X A outer s H E scope f c') :=
  ⟨fx.prog, fx.w, fx.K, fx.mg, fx.base, fx.N, rfl, rfl, fx.nd, fun _ h => absurd h (by simp [Sg.lam]), hr, hg, takes_of rfl rfl rfl rfl, passes_of rfl, by show (X.env.qual ++ "<lambda>") ++ ".<locals>." = _; rw [fx.qual]; rfl, rfl⟩
def toldO (ex : List Str) : Out D → Out D
  | .ok d S1 => .ok (.tup [.non, d]) S1
  | .exc C d S1 => if C ∈ ex then .ok (.tup [.exc C d, .non]) S1 else .stuck
  | .stuck => .stuck
/-- told(lambda: ..), made by the def x, whose table is the j-th of the store -/
def eTold (ex : List Str) (j : Nat) (x : Str) (tb : TEx) : TEx := fun ρ S => match S[j]? with
  | some (.tbl y) => if y = x then toldO ex (tb ρ S) else .stuck
  | _ => .stuck
/-- the def told, as it is written -/
def ToldB (bg : List Stmt) (sg : Scope) : Prop := ∃ (p1 p2 p3 p4 p5 p6 p7 p8 p9 q1 q2 q3 q4 q5 q6 q7 q8 q9 r1 r2 r3 : Pos) (k1 k2 k3 k4 k5 : Nat),
  bg = [.Assign [.Tuple [.Name nCaught p1, .Name nBack p2] k1 p3] (.Tuple [.Constant .none k2 p4, .Constant .none k3 p5] k4 p6) p7,
       .Try [.Assign [.Name nBack q1] (.Call (.Name nLook q2) [] [] q3) q4] [.ExceptHandler (some (.Name dErr q5)) (some nErr) [.Assign [.Name nCaught q6] (.Name nErr q7) q8] q9] [] [] p8,
       .Return (some (.Tuple [.Name nCaught r1, .Name nBack r2] k5 r3)) p9] ∧
  ∀ env : Env, env.scope = sg → swappedStores [.Tuple [.Name nCaught p1, .Name nBack p2] k1 p3] (.Tuple [.Constant .none k2 p4, .Constant .none k3 p5] k4 p6) env = pure none
theorem exm_err {K : PySem.W.Frag} {ex : List Str} {C : Str} (F : ExF K ex) (hC : C ∈ ex) : PySem.W.exmOne K (.ref (He.ga K C)) (.ref (He.ga K dErr)) = some true := by
  have h1 : PySem.W.subIn K (.ref (He.ga K dErr)) (.type "BaseException") = some true := by
    rw [F.sub F.de]
    rw [if_pos rfl]
    rfl
  have h2 : PySem.W.kitCls K (.ref (He.ga K C)) (.ref (He.ga K dErr)) = some true := by
    obtain ⟨cd, h, _⟩ := (F.one dErr F.de).mro
    simp only [PySem.W.kitCls, h, Option.isSome_some, (F.one dErr F.de).ty, beq_self_eq_true, Bool.and_self, if_true]
    rw [F.sub hC]
    by_cases hd : C = dErr
    · rw [hd]
      simp
    · rw [if_neg hd]
      simp
  unfold PySem.W.exmOne
  rw [h1, h2]
  rfl
def told_read (z : Sg) (P : Addr) (x : Str) (sc : Scope) (k : Nat) (body : Expr) : TE := fun σ H Q => ∃ (A : Addr → Prop) (ps : Array Value), H P = some (.tbl ps) ∧ TriplesOk ps.toList ∧ (∀ (pos : Pos) (cv : Value), codeAmong pos ps.toList = some cv → ∃ c2, cv = .ref c2 ∧ H c2 = some (CodeO c2 (lamQ x)) ∧ A c2) ∧
  ∀ (f c' : Addr) (H1 : Hp), Mk H P (lamQ x) A H1 → H1 c' = some (CodeO c' (lamQ x)) → ∃ τl : TE, (∀ X, Fits (z.lam sc k (ETold z.K (He.ga z.K dErr) Q) (.ref c')) X → PE X body τl) ∧ ∀ p0, H1 p0 = none → τl σ (upd H1 p0 (.tup [.non, .non])) (QTold f Q)
/-- what the tree says is what told asks -/
theorem told_rd {z : Sg} {P : Addr} {x : Str} {sc : Scope} {k j : Nat} {body : Expr} {ex : List Str} {tb : TEx} (F : ExF z.K ex) (ht : tabA z.K x = some P) (hl : ∀ E cd, DE (z.lam sc k E cd) body tb) : RdE z (told_read z P x sc k body) (eTold ex j x tb) := fun g S ρ σ H Q s rs p => by
  unfold eTold at p
  split at p
  · rename_i y hS
    split at p
    · rename_i hy
      subst hy
      obtain ⟨a, ha⟩ : ∃ a, g.hs[j]? = some a := by
        have lt : j < g.hs.length := by
          rw [s.len]
          exact (List.getElem?_eq_some_iff.mp hS).1
        exact ⟨_, List.getElem?_eq_getElem lt⟩
      obtain ⟨⟨ps, h1, h2, h3⟩, h4⟩ := s.rep j a _ ha hS
      rw [ht] at h4
      cases h4
      refine ⟨fun c => ¬ g.bad c, ps, h1, h2, h3, fun f c' H1 m hc => ?_⟩
      obtain ⟨e1, s1⟩ := sr_mk s ha ht hS m
      obtain ⟨τl, h5, h6⟩ := hl (ETold z.K (He.ga z.K dErr) Q) (.ref c')
      refine ⟨τl, h5, fun p0 hp0 => ?_⟩
      have e1 := e1.tr s1 (Ext.same (g := g) (same_new (o := .tup [.non, .non]) hp0))
      have s1 := s1.same (same_new (o := .tup [.non, .non]) hp0)
      refine h6 g S ρ σ _ _ s1 (rs.mono s.live e1) ?_
      revert p
      cases tb ρ S with
      | ok d S' =>
        intro p g' H' b e s' r
        refine qtold fun q hq => ?_
        refine p g' (upd H' q (.tup [.non, b])) (.ref q) ((e1.tr s1 e).tr s' (Ext.same (same_new hq))) (s'.same (same_new hq)) ?_
        have r' := r.mono s'.live (Ext.same (g := g') (same_new (o := .tup [.non, b]) hq))
        simp only [RV]
        exact ⟨q, [.non, b], rfl, .inl ⟨upd_same, s'.unbad hq⟩, by simp only [RVs, RV]; exact ⟨_, _, rfl, rfl, _, _, rfl, r', rfl⟩⟩
      | exc C d S' =>
        intro p
        have ep : toldO ex (.exc C d S') = if C ∈ ex then .ok (.tup [.exc C d, .non]) S' else .stuck := rfl
        rw [ep] at p
        by_cases hC : C ∈ ex
        · rw [if_pos hC] at p
          intro g' H' c dd e s' r
          have s' : SR z.K g' S' H' := s'
          have r : RX z.K g' H' C d c dd := r
          obtain ⟨rfl, D, w, rfl, h7, h8, h9⟩ := r
          refine ⟨true, exm_err F hC, fun _ a q ha hq => ?_, fun z => by cases z⟩
          have hq : upd H' a (ExO (.ref (He.ga z.K C)) (some D) a) q = none := hq
          have k1 := same_new (o := ExO (.ref (He.ga z.K C)) (some D) a) ha
          have k2 := same_new (o := .tup [.ref a, .non]) hq
          have k3 : ∀ b u, H' b = some u → upd (upd H' a (ExO (.ref (He.ga z.K C)) (some D) a)) q (.tup [.ref a, .non]) b = some u := fun b u e => k2 b u (k1 b u e)
          have nq : H' q = none := by
            cases z : H' q with
            | none => rfl
            | some u =>
              rw [k1 q u z] at hq
              cases hq
          have ea : upd (upd H' a (ExO (.ref (He.ga z.K C)) (some D) a)) q (.tup [.ref a, .non]) a = some (ExO (.ref (He.ga z.K C)) (some D) a) := k2 _ _ upd_same
          refine p g' _ (.ref q) ((e1.tr s1 e).tr s' (Ext.same k3)) (s'.same k3) ?_
          simp only [RV]
          exact ⟨q, [.ref a, .non], rfl, .inl ⟨upd_same, s'.unbad nq⟩, by
            simp only [RVs, RV]
            exact ⟨_, _, rfl, ⟨a, D, w, rfl, ea, s'.unbad ha, k3 _ _ h7, h8, h9.mono s'.live (Ext.same k3)⟩, _, _, rfl, rfl, rfl⟩⟩
        · rw [if_neg hC] at p
          exact p.elim
      | stuck => exact fun p => p.elim
    · exact p.elim
  · exact p.elim
theorem de_told {z : Sg} {x : Str} {ex : List Str} {j k : Nat} {c P g : Addr} {fd : FuncData} {pg : Arguments} {bg : List Stmt} {sg : Scope} {params : Arguments} {body : Expr} {scope : Scope} {tb : TEx} {p lpos pos : Pos}
    (Ft : FunD z.K "_law_told" "_law_told" pg bg sg [] [] g fd) (hm : z.mg "_law_told" = some (.ref g)) (hb : Binds z.K fd [nLook] []) (St : FnScope Ntold [nLook] sg) (TS : ToldS sg) (T0 : ToldB bg sg) (F : ExF z.K ex) (hde : z.mg dErr = some (.ref (He.ga z.K dErr)))
    (hq : z.qual ++ "<lambda>" = lamQ x) (hcd : z.code = .ref c) (ht : tabA z.K x = some P) (B : TabB z.base z.mg c P) (L : LamS z.scope scope) (hdef : ∀ env, defaultsOf params env = ([], []))
    (hbind : ∀ (q : Str) (cl : List (Str × Addr)) (pm cv ctv : Value), bindArgs (PySem.W.kla_fn "<lambda>" q params body scope cl pm cv ctv) ⟨[], []⟩ = pure [])
    (hl : ∀ E cd, DE (z.lam scope k E cd) body tb) (hk : k + 2 ≤ z.lv) (hg : Gz z "_law_told" := by rfl) : DE z (.Call (.Name "_law_told" p) [.Lambda params body scope lpos] [] pos) (eTold ex j x tb) := by
  refine ⟨told_read z P x scope k body, fun X fx => ⟨fun pins s σ H Q I h => ?_⟩, told_rd F ht hl⟩
  obtain ⟨A, ps, hP, tri, kn, h⟩ := h
  refine wpAny_Call_Name_kw (ld_glob I (fx.gl hg) (fx.mgl hm) ?_ (by decide))
  have kp' : PySem.W.keepIn X.K (.ref g) = true := by rw [fx.K]; exact Ft.kp
  refine PySem.W.callWith_K (h₀ := X.base) I.ok.mod.kin kp' ?_ (by rfl) (by rfl)
  show wpAny _ _ (spliced ((false, eval (.Lambda params body scope lpos) X.env) :: backTo pos (starEach [] X.env))) _ _ s
  have eq : X.env.qual ++ "<lambda>" = lamQ x := by rw [fx.qual]; exact hq
  have L' : LamS X.env.scope scope := by rw [fx.scope]; exact L
  have B' : TabB X.base X.mg c P := by rw [fx.base, fx.mg]; exact B
  refine Calls.spliced_cons (lam_mk (P := P) (c := c) (A := A) (ps := ps) I B' (by rw [fx.code]; exact hcd) hP tri (by rw [eq]; exact kn) (hdef _) (L'.has I.ok) fun f c' pm ctv H1 s1 I1 m hf hfn hfr hco => ?_)
  refine Calls.spliced_nil ⟨I1.kIn, ?_⟩
  obtain ⟨τl, hτ, hv⟩ := h f c' H1 (eq ▸ m) (eq ▸ hco)
  obtain ⟨oc, od, dV, kV, doc, pm2, an, cdv, ct, osl, rfl, lk, hcdv, _, _⟩ := Ft.ex
  have hb' := hb
  rw [← fx.K] at hb'
  have rc : codeAny (model X.prog X.w) X.A (.call (.ref g) ⟨[.ref f], []⟩) (CR C8.CX0 X.stack X.prog X.w H1 s1 Q C8.E0) s1 := by
    refine run_ofS (K := X.K) (mg := X.mg) (base := X.base) (N := Ntold) (ps := [nLook]) (us := [.ref f]) (vs := [.ref f]) (k := k + 1) (by rw [fx.K]; exact lk) (by rw [fx.K]; exact hcdv) St (fx.room.mono hk) I1.env0 (hb' s1 [.ref f] I1.kIn rfl) (.cons rfl .nil) rfl fun hr' => ?_
    obtain ⟨p1, p2, p3, p4, p5, p6, p7, p8, p9, q1, q2, q3, q4, q5, q6, q7, q8, q9, r1, r2, r3, k1, k2, k3, k4, k5, rfl, hw⟩ := T0
    obtain ⟨t, ht', hq'⟩ := told_body (X := X) (f := f) (c' := c') (CS := He.ga X.K dErr) (q := X.env.qual ++ "<lambda>") (p1 := p1) (p2 := p2) (p3 := p3) (p4 := p4) (p5 := p5) (p6 := p6) (p7 := p7) (p8 := p8) (p9 := p9) (q1 := q1) (q2 := q2) (q3 := q3) (q4 := q4) (q5 := q5) (q6 := q6) (q7 := q7) (q8 := q8) (q9 := q9) (r1 := r1) (r2 := r2) (r3 := r3) (k1 := k1) (k2 := k2) (k3 := k3) (k4 := k4) (k5 := k5) (x := "_law_told") (g := g) (cdg := cdv) (s := s1) (H := H1) (Q := Q)
      (tl := fun E H' Q' => ∃ τl : TE, (∀ X', Fits (z.lam scope k E (.ref c')) X' → PE X' body τl) ∧ τl σ H' Q') TS (by rw [fx.mg, fx.K]; exact hde) hw
      (fun W pn xe E p1 p2 tk => ⟨fun pins2 s2 σ2 H2 Q2 I2 h2 => by
        obtain ⟨hW, h1, h3, τ2, hp, h4⟩ := h2
        exact (pe_actG (i := 0) (tb := τ2) I1 fx.gd L' hf hfn hfr (hbind _ _ _ _ _) tk hr' (fun A outer s H hr2 hg2 => hp _ (fits_lam fx hr2 hg2)) rfl (.inl TS.look)).run pins2 s2 σ2 H2 Q2 I2 ⟨hW, h1, h3, h4⟩⟩) hco (fun p0 hp0 => ⟨τl, by rw [fx.K]; exact hτ, hv p0 hp0⟩)
    exact ⟨t, ht'.nox, hq'⟩
  refine wpAny_call (codeAny_mono rc fun r s2 hr => ?_)
  cases r with
  | error e => exact (show False from hr).elim
  | ok fl =>
    cases fl with
    | ret u => exact I1.after hr
    | next => exact False.elim hr
    | brk => exact False.elim hr
    | cont => exact False.elim hr
end TL
set_option Elab.async false
set_option linter.all false
set_option maxRecDepth 100000
set_option maxHeartbeats 4000000
/-! The tree layer, part 41: a law's end with tables of code objects. -/
namespace TL
open PySem PySem.Spec PyProof.Rows L2 LamX
def tab0 : Obj := { cls := .none, data := .fields #[] }
/-- the store at the start: the tables of those that make lambdas -/
abbrev tabS (ms : List Str) : List O := ms.map O.tbl
def tabG (Ps : List Addr) : G := ⟨fun b => b ∈ Ps, Ps⟩
theorem sr_tabs {K : PySem.W.Frag} {H : Hp} {ms : List Str} {Ps : List Addr} (hl : Ps.length = ms.length) (nd : Ps.Nodup) (hH : ∀ p ∈ Ps, H p = some (.tbl #[])) (hA : ∀ (i : Nat) (x : Str) (P : Addr), ms[i]? = some x → Ps[i]? = some P → tabA K x = some P) : SR K (tabG Ps) (tabS ms) H :=
  ⟨by show Ps.length = (ms.map O.tbl).length; rw [List.length_map]; exact hl, nd, fun a h => h, fun a h => ⟨_, hH a h⟩, fun i a o h1 h2 => by
    have h2 : (ms.map O.tbl)[i]? = some o := h2
    rw [List.getElem?_map] at h2
    obtain ⟨x, hx, rfl⟩ := Option.map_eq_some_iff.mp h2
    have h1 : Ps[i]? = some a := h1
    refine ⟨⟨#[], hH a (List.mem_of_getElem? h1), True.intro, fun pos cv hc => ?_⟩, hA i x a hx h1⟩
    have z : codeAmong pos [] = some cv := hc
    simp [codeAmong] at z⟩
/-- what a base must say of those that make lambdas -/
def TabsB (K : PySem.W.Frag) (mg : Str → Option Value) (ms : List Str) (base : Heap) : Prop := ∀ x ∈ ms, ∃ c P, cdAt K (He.ga K x) = .ref c ∧ tabA K x = some P ∧ TabB base mg c P
section
variable {P : Program} {w : World} {K : PySem.W.Frag} {mg mb : Str → Option Value} {k : Nat} {fa a : Addr} {fd : FuncData} {x : Str} {F : TF} {s1 : Shared} {vs : List Value} {ns : List Int} {ms : List Str} {Ps : List Addr}
theorem law_tfnT (KX : K.In s1.heap) (hns : s1.heap.Ns mainGlobals mg) (hmb : s1.heap.Ns builtinsNs mb) (hbb : ∀ y : Str, y ≠ "__name__" → mb y = bootBuiltins y) (nol : s1.heap.NoLimit) (gens : s1.gens = #[])
    (hbm : ∃ (bm : Addr) (ob : Obj), mg "__builtins__" = some (.ref bm) ∧ bm ≠ builtinsNs ∧ s1.heap.get? bm = some ob ∧ ob.cls = .type "module" ∧ ob.dict = some builtinsNs ∧ ob.data = .plain)
    (hobj : s1.heap.get? a = some { cls := .type "list", data := .seq vs.toArray }) (hi : IntsAre vs ns) (hlen : ns.length ≤ sizeLine) (room : Room k callerA)
    (hl : Ps.length = ms.length) (nd : Ps.Nodup) (hT : ∀ p ∈ Ps, s1.heap.get? p = some tab0) (nT : ∀ p ∈ Ps, K.lookup p = none) (hA : ∀ (i : Nat) (x : Str) (P : Addr), ms[i]? = some x → Ps[i]? = some P → tabA K x = some P)
    (C : ∀ x ∈ ms, ∃ c P, cdAt K (He.ga K x) = .ref c ∧ tabA K x = some P ∧ P ∈ Ps ∧ PySem.W.CodeHd s1.heap c P) (C2 : ∀ p ∈ Ps, ∃ c, PySem.W.CodeHd s1.heap c p)
    (hF : ∀ base : Heap, K.In base → base.Ns mainGlobals mg → TabsB K mg ms base → TFn P w K mg base k fa fd [x] F) (hbind : ∀ (s : Shared) (u : Value), BindsTo s fd ⟨[u], []⟩ [(x, u)])
    (hval : ∃ S, F [.scr ns] (tabS ms) = .ok (.bl true) S) :
    codeAny (model P w) callerA (.call (.ref fa) ⟨[.ref a], []⟩) (fun r s' => r = .ok (.ret (.bool true)) ∧ OldK s1.heap s'.heap ∧ s'.os = s1.os ∧ AllBare s'.gens) s1 := by
  obtain ⟨S1, hval⟩ := hval
  have rints := vals_ints hi
  have same := hi.length
  have aT : a ∉ Ps := fun z => by
    have q := hT a z
    rw [hobj] at q
    cases (show Data.seq vs.toArray _ = Data.fields #[] from congrArg Obj.data (Option.some.inj q))
  have go : ∀ H : Hp, (∀ b, (H b = none ∧ b ∉ Ps) ∨ (b ∈ Ps ∧ H b = some (.tbl #[])) ∨ (b = a ∧ K.lookup a = none ∧ H b = some (.frz { cls := .type "list", data := .seq vs.toArray } (.lst (ns.map V.int))))) → ScrAt K (tabG Ps) H a (ns.map V.int) →
      codeAny (model P w) callerA (.call (.ref fa) ⟨[.ref a], []⟩) (fun r s' => r = .ok (.ret (.bool true)) ∧ OldK s1.heap s'.heap ∧ s'.os = s1.os ∧ AllBare s'.gens) s1 := by
    intro H only scr
    have hH : ∀ p ∈ Ps, H p = some (.tbl #[]) := fun p hp => by
      rcases only p with ⟨_, z⟩ | ⟨_, z⟩ | ⟨z, _⟩
      · exact absurd hp z
      · exact z
      · exact absurd (z ▸ hp) aT
    have hb : ∀ {b : Addr} {o : Obj}, s1.heap.get? b = some o → (b = a → K.lookup a = none → False) → b ∉ Ps → (hidT s1.heap H).get? b = some o := fun {b o} e n n2 => hidT_get e (by
      rcases only b with ⟨z, _⟩ | ⟨z, _⟩ | ⟨z1, z2, _⟩
      · exact z
      · exact absurd z n2
      · exact (n z1 z2).elim)
    have notD : ∀ {b : Addr} {o : Obj} , s1.heap.get? b = some o → o.data ≠ .fields #[] → b ∉ Ps := fun {b o} e n m => by
      rw [hT b m] at e
      cases e
      exact n rfl
    have ns1 : ∀ {b : Addr} {m : Str → Option Value}, s1.heap.Ns b m → (hidT s1.heap H).Ns b m := fun {b m} ⟨o, es, ep, e, dd, r⟩ => ⟨o, es, ep, hb e (fun z _ => by
      rw [z, hobj] at e
      cases e
      cases (show Data.seq vs.toArray _ = Data.dict es ep from dd)) (notD e (by rw [dd]; intro z; cases z)), dd, r⟩
    have inB : K.In (hidT s1.heap H) := fun b o e => hb (KX b o e) (fun z n => by
      rw [z, n] at e
      cases e) fun m => by
      rw [nT b m] at e
      cases e
    have hok : HOk P w H s1.heap := fun b u e => by
      rcases only b with ⟨z, _⟩ | ⟨z, z2⟩ | ⟨z1, _, z3⟩
      · rw [z] at e
        cases e
      · rw [z2] at e
        cases e
        exact hT b z
      · rw [z3] at e
        cases e
        rw [z1]
        exact ⟨hobj, by rw [List.length_map]; exact hlen, vs, _, rints, hobj⟩
    have md : Mod K mg (hidT s1.heap H) := ⟨inB, ns1 hns, ⟨mb, ns1 hmb, hbb⟩, let ⟨mc, y1, y2⟩ := nol; ⟨mc, ns1 y1, y2⟩⟩
    have TB : TabsB K mg ms (hidT s1.heap H) := fun y hy => by
      obtain ⟨c, p, h1, h2, hp, h3⟩ := C y hy
      refine ⟨c, p, h1, h2, ?_, ?_, fun z => ?_⟩
      · obtain ⟨o, us, file, tf, flags, tg, inF, text, tt, e1, r1, r2, r3, r⟩ := h3
        refine ⟨o, us, file, tf, flags, tg, inF, text, tt, hb e1 (fun z _ => ?_) (notD e1 fun z => ?_), r1, r2, r3, r⟩
        · rw [z, hobj] at e1
          cases e1
          cases (show Data.seq vs.toArray _ = Data.fields us from r2)
        · rw [r2] at z
          cases z
          simp at r3
      · obtain ⟨bm, ob, b1, b2, b3, b4, b5, b6⟩ := hbm
        have nG : bm ≠ mainGlobals := fun q => by
          obtain ⟨o, es, ep, e, hd, _⟩ := hns
          rw [q, e] at b3
          cases b3
          rw [hd] at b6
          cases b6
        have nP : bm ∉ Ps := notD b3 fun z => by
          rw [b6] at z
          cases z
        refine ⟨bm, ob, b1, b2, nG, fun q => nP (q ▸ hp), hb b3 (fun z _ => ?_) nP, b4, b5, b6⟩
        rw [z, hobj] at b3
        cases b3
        cases b6
      · obtain ⟨o, es, ep, e, hd, _⟩ := hns
        rw [z, hT p hp] at e
        cases e
        cases hd
    have e0 : Env0 P w K mg (hidT s1.heap H) callerA [] s1 H := ⟨rfl, md, fun _ _ e => of_hidT e, Nat.le_of_eq (hidT_size _ _), trivial, fun b m => (by cases (show b ∈ ([] : List Addr) from m)), hok, .of_eq gens⟩
    have post : Post K (wX fun _ _ _ => False) (RV K) (tabG Ps) H [] (fun v _ => v = .bl true) (F [.scr ns] (tabS ms)) := by
      rw [hval]
      exact fun _ _ v _ _ r => rv_bl r
    have rv : RVs K (tabG Ps) H [.scr ns] [.ref a] := by
      simp only [RVs, RV]
      exact ⟨_, _, rfl, ⟨a, rfl, scr⟩, rfl⟩
    refine codeAny_mono ((hF _ inB (ns1 hns) TB).run callerA [] s1 H ⟨[.ref a], []⟩ [.ref a] [.ref a] _ _ (tabG Ps) (tabS ms) [.scr ns] room rfl e0 (hbind s1 (.ref a)) (.cons rfl .nil) rfl (sr_tabs hl nd hH hA) rv post) fun r s' hr => ?_
    have un_old : ∀ {H' : Hp}, Un (frs []) [] H H' s1.heap s'.heap → HOk P w H' s'.heap → OldK s1.heap s'.heap := fun {H'} un hk' => by
      have stay : ∀ b o, b ∉ Ps → s1.heap.get? b = some o → s'.heap.get? b = some o := fun b o nb e => by
        rcases only b with ⟨z, _⟩ | ⟨z, _⟩ | ⟨z1, _, z3⟩
        · exact un.keep b o e z (by intro y; cases (show b ∈ ([] : List Addr) from y)) (by simp)
        · exact absurd z nb
        · obtain ⟨y1, _⟩ := hk' b _ (un.frzs b _ _ z3)
          rw [z1, hobj] at e
          cases e
          rw [← z1] at *
          exact y1
      have more : ∀ p ∈ Ps, ∃ m : Array Value, s'.heap.get? p = some { cls := .none, data := .fields m } := fun p hp => by
        obtain ⟨m, z⟩ := un.tbls p #[] (hH p hp)
        exact ⟨_, hk' p _ z⟩
      refine ⟨fun b o e => ?_, fun b o e => ?_⟩
      · by_cases hb : b ∈ Ps
        · obtain ⟨m, hm⟩ := more b hb
          obtain ⟨c, hc⟩ := C2 b hb
          have e' := e
          rw [hT b hb] at e'
          cases e'
          exact .inr (.inl ⟨(hc.tab e).isCodeTable, rfl, #[], m, rfl, by rw [Array.empty_append]; exact hm⟩)
        · exact .inl (stay b o hb e)
      · by_cases hb : b ∈ Ps
        · obtain ⟨m, hm⟩ := more b hb
          exact ⟨_, hm⟩
        · exact ⟨o, stay b o hb e⟩
    cases r with
    | error e =>
      obtain ⟨_, _, _, _, _, _, _, _, _, _, _, _, no⟩ := hr
      exact no.elim
    | ok fl =>
      cases fl with
      | ret u =>
        obtain ⟨v, H', o1, o2, o3, o4, r', q⟩ := hr
        have q : v = .bl true := q
        subst q
        obtain rfl : u = Value.bool true := r'
        exact ⟨rfl, un_old o3 o4, o1, o2⟩
      | _ => exact False.elim hr
  cases hk : K.lookup a with
  | some o =>
    have e := KX a o hk
    rw [hobj] at e
    cases e
    refine go (fun b => if b ∈ Ps then some (.tbl #[]) else none) (fun b => ?_) (.inr ⟨_, vs.toArray, _, hk, rfl, rfl, rfl, by rw [List.size_toArray, same]; exact hlen, by simpa using rints⟩)
    by_cases hb : b ∈ Ps
    · exact .inr (.inl ⟨hb, if_pos hb⟩)
    · exact .inl ⟨if_neg hb, hb⟩
  | none =>
    refine go (upd (fun b => if b ∈ Ps then some (.tbl #[]) else none) a (.frz { cls := .type "list", data := .seq vs.toArray } (.lst (ns.map V.int)))) (fun b => ?_) (.inl ⟨⟨_, upd_same⟩, fun h => aT h⟩)
    by_cases hba : b = a
    · exact .inr (.inr ⟨hba, hk, by rw [hba, upd_same]⟩)
    · rw [upd_ne hba]
      by_cases hb : b ∈ Ps
      · exact .inr (.inl ⟨hb, if_pos hb⟩)
      · exact .inl ⟨if_neg hb, hb⟩
end
end TL
set_option Elab.async false
set_option linter.all false
set_option maxRecDepth 100000
set_option maxHeartbeats 4000000
/-! The tree layer, part 42: the head's facts with tables of code objects. -/
namespace TL
open PySem PySem.Spec PyProof.Rows L2 LamX
def dataF (d : Data) : Bool := match d with
  | .fields _ => true
  | _ => false
def isTab (o : Obj) : Bool := decide (o.cls = .none) && (o.dict.isNone && dataF o.data)
def noTab (K : PySem.W.Frag) : PySem.W.Frag := K.filter fun p => !isTab p.2
def dataNil (d : Data) : Bool := match d with
  | .fields vs => vs.isEmpty
  | _ => false
theorem dataNil_ok {d : Data} (h : dataNil d = true) : d = .fields #[] := by
  unfold dataNil at h
  split at h
  · rw [Array.isEmpty_iff.mp h]
  · cases h
def emptyTab (o : Option Obj) : Bool := match o with
  | some o => decide (o.cls = .none) && (o.dict.isNone && (dataNil o.data && o.slots.isEmpty))
  | none => false
theorem emptyTab_ok {o : Option Obj} (h : emptyTab o = true) : o = some tab0 := by
  unfold emptyTab at h
  split at h
  · rename_i o
    obtain ⟨c, d, dt, sl⟩ := o
    obtain ⟨h1, h⟩ := Bool.and_eq_true_iff.mp h
    obtain ⟨h2, h⟩ := Bool.and_eq_true_iff.mp h
    obtain ⟨h3, h4⟩ := Bool.and_eq_true_iff.mp h
    have e1 : c = .none := of_decide_eq_true h1
    have e2 : d = none := Option.isNone_iff_eq_none.mp h2
    have e3 : dt = .fields #[] := dataNil_ok h3
    have e4 : sl = #[] := Array.isEmpty_iff.mp h4
    subst e1 e2 e3 e4
    rfl
  · cases h
def isStrV : Value → Bool
  | .str _ _ => true
  | _ => false
def isIntV : Value → Bool
  | .int _ _ => true
  | _ => false
def isBoolV : Value → Bool
  | .bool _ => true
  | _ => false
theorem isStrV_ok : ∀ {v : Value}, isStrV v = true → ∃ a b, v = .str a b
  | .str a b, _ => ⟨a, b, rfl⟩
theorem isIntV_ok : ∀ {v : Value}, isIntV v = true → ∃ a b, v = .int a b
  | .int a b, _ => ⟨a, b, rfl⟩
theorem isBoolV_ok : ∀ {v : Value}, isBoolV v = true → ∃ a, v = .bool a
  | .bool a, _ => ⟨a, rfl⟩
def codeHB (o : Option Obj) (c P : Addr) : Bool := match o with
  | some o => (match o.data with
    | .fields vs => decide (o.cls = .type "code") && (decide ((vs[11]? : Option Value) = some (.ref P)) && (decide (vs.getD 11 .none = .ref P) && (isStrV (vs.getD 18 .none) && (isIntV (vs.getD 7 .none) && (isBoolV (vs.getD 9 .none) && (isIntV (vs.getD 10 .none) && decide (c ≠ P)))))))
    | _ => false)
  | none => false
theorem codeHB_ok {h : Heap} {c P : Addr} (e : codeHB (h.get? c) c P = true) : PySem.W.CodeHd h c P := by
  unfold codeHB at e
  split at e
  · rename_i o ho
    split at e
    · rename_i vs hd
      obtain ⟨h1, e⟩ := Bool.and_eq_true_iff.mp e
      obtain ⟨h2, e⟩ := Bool.and_eq_true_iff.mp e
      obtain ⟨h3, e⟩ := Bool.and_eq_true_iff.mp e
      obtain ⟨h4, e⟩ := Bool.and_eq_true_iff.mp e
      obtain ⟨h5, e⟩ := Bool.and_eq_true_iff.mp e
      obtain ⟨h6, e⟩ := Bool.and_eq_true_iff.mp e
      obtain ⟨h7, h8⟩ := Bool.and_eq_true_iff.mp e
      obtain ⟨a1, b1, e1⟩ := isStrV_ok h4
      obtain ⟨a2, b2, e2⟩ := isIntV_ok h5
      obtain ⟨a3, e3⟩ := isBoolV_ok h6
      obtain ⟨a4, b4, e4⟩ := isIntV_ok h7
      exact ⟨o, vs, a1, b1, a2, b2, a3, a4, b4, ho, of_decide_eq_true h1, hd, of_decide_eq_true h2, of_decide_eq_true h3, e1, e2, e3, e4, of_decide_eq_true h8⟩
    · cases e
  · cases e
/-- one that makes lambdas: where its code, its table stand -/
def tab1 (g : Addr → Option Obj) (K : PySem.W.Frag) (x : Str) : Bool := match cdAt K (He.ga K x), tabA K x with
  | .ref c, some P => emptyTab (g P) && ((K.lookup P).isNone && codeHB (g c) c P)
  | _, _ => false
structure Tab1 (h : Heap) (K : PySem.W.Frag) (x : Str) (P : Addr) : Prop where
  tab : tabA K x = some P
  emp : h.get? P = some tab0
  out : K.lookup P = none
  code : ∃ c, cdAt K (He.ga K x) = .ref c ∧ PySem.W.CodeHd h c P
theorem tab1_ok {h : Heap} {K : PySem.W.Frag} {x : Str} (e : tab1 h.get? K x = true) : ∃ P, Tab1 h K x P := by
  unfold tab1 at e
  split at e
  · rename_i c P h1 h2
    obtain ⟨e1, e⟩ := Bool.and_eq_true_iff.mp e
    obtain ⟨e2, e3⟩ := Bool.and_eq_true_iff.mp e
    exact ⟨P, h2, emptyTab_ok e1, Option.isNone_iff_eq_none.mp e2, c, h1, codeHB_ok e3⟩
  · cases e
theorem Tab1.keeps {h h' : Heap} {K : PySem.W.Frag} {x : Str} {P : Addr} (t : Tab1 h K x P) (k : ∀ b o, h.get? b = some o → h'.get? b = some o) : Tab1 h' K x P := ⟨t.tab, k _ _ t.emp, t.out, let ⟨c, h1, h2⟩ := t.code; ⟨c, h1, h2.keeps k⟩⟩
def tabsB (ms : List Str) (g : Addr → Option Obj) (K : PySem.W.Frag) : Bool := ms.all (tab1 g K) && decide ((ms.map (tabA K)).Nodup)
structure TabF (ms : List Str) (h : Heap) (K : PySem.W.Frag) : Prop where
  one : ∀ x ∈ ms, ∃ P, Tab1 h K x P
  nd : (ms.map (tabA K)).Nodup
def obsXT (n : Nat) (ms : List Str) (fb : List Fb) (fn : List DefX) (g : Addr → Option Obj) : AlT := (tabsB ms g (noTab (fragT n g)) && (obsX fb fn (noTab (fragT n g))).1, (obsX fb fn (noTab (fragT n g))).2)
theorem frG_mem {g : Addr → Option Obj} {as : List Addr} {p : Addr × Obj} (h : p ∈ He.frG g as) : g p.1 = some p.2 := by
  obtain ⟨a, _, e⟩ := List.mem_filterMap.mp h
  obtain ⟨o, h1, rfl⟩ := Option.map_eq_some_iff.mp e
  exact h1
theorem lookup_mem {a : Addr} {o : Obj} : ∀ {K : PySem.W.Frag}, K.lookup a = some o → (a, o) ∈ K
  | [], h => by cases h
  | (b, u) :: r, h => by
    rw [List.lookup_cons] at h
    cases q : (a == b) with
    | true =>
      rw [q] at h
      have e : u = o := Option.some.inj h
      rw [beq_iff_eq.mp q, e]
      exact List.mem_cons_self
    | false =>
      rw [q] at h
      exact List.mem_cons_of_mem _ (lookup_mem h)
theorem noTab_in {h : Heap} {n : Nat} : (noTab (fragT n h.get?)).In h := fun a o e => by
  have m : (a, o) ∈ noTab (fragT n h.get?) := lookup_mem e
  exact frG_mem (List.mem_filter.mp m).1
def hookXT (n : Nat) (ms : List Str) (fb : List Fb) (fn : List DefX) (i : IniV) : PySem.W.Hook where
  α := AlT
  obs := fun s => obsXT n ms fb fn s.heap.get?
  val := fun _ => valX fn i
  says := fun _ h => ∃ K : PySem.W.Frag, K.In h ∧ obsX fb fn K = valX fn i ∧ TabF ms h K
  of := fun _ s e => by
    have e1 : (tabsB ms s.heap.get? (noTab (fragT n s.heap.get?)) && (obsX fb fn (noTab (fragT n s.heap.get?))).1) = true := congrArg (fun z : AlT => z.1) e
    obtain ⟨h1, h2⟩ := Bool.and_eq_true_iff.mp e1
    obtain ⟨h3, h4⟩ := Bool.and_eq_true_iff.mp h1
    have e2 : (obsXT n ms fb fn s.heap.get?).2 = (valX fn i).2 := congrArg (fun z : AlT => z.2) e
    exact ⟨_, noTab_in, Prod.ext h2 e2, fun x hx => tab1_ok (List.all_eq_true.mp h3 x hx), of_decide_eq_true h4⟩
  keeps := fun _ _ _ ⟨K, hK, c, t⟩ k => ⟨K, PySem.W.Frag.In.keeps hK k, c, fun x hx => let ⟨P, q⟩ := t.one x hx; ⟨P, q.keeps k⟩, t.nd⟩
theorem obsXT_eq {n : Nat} {ms : List Str} {fb : List Fb} {fn : List DefX} {i : IniV} {g : Addr → Option Obj} {s : Shared} (h : ∀ a, g a = s.heap.get? a) : obsXT n ms fb fn g = (hookXT n ms fb fn i).obs s := by
  have e : g = s.heap.get? := funext h
  rw [e] <;> rfl
theorem tabs_list {K : PySem.W.Frag} : ∀ {ms : List Str}, (∀ x ∈ ms, ∃ P, tabA K x = some P) → ∃ Ps : List Addr, ms.map (tabA K) = Ps.map some
  | [], _ => ⟨[], rfl⟩
  | x :: ms, h => by
    obtain ⟨P, hP⟩ := h x List.mem_cons_self
    obtain ⟨Ps, e⟩ := tabs_list (ms := ms) fun y hy => h y (List.mem_cons_of_mem _ hy)
    exact ⟨P :: Ps, by rw [List.map_cons, List.map_cons, e, hP]⟩
/-- the goal of a head, with those that make lambdas -/
theorem walk_TT {l : PySem.W.OpenLaw} {n k : Nat} {q : Program} {loose : List Str} {XP : (Str → Option Value) → Heap → Prop} {YP : World → Heap → Prop} {d : DefRec} {x : Str} {F : TF} {ms : List Str}
    (hn : l.most = some n) (hn2 : n ≤ sizeLine) (hdf : d.params.defaults = []) (room : Room k callerA)
    (hF : ∀ (w : World) (mg : Str → Option Value) (fa : Addr) (h : Heap), YP w h → h.Ns mainGlobals mg → mg d.name = some (.ref fa) →
      ∃ (K : PySem.W.Frag) (fd : FuncData), K.In h ∧ TabF ms h K ∧ (∀ (s : Shared) (u : Value), BindsTo s fd ⟨[u], []⟩ [(x, u)]) ∧ ∀ base : Heap, K.In base → base.Ns mainGlobals mg → TabsB K mg ms base → TFn l.prog w K mg base k fa fd [x] F)
    (hval : ∀ ns : List Int, ns.length ≤ n → (∀ z ∈ ns, Builtin.Int.intBits z ≤ 1048576) → ∃ S, F [.scr ns] (tabS ms) = .ok (.bl true) S) :
    PySem.W.WalkO q loose XP YP l.row.toRowW d [] (fun f vs => PySem.call f vs) := by
  refine Att.attach_callB hn hdf fun w s0 s1 mg mb fa o pm cd doc a vs ns Gr Y ho hd hcd hmg hobj hi hlen hbits gens => ?_
  obtain ⟨K, fd, KX, T, hb, hF⟩ := hF w mg fa _ Y Gr.T.g hmg
  obtain ⟨Ps, hPs⟩ := tabs_list (K := K) (ms := ms) fun y hy => let ⟨P, t⟩ := T.one y hy; ⟨P, t.tab⟩
  have hl : Ps.length = ms.length := by
    have := congrArg List.length hPs
    rw [List.length_map, List.length_map] at this
    exact this.symm
  have nd : Ps.Nodup := by
    have := T.nd
    rw [hPs] at this
    exact List.Pairwise.of_map (f := some) (S := fun a b => a ≠ b) (R := fun a b => a ≠ b) (fun a b h e => h (by rw [e])) this
  have from1 : ∀ p ∈ Ps, ∃ y ∈ ms, Tab1 s1.heap K y p := fun p hp => by
    have : some p ∈ ms.map (tabA K) := by rw [hPs]; exact List.mem_map_of_mem hp
    obtain ⟨y, hy, e⟩ := List.mem_map.mp this
    obtain ⟨P, t⟩ := T.one y hy
    have : P = p := Option.some.inj (t.tab.symm.trans e)
    exact ⟨y, hy, this ▸ t⟩
  refine law_tfnT (ms := ms) (Ps := Ps) KX Gr.T.g Gr.T.b Gr.T.builtins Gr.T.nolimit gens Gr.T.bmain hobj hi (Nat.le_trans hlen hn2) room hl nd (fun p hp => let ⟨_, _, t⟩ := from1 p hp; t.emp) (fun p hp => let ⟨_, _, t⟩ := from1 p hp; t.out) (fun i y P h1 h2 => ?_) (fun y hy => ?_)
    (fun p hp => let ⟨_, _, t⟩ := from1 p hp; let ⟨c, _, h⟩ := t.code; ⟨c, h⟩) hF hb (hval ns hlen hbits)
  · have e : (ms.map (tabA K))[i]? = (Ps.map some)[i]? := by rw [hPs]
    rw [List.getElem?_map, List.getElem?_map, h1, h2] at e
    exact Option.some.inj e
  · obtain ⟨P, t⟩ := T.one y hy
    obtain ⟨c, h1, h2⟩ := t.code
    refine ⟨c, P, h1, t.tab, ?_, h2⟩
    have : some P ∈ Ps.map some := by
      rw [← hPs]
      exact List.mem_map.mpr ⟨y, hy, t.tab⟩
    obtain ⟨p, hp, e⟩ := List.mem_map.mp this
    cases e
    exact hp
end TL
set_option Elab.async false
set_option linter.all false
set_option maxRecDepth 100000
set_option maxHeartbeats 4000000
/-! The tree layer, part 43: told(lambda: e), as a walk uses it. -/
namespace TL
open PySem PySem.Spec PyProof.Rows L2 LamX
/-- the module's def told is of the known form -/
def ToldC (K : PySem.W.Frag) (mg : Str → Option Value) : Prop := ∃ (g : Addr) (fd : FuncData) (pg : Arguments) (bg : List Stmt) (sg : Scope), FunD K "_law_told" "_law_told" pg bg sg [] [] g fd ∧ mg "_law_told" = some (.ref g) ∧ Binds K fd [nLook] [] ∧ FnScope Ntold [nLook] sg ∧ ToldS sg ∧ ToldB bg sg
theorem de_toldC {z : Sg} {x : Str} {ex ms : List Str} {params : Arguments} {body : Expr} {scope : Scope} {tb : TEx} {p lpos pos : Pos} (j k : Nat) (T : ToldC z.K z.mg) (F : ExF z.K ex) (hde : z.mg dErr = some (.ref (He.ga z.K dErr))) (B : TabsB z.K z.mg ms z.base) (hm : x ∈ ms)
    (hl : ∀ E cd, DE (z.lam scope k E cd) body tb) (hk : k + 2 ≤ z.lv) (hx : z.qual ++ "<lambda>" = lamQ x := by rfl) (hcd : z.code = cdAt z.K (He.ga z.K x) := by rfl) (L : LamS z.scope scope := by exact lamS_by (by decide +kernel)) (hdef : ∀ env, defaultsOf params env = ([], []) := by intro _; rfl)
    (hbind : ∀ (q : Str) (cl : List (Str × Addr)) (pm cv ctv : Value), bindArgs (PySem.W.kla_fn "<lambda>" q params body scope cl pm cv ctv) ⟨[], []⟩ = pure [] := by intros; rfl) (hg : Gz z "_law_told" := by rfl) : DE z (.Call (.Name "_law_told" p) [.Lambda params body scope lpos] [] pos) (eTold ex j x tb) := by
  obtain ⟨g, fd, pg, bg, sg, h1, h2, h3, h4, h5, h6⟩ := T
  obtain ⟨c, P, b1, b2, b3⟩ := B x hm
  exact de_told (c := c) (P := P) h1 h2 h3 h4 h5 h6 F hde hx (hcd.trans b1) b2 b3 L hdef hbind hl hk hg
end TL
set_option Elab.async false
set_option linter.all false
set_option maxRecDepth 100000
set_option maxHeartbeats 4000000
/-! The tree layer, part 44: own[..], len(own), x in own, own == anything; f-strings; xs.extend(ys). -/
namespace TL
open PySem PySem.Spec PyProof.Rows L2

section
variable {z : Sg} {k : Nat} {C m : Str} {F : TF} {a b e : Expr} {ta tb : TEx} {tl : TAx} {p pos : Pos}
/-! ### own[y] -/
def subO (C : Str) (F : TF) (x y : D) (S : List O) : Out D := if isOwn C S x then F [x, y] S else .stuck
theorem de_subO (T : TMet z.P z.w z.K z.mg z.base k C "__getitem__" 2 F) (hf : fnB C "__getitem__" z.K = true) (ha : DE z a ta) (hb : DE z b tb) (hk : k + 1 ≤ z.lv) (hsl : ∀ o i, subscripted b true o i = runValue (.builtin "lifetime.subscript" ⟨[o, i], []⟩) := by intro _ _; rfl) :
    DE z (.Subscript a b pos) (eBin (subO C F) ta tb) := by
  obtain ⟨τ, h1, q1⟩ := ha
  obtain ⟨τ2, h2, q2⟩ := hb
  refine ⟨fun σ H Q => τ σ H fun x H1 => τ2 σ H1 fun y H2 => rS2 z (subO C F) σ x y H2 Q, fun X fx => ⟨fun pins s σ H Q I hq => ?_⟩, fun g S ρ σ H Q s rs p => ?_⟩
  · refine Subscript_ (binT (h1 X fx) (h2 X fx) I hq fun v u s2 x y H2 I2 rx ry q => ?_)
    obtain ⟨g, S, dx, dy, hs, r1, r2, p⟩ := q
    unfold subO at p
    split at p
    · rename_i h
      obtain ⟨a', _, _, rfl, ea⟩ := own_at hs h r1
      obtain rfl : v = Value.ref a' := rx
      have e0 := I2.env0.in1
      rw [fx.prog, fx.w, fx.K, fx.mg, fx.base] at e0
      obtain ⟨f, M, fn, q⟩ := code_met T fx (A := X.A.in1) ((fx.room.mono hk).in1) fx.gd (fnB_ok hf) I2 e0 (us := [.ref a', u]) (vs := [.ref a', y]) (.cons rfl (.cons ry .nil)) hs (ds := [dx, dy]) (by simp only [RVs]; exact ⟨_, _, rfl, r1, _, _, rfl, r2, rfl⟩) p
      obtain ⟨ox, od, J⟩ := inst_of I2 ea
      obtain ⟨mm, fr⟩ := I2.fr
      exact PySem.W.sub_K fr I2.ok.mod.kin J M.at_ fn M.fn (wpAny_call q) (hsl _ _)
    · exact p.elim
  · exact q1 g S ρ σ H _ s rs (p.bind fun x S1 g1 H1 v e1 s1 r1 p1 => q2 g1 S1 ρ σ H1 _ s1 (rs.mono s.live e1) (p1.bind fun y S2 g2 H2 u e2 s2 r2 p2 => ⟨g2, S2, x, y, s2, r1.mono s1.live e2, r2, p2⟩))

/-! ### len(own) -/
def lenI (r : D) (S : List O) : Out D := match r with
  | .int n => if 0 ≤ n ∧ n < 2 ^ 63 then .ok (.int n) S else .stuck
  | _ => .stuck
def lenO (C : Str) (F : TF) (ds : List D) (S : List O) : Out D := match ds with
  | [d] => if isOwn C S d then ((F [d] S).nox).bind lenI else .stuck
  | _ => .stuck
theorem Out.nox_bind {α β : Type} (o : Out α) (f : α → List O → Out β) : (o.nox.bind f).nox = o.nox.bind fun a S => (f a S).nox := by
  cases o <;> rfl
def rLenO (z : Sg) (C : Str) (F : TF) : List V → Hp → VK → Prop := fun vs H Q => ∃ (g : G) (S : List O) (d : D) (v : V), vs = [v] ∧ SR z.K g S H ∧ RV z.K g H d v ∧ isOwn C S d = true ∧
  Post z.K (fun _ _ _ _ => False) (RV z.K) g H [] (fun w H' => ∃ n, w = .int n ∧ (0 ≤ n ∧ n < 2 ^ 63) ∧ Q (.int n) H') (F [d] S).nox
theorem de_lenO (T : TMet z.P z.w z.K z.mg z.base k C "__len__" 1 F) (hf : fnB C "__len__" z.K = true) (hm : z.mg "len" = none) (ha : DA z [e] tl) (hk : k + 1 ≤ z.lv) (hg : Gz z "len" := by rfl) (hs : ∀ env, starEach [e] env = (false, eval e env) :: starEach [] env := by intro _; rfl) : DE z (.Call (.Name "len" p) [e] [] pos) (eArgs (lenO C F) tl) := by
  refine de_callB (r := rLenO z C F) (fun X fx pins s σ H xs us Q I r h => ?_) (fun g S H σ Q xs vs s r pp => ?_) boot_len hm ha hg (by decide) (by decide) hs
  · obtain ⟨g, S, d, v, rfl, hs, rd, ho, pp⟩ := h
    obtain ⟨a', _, _, rfl, ea⟩ := own_at hs ho rd
    obtain ⟨u, rfl, ru⟩ := r.one
    obtain rfl : u = Value.ref a' := ru
    have e0 := I.env0.in1
    rw [fx.prog, fx.w, fx.K, fx.mg, fx.base] at e0
    obtain ⟨f, M, fn, q⟩ := code_met T fx (A := X.A.in1) ((fx.room.mono hk).in1) fx.gd (fnB_ok hf) I e0 (us := [.ref a']) (vs := [.ref a']) (.cons rfl .nil) hs (ds := [d]) (by simp only [RVs]; exact ⟨_, _, rfl, rd, rfl⟩) (Post.ofNox pp)
    obtain ⟨ox, od, J⟩ := inst_of I ea
    obtain ⟨mm, fr⟩ := I.fr
    refine PySem.W.len_K fr I.ok.mod.kin J M.at_ M.fn (wpAny_mono (wpAny_call q) (fun w s' hw => ?_) fun _ _ e => e)
    obtain ⟨w', H', I', rw', n, rfl, hn, q'⟩ := hw
    obtain ⟨tk, rfl⟩ : ∃ t, w = Value.int n t := rw'
    exact ⟨hn, .int n, H', I'.tok _, ⟨_, rfl⟩, q'⟩
  · unfold lenO at pp
    split at pp
    · rename_i d
      split at pp
      · rename_i ho
        obtain ⟨v, rfl, rr⟩ := rvs1 r
        refine ⟨g, S, d, v, rfl, s, rr, ho, ?_⟩
        have p2 : Post z.K z.W (RV z.K) g H σ (fun w H' => ∃ n, w = .int n ∧ (0 ≤ n ∧ n < 2 ^ 63) ∧ Q (.int n) H') (F [d] S).nox := pp.bind fun r' S1 g1 H1 w e1 s1 r1 p1 => by
          unfold lenI at p1
          split at p1
          · split at p1
            · exact ⟨_, rv_int r1, by assumption, p1.here s1 (by simp only [RV])⟩
            · exact p1.elim
          · exact p1.elim
        revert p2
        cases F [d] S with
        | ok a0 S0 => exact fun h => h
        | exc C' d' S0 => exact fun h => h
        | stuck => exact fun h => h
      · exact pp.elim
    · exact pp.elim

/-! ### y in own -/
def bool1 (r : D) (S : List O) : Out D := match r with
  | .bl b => .ok (.bl b) S
  | _ => .stuck
def inO (C : Str) (F : TF) (y x : D) (S : List O) : Out D := if isOwn C S x then (F [x, y] S).bind bool1 else .stuck
theorem op_inO (T : TMet z.P z.w z.K z.mg z.base k C "__contains__" 2 F) (hk : k ≤ z.lv) : OpS z (compareOp .In) (inO C F) := by
  intro X fx pins s σ H x y v u Q I rx ry g S dx dy hs r1 r2 p
  unfold inO at p
  split at p
  · rename_i h
    obtain ⟨a', _, _, rfl, ea⟩ := own_at hs h r2
    obtain rfl : u = Value.ref a' := ry
    have p2 : Post z.K z.W (RV z.K) g H σ (fun w H' => ∃ b, w = .bl b ∧ Q (.bl b) H') (F [dy, dx] S) := p.bind fun r' S1 g1 H1 w e1 s1 r1 p1 => by
      unfold bool1 at p1
      split at p1
      · exact ⟨_, rv_bl r1, p1.here s1 (by simp only [RV])⟩
      · exact p1.elim
    obtain ⟨f, M, q⟩ := run_met T fx hk I (vs := [.ref a', x]) (us := [.ref a', v]) (.cons rfl (.cons rx .nil)) hs (ds := [dy, dx]) (by simp only [RVs]; exact ⟨_, _, rfl, r2, _, _, rfl, r1, rfl⟩) p2
    obtain ⟨ox, od, J⟩ := inst_of I ea
    obtain ⟨mm, fr⟩ := I.fr
    refine PySem.W.in_K fr I.ok.mod.kin J M.at_ M.fn (thn q fun w s' hw => ?_)
    obtain ⟨w', H', I', rw', b, rfl, q'⟩ := hw
    cases rw'
    exact wpAny_truthy_bool ⟨.bl b, H', I', rfl, q'⟩
  · exact p.elim

/-! ### own == a value of another kind -/
def tyLB (C : Str) (K : PySem.W.Frag) : Bool := tyL.all fun n => decide (PySem.W.subIn K (.type n) (.ref (He.ga K C)) = some false)
def tyIn (S : List O) (y : D) : Bool := match tyD S y with
  | some n => decide (n ∈ tyL)
  | none => false
def ownE (C : Str) (F : TF) (base : D → D → List O → Out D) (x y : D) (S : List O) : Out D := if isOwn C S x then (if isOwn C S y || tyIn S y then F [x, y] S else .stuck) else base x y S
theorem op_eqE {base : D → D → List O → Out D} (T : TMet z.P z.w z.K z.mg z.base k C "__eq__" 2 F) (hb : OpS z (compareOp .Eq) base) (N : tyLB C z.K = true) (hk : k ≤ z.lv) : OpS z (compareOp .Eq) (ownE C F base) := by
  intro X fx pins s σ H x y v u Q I rx ry g S dx dy hs r1 r2 p
  unfold ownE at p
  split at p
  · rename_i h1
    by_cases h2 : isOwn C S dy = true
    · rw [h2, Bool.true_or, if_pos rfl] at p
      exact op_eq_own T hk X fx pins s σ H x y v u Q I rx ry g S dx dy hs r1 r2 (by unfold own2; rw [h1, h2]; exact p)
    · have h2 := Bool.eq_false_iff.mpr h2
      rw [h2, Bool.false_or] at p
      split at p
      · rename_i h3
        unfold tyIn at h3
        split at h3
        · rename_i n hn
          have hn' := of_decide_eq_true h3
          obtain ⟨a', _, _, rfl, ea⟩ := own_at hs h1 r1
          obtain rfl : v = Value.ref a' := rx
          obtain ⟨f, M, q⟩ := run_met T fx hk I (vs := [.ref a', y]) (us := [.ref a', u]) (.cons rfl (.cons ry .nil)) hs (ds := [dx, dy]) (by simp only [RVs]; exact ⟨_, _, rfl, r1, _, _, rfl, r2, rfl⟩) p
          obtain ⟨ox, od, J⟩ := inst_of I ea
          obtain ⟨mm, fr⟩ := I.fr
          have ty := tyD_ok hs r2 hn
          rw [← fx.K] at ty
          obtain ⟨P, kx, hP, _⟩ := kit_of I ry ty
          have nf := of_decide_eq_true (List.all_eq_true.mp N n hn')
          rw [← fx.K] at nf
          refine PySem.W.cmp_ofEq (PySem.W.cmp_K (by have := fx.hu; omega) fr I.ok.mod.kin J (kx.ty _ _ I.kIn hP) ?_ M.at_ M.fn (thn q fun u s' h => cmpBack_ep h))
          unfold PySem.W.notFirst
          rw [show He.ga z.K C = He.ga X.K C by rw [fx.K], nf]
          simp
        · cases h3
      · exact p.elim
  · exact hb X fx pins s σ H x y v u Q I rx ry g S dx dy hs r1 r2 p
end

/-! ### f'..' -/
def fmtD (d : D) (S : List O) : Out D := match d with
  | .str y => if y.length ≤ sizeLine then .ok (.str y) S else .stuck
  | .int i => if i.natAbs.log2 < 1920 then .ok (.str (toString i)) S else .stuck
  | _ => .stuck
def eJs : List TEx → Str → TEx
  | [], acc => fun _ S => .ok (.str acc) S
  | t :: ts, acc => fun ρ S => (t ρ S).bind fun d S1 => match d with
    | .str y => if (acc ++ y).length ≤ sizeLine then eJs ts (acc ++ y) ρ S1 else .stuck
    | _ => .stuck
def DJ (z : Sg) (es : List Expr) (ts : List TEx) : Prop := ∃ τs, (∀ X, Fits z X → PJ X es τs) ∧ ∀ acc g S ρ σ H Q, SR z.K g S H → RS z.K g H ρ σ → Post z.K z.W (RV z.K) g H σ Q (eJs ts acc ρ S) → tJs τs acc σ H fun out H1 => Q (.str out) H1
section
variable {z : Sg} {e v1 v2 : Expr} {es rest : List Expr} {t : TEx} {ts : List TEx} {pos : Pos}
theorem de_fmt (h : DE z e t) : DE z (.FormattedValue e (-1) none pos) (eUn fmtD t) := by
  refine de_un (r := fun x H1 Q => (∃ y : Str, x = .str y ∧ y.length ≤ sizeLine ∧ Q (.str y) H1) ∨ ∃ i : Int, x = .int i ∧ i.natAbs.log2 < 1920 ∧ Q (.str (toString i)) H1) (fun X fx τ h => pe_fmt h) (fun g S H σ Q x v s rx p => ?_) h
  unfold fmtD at p
  split at p
  · split at p
    · exact .inl ⟨_, rv_str rx, by assumption, p.here s (by simp only [RV])⟩
    · exact p.elim
  · split at p
    · exact .inr ⟨_, rv_int rx, by assumption, p.here s (by simp only [RV])⟩
    · exact p.elim
  · exact p.elim
theorem dj_nil : DJ z [] [] := ⟨[], fun _ _ => .nil, fun acc g S ρ σ H Q s _ p => p.here s (by simp only [RV])⟩
theorem dj_cons (h : DE z e t) (r : DJ z es ts) : DJ z (e :: es) (t :: ts) := by
  obtain ⟨τ, h1, q1⟩ := h
  obtain ⟨τs, h2, q2⟩ := r
  refine ⟨τ :: τs, fun X fx => .cons (h1 X fx) (h2 X fx), fun acc g S ρ σ H Q s rs p => ?_⟩
  unfold tJs
  refine q1 g S ρ σ H _ s rs (p.bind fun d S1 g1 H1 v e1 s1 r1 p1 => ?_)
  split at p1
  · split at p1
    · exact ⟨_, rv_str r1, by assumption, q2 _ g1 S1 ρ σ H1 Q s1 (rs.mono s.live e1) p1⟩
    · exact p1.elim
  · exact p1.elim
theorem de_fs (h : DJ z (v1 :: v2 :: rest) ts) : DE z (.JoinedStr (v1 :: v2 :: rest) pos) (eJs ts Str.empty) := by
  obtain ⟨τs, h1, q1⟩ := h
  exact ⟨_, fun X fx => pe_joined (h1 X fx), fun g S ρ σ H Q s rs p => q1 _ g S ρ σ H Q s rs p⟩
end
/-! ### xs.extend(ys) -/
def extD (i : Nat) (ds : List D) (y : D) (S : List O) : Out D := match y with
  | .lst es => if ds.length + es.length ≤ sizeLine then .ok .non (S.set i (.lst (ds ++ es))) else .stuck
  | _ => .stuck
section
variable {z : Sg} {a b : Expr} {ta tb : TEx} {apos cpos : Pos}
theorem de_extend (ha : DE z a ta) (hb : DE z b tb) (hbase : ∀ env, attributeBase a "extend" env (eval a env) = eval a env := by intro _; rfl)
    (hfew : ∀ env, ((backTo cpos (starEach [b] env)).all (fun x => !x.1) && (backToKw cpos (keywordEach [] env)).all (fun x => x.1.isSome) && decide ([b].length + ([] : List Keyword).length + (if ([] : List Keyword).isEmpty then 0 else 1) < 30)) = true := by intro _; rfl)
    (hline : (apos.endLine == cpos.line) = true := by rfl) (hs : ∀ env, starEach [b] env = (false, eval b env) :: starEach [] env := by intro _; rfl) : DE z (.Call (.Attribute a "extend" apos) [b] [] cpos) (eLm extD ta tb) :=
  de_lm PySem.F.slot_list_extend PySem.F.type_list_extend (fun X => mt_extend) (fun g S H σ Q l i ds y w xs s h1 h2 h3 h4 p => by
    unfold extD at p
    split at p
    · split at p
      · rename_i es hz
        simp only [RV] at h4
        obtain ⟨b', zs, rfl, h5, _, h6⟩ := h4
        refine ⟨l, b', xs, zs, rfl, rfl, h2, h5, by rw [h3.length, h6.length]; exact hz, ?_⟩
        exact Post.write s h1 p (fun e => ⟨_, upd_same, (h3.append h6).mono s.live e _ _⟩) fun e => by simp only [RV]
      · exact p.elim
    · exact p.elim) ha hb hbase hfew hline hs
end
/-! ### x in a list or tuple of flat values; == of a list that is a handle -/
def flD : D → Bool
  | .non => true
  | .bl _ => true
  | .int _ => true
  | .str _ => true
  | _ => false
def vF : D → V
  | .bl b => .bl b
  | .int i => .int i
  | .str x => .str x
  | _ => .non
def eqF : D → D → Bool
  | .non, .non => true
  | .bl a, .bl b => a == b
  | .bl a, .int b => (if a then 1 else 0) == b
  | .int a, .bl b => a == (if b then 1 else 0)
  | .int a, .int b => a == b
  | .str a, .str b => a == b
  | _, _ => false
def inqG (neg : Bool) (x y : D) (S : List O) : Out D := match seqOf S y with
  | some ds => if flD x = true ∧ ds.all flD = true then .ok (.bl (if neg then !(ds.any fun a => eqF a x) else ds.any fun a => eqF a x)) S else .stuck
  | none => .stuck
abbrev inqD : D → D → List O → Out D := inqG false
abbrev ninqD : D → D → List O → Out D := inqG true
section
variable {K : PySem.W.Frag} {g : G} {H : Hp}
theorem rv_flat {d : D} {v : V} (r : RV K g H d v) (f : flD d = true) : v = vF d ∧ flatV v = true := by
  cases d with
  | non => rw [rv_non r]; exact ⟨rfl, rfl⟩
  | bl b => rw [rv_bl r]; exact ⟨rfl, rfl⟩
  | int b => rw [rv_int r]; exact ⟨rfl, rfl⟩
  | str b => rw [rv_str r]; exact ⟨rfl, rfl⟩
  | _ => cases f
theorem rvs_flat : ∀ {ds : List D} {xs : List V}, RVs K g H ds xs → ds.all flD = true → xs = ds.map vF ∧ xs.all flatV = true
  | [], _, r, _ => by
    simp only [RVs] at r
    subst r
    exact ⟨rfl, rfl⟩
  | d :: ds, _, r, f => by
    simp only [RVs] at r
    obtain ⟨v, r', rfl, h1, h2⟩ := r
    simp only [List.all_cons, Bool.and_eq_true] at f
    obtain ⟨e1, e2⟩ := rv_flat h1 f.1
    obtain ⟨e3, e4⟩ := rvs_flat h2 f.2
    subst e1 e3
    exact ⟨rfl, by simp only [List.all_cons, e2, e4, Bool.and_self]⟩
theorem eqF_ok {a b : D} (fa : flD a = true) (fb : flD b = true) : eqV (vF a) (vF b) = eqF a b := by
  cases a <;> cases fa <;> cases b <;> cases fb <;> rfl
theorem inF_ok {x : D} (fx : flD x = true) : ∀ {ds : List D}, ds.all flD = true → inV (vF x) (ds.map vF) = ds.any fun a => eqF a x
  | [], _ => rfl
  | d :: ds, f => by
    simp only [List.all_cons, Bool.and_eq_true] at f
    have ih := inF_ok fx f.2
    unfold inV at ih ⊢
    simp only [List.map_cons, List.any_cons, ih, eqF_ok f.1 fx]
theorem ok_inq {W : WX} (neg : Bool) : OkB K W (rIn K neg) (inqG neg) := by
  intro g S H σ Q x y v u s rx ry p
  unfold inqG at p
  split at p
  · rename_i ds q
    split at p
    · rename_i hf
      obtain ⟨a, xs, rfl, h1, h2⟩ := seq_at s q ry
      obtain ⟨e1, e2⟩ := rv_flat rx hf.1
      obtain ⟨e3, e4⟩ := rvs_flat h2 hf.2
      refine ⟨a, xs, rfl, h1, e2, e4, p.here s ?_⟩
      simp only [RV]
      rw [e1, e3, inF_ok hf.1 hf.2]
    · exact p.elim
  · exact p.elim
end
section
variable {z : Sg} {a b : Expr} {ta tb : TEx} {pos : Pos}
theorem op_inqF (X : Cx) (f : Fits z X) : OpR X (compareOp .In) (rIn z.K false) := f.K ▸ op_in_seq
theorem op_ninqF (X : Cx) (f : Fits z X) : OpR X (compareOp .NotIn) (rIn z.K true) := f.K ▸ op_notIn_seq
theorem de_inq (ha : DE z a ta) (hb : DE z b tb) (hm : behindInMarks .In b = false := by rfl) : DE z (.Compare a [.In] [b] pos) (eBin inqD ta tb) := de_cmp op_inqF (ok_inq false) hm ha hb
theorem dt_inq (ha : DE z a ta) (hb : DE z b tb) (hm : behindInMarks .In b = false := by rfl) : DT z (.Compare a [.In] [b] pos) (tBl (eBin inqD ta tb)) := dt_cmp op_inqF (ok_inq false) hm ha hb
theorem de_ninq (ha : DE z a ta) (hb : DE z b tb) (hm : behindInMarks .NotIn b = false := by rfl) : DE z (.Compare a [.NotIn] [b] pos) (eBin ninqD ta tb) := de_cmp op_ninqF (ok_inq true) hm ha hb
theorem dt_ninq (ha : DE z a ta) (hb : DE z b tb) (hm : behindInMarks .NotIn b = false := by rfl) : DT z (.Compare a [.NotIn] [b] pos) (tBl (eBin ninqD ta tb)) := dt_cmp op_ninqF (ok_inq true) hm ha hb
/-- == of a list that is a handle -/
def eqHD (x y : D) (S : List O) : Out D := match x with
  | .hnd i => (match S[i]? with
    | some (.lst ds) => eqD (.lst ds) y S
    | _ => .stuck)
  | _ => .stuck
theorem eqD_lst (ds : List D) (y : D) (S : List O) : eqD (.lst ds) y S = (match pd (.lst ds), pd y with
    | some p, some q => if SeqAt.shaped p = true ∧ SeqAt.shaped q = true then .ok (.bl (PyData.eqv p q)) S else .stuck
    | _, _ => .stuck) := by
  cases y <;> rfl
theorem ok_eqH {K : PySem.W.Frag} {W : WX} : OkB K W (rEqA K) eqHD := by
  intro g S H σ Q x y v u s rx ry p
  unfold eqHD at p
  split at p
  · rename_i i
    split at p
    · rename_i ds q
      rw [eqD_lst] at p
      split at p
      · rename_i e1 e2
        split at p
        · rename_i hh
          simp only [RV] at rx
          obtain ⟨a, rfl, h0⟩ := rx
          obtain ⟨xs, h1, h2⟩ := s.rep i a _ h0 q
          simp only [pd] at e1
          cases q1 : pds ds with
          | none => rw [q1] at e1; cases e1
          | some ps =>
            rw [q1] at e1
            cases e1
            exact .inr ⟨_, _, .lst (.inl (.inl h1)) (pds_dp ds xs ps h2 q1 (by simpa only [PyData.hasDict] using hasDict_shaped hh.1)), pd_dp _ _ _ ry e2 (hasDict_shaped hh.2), hh.1, hh.2, p.here s (by simp only [RV])⟩
        · exact p.elim
      · exact p.elim
    · exact p.elim
  · exact p.elim
theorem de_eqH (ha : DE z a ta) (hb : DE z b tb) : DE z (.Compare a [.Eq] [b] pos) (eBin eqHD ta tb) := de_cmp op_eqA ok_eqH (nomark _) ha hb
theorem dt_eqH (ha : DE z a ta) (hb : DE z b tb) : DT z (.Compare a [.Eq] [b] pos) (tBl (eBin eqHD ta tb)) := dt_cmp op_eqA ok_eqH (nomark _) ha hb
end
end TL
set_option Elab.async false
set_option linter.all false
set_option maxRecDepth 100000
set_option maxHeartbeats 4000000
/-! The tree layer, part 45: name = [..], on one line, the name a local. -/
namespace TL
open PySem PySem.Spec PyProof.Rows L2
section
variable {z : Sg} {pos : Pos}
theorem ds_setLc {i : Nat} {y : Str} {py spos : Pos} (own : Bool) (ow : List (Str × Nat)) {elt tg iter : Expr} {ifs : List Expr} {scope : Scope} {ws : List Nat} {ti : TIx} {t : TGx} {tt : TTx} {te : TEx} (hi : DI z tg iter ti) (hg : DG (z.blk scope) tg ws t) (ht : DTs (z.blk scope) ifs tt) (he : DE (z.blk scope) elt te)
    (ok : blkC z.N z.scope scope ow = true := by decide +kernel) (hw : ∀ j ∈ ws, j ∈ ow.map (·.2) := by decide) (hs : ∀ env x, foldedSetIterable iter env x = pure x := by intro _ _; rfl)
    (hy : z.N[i]? = some y := by rfl) (hyl : z.scope.names.lookup y = some .local := by rfl) (hk : z.scope.kind = .function := by rfl) (hl : (py.line == pos.line) = true := by rfl) (ha : (scope.names.any fun (n, k) => n == y && (k == .local || k == .cell)) = false := by rfl) :
    DS z (.Assign [.Name y py] (.ListComp elt [⟨tg, iter, ifs, 0⟩] scope pos) spos) (sSet i (eLc own (ow.map (·.2)) ti t tt te)) := by
  obtain ⟨wi, h1, q1⟩ := hi
  obtain ⟨τg, h2, q2⟩ := hg
  obtain ⟨τt, h3, q3⟩ := ht
  obtain ⟨τe, h4, q4⟩ := he
  have rd : RdE z (tLc wi τg τt τe (ow.map (·.2))) (eLc own (ow.map (·.2)) ti t tt te) := by
    intro g S ρ σ H Q s rs p
    refine q1 g S ρ σ H _ s rs (p.bind fun ds S1 g1 H1 J e1 s1 r1 p1 => ?_)
    split at p1
    · rename_i hlen
      obtain ⟨Gd, Y, w, hG, hY⟩ := r1
      intro Dp hn
      have hd : Dp ∉ g1.hs := fun h => s1.unbad hn (s1.live _ h)
      have rs1 := rs.mono s.live e1
      have l0 : LcAt z.K g1 H1 Dp (g1.on Dp) (upd H1 Dp (.lst [])) S1 [] :=
        ⟨fun b o q _ => .inl (same_new hn b o q), fun b o q _ _ => same_new hn b o q, (Ext.on (u := .lst []) hn).good, fun _ h => .inl h, ⟨[], by simp [G.on], fun _ h => by cases h⟩, s1.on hn, ⟨[], upd_same, by simp only [RVs]⟩, .inr rfl⟩
      have bnd : ∀ {i : Nat} {acc : List D}, acc.length ≤ i → i < ds.length → acc.length < sizeLine := fun h1 h2 => by omega
      refine lc_it w (fun i H' => ∃ g' S' acc, LcAt z.K g1 H1 Dp g' H' S' acc ∧ RS z.K g' H' ρ σ ∧ acc.length ≤ i ∧ Post z.K z.W (RV z.K) g1 H1 σ Q ((compL (ow.map (·.2)) t tt te (ds.drop i) acc ρ S').bind (mkL own)))
        ⟨_, S1, [], l0, rs1.mono s1.live (Ext.on hn), Nat.le_refl _, p1⟩ (fun i H' _ h => ?_) (fun i x H' H2 hi h y => ?_) fun H' h => ?_
      · obtain ⟨g', S', acc, l, _⟩ := h
        exact hG g' H' l.ext
      · obtain ⟨g', S', acc, l, rs', hacc, p'⟩ := h
        obtain ⟨hk, d, hdx, rd⟩ := hY i H' x H2 g' S' hi l.ext l.s y
        have e2 : Ext g' H' g' H2 := Ext.same hk
        have l2 := l.later s1 hd e2 (l.s.same hk)
        have rs2 := rs'.mono l.s.live e2
        have eq : ds.drop i = d :: ds.drop (i + 1) := by
          obtain ⟨hl, hv⟩ := List.getElem?_eq_some_iff.mp hdx
          rw [List.drop_eq_getElem_cons hl, hv]
        rw [eq] at p'
        unfold compL at p'
        rw [Out.bind_assoc] at p'
        refine q2 g' S' _ _ H2 d x _ l2.s (rs2.wipe _) rd (PostG.nox p' fun ρ3 S3 g3 H3 σ3 e3 s3 r3 off p3 => ?_)
        refine ⟨wipe_off off hw, ?_⟩
        have l3 := l2.later s1 hd e3 s3
        have rs3 := rs2.mono l2.s.live e3
        rw [Out.bind_assoc] at p3
        refine q3 g3 S3 ρ3 σ3 H3 _ s3 r3 (Post.bindN p3 fun k S4 g4 H4 k' e4 s4 r4 p4 => ?_)
        have r4 : k = k' := r4
        subst r4
        have l4 := l3.later s1 hd e4 s4
        have rs4 := rs3.mono l3.s.live e4
        show if k = true then _ else _
        split
        · rename_i hkt
          rw [if_pos hkt, Out.bind_assoc] at p4
          refine q4 g4 S4 ρ3 σ3 H4 _ s4 (r3.mono s3.live e4) (Post.bindN p4 fun yv S5 g5 H5 v e5 s5 r5 p5 => ?_)
          have l5 := l4.later s1 hd e5 s5
          obtain ⟨xs, hx1, hx2⟩ := l5.at_
          refine ⟨xs, hx1, by rw [hx2.length]; exact bnd hacc hi, g5, S5, acc ++ [yv], l5.push hn hd hx1 r5, ?_, by simp; omega, p5⟩
          exact (rs4.mono l4.s.live e5).wk (Wk.wr l5.bd) _ _
        · rename_i hkf
          rw [if_neg hkf] at p4
          exact ⟨g4, S4, acc, l4, rs4, by omega, p4⟩
      · obtain ⟨g', S', acc, l, _, _, p'⟩ := h
        rw [List.drop_length] at p'
        exact l.fin s1 hn hd p'
    · exact p1.elim
  refine ⟨tAsg (tLc wi τg τt τe (ow.map (·.2))) (gName i), fun X f => ps_setLc f.calm f.ndX (f.at hy) (by rw [f.scope]; exact hyl) (sw_true (by rw [f.scope]; exact hk) (by rw [f.scope]; exact hyl) hl ha) (h1 X f) (by rw [f.N, f.scope]; exact blkOk_by ok) (fun s H C cl fp => h2 _ (f.blk scope s H C cl fp)) (fun s H C cl fp => h3 _ (f.blk scope s H C cl fp)) (fun s H C cl fp => h4 _ (f.blk scope s H C cl fp)) (hs _), fun g S ρ σ H T s rs p => ?_⟩
  exact rd g S ρ σ H _ s rs (p.stm s rs fun d S1 g1 H1 v e1 s1 rs1 r1 p1 => p1.here s1 (RS.set r1 i rs1))
end
end TL
set_option Elab.async false
set_option linter.all false
set_option maxRecDepth 100000
set_option maxHeartbeats 4000000
/-! The tree layer, part 46: name = {.. for ..}, on one line, the name a local. -/
namespace TL
open PySem PySem.Spec PyProof.Rows L2
theorem sw_trueD {kx vx : Expr} {gs : List Comprehension} {scope : Scope} {pos py : Pos} {y : Str} {l : Nat} {env : Env} (hk : env.scope.kind = .function) (hy : env.scope.names.lookup y = some .local) (hl : (py.line == pos.line) = true)
    (ha : (scope.names.any fun (n, k) => n == y && (k == .local || k == .cell)) = false) : swapsWith (.DictComp kx vx gs scope pos) (some (.Name y py)) l env = pure true := by
  have ky : env.kindOf y = some .local := hy
  have hb : env.blockKind = .function := by unfold Env.blockKind; rw [hk]; rfl
  unfold swapsWith
  simp only [hb, ky, ha, Expr.pos, hl]
  rfl
section
variable {X : Cx}
theorem ps_setDc {i : Nat} {y : Str} {py : Pos} {kx vx tg iter : Expr} {ifs : List Expr} {scope : Scope} {own : List (Str × Nat)} {pos spos : Pos} {wi : TI} {g : TG} {tt : TT} {tk tv : TE} (hc : X.calm = true) (hN : X.N.Nodup) (hy : X.N[i]? = some y) (hyl : X.env.scope.names.lookup y = some .local)
    (hsw : swapsWith (.DictComp kx vx [⟨tg, iter, ifs, 0⟩] scope pos) (some (.Name y py)) spos.line X.env = pure true) (hi : PI X tg iter wi) (ok : BlkOk X.N X.env.scope scope own)
    (hg : ∀ (s : Shared) (H : Hp) (C : Addr) (cl : List (Str × Addr)) (fp : List Addr), PG (X.blk s H scope (compEnvC scope cl C X.env) fp) tg g) (ht : ∀ (s : Shared) (H : Hp) (C : Addr) (cl : List (Str × Addr)) (fp : List Addr), PTs (X.blk s H scope (compEnvC scope cl C X.env) fp) ifs tt)
    (hk : ∀ (s : Shared) (H : Hp) (C : Addr) (cl : List (Str × Addr)) (fp : List Addr), PE (X.blk s H scope (compEnvC scope cl C X.env) fp) kx tk)
    (he : ∀ (s : Shared) (H : Hp) (C : Addr) (cl : List (Str × Addr)) (fp : List Addr), PE (X.blk s H scope (compEnvC scope cl C X.env) fp) vx tv) (hs : ∀ x, foldedSetIterable iter X.env x = pure x := by intro _; rfl) :
    PS X (.Assign [.Name y py] (.DictComp kx vx [⟨tg, iter, ifs, 0⟩] scope pos) spos) (tAsg (tDc wi g tt tk tv (own.map (·.2))) (gName i)) := by
  refine ⟨fun pins s σ H D I h => ?_⟩
  rw [exec_Assign_Name_used _ _ _ _ hsw]
  refine wpAny_bind (wpAny_standAt (wpAny_bind ?_))
  show wpAny _ X.A (do let _ ← comprehension (.DictComp kx vx [⟨tg, iter, ifs, 0⟩] scope pos) scope X.env (firstIterPos [⟨tg, iter, ifs, 0⟩] pos) newDict false (eval iter X.env) (some (assign (.Name y py) X.env))) _ _ s
  have h : tDc wi g tt tk tv (own.map (·.2)) σ H (fun x H1 => gName i x σ H1 D.nx) := h
  refine wpAny_bind (thn (dc_core (Qf := fun _ s' => SP X pins D .next s') hc hN I hi ok hg ht hk he hs h fun L C s' m H' I' q hn f => ?_) fun _ s' hq => wpAny_pure (wpAny_pure hq))
  show wpAny _ _ (assign (.Name y py) X.env (.ref L)) _ _ _
  refine wpAny_assign_Name (store_ok2 (v := V.ref L) I' hN hy (.inl hyl) rfl (fun s2 I2 ⟨a, sb, ha⟩ => ?_) (.inr hyl))
  obtain ⟨f0, f1, f2, f3, f4, f5⟩ := f
  have haC : C ≠ a := by
    rcases ha with z | z
    · rw [z]; exact f1
    · exact fun e => f4 y a z e.symm
  refine ⟨m, hn.sameBut sb haC, fun h3 sb3 => ?_⟩
  exact ⟨_, H', I2.turned (t' := s2.toks) (fun b o hb e => (sb3.2 b hb).trans e) f0 f1 f3 f4 f5, q⟩
end
section
variable {z : Sg} {pos : Pos}
theorem ds_setDc {i : Nat} {y : Str} {py spos : Pos} (own : Bool) (ow : List (Str × Nat)) {kx vx tg iter : Expr} {ifs : List Expr} {scope : Scope} {ws : List Nat} {ti : TIx} {t : TGx} {tt : TTx} {tk tv : TEx} (hi : DI z tg iter ti) (hg : DG (z.blk scope) tg ws t) (ht : DTs (z.blk scope) ifs tt) (hk : DE (z.blk scope) kx tk) (he : DE (z.blk scope) vx tv)
    (ok : blkC z.N z.scope scope ow = true := by decide +kernel) (hw : ∀ j ∈ ws, j ∈ ow.map (·.2) := by decide) (hs : ∀ env x, foldedSetIterable iter env x = pure x := by intro _ _; rfl)
    (hy : z.N[i]? = some y := by rfl) (hyl : z.scope.names.lookup y = some .local := by rfl) (hkd : z.scope.kind = .function := by rfl) (hl : (py.line == pos.line) = true := by rfl) (ha : (scope.names.any fun (n, k) => n == y && (k == .local || k == .cell)) = false := by rfl) :
    DS z (.Assign [.Name y py] (.DictComp kx vx [⟨tg, iter, ifs, 0⟩] scope pos) spos) (sSet i (eDc own (ow.map (·.2)) ti t tt tk tv)) := by
  obtain ⟨wi, h1, q1⟩ := hi
  obtain ⟨τg, h2, q2⟩ := hg
  obtain ⟨τt, h3, q3⟩ := ht
  obtain ⟨τk, h5, q5⟩ := hk
  obtain ⟨τe, h4, q4⟩ := he
  have rd : RdE z (tDc wi τg τt τk τe (ow.map (·.2))) (eDc own (ow.map (·.2)) ti t tt tk tv) := by
    intro g S ρ σ H Q s rs p
    refine q1 g S ρ σ H _ s rs (p.bind fun ds S1 g1 H1 J e1 s1 r1 p1 => ?_)
    split at p1
    · rename_i hlen
      obtain ⟨Gd, Y, w, hG, hY⟩ := r1
      intro Dp hn
      have hd : Dp ∉ g1.hs := fun h => s1.unbad hn (s1.live _ h)
      have rs1 := rs.mono s.live e1
      have l0 : NwAt z.K g1 H1 Dp (g1.on Dp) (upd H1 Dp (.dK [])) S1 := NwAt.start s1 hn
      have bnd : ∀ {i : Nat} {acc : List (Key × D)}, acc.length ≤ i → i < ds.length → acc.length < sizeLine := fun h1 h2 => by omega
      refine dc_it w (fun i H' => ∃ g' S' acc us, NwAt z.K g1 H1 Dp g' H' S' ∧ H' Dp = some (.dK us) ∧ RKs z.K g' H' acc us ∧ RS z.K g' H' ρ σ ∧ acc.length ≤ i ∧ Post z.K z.W (RV z.K) g1 H1 σ Q ((compD (ow.map (·.2)) t tt tk tv (ds.drop i) acc ρ S').bind (mkD own)))
        ⟨_, S1, [], [], l0, upd_same, by simp only [RKs], rs1.mono s1.live (Ext.on hn), Nat.le_refl _, p1⟩ (fun i H' _ h => ?_) (fun i x H' H2 hi h y => ?_) fun H' h => ?_
      · obtain ⟨g', S', acc, us, l, _⟩ := h
        exact hG g' H' l.ext
      · obtain ⟨g', S', acc, us, l, hDp, rk, rs', hacc, p'⟩ := h
        obtain ⟨hk, d, hdx, rd⟩ := hY i H' x H2 g' S' hi l.ext l.s y
        have e2 : Ext g' H' g' H2 := Ext.same hk
        obtain ⟨l2, hD2⟩ := l.later s1 hd e2 (l.s.same hk)
        rw [hDp] at hD2
        have rk2 := rk.mono l.s.live e2
        have rs2 := rs'.mono l.s.live e2
        have eq : ds.drop i = d :: ds.drop (i + 1) := by
          obtain ⟨hl, hv⟩ := List.getElem?_eq_some_iff.mp hdx
          rw [List.drop_eq_getElem_cons hl, hv]
        rw [eq] at p'
        unfold compD at p'
        rw [Out.bind_assoc] at p'
        refine q2 g' S' _ _ H2 d x _ l2.s (rs2.wipe _) rd (PostG.nox p' fun ρ3 S3 g3 H3 σ3 e3 s3 r3 off p3 => ?_)
        refine ⟨wipe_off off hw, ?_⟩
        obtain ⟨l3, hD3⟩ := l2.later s1 hd e3 s3
        rw [hD2] at hD3
        have rk3 := rk2.mono l2.s.live e3
        have rs3 := rs2.mono l2.s.live e3
        rw [Out.bind_assoc] at p3
        refine q3 g3 S3 ρ3 σ3 H3 _ s3 r3 (Post.bindN p3 fun k S4 g4 H4 k' e4 s4 r4 p4 => ?_)
        have r4 : k = k' := r4
        subst r4
        obtain ⟨l4, hD4⟩ := l3.later s1 hd e4 s4
        rw [hD3] at hD4
        have rk4 := rk3.mono l3.s.live e4
        have rs4 := rs3.mono l3.s.live e4
        show if k = true then _ else _
        split
        · rename_i hkt
          rw [if_pos hkt, Out.bind_assoc] at p4
          have r34 := r3.mono s3.live e4
          refine q5 g4 S4 ρ3 σ3 H4 _ s4 r34 (Post.bindN p4 fun yv S5 g5 H5 v e5 s5 r5 p5 => ?_)
          obtain ⟨l5, hD5⟩ := l4.later s1 hd e5 s5
          rw [hD4] at hD5
          have rk5 := rk4.mono l4.s.live e5
          have rs5 := rs4.mono l4.s.live e5
          rw [Out.bind_assoc] at p5
          refine q4 g5 S5 ρ3 σ3 H5 _ s5 (r34.mono s4.live e5) (Post.bindN p5 fun uv S6 g6 H6 u e6 s6 r6 p6 => ?_)
          obtain ⟨l6, hD6⟩ := l5.later s1 hd e6 s6
          rw [hD5] at hD6
          have rk6 := rk5.mono l5.s.live e6
          have rs6 := rs5.mono l5.s.live e6
          split at p6
          · rename_i q hq
            have rk7 := rk6.putG q r6
            have wk := l6.wk (u := .dK (putK us q u))
            have hlen := putG_len acc q uv
            exact ⟨us, q, keyOf_rv hq r5, hD6, by rw [rk6.length]; exact bnd hacc hi, g6, S6, putG acc q uv, putK us q u, l6.wr hn hd, upd_same, rk7.wk wk _ _, rs6.wk wk _ _, by omega, p6⟩
          · exact p6.elim
        · rename_i hkf
          rw [if_neg hkf] at p4
          exact ⟨g4, S4, acc, us, l4, hD4, rk4, rs4, by omega, p4⟩
      · obtain ⟨g', S', acc, us, l, hDp, rk, _, _, p'⟩ := h
        rw [List.drop_length] at p'
        have p' : Post z.K z.W (RV z.K) g1 H1 σ Q (mkD own acc S') := p'
        unfold mkD at p'
        split at p'
        · exact l.finH (ob := .dct acc) hn hd ⟨_, hDp, rk⟩ p'
        · refine l.finV s1 hn hd ?_ p'
          simp only [RV]
          exact ⟨Dp, _, rfl, .inl hDp, fun h => h.2 rfl, RKs.anti (g := g') (g0 := g'.off Dp) (fun b h => h.1) (fun _ _ h => h) _ _ rk⟩
    · exact p1.elim
  refine ⟨tAsg (tDc wi τg τt τk τe (ow.map (·.2))) (gName i), fun X f => ps_setDc f.calm f.ndX (f.at hy) (by rw [f.scope]; exact hyl) (sw_trueD (by rw [f.scope]; exact hkd) (by rw [f.scope]; exact hyl) hl ha) (h1 X f) (by rw [f.N, f.scope]; exact blkOk_by ok) (fun s H C cl fp => h2 _ (f.blk scope s H C cl fp)) (fun s H C cl fp => h3 _ (f.blk scope s H C cl fp)) (fun s H C cl fp => h5 _ (f.blk scope s H C cl fp)) (fun s H C cl fp => h4 _ (f.blk scope s H C cl fp)) (hs _), fun g S ρ σ H T s rs p => ?_⟩
  exact rd g S ρ σ H _ s rs (p.stm s rs fun d S1 g1 H1 v e1 s1 rs1 r1 p1 => p1.here s1 (RS.set r1 i rs1))
end
end TL
set_option Elab.async false
set_option linter.all false
set_option maxRecDepth 100000
set_option maxHeartbeats 4000000
/-! The tree layer, part 47: list(d.items()). -/
namespace TL
open PySem PySem.Spec PyProof.Rows L2
def tLsI (td : TE) : TE := fun σ H Q => td σ H fun x H1 => ∃ d kvs, x = .ref d ∧ Rd H1 d (.dK kvs) ∧ ∀ (H' : Hp) (l : Addr) (bs : List Addr), (∀ b o, H1 b = some o → H' b = some o) → H1 l = none → (∀ b ∈ bs, H1 b = none) → bs.length = kvs.length →
  (∀ (j : Nat) (b : Addr) (kv : Key × V), bs[j]? = some b → kvs[j]? = some kv → H' b = some (.tup [kV kv.1, kv.2])) → H' l = some (.lst (bs.map V.ref)) → Q (.ref l) H'
section
variable {X : Cx} {pins : List (Addr × Obj)} {σ : L2.St} {H : Hp} {s : Shared}
theorem dk_at {d : Addr} {kvs : List (Key × V)} (I : Inv X pins σ H s) (h : Rd H d (.dK kvs)) : ∃ (vs : List (Key × Value)) (ep : Nat), kvs.length ≤ sizeLine ∧ (d == sysModules) = false ∧ KV kvs vs ∧ s.heap.DictAt (mixKind X.prog X.w) d vs ep := by
  rcases h with h | ⟨o, h⟩
  · obtain ⟨z, lo, vs, rk, hd⟩ := (show ObjOk X.prog X.w H s.heap d (.dK kvs) from I.hok d _ h)
    obtain ⟨ep, hat⟩ := hd.dictAt
    exact ⟨vs, ep, z, lo, rk, hat⟩
  · obtain ⟨_, z, _, _⟩ := I.hok d _ h
    obtain ⟨hs, _, _, es, ep, vs, _, _, kv, hm⟩ := I.frzK h
    exact ⟨vs, ep, z, hs, kv, hm⟩
theorem pe_listItems {e : Expr} {td : TE} {p apos cpos pos : Pos} (hc : X.calm = true) (hg : Gl X "list") (hm : X.mg "list" = none) (he : PE X e td) (hbase : attributeBase e "items" X.env (eval e X.env) = eval e X.env := by rfl) (hline : (apos.endLine == cpos.line) = true := by rfl)
    (na : starEach [.Call (.Attribute e "items" apos) [] [] cpos] X.env = (false, eval (.Call (.Attribute e "items" apos) [] [] cpos) X.env) :: starEach [] X.env := by rfl) :
    PE X (.Call (.Name "list" p) [.Call (.Attribute e "items" apos) [] [] cpos] [] pos) (tLsI td) := by
  refine ⟨fun pins s σ H Q I h => ?_⟩
  refine Call_ (ld_blt I hg hm boot_list (PyProof.Rows.callWith_type1 (args_cons (wpAny_Call_method (T := "dict") (id := "dict.items") hbase rfl hline F.plainAttrs_dict F.slot_dict_items F.type_dict_items (thn (he.run pins s σ H _ I h) fun u s1 ⟨x, H1, I1, rx, d, kvs, ex, hd, q⟩ => ?_)) na) na))
  subst ex
  obtain rfl : u = Value.ref d := rx
  obtain ⟨vs, ep, hz, hs, kv, hat⟩ := dk_at I1 hd
  have hl : kvs.length = vs.length := Paired.length kv
  refine ⟨hat.dictOf.typeIs, hat.dictOf.mapOf.noDict, ?_⟩
  have I2 : Inv X pins σ H1 { s1 with heap := s1.heap.push { cls := .type "dict_items", data := .fields #[.ref d] } } := I1.kept (t' := s1.toks) fun b ob q => Heap.get?_push_of_some _ q
  generalize hh2 : s1.heap.push { cls := .type "dict_items", data := .fields #[.ref d] } = h2 at I2
  have view : h2.IsItemsView s1.heap.objs.size d := by
    rw [← hh2]
    exact ⟨_, Heap.get?_push_size _ rfl, rfl, rfl⟩
  have hat2 : h2.DictAt (mixKind X.prog X.w) d vs ep := by
    rw [← hh2]
    exact hat.push _
  have fin : wpAny (model X.prog X.w) X.A (call (.type "list") [.ref s1.heap.objs.size]) (EP X pins σ Q) X.xe { s1 with heap := h2 } := by
    refine PySem.W.kdx_call (knd := mixKind X.prog X.w) (kvs := vs) (ep := ep) (I2.ok.hd hc) view hat2 (by rw [← hl]; exact hz) fun h' tk acc c as hk hS hln hG hacc => ?_
    have nd : as.Nodup := List.Pairwise.imp (fun h => Nat.ne_of_lt h) hG.rise
    have hn0 : H1 h2.objs.size = none := I2.hok.fresh (Nat.le_refl _)
    have I3 : Inv X pins σ H1 { s1 with heap := h', toks := tk } := I2.kept (t' := tk) hk
    have hlen : (as.map V.ref).length ≤ sizeLine := by
      rw [List.length_map, hln, ← hl]
      exact hz
    have rv : Vals (as.map V.ref) acc.toList := by
      rw [hacc]
      exact vals_refs as
    have I4 : Inv X pins σ (upd H1 h2.objs.size (.lst (as.map V.ref))) { s1 with heap := h', toks := tk } :=
      I3.take (h' := h') (t' := tk) (fun b ob _ e => e) (I2.fpOk (Nat.le_refl _) hn0) ⟨hlen, acc.toList, c, rv, by rw [Array.toArray_toList]; exact hS⟩
    obtain ⟨H2, I5, g, qt⟩ := L2.DX.takeT (P := fun b ws => ∃ (j : Nat) (kv : Key × V), as[j]? = some b ∧ kvs[j]? = some kv ∧ ws = [kV kv.1, kv.2]) I2 as _ I4 nd fun b hb => by
      obtain ⟨j, hj⟩ := List.mem_iff_getElem?.mp hb
      obtain ⟨key, k, x, e1, e2, e3⟩ := hG.pairs j b hj
      have hbl : h2.objs.size ≤ b := Nat.le_of_lt (hG.above b hb)
      have hjl : j < kvs.length := by
        rw [hl]
        exact (List.getElem?_eq_some_iff.mp e1).1
      obtain ⟨u, hu, ru⟩ := kv_get (k := kvs[j].1) (v := kvs[j].2) kv (List.getElem?_eq_getElem hjl)
      rw [e1] at hu
      have hu2 := Option.some.inj hu
      have ek : k = kvs[j].1 := congrArg Prod.fst hu2
      have ex : x = u := congrArg Prod.snd hu2
      refine ⟨hbl, ?_, [kV kvs[j].1, kvs[j].2], ⟨j, kvs[j], hj, List.getElem?_eq_getElem hjl, rfl⟩, fun H3 => ⟨(by rw [sizeLine_eq]; show 2 ≤ 16777216; omega), [key, x], .cons (by rw [← ek]; exact relV_key e2) (.cons (by rw [ex]; exact ru) .nil), ⟨_, e3, rfl, _, rfl⟩⟩⟩
      rw [upd_ne (Nat.ne_of_gt (hG.above b hb))]
      exact I2.hok.fresh hbl
    have gr : ∀ b o, H1 b = some o → H2 b = some o := fun b o e => g b o (by rw [upd_ne (ne_of_none e hn0)]; exact e)
    refine ⟨.ref h2.objs.size, H2, I5, rfl, q H2 h2.objs.size as gr hn0 (fun b hb => I2.hok.fresh (Nat.le_of_lt (hG.above b hb))) (by rw [hln, hl]) (fun j b kv hj hkv => ?_) (g _ _ upd_same)⟩
    obtain ⟨ws, ⟨i, kv', j1, j2, ev⟩, hH⟩ := qt b (List.mem_of_getElem? hj)
    have eij : i = j := (List.getElem?_inj (List.getElem?_eq_some_iff.mp j1).1 nd).mp (j1.trans hj.symm)
    subst eij
    rw [hkv] at j2
    cases j2
    rw [ev] at hH
    exact hH
  rw [← hh2] at fin
  show wpAny _ _ (callWith cpos (.builtin "dict.items") [.ref d] [] []) _ X.xe s1
  exact method_meetsIn F.slot_dict_items F.entry_dict_items rfl (PySem.evalArgs_none ⟨rfl, hat.dictOf.typeIs, F.args_dict_items_1 _, _, meets_dict_items (mixKind X.prog X.w) d hs, ⟨vs, hat.dictOf⟩, args_nil fin⟩)
end
/-- list(d.items()) -/
def eLsI (t : TEx) : TEx := fun ρ S => (t ρ S).bind fun d S1 => match d with
  | .dct kvs => .ok (.lst (kvs.map fun kv => D.tup [keyD kv.1, kv.2])) S1
  | _ => .stuck
section
variable {z : Sg} {e : Expr} {t : TEx} {p apos cpos pos : Pos}
theorem pairs_rv {K : PySem.W.Frag} {g : G} {H : Hp} : ∀ {ds : List (Key × D)} {ws : List (Key × V)} {bs : List Addr}, RKs K g H ds ws → bs.length = ws.length → (∀ (j : Nat) (b : Addr) (kv : Key × V), bs[j]? = some b → ws[j]? = some kv → H b = some (.tup [kV kv.1, kv.2]) ∧ ¬ g.bad b) → RVs K g H (ds.map fun kv => D.tup [keyD kv.1, kv.2]) (bs.map V.ref)
  | [], _, bs, r, hl, _ => by
    simp only [RKs] at r
    subst r
    have : bs = [] := List.length_eq_zero_iff.mp hl
    subst this
    simp only [List.map_nil, RVs]
  | (k, d) :: ds, _, bs, r, hl, h => by
    simp only [RKs] at r
    obtain ⟨v, r', rfl, h1, h2⟩ := r
    cases bs with
    | nil => cases hl
    | cons b bs =>
      obtain ⟨e1, nb⟩ := h 0 b (k, v) rfl rfl
      have ih := pairs_rv (bs := bs) h2 (by simpa using hl) fun j b' kv a1 a2 => h (j + 1) b' kv (by simpa using a1) (by simpa using a2)
      simp only [List.map_cons, RVs]
      refine ⟨_, _, rfl, ?_, ih⟩
      simp only [RV]
      refine ⟨b, [kV k, v], rfl, .inl ⟨e1, nb⟩, ?_⟩
      simp only [RVs]
      exact ⟨_, _, rfl, keyD_rv k, _, _, rfl, h1, rfl⟩
theorem de_listItems (hm : z.mg "list" = none) (he : DE z e t) (hg : Gz z "list" := by rfl) (hbase : ∀ env, attributeBase e "items" env (eval e env) = eval e env := by intro _; rfl) (hline : (apos.endLine == cpos.line) = true := by rfl)
    (na : ∀ env, starEach [.Call (.Attribute e "items" apos) [] [] cpos] env = (false, eval (.Call (.Attribute e "items" apos) [] [] cpos) env) :: starEach [] env := by intro _; rfl) :
    DE z (.Call (.Name "list" p) [.Call (.Attribute e "items" apos) [] [] cpos] [] pos) (eLsI t) := by
  obtain ⟨τ, h1, q1⟩ := he
  refine ⟨_, fun X f => pe_listItems f.calm (f.gl hg) (f.mgl hm) (h1 X f) (hbase _) hline (na _), fun g S ρ σ H Q s rs p => ?_⟩
  refine q1 g S ρ σ H _ s rs (p.bind fun d S1 g1 H1 v e1 s1 r1 p1 => ?_)
  cases d with
  | dct kvs =>
    simp only [RV] at r1
    obtain ⟨a, ws, rfl, ha, nb, rk⟩ := r1
    refine ⟨a, ws, rfl, ha, fun H' l bs hk hl hbs hlen hp hL => ?_⟩
    have e2 : Ext g1 H1 g1 H' := Ext.same hk
    have s2 := s1.same hk
    refine p1 g1 H' (.ref l) e2 s2 ?_
    simp only [RV]
    exact ⟨l, _, rfl, hL, s1.unbad hl, pairs_rv (rk.mono s1.live e2 _ _) hlen fun j b kv a1 a2 => ⟨hp j b kv a1 a2, s1.unbad (hbs b (List.mem_of_getElem? a1))⟩⟩
  | _ => exact p1.elim
end
end TL
set_option Elab.async false
set_option linter.all false
set_option maxRecDepth 100000
set_option maxHeartbeats 4000000
/-! The tree layer, part 48: own op a value of any kind; a method found by a class (static); the tail of a list back. -/
namespace TL
open PySem PySem.Spec PyProof.Rows L2
section
open PySem.W Calls Builtin
variable {prog : Program} {w : World} {A : Around} {E : Value → Shared → Prop} {s : Shared} {K : Frag} {x C L f : Addr} {h₀ : Heap} {m : Str → Option Value} {ox : Obj} {od : Option Obj} {T : String}
/-- the left one's method, the right one of any built-in kind -/
theorem binL_run {op : Operator} {b : Value} {fo ro rc : Option Value} {Q : Value → Shared → Prop} (F : Fr h₀ L s.heap m) (X₀ : K.In h₀) (I : InstAt s.heap x ox C od) (hb : Looks (model prog w) s.heap (typeOf b) (.type T)) (hc : selfFirst K C = true)
    (hs : findIn K (.ref C) (PySem.dunder op.info.2) = some (some (.ref f))) (hf : isFn K (.ref f) = true) (hr : findIn K (.ref C) (dunderR op.info.2) = some rc) (hp : rc = none ∨ ∃ g : Addr, rc = some (.ref g))
    (h1 : findIn K (.type T) (PySem.dunder op.info.2) = some fo) (h2 : findIn K (.type T) (dunderR op.info.2) = some ro) (hsub : subIn K (.type T) (.ref C) = some false)
    (h : wpAny (model prog w) A (call (.ref f) [.ref x, b]) (PySem.W.CmpBack Q) E s) : wpAny (model prog w) A (binaryOp op (.ref x) b) Q E s := by
  have X := X₀.keeps F.keep
  obtain ⟨cd, rest, hcd, hm⟩ := ksp_first hc
  rcases hi : op.info with ⟨sym, nm'⟩
  rw [hi] at hs hr h1 h2
  dsimp only at hs hr h1 h2
  have one := ksp_try X I hs hf h
  obtain ⟨hh, g, d, tt, os⟩ := s
  have L1 : Looks (model prog w) hh (typeOf (.ref x)) (.ref C) := I.type
  have L2 : Looks (model prog w) hh (typeOf b) (.type T) := hb
  have L3 : Looks (model prog w) hh (fillsNumberSlot (.ref C) nm') true := fills_K X hcd hm hs
  have L4 : Looks (model prog w) hh (fillsNumberSlot (.type T) nm') ((fo.isSome && !isSeqSlot fo) || (ro.isSome && !isSeqSlot ro)) := ksp_fillsT X h1 h2
  have L5 : Looks (model prog w) hh (isSubtype (.type T) (.ref C)) false := looks_subIn X hsub
  have L6 : Looks (model prog w) hh (numberSlotInPython (.ref C) nm') true := ksp_inPy X hs hr hp
  have L7 : Looks (model prog w) hh (numberSlotInPython (.type T) nm') false := Looks.of_pure rfl
  have L8 : Looks (model prog w) hh (typeLookup (.type T) (dunderR nm')) ro := looks_findIn X h2
  generalize ((fo.isSome && !isSeqSlot fo) || (ro.isSome && !isSeqSlot ro)) = right at L4
  have hne : (Value.ref C == Value.type T) = false := Bool.eq_false_iff.mpr fun q => by cases beq_iff_eq.mp q
  simp only [binaryOp, hi]
  refine wpAny_holding (wpAny_bind ?_)
  unfold binaryOp1
  refine wpAny_bind (L1.at (wpAny_bind (L2.at (wpAny_bind (L3.at ?_)))))
  simp only [hne, Bool.false_eq_true, if_false]
  cases right with
  | false =>
    ksp_lk
    refine wpAny_mono one (fun r s' hr' => ?_) fun _ _ e => e
    obtain ⟨v, rfl, hq⟩ := hr'
    ksp_lk
    exact hq
  | true =>
    ksp_lk
    refine wpAny_mono one (fun r s' hr' => ?_) fun _ _ e => e
    obtain ⟨v, rfl, hq⟩ := hr'
    ksp_lk
    exact hq
end
/-- what is known of the class C beside values of built-in kinds -/
def ownAnyB (C : Str) (nm : String) (K : PySem.W.Frag) : Bool := PySem.W.selfFirst K (He.ga K C) && ((match PySem.W.findIn K (.ref (He.ga K C)) (dunderR nm) with
  | some none => true
  | some (some (.ref _)) => true
  | _ => false) && tyL.all fun n => (PySem.W.findIn K (.type n) (PySem.dunder nm)).isSome && ((PySem.W.findIn K (.type n) (dunderR nm)).isSome && decide (PySem.W.subIn K (.type n) (.ref (He.ga K C)) = some false)))
def ownL (C : Str) (F : TF) (base : D → D → List O → Out D) (x y : D) (S : List O) : Out D := if isOwn C S x then (if tyIn S y then F [x, y] S else .stuck) else base x y S
section
variable {z : Sg} {k : Nat} {C m : Str} {F : TF}
theorem op_ownL {op : Operator} {base : D → D → List O → Out D} (T : TMet z.P z.w z.K z.mg z.base k C m 2 F) (hb : OpS z (binaryOp op) base) (hc : ownAnyB C op.info.2 z.K = true) (hm : PySem.dunder op.info.2 = m) (hk : k ≤ z.lv) : OpS z (binaryOp op) (ownL C F base) := by
  intro X fx pins s σ H x y v u Q I rx ry g S dx dy hs r1 r2 p
  unfold ownL at p
  split at p
  · rename_i h1
    split at p
    · rename_i h3
      unfold tyIn at h3
      split at h3
      · rename_i n hn
        have hn' := of_decide_eq_true h3
        obtain ⟨a', _, _, rfl, ea⟩ := own_at hs h1 r1
        obtain rfl : v = Value.ref a' := rx
        obtain ⟨f, M, q⟩ := run_met T fx hk I (vs := [.ref a', y]) (us := [.ref a', u]) (.cons rfl (.cons ry .nil)) hs (ds := [dx, dy]) (by simp only [RVs]; exact ⟨_, _, rfl, r1, _, _, rfl, r2, rfl⟩) p
        obtain ⟨ox, od, J⟩ := inst_of I ea
        obtain ⟨mm, fr⟩ := I.fr
        have ty := tyD_ok hs r2 hn
        rw [← fx.K] at ty hc
        obtain ⟨P, kx, hP, _⟩ := kit_of I ry ty
        unfold ownAnyB at hc
        simp only [Bool.and_eq_true] at hc
        obtain ⟨c1, c2, c3⟩ := hc
        have c4 := List.all_eq_true.mp c3 n hn'
        simp only [Bool.and_eq_true] at c4
        obtain ⟨c5, c6, c7⟩ := c4
        obtain ⟨fo, e1⟩ := Option.isSome_iff_exists.mp c5
        obtain ⟨ro, e2⟩ := Option.isSome_iff_exists.mp c6
        have eg : He.ga z.K C = He.ga X.K C := by rw [fx.K]
        rw [eg] at J M
        have at_ := M.at_
        rw [← hm] at at_
        split at c2
        · rename_i q2
          exact binL_run fr I.ok.mod.kin J (kx.ty _ _ I.kIn hP) c1 at_ M.fn q2 (.inl rfl) e1 e2 (of_decide_eq_true c7) (thn q fun u s' h => cmpBack_ep h)
        · rename_i g2 q2
          exact binL_run fr I.ok.mod.kin J (kx.ty _ _ I.kIn hP) c1 at_ M.fn q2 (.inr ⟨g2, rfl⟩) e1 e2 (of_decide_eq_true c7) (thn q fun u s' h => cmpBack_ep h)
        · cases c2
      · cases h3
    · exact p.elim
  · exact hb X fx pins s σ H x y v u Q I rx ry g S dx dy hs r1 r2 p
end
/-- xs[::-1], xs a list -/
def backLD (own : Bool) (x : D) (S : List O) : Out D := match lstOf S x with
  | some ds => mkL own ds.reverse S
  | none => .stuck
theorem de_revL (own : Bool) {z : Sg} {e : Expr} {t : TEx} {k : Nat} {p1 p2 p3 pos : Pos} (he : DE z e t) : DE z (.Subscript e (.Slice none none (some (.UnaryOp .USub (.Constant (.int 1) k p1) p2)) p3) pos) (eUn (backLD own) t) := by
  refine de_un (r := fun x H1 Q => ∃ a xs, x = .ref a ∧ SqL z.K H1 a xs ∧ ∀ p, H1 p = none → Q (.ref p) (upd H1 p (.lst xs.reverse))) (fun X f τ h => f.K ▸ pe_revL h) (fun g S H σ Q x v s rx p => ?_) he
  unfold backLD at p
  split at p
  · rename_i ds q
    obtain ⟨a, xs, rfl, h1, h2⟩ := lst_at s q rx
    exact ⟨a, xs, rfl, h1, fun l hl => mkL_ok s h2.reverse p l hl⟩
  · exact p.elim
end TL
set_option Elab.async false
set_option linter.all false
set_option maxRecDepth 100000
set_option maxHeartbeats 4000000
/-! list(dict), the dict flat -/
namespace TL
open PySem PySem.Spec PyProof.Rows L2
def rListF : List V → Hp → VK → Prop := fun xs H Q => ∃ d ks, xs = [.ref d] ∧ Rd H d (.dK ks) ∧ ∀ l, H l = none → Q (.ref l) (upd H l (.lst (ks.map fun x => kV x.1)))
theorem call_listF {X : Cx} (hc : X.calm = true) : CallR X (.type "list") rListF := by
  intro pins s σ H xs us Q I r ⟨d, ks, e, hd, q⟩
  subst e
  obtain ⟨w0, rfl, r0⟩ := vals1 r
  obtain rfl : w0 = Value.ref d := r0
  obtain ⟨vs, ep, hz, lo, kv, hat⟩ := dk_at I hd
  have hlen : ks.length = vs.length := Paired.length kv
  have small : vs.length ≤ sizeLine := hlen ▸ hz
  refine PySem.W.kdl_call (PySem.W.kdl_dict (knd := mixKind X.prog X.w) (kvs := vs) (ep := ep) lo) (I.ok.hd hc) hat small fun h1 tk out c1 keep hS hout => ?_
  have hv : Vals (ks.map fun x => kV x.1) out.toList := by
    have n1 : out.toList.length = out.size := by simp
    refine vals_of_at (by rw [List.length_map, n1, hout.1, hlen]) fun j x w a b => ?_
    obtain ⟨k, y, a1, a2⟩ := hout.2 j w (by rw [← Array.getElem?_toList]; exact b)
    have hk : (ks.map (·.1))[j]? = some k := by
      rw [KV.keys kv, List.getElem?_map, a1]
      rfl
    rw [List.getElem?_map] at hk a
    cases q1 : ks[j]? with
    | none =>
      rw [q1] at a
      cases a
    | some p =>
      rw [q1] at a hk
      cases a
      cases hk
      exact keyIs_rel a2
  refine ⟨.ref s.heap.objs.size, _, I.laid keep (Nat.le_refl _) (show ObjOk X.prog X.w _ _ _ (.lst (ks.map fun x => kV x.1)) from ⟨by rw [List.length_map]; exact hz, out.toList, c1, hv, by rw [Array.toArray_toList]; exact hS⟩), rfl, q _ (I.hok.fresh (Nat.le_refl _))⟩
def listKF (own : Bool) (ds : List D) (S : List O) : Out D := match ds with
  | [.dct kvs] => if kvs.length ≤ sizeLine then mkL own (kvs.map fun kv => keyD kv.1) S else .stuck
  | _ => .stuck
theorem ok_listKF {K : PySem.W.Frag} {W : WX} (own : Bool) : OkL K W rListF (listKF own) := by
  intro g S H σ Q xs vs s r p
  unfold listKF at p
  split at p
  · rename_i kvs
    split at p
    · obtain ⟨v, rfl, rr⟩ := rvs1 r
      simp only [RV] at rr
      obtain ⟨a, ws, rfl, ha, nb, rk⟩ := rr
      exact ⟨a, ws, rfl, ha, fun l hl => mkL_ok s (keys_vals rk) p l hl⟩
    · exact p.elim
  · exact p.elim
theorem de_listKF (own : Bool) {z : Sg} {e : Expr} {ta : TAx} {p pos : Pos} (hm : z.mg "list" = none) (ha : DA z [e] ta) (hg : Gz z "list" := by rfl) (hs : ∀ env, starEach [e] env = (false, eval e env) :: starEach [] env := by intro _; rfl) : DE z (.Call (.Name "list" p) [e] [] pos) (eArgs (listKF own) ta) :=
  de_callTy (fun X f => call_listF f.calm) (ok_listKF own) (by decide +kernel) hm ha hg (by decide) (by decide) hs
end TL
set_option Elab.async false
set_option linter.all false
set_option maxRecDepth 100000
set_option maxHeartbeats 0
namespace Pr
open PySem PySem.Spec PyProof.Rows L2 TL
/-! what the program's defs do, as trees (printed by gen2.py) -/
def Nis_whole : List Str := ["value"]
abbrev Pis_whole : List Str := ["value"]
def tis_whole (ex ow : List Str) : TSx :=
  (sRet (eAnd (eArgs (isiA ex ow) (aCons (eVar 0) (aCons (eC (.ty "int")) aNil))) (eNot (eArgs (isiA ex ow) (aCons (eVar 0) (aCons (eC (.ty "bool")) aNil))))))
def Fis_whole (ex ow : List Str) : TF := bodyF 1 Nis_whole (tis_whole ex ow)
def Nis_tuple : List Str := ["value", "least", "most"]
abbrev Pis_tuple : List Str := ["value", "least", "most"]
def tis_tuple (ex ow : List Str) : TSx :=
  (sRet (eAnd (eArgs (isiA ex ow) (aCons (eVar 0) (aCons (eC (.ty "tuple")) aNil))) (eChain leD leD (eVar 1) (eArgs lenD (aCons (eVar 0) aNil)) (eVar 2))))
def Fis_tuple (ex ow : List Str) : TF := bodyF 3 Nis_tuple (tis_tuple ex ow)
def Nis_name : List Str := ["value", "letter"]
abbrev Pis_name : List Str := ["value"]
def tis_name (ex ow : List Str) : TSx :=
  (sSeq (sIf (tOrT (tNotT (tTru (eArgs (isiA ex ow) (aCons (eVar 0) (aCons (eC (.ty "str")) aNil))))) (tNotT (tBl (eChain leD leD (eC (.int 1)) (eArgs lenD (aCons (eVar 0) aNil)) (eC (.int 8)))))) (sRet (eC (.bl false))) sNext)
    (sRet (eArgs allD (aCons (eLc false [1] (iAny (eVar 0)) (gNm 1) tYesD (eBin insgD (eVar 1) (eC (.str "abcdefghijklmnopqrstuvwxyz")))) aNil))))
def Fis_name (ex ow : List Str) : TF := bodyF 1 Nis_name (tis_name ex ow)
def Ndo_ascend : List Str := ["rows", "one", "other"]
abbrev Pdo_ascend : List Str := ["rows"]
def tdo_ascend (ex ow : List Str) : TSx :=
  (sRet (eArgs allD (aCons (eLc false [1, 2] (iZp (aCons (eVar 0) (aCons (eSl false (eVar 0) (oSome (eC (.int 1))) oNil) aNil))) (gTp 2 (gsCons (gNm 1) (gsCons (gNm 2) gsNil))) tYesD (eBin ltD (eVar 1) (eVar 2))) aNil)))
def Fdo_ascend (ex ow : List Str) : TF := bodyF 1 Ndo_ascend (tdo_ascend ex ow)
def Nis_part : List Str := ["value"]
abbrev Pis_part : List Str := ["value"]
def tis_part (ex ow : List Str) : TSx :=
  (sRet (eAnd (eArgs (Fis_tuple ex ow) (aCons (eVar 0) (aCons (eC (.int 2)) (aCons (eC (.int 2)) aNil)))) (eAnd (eArgs (Fis_name ex ow) (aCons (eBin ixD (eVar 0) (eC (.int 0))) aNil)) (eAnd (eArgs (Fis_whole ex ow) (aCons (eBin ixD (eVar 0) (eC (.int 1))) aNil)) (eBin neD (eBin ixD (eVar 0) (eC (.int 1))) (eC (.int 0)))))))
def Fis_part (ex ow : List Str) : TF := bodyF 1 Nis_part (tis_part ex ow)
def Nare_parts : List Str := ["value", "one"]
abbrev Pare_parts : List Str := ["value"]
def tare_parts (ex ow : List Str) : TSx :=
  (sSeq (sIf (tOrT (tNotT (tTru (eArgs (isiA ex ow) (aCons (eVar 0) (aCons (eC (.ty "tuple")) aNil))))) (tNotT (tTru (eArgs allD (aCons (eLc false [1] (iTp (eVar 0)) (gNm 1) tYesD (eArgs (Fis_part ex ow) (aCons (eVar 1) aNil))) aNil))))) (sRet (eC (.bl false))) sNext)
    (sRet (eArgs (Fdo_ascend ex ow) (aCons (eLc false [1] (iTp (eVar 0)) (gNm 1) tYesD (eBin ixD (eVar 1) (eC (.int 0)))) aNil))))
def Fare_parts (ex ow : List Str) : TF := bodyF 1 Nare_parts (tare_parts ex ow)
def NSum___init__ : List Str := ["self", "parts", "number"]
abbrev PSum___init__ : List Str := ["self", "parts", "number"]
def tSum___init__ (ex ow : List Str) : TSx :=
  (sSeq (sIf (tNotT (tTru (eArgs (Fare_parts ex ow) (aCons (eVar 1) aNil)))) (sRaise "BadParts" (eVar 1)) sNext)
    (sSeq (sIf (tNotT (tTru (eArgs (Fis_whole ex ow) (aCons (eVar 2) aNil)))) (sRaise "BadNumber" (eVar 2)) sNext)
    (sSeq (sFldD ["Sum"] "own_parts" (eVar 1) (eVar 0))
    (sSeq (sFldD ["Sum"] "own_number" (eVar 2) (eVar 0))
    (sFldD ["Sum"] "own_many" (eArgs (dictLD false) (aCons (eArgs (listD false) (aCons (eVar 1) aNil)) aNil)) (eVar 0))))))
def FSum___init__ (ex ow : List Str) : TF := bodyF 3 NSum___init__ (tSum___init__ ex ow)
def Nsum_of : List Str := ["table", "number", "found", "name"]
abbrev Psum_of : List Str := ["table", "number"]
def tsum_of (ex ow : List Str) : TSx :=
  (sSeq (sSet 2 (eArgs (sortSetD false) (aCons (eLc false [3] (iDk (eVar 0)) (gNm 3) (tBl (eBin neD (eBin dgetD (eVar 0) (eVar 3)) (eC (.int 0)))) (eVar 3)) aNil)))
    (sRet (eCut (eArgs (makeD "Sum" [] (FSum___init__ ex ow)) (aCons (eArgs tupleD (aCons (eLc false [3] (iLst (eVar 2)) (gNm 3) tYesD (eArgs mkT (aCons (eVar 3) (aCons (eBin dgetD (eVar 0) (eVar 3)) aNil)))) aNil)) (aCons (eVar 1) aNil))))))
def Fsum_of (ex ow : List Str) : TF := bodyF 2 Nsum_of (tsum_of ex ow)
def Ntimes : List Str := ["one", "many", "often", "name", "size"]
abbrev Ptimes : List Str := ["one", "many"]
def ttimes (ex ow : List Str) : TSx :=
  (sSeq (sSet 2 (eVar 1))
    (sRet (eArgs (Fsum_of ex ow) (aCons (eDc false [3, 4] (iTp (eUn (fldD ["Sum"] "own_parts") (eVar 0))) (gTp 2 (gsCons (gNm 3) (gsCons (gNm 4) gsNil))) tYesD (eVar 3) (eBin mulD (eVar 2) (eVar 4))) (aCons (eBin mulD (eVar 2) (eUn (fldD ["Sum"] "own_number") (eVar 0))) aNil)))))
def Ftimes (ex ow : List Str) : TF := bodyF 2 Ntimes (ttimes ex ow)
def Nadded : List Str := ["one", "other", "many", "known", "name", "number"]
abbrev Padded : List Str := ["one", "other", "many"]
def tadded (ex ow : List Str) : TSx :=
  (sSeq (sCut (sSeq (sSet 3 (eArgs (dictLD true) (aCons (eArgs (listD false) (aCons (eUn (fldD ["Sum"] "own_parts") (eVar 0)) aNil)) aNil)))
    (sFor (iTp (eUn (fldD ["Sum"] "own_parts") (eVar 1))) (gTp 2 (gsCons (gNm 4) (gsCons (gNm 5) gsNil))) (sDput (eVar 3) (eVar 4) (eBin (addU false) (eGet2 (eVar 3) (eVar 4) (eC (.int 0))) (eBin mulD (eVar 2) (eVar 5)))))))
    (sRet (eArgs (Fsum_of ex ow) (aCons (eVar 3) (aCons (eBin (addU false) (eUn (fldD ["Sum"] "own_number") (eVar 0)) (eBin mulD (eVar 2) (eUn (fldD ["Sum"] "own_number") (eVar 1)))) aNil)))))
def Fadded (ex ow : List Str) : TF := cutF (bodyF 3 Nadded (tadded ex ow))
def Nare_values : List Str := ["value", "name", "number"]
abbrev Pare_values : List Str := ["value"]
def tare_values (ex ow : List Str) : TSx :=
  (sSeq (sIf (tNotT (tTru (eArgs (isiA ex ow) (aCons (eVar 0) (aCons (eC (.ty "dict")) aNil))))) (sRet (eC (.bl false))) sNext)
    (sRet (eArgs allD (aCons (eLc false [1, 2] (iDi (eVar 0)) (gTp 2 (gsCons (gNm 1) (gsCons (gNm 2) gsNil))) tYesD (eAnd (eArgs (Fis_name ex ow) (aCons (eVar 1) aNil)) (eArgs (Fis_whole ex ow) (aCons (eVar 2) aNil)))) aNil))))
def Fare_values (ex ow : List Str) : TF := bodyF 1 Nare_values (tare_values ex ow)
def NSum_parts : List Str := ["self"]
abbrev PSum_parts : List Str := ["self"]
def tSum_parts (ex ow : List Str) : TSx :=
  (sRet (eUn (fldD ["Sum"] "own_parts") (eVar 0)))
def FSum_parts (ex ow : List Str) : TF := bodyF 1 NSum_parts (tSum_parts ex ow)
def NSum_number : List Str := ["self"]
abbrev PSum_number : List Str := ["self"]
def tSum_number (ex ow : List Str) : TSx :=
  (sRet (eUn (fldD ["Sum"] "own_number") (eVar 0)))
def FSum_number (ex ow : List Str) : TF := bodyF 1 NSum_number (tSum_number ex ow)
def NSum___call__ : List Str := ["self", "values", "name", "many"]
abbrev PSum___call__ : List Str := ["self", "values"]
def tSum___call__ (ex ow : List Str) : TSx :=
  (sSeq (sIf (tOrT (tNotT (tTru (eArgs (Fare_values ex ow) (aCons (eVar 1) aNil)))) (tNotT (tTru (eArgs allD (aCons (eLc false [2] (iDk (eUn (fldD ["Sum"] "own_many") (eVar 0))) (gNm 2) tYesD (eBin dinD (eVar 2) (eVar 1))) aNil))))) (sRaise "BadValues" (eVar 1)) sNext)
    (sRet (eBin (addU false) (eUn (fldD ["Sum"] "own_number") (eVar 0)) (eArgs sumD (aCons (eLc false [2, 3] (iTp (eUn (fldD ["Sum"] "own_parts") (eVar 0))) (gTp 2 (gsCons (gNm 2) (gsCons (gNm 3) gsNil))) tYesD (eBin mulD (eVar 3) (eBin dgetD (eVar 1) (eVar 2)))) aNil)))))
def FSum___call__ (ex ow : List Str) : TF := bodyF 2 NSum___call__ (tSum___call__ ex ow)
def NSum___eq__ : List Str := ["self", "other"]
abbrev PSum___eq__ : List Str := ["self", "other"]
def tSum___eq__ (ex ow : List Str) : TSx :=
  (sRet (eAnd (eArgs (isiA ex ow) (aCons (eVar 1) (aCons (eC (.cls "Sum")) aNil))) (eAnd (eBin eqD (eUn (fldD ["Sum"] "own_parts") (eVar 0)) (eUn (fldD ["Sum"] "own_parts") (eVar 1))) (eBin eqD (eUn (fldD ["Sum"] "own_number") (eVar 0)) (eUn (fldD ["Sum"] "own_number") (eVar 1))))))
def FSum___eq__ (ex ow : List Str) : TF := bodyF 2 NSum___eq__ (tSum___eq__ ex ow)
def NSum___add__ : List Str := ["self", "other"]
abbrev PSum___add__ : List Str := ["self", "other"]
def tSum___add__ (ex ow : List Str) : TSx :=
  (sSeq (sIf (tTru (eArgs (Fis_whole ex ow) (aCons (eVar 1) aNil))) (sRet (eCut (eArgs (makeD "Sum" [] (FSum___init__ ex ow)) (aCons (eUn (fldD ["Sum"] "own_parts") (eVar 0)) (aCons (eBin (addU false) (eUn (fldD ["Sum"] "own_number") (eVar 0)) (eVar 1)) aNil))))) sNext)
    (sSeq (sIf (tNotT (tTru (eArgs (isiA ex ow) (aCons (eVar 1) (aCons (eC (.cls "Sum")) aNil))))) sNever sNext)
    (sRet (eArgs (Fadded ex ow) (aCons (eVar 0) (aCons (eVar 1) (aCons (eC (.int 1)) aNil)))))))
def FSum___add__ (ex ow : List Str) : TF := bodyF 2 NSum___add__ (tSum___add__ ex ow)
def NSum___radd__ : List Str := ["self", "other"]
abbrev PSum___radd__ : List Str := ["self", "other"]
def tSum___radd__ (ex ow : List Str) : TSx :=
  (sSeq (sIf (tNotT (tTru (eArgs (Fis_whole ex ow) (aCons (eVar 1) aNil)))) sNever sNext)
    (sRet (eCut (eArgs (makeD "Sum" [] (FSum___init__ ex ow)) (aCons (eUn (fldD ["Sum"] "own_parts") (eVar 0)) (aCons (eBin (addU false) (eUn (fldD ["Sum"] "own_number") (eVar 0)) (eVar 1)) aNil))))))
def FSum___radd__ (ex ow : List Str) : TF := bodyF 2 NSum___radd__ (tSum___radd__ ex ow)
def NSum___sub__ : List Str := ["self", "other"]
abbrev PSum___sub__ : List Str := ["self", "other"]
def tSum___sub__ (ex ow : List Str) : TSx :=
  (sSeq (sIf (tTru (eArgs (Fis_whole ex ow) (aCons (eVar 1) aNil))) (sRet (eCut (eArgs (makeD "Sum" [] (FSum___init__ ex ow)) (aCons (eUn (fldD ["Sum"] "own_parts") (eVar 0)) (aCons (eBin subD (eUn (fldD ["Sum"] "own_number") (eVar 0)) (eVar 1)) aNil))))) sNext)
    (sSeq (sIf (tNotT (tTru (eArgs (isiA ex ow) (aCons (eVar 1) (aCons (eC (.cls "Sum")) aNil))))) sNever sNext)
    (sRet (eArgs (Fadded ex ow) (aCons (eVar 0) (aCons (eVar 1) (aCons (eUn negD (eC (.int 1))) aNil)))))))
def FSum___sub__ (ex ow : List Str) : TF := bodyF 2 NSum___sub__ (tSum___sub__ ex ow)
def NSum___rsub__ : List Str := ["self", "other"]
abbrev PSum___rsub__ : List Str := ["self", "other"]
def tSum___rsub__ (ex ow : List Str) : TSx :=
  (sSeq (sIf (tNotT (tTru (eArgs (Fis_whole ex ow) (aCons (eVar 1) aNil)))) sNever sNext)
    (sRet (eArgs (Fadded ex ow) (aCons (eCut (eArgs (makeD "Sum" [] (FSum___init__ ex ow)) (aCons (eArgs mkT aNil) (aCons (eVar 1) aNil)))) (aCons (eVar 0) (aCons (eUn negD (eC (.int 1))) aNil))))))
def FSum___rsub__ (ex ow : List Str) : TF := bodyF 2 NSum___rsub__ (tSum___rsub__ ex ow)
def NSum___neg__ : List Str := ["self"]
abbrev PSum___neg__ : List Str := ["self"]
def tSum___neg__ (ex ow : List Str) : TSx :=
  (sRet (eArgs (Ftimes ex ow) (aCons (eVar 0) (aCons (eUn negD (eC (.int 1))) aNil))))
def FSum___neg__ (ex ow : List Str) : TF := bodyF 1 NSum___neg__ (tSum___neg__ ex ow)
def NSum___mul__ : List Str := ["self", "many"]
abbrev PSum___mul__ : List Str := ["self", "many"]
def tSum___mul__ (ex ow : List Str) : TSx :=
  (sSeq (sIf (tNotT (tTru (eArgs (Fis_whole ex ow) (aCons (eVar 1) aNil)))) sNever sNext)
    (sRet (eArgs (Ftimes ex ow) (aCons (eVar 0) (aCons (eVar 1) aNil)))))
def FSum___mul__ (ex ow : List Str) : TF := bodyF 2 NSum___mul__ (tSum___mul__ ex ow)
def NSum___rmul__ : List Str := ["self", "many"]
abbrev PSum___rmul__ : List Str := ["self", "many"]
def tSum___rmul__ (ex ow : List Str) : TSx :=
  (sSeq (sIf (tNotT (tTru (eArgs (Fis_whole ex ow) (aCons (eVar 1) aNil)))) sNever sNext)
    (sRet (eArgs (Ftimes ex ow) (aCons (eVar 0) (aCons (eVar 1) aNil)))))
def FSum___rmul__ (ex ow : List Str) : TF := bodyF 2 NSum___rmul__ (tSum___rmul__ ex ow)
end Pr
set_option Elab.async false
set_option linter.all false
set_option maxRecDepth 100000
set_option maxHeartbeats 4000000
/-! Sums: what the program's defs do with them, in plain words. -/
namespace Pr
open PySem PySem.Spec PyProof.Rows L2 TL TLX
abbrev lettersS : Str := "abcdefghijklmnopqrstuvwxyz"
def isL (c : Nat) : Bool := decide (c ∈ lettersS.cps.toList)
/-- a name -/
def vn (x : Str) : Bool := (decide (1 ≤ x.length) && decide (x.length ≤ 8)) && x.cps.toList.all isL
abbrev Tb := List (Str × Int)
def kvD (t : Tb) : List (Key × D) := t.map fun p => (.inr p.1, .int p.2)
def partD (p : Str × Int) : D := .tup [.str p.1, .int p.2]
def partsD (t : Tb) : D := .tup (t.map partD)
def sumF (t : Tb) (n : Int) : List (Str × D) := [("own_parts", partsD t), ("own_number", .int n), ("own_many", .dct (kvD t))]
def sumD (t : Tb) (n : Int) : D := .ins "Sum" (sumF t n)
def ltS (x y : Str) : Bool := decide (x.cps.toList < y.cps.toList)
/-- ascending names -/
def asc (l : List Str) : Bool := (l.zip l.tail).all fun p => ltS p.1 p.2
def pOk (p : Str × Int) : Bool := vn p.1 && !decide (p.2 = 0)
/-- what parts must be -/
def okT (t : Tb) : Bool := t.all pOk && asc (t.map (·.1))
section
variable {ex ow : List Str} {S : List O}
theorem all_bls (bs : List Bool) : allD [.lst (bs.map D.bl)] S = .ok (.bl (bs.all id)) S := by
  unfold allD lstOf
  simp only [Option.bind_some, blsOf_map]
theorem all_map {α : Type} (p : α → Bool) (l : List α) : allD [.lst (l.map fun a => D.bl (p a))] S = .ok (.bl (l.all p)) S := by
  have e : (l.map fun a => D.bl (p a)) = (l.map p).map D.bl := by simp
  rw [e, all_bls]
  simp
theorem is_whole_int (i : Int) : Fis_whole ex ow [.int i] S = .ok (.bl true) S := by
  unfold Fis_whole tis_whole
  simp [Nis_whole]
theorem is_tuple_tup (ds : List D) (a b : Int) : Fis_tuple ex ow [.tup ds, .int a, .int b] S = .ok (.bl (decide (a ≤ ds.length) && decide ((ds.length : Int) ≤ b))) S := by
  unfold Fis_tuple tis_tuple
  simp [Nis_tuple, lenD, seqOf, lstOf, tupOf]
  split
  · simp_all
  · rename_i h
    simp [show ¬ a ≤ ds.length by omega]
theorem len_strD {x : Str} (h : x.length ≤ 4096) : lenD [.str x] S = .ok (.int x.length) S := by
  show (if x.length ≤ sizeLine then _ else _) = _
  rw [if_pos (small_line h)]
theorem is_name_str {x : Str} (h : x.length ≤ 4096) : Fis_name ex ow [.str x] S = .ok (.bl (vn x)) S := by
  have hl := len_strD (S := S) h
  have hs : (TL.signs x).length ≤ sizeLine := by
    unfold TL.signs
    rw [List.length_map]
    exact small_line h
  have hc : compL [1] (gNm 1) tYesD (eBin insgD (eVar 1) (eC (.str lettersS))) (TL.signs x) [] [some (.str x), none] S = .ok (x.cps.toList.map fun c => D.bl (isL c)) S :=
    compL_map (fun c : Nat => D.str ⟨#[c]⟩) (fun c => D.bl (isL c)) x.cps.toList [] (fun c _ => ⟨[some (.str x), some (D.str ⟨#[c]⟩)], by simp [wipeD, gNm], by simp, by simp [insgD, isL]⟩)
  have hm : (x.cps.toList.map fun c => D.bl (isL c)).length ≤ sizeLine := by
    rw [List.length_map]
    exact small_line h
  have hA := all_map (S := S) isL x.cps.toList
  unfold Fis_name tis_name vn
  by_cases h1 : 1 ≤ x.length
  · by_cases h2 : x.length ≤ 8
    · have a1 : (1 : Int) ≤ x.length := by omega
      have a2 : (x.length : Int) ≤ 8 := by omega
      simp [Nis_name, hl, a1, a2, h1, h2, hs, hc, mkL_false _ _ hm, hA]
    · have a1 : (1 : Int) ≤ x.length := by omega
      have a2 : ¬ (x.length : Int) ≤ 8 := by omega
      simp [Nis_name, hl, a1, a2, h1, h2]
  · have a1 : ¬ (1 : Int) ≤ x.length := by omega
    simp [Nis_name, hl, a1, h1]
theorem at0 {α : Type} (a : α) (l : List α) : atI (a :: l) 0 = some a := by
  unfold atI ixN
  simp
theorem at1 {α : Type} (a b : α) (l : List α) : atI (a :: b :: l) 1 = some b := by
  unfold atI ixN
  have h : (1 : Int) < (l.length : Int) + 1 + 1 := by omega
  simp [h]
@[simp] theorem ix_tup0 (a : D) (l : List D) : ixD (.tup (a :: l)) (.int 0) S = .ok a S := ix_tup (at0 a l)
@[simp] theorem ix_tup1 (a b : D) (l : List D) : ixD (.tup (a :: b :: l)) (.int 1) S = .ok b S := ix_tup (at1 a b l)
theorem is_part_ok {p : Str × Int} (h : p.1.length ≤ 4096) : Fis_part ex ow [partD p] S = .ok (.bl (pOk p)) S := by
  unfold Fis_part tis_part partD pOk
  simp [Nis_part, is_tuple_tup, is_name_str h, is_whole_int]
  cases hv : vn p.1 <;> simp [is_whole_int]
theorem lt_strD (x y : Str) : ltD (.str x) (.str y) S = .ok (.bl (ltS x y)) S := rfl
theorem tail_lst {ds : List D} (h : ds.length ≤ 4096) : slD false (.lst ds) (some 1) none S = .ok (.lst ds.tail) S := by
  show mkL false (TL.cutD ds (some 1) none) S = _
  have e : TL.cutD ds (some 1) none = ds.tail := by
    unfold TL.cutD HT.sIx
    cases ds with
    | nil => rfl
    | cons a r => simp [show min 1 (r.length + 1) = 1 by omega]
  rw [e, mkL_false]
  rw [List.length_tail]
  exact small_line (by omega)
theorem do_ascend_strs {l : List Str} (h : l.length ≤ 4096) : Fdo_ascend ex ow [.lst (l.map D.str)] S = .ok (.bl (asc l)) S := by
  have hs := tail_lst (S := S) (ds := l.map D.str) (by rw [List.length_map]; exact h)
  have hz : zipD (l.map D.str) (l.map D.str).tail = (l.zip l.tail).map fun p => D.tup [.str p.1, .str p.2] := by
    unfold zipD
    rw [← List.map_tail, List.zip_map]
    simp
  have hc : compL [1, 2] (gTp 2 (gsCons (gNm 1) (gsCons (gNm 2) gsNil))) tYesD (eBin ltD (eVar 1) (eVar 2)) (zipD (l.map D.str) (l.map D.str).tail) [] [some (.lst (l.map D.str)), none, none] S = .ok ((l.zip l.tail).map fun p => D.bl (ltS p.1 p.2)) S := by
    rw [hz]
    exact compL_map _ (fun p : Str × Str => D.bl (ltS p.1 p.2)) _ [] (fun p _ => ⟨[some (.lst (l.map D.str)), some (.str p.1), some (.str p.2)], by simp [wipeD, gNm], by simp, by simp [lt_strD]⟩)
  have hzl : (zipD (l.map D.str) (l.map D.str).tail).length ≤ sizeLine := by
    rw [hz, List.length_map, List.length_zip]
    exact small_line (by omega)
  have hm : ((l.zip l.tail).map fun p => D.bl (ltS p.1 p.2)).length ≤ sizeLine := by
    rw [List.length_map, List.length_zip]
    exact small_line (by omega)
  have hA := all_map (S := S) (fun p : Str × Str => ltS p.1 p.2) (l.zip l.tail)
  unfold Fdo_ascend tdo_ascend asc
  simp [Ndo_ascend, hs, hc, hzl, mkL_false _ _ hm, hA]
@[simp] theorem it_partsD (t : Tb) : itTp (partsD t) S = .ok (t.map partD) S := rfl
@[simp] theorem itA_partsD (t : Tb) : itAny (partsD t) S = .ok (t.map partD) S := rfl
theorem are_parts_ok {t : Tb} (h : t.length ≤ 4096) (hn : ∀ p ∈ t, p.1.length ≤ 4096) : Fare_parts ex ow [partsD t] S = .ok (.bl (okT t)) S := by
  have c1 : compL [1] (gNm 1) tYesD (eArgs (Fis_part ex ow) (aCons (eVar 1) aNil)) (t.map partD) [] [some (partsD t), none] S = .ok (t.map fun p => D.bl (pOk p)) S :=
    compL_map partD (fun p => D.bl (pOk p)) t [] (fun p hp => ⟨[some (partsD t), some (partD p)], by simp [wipeD, gNm], by simp, by simp [is_part_ok (hn p hp)]⟩)
  have c2 : compL [1] (gNm 1) tYesD (eBin ixD (eVar 1) (eC (.int 0))) (t.map partD) [] [some (partsD t), none] S = .ok (t.map fun p => D.str p.1) S :=
    compL_map partD (fun p => D.str p.1) t [] (fun p hp => ⟨[some (partsD t), some (partD p)], by simp [wipeD, gNm], by simp, by simp [partD]⟩)
  have l1 : (t.map fun p => D.bl (pOk p)).length ≤ sizeLine := by
    rw [List.length_map]
    exact small_line h
  have l2 : (t.map fun p => D.str p.1).length ≤ sizeLine := by
    rw [List.length_map]
    exact small_line h
  have l3 : t.length ≤ sizeLine := small_line h
  have hA := all_map (S := S) pOk t
  have hD := do_ascend_strs (ex := ex) (ow := ow) (S := S) (l := t.map (·.1)) (by rw [List.length_map]; exact h)
  rw [List.map_map] at hD
  have hD : Fdo_ascend ex ow [.lst (t.map fun p => D.str p.1)] S = .ok (.bl (asc (t.map (·.1)))) S := hD
  have hi : isiA ex ow [partsD t, .ty "tuple"] S = .ok (.bl true) S := isi_tup_tuple S _ ex ow
  unfold Fare_parts tare_parts okT
  cases hv : t.all pOk with
  | true =>
    rw [hv] at hA
    simp [Nare_parts, hi, c1, c2, l3, mkL_false _ _ l1, mkL_false _ _ l2, hA, hD]
  | false =>
    rw [hv] at hA
    simp [Nare_parts, hi, c1, c2, l3, mkL_false _ _ l1, mkL_false _ _ l2, hA, hD]
/-! ### tables -/
end
def getT : Tb → Str → Option Int
  | [], _ => none
  | (y, i) :: r, x => if y = x then some i else getT r x
def putT (t : Tb) (x : Str) (v : Int) : Tb := if (getT t x).isSome then t.map (fun p => if p.1 = x then (p.1, v) else p) else t ++ [(x, v)]
def addT (t : Tb) (x : Str) (v : Int) : Tb := putT t x ((getT t x).getD 0 + v)
def keys (t : Tb) : List Str := t.map (·.1)
theorem getK_kv (x : Str) : ∀ t : Tb, getK (kvD t) (.inr x) = (getT t x).map D.int
  | [] => rfl
  | (y, i) :: r => by
    show (if (Sum.inr y : Key) = .inr x then some (D.int i) else getK (kvD r) (.inr x)) = (if y = x then some i else getT r x).map D.int
    by_cases h : y = x
    · rw [if_pos (by rw [h]), if_pos h]
      rfl
    · rw [if_neg (fun e => h (Sum.inr.inj e)), if_neg h]
      exact getK_kv x r
theorem hasK_kv (x : Str) (t : Tb) : hasK (kvD t) (.inr x) = (getT t x).isSome := by
  rw [← getK_has, getK_kv]
  simp
theorem putG_kv (t : Tb) (x : Str) (v : Int) : putG (kvD t) (.inr x) (.int v) = kvD (putT t x v) := by
  unfold putG putT
  rw [hasK_kv]
  split
  · unfold kvD
    rw [List.map_map, List.map_map]
    apply List.map_congr_left
    intro p _
    by_cases h : p.1 = x
    · simp [h]
    · simp [h]
  · simp [kvD]
theorem getT_mem {t : Tb} (nd : (keys t).Nodup) : ∀ {p : Str × Int}, p ∈ t → getT t p.1 = some p.2 := by
  induction t with
  | nil => intro p h; cases h
  | cons q r ih =>
    intro p h
    obtain ⟨y, i⟩ := q
    have nd' := List.nodup_cons.mp nd
    rcases List.mem_cons.mp h with e | h
    · subst e
      simp [getT]
    · have ne : y ≠ p.1 := fun e => nd'.1 (by rw [e]; exact List.mem_map.mpr ⟨p, h, rfl⟩)
      simp only [getT, if_neg ne]
      exact ih nd'.2 h
theorem getT_none {x : Str} : ∀ {t : Tb}, x ∉ keys t → getT t x = none
  | [], _ => rfl
  | (y, i) :: r, h => by
    have ne : y ≠ x := fun e => h (by rw [e]; exact List.mem_cons_self)
    simp only [getT, if_neg ne]
    exact getT_none fun hm => h (List.mem_cons_of_mem _ hm)
theorem getT_some {x : Str} {i : Int} : ∀ {t : Tb}, getT t x = some i → (x, i) ∈ t
  | [], h => by cases h
  | (y, j) :: r, h => by
    simp only [getT] at h
    by_cases e : y = x
    · rw [if_pos e] at h
      cases h
      rw [e]
      exact List.mem_cons_self
    · rw [if_neg e] at h
      exact List.mem_cons_of_mem _ (getT_some h)
theorem getT_has {x : Str} : ∀ {t : Tb}, x ∈ keys t → ∃ i, getT t x = some i
  | [], h => by cases h
  | (y, j) :: r, h => by
    simp only [getT]
    by_cases z : y = x
    · exact ⟨j, if_pos z⟩
    · rw [if_neg z]
      rcases List.mem_cons.mp (show x ∈ y :: keys r from h) with w | w
      · exact (z w.symm).elim
      · exact getT_has w
theorem keys_put (t : Tb) (x : Str) (v : Int) : keys (putT t x v) = if x ∈ keys t then keys t else keys t ++ [x] := by
  unfold putT
  by_cases h : x ∈ keys t
  · obtain ⟨i, e⟩ := getT_has h
    rw [e, if_pos (show (some i).isSome = true from rfl), if_pos h]
    unfold keys
    rw [List.map_map]
    apply List.map_congr_left
    intro p _
    simp only [Function.comp]
    split <;> rfl
  · rw [getT_none h, if_neg h]
    simp [keys]
theorem nd_put {t : Tb} {x : Str} {v : Int} (nd : (keys t).Nodup) : (keys (putT t x v)).Nodup := by
  rw [keys_put]
  split
  · exact nd
  · rename_i h
    exact List.nodup_append.mpr ⟨nd, by simp, fun a ha b hb => by rw [List.mem_singleton.mp hb]; exact fun e => h (e ▸ ha)⟩
theorem len_put (t : Tb) (x : Str) (v : Int) : (putT t x v).length ≤ t.length + 1 := by
  unfold putT
  split <;> simp
/-- many times the pairs are put to the table -/
def mergeT (m : Int) (t q : Tb) : Tb := q.foldl (fun t p => addT t p.1 (m * p.2)) t
theorem mergeT_cons (m : Int) (t : Tb) (p : Str × Int) (q : Tb) : mergeT m t (p :: q) = mergeT m (addT t p.1 (m * p.2)) q := rfl
theorem nd_merge {m : Int} : ∀ {q t : Tb}, (keys t).Nodup → (keys (mergeT m t q)).Nodup
  | [], _, h => h
  | p :: q, t, h => nd_merge (q := q) (nd_put h)
theorem len_merge {m : Int} : ∀ (q t : Tb), (mergeT m t q).length ≤ t.length + q.length
  | [], t => Nat.le_refl _
  | p :: q, t => by
    have h1 := len_merge (m := m) q (addT t p.1 (m * p.2))
    have h2 := len_put t p.1 ((getT t p.1).getD 0 + m * p.2)
    have e : (addT t p.1 (m * p.2)).length = (putT t p.1 ((getT t p.1).getD 0 + m * p.2)).length := rfl
    rw [mergeT_cons, List.length_cons]
    omega
/-- the table with nothing but what counts, ascending -/
def nz (p : Str × Int) : Bool := !decide (p.2 = 0)
def normP (t : Tb) : Tb := (sortT (keys (t.filter nz))).map fun x => (x, (getT t x).getD 0)
theorem once_nd : ∀ (l acc : List Str), (acc ++ l).Nodup → l.foldl insT acc = acc ++ l
  | [], acc, _ => by simp
  | x :: l, acc, h => by
    have hx : x ∉ acc := fun hm => by
      have := List.nodup_append.mp h
      exact this.2.2 x hm x List.mem_cons_self rfl
    have e : insT acc x = acc ++ [x] := if_neg hx
    rw [List.foldl_cons, e, once_nd l (acc ++ [x]) (by rw [List.append_assoc]; exact h), List.append_assoc]
    rfl
theorem once_id {l : List Str} (h : l.Nodup) : onceT l = l := once_nd l [] h
theorem lt_of_le_ne {x y : Str} (h : LeS x y) (ne : x ≠ y) : ltS x y = true := by
  unfold ltS
  rw [decide_eq_true_eq]
  cases Decidable.em (x.cps.toList < y.cps.toList) with
  | inl q => exact q
  | inr q => exact (ne (h.anti q)).elim
theorem asc_pw : ∀ {l : List Str}, l.Pairwise LeS → l.Nodup → asc l = true
  | [], _, _ => rfl
  | [x], _, _ => rfl
  | x :: y :: l, h, nd => by
    have h1 := List.pairwise_cons.mp h
    have n1 := List.nodup_cons.mp nd
    have ih := asc_pw h1.2 n1.2
    unfold asc at ih ⊢
    simp only [List.tail_cons, List.zip_cons_cons, List.all_cons, Bool.and_eq_true] at ih ⊢
    exact ⟨lt_of_le_ne (h1.1 y List.mem_cons_self) (fun e => n1.1 (e ▸ List.mem_cons_self)), ih⟩
theorem norm_keys (t : Tb) : keys (normP t) = sortT (keys (t.filter nz)) := by
  unfold normP keys
  rw [List.map_map]
  exact List.map_id _
theorem nd_filter {t : Tb} (nd : (keys t).Nodup) (c : Str × Int → Bool) : (keys (t.filter c)).Nodup := by
  unfold keys at nd ⊢
  exact List.Sublist.nodup (List.Sublist.map _ List.filter_sublist) nd
theorem norm_ok {t : Tb} (nd : (keys t).Nodup) (hn : ∀ p ∈ t, vn p.1 = true) : okT (normP t) = true := by
  unfold okT
  rw [Bool.and_eq_true]
  refine ⟨List.all_eq_true.mpr fun p hp => ?_, ?_⟩
  · obtain ⟨x, hx, rfl⟩ := List.mem_map.mp hp
    have hx2 := (sortT_perm _).mem_iff.mp hx
    obtain ⟨q, hq, rfl⟩ := List.mem_map.mp hx2
    obtain ⟨h1, h2⟩ := List.mem_filter.mp hq
    rw [getT_mem nd h1]
    unfold pOk
    rw [hn q h1]
    exact h2
  · have e : (normP t).map (·.1) = sortT (keys (t.filter nz)) := norm_keys t
    rw [e]
    exact asc_pw (sortT_pw _) ((sortT_perm _).nodup_iff.mpr (nd_filter nd nz))
end Pr
set_option Elab.async false
set_option linter.all false
set_option maxRecDepth 100000
set_option maxHeartbeats 4000000
/-! Sums: made, added, multiplied. -/
namespace Pr
open PySem PySem.Spec PyProof.Rows L2 TL TLX
section
variable {ex ow : List Str} {S : List O}
theorem pairs_parts : ∀ t : Tb, TL.pairsOf (t.map partD) = some (kvD t)
  | [] => rfl
  | p :: t => by
    rw [List.map_cons]
    unfold TL.pairsOf
    simp only [partD, TL.keyOf, Option.bind_some, pairs_parts t, Option.map_some]
    rfl
theorem kv_nodup {t : Tb} (nd : (keys t).Nodup) : ((kvD t).map (·.1)).Nodup := by
  have e : (kvD t).map (·.1) = (keys t).map Sum.inr := by
    unfold kvD keys
    rw [List.map_map, List.map_map]
    rfl
  rw [e]
  exact List.Pairwise.map _ (fun a b h e => h (Sum.inr.inj e)) nd
theorem dict_parts (own : Bool) {t : Tb} (nd : (keys t).Nodup) : dictLD own [.lst (t.map partD)] S = mkD own (kvD t) S := by
  unfold dictLD lstOf
  simp only [Option.bind_some, pairs_parts]
  rw [mergeG_nodup _ [] (fun _ _ => rfl) (kv_nodup nd)]
  rfl
theorem list_parts {t : Tb} (h : t.length ≤ 4096) : listD false [partsD t] S = .ok (.lst (t.map partD)) S := by
  show mkL false (t.map partD) S = _
  rw [mkL_false]
  rw [List.length_map]
  exact small_line h
theorem noh_parts (t : Tb) : noh (partsD t) = true := by
  unfold partsD
  simp only [noh, nohs_all, List.all_map, List.all_eq_true]
  intro p _
  rfl
theorem noh_kv : ∀ t : Tb, nohk (kvD t) = true
  | [] => rfl
  | p :: t => by
    show (noh (.int p.2) && nohk (kvD t)) = true
    rw [noh_kv t]
    rfl
theorem noh_sum (t : Tb) (n : Int) : noh (sumD t n) = true := by
  unfold sumD sumF
  simp only [noh, nohf, noh_parts, noh_kv, Bool.and_self]
/-- what a sum's parts must be, and may be -/
structure Ok (t : Tb) : Prop where
  ok : okT t = true
  nd : (keys t).Nodup
  len : t.length ≤ 1000
theorem Ok.vn {t : Tb} (h : Ok t) {p : Str × Int} (hp : p ∈ t) : vn p.1 = true := by
  have := h.ok
  unfold okT at this
  have := List.all_eq_true.mp (Bool.and_eq_true_iff.mp this).1 p hp
  unfold pOk at this
  exact (Bool.and_eq_true_iff.mp this).1
theorem Ok.nz {t : Tb} (h : Ok t) {p : Str × Int} (hp : p ∈ t) : p.2 ≠ 0 := by
  have := h.ok
  unfold okT at this
  have := List.all_eq_true.mp (Bool.and_eq_true_iff.mp this).1 p hp
  unfold pOk at this
  simpa using (Bool.and_eq_true_iff.mp this).2
theorem vn_len {x : Str} (h : vn x = true) : x.length ≤ 8 := by
  unfold Pr.vn at h
  simp only [Bool.and_eq_true, decide_eq_true_eq] at h
  exact h.1.2
theorem Ok.small {t : Tb} (h : Ok t) : ∀ p ∈ t, p.1.length ≤ 4096 := fun p hp => by
  have := vn_len (h.vn hp)
  omega
theorem init_sum {t : Tb} (h : Ok t) (n : Int) : FSum___init__ ex ow [.hnd S.length, partsD t, .int n] (S ++ [.ins "Sum" []]) = .ok .non (S ++ [.ins "Sum" (sumF t n)]) := by
  have hl := h.len
  have h1 := are_parts_ok (ex := ex) (ow := ow) (S := S ++ [.ins "Sum" []]) (t := t) (by omega) h.small
  rw [h.ok] at h1
  have h2 := list_parts (S := S ++ [.ins "Sum" [("own_parts", partsD t), ("own_number", .int n)]]) (t := t) (by omega)
  have h3 := dict_parts (S := S ++ [.ins "Sum" [("own_parts", partsD t), ("own_number", .int n)]]) false h.nd
  have s1 : setF ["Sum"] "own_parts" (.hnd S.length) (partsD t) (S ++ [.ins "Sum" []]) = some (S ++ [.ins "Sum" [("own_parts", partsD t)]]) := setF_last S (by decide) (show 0 < 900 by decide)
  have s2 : setF ["Sum"] "own_number" (.hnd S.length) (.int n) (S ++ [.ins "Sum" [("own_parts", partsD t)]]) = some (S ++ [.ins "Sum" [("own_parts", partsD t), ("own_number", .int n)]]) := setF_last S (by decide) (show 1 < 900 by decide)
  have s3 : setF ["Sum"] "own_many" (.hnd S.length) (.dct (kvD t)) (S ++ [.ins "Sum" [("own_parts", partsD t), ("own_number", .int n)]]) = some (S ++ [.ins "Sum" (sumF t n)]) := setF_last S (by decide) (show 2 < 900 by decide)
  unfold FSum___init__ tSum___init__
  simp [NSum___init__, h1, is_whole_int, s1, s2, h2, h3, mkD, s3]
/-- Sum(parts, number) -/
theorem make_sum {t : Tb} (h : Ok t) (n : Int) (fl : Flat S) : (makeD "Sum" [] (FSum___init__ ex ow) [partsD t, .int n] S).cut S.length = .ok (sumD t n) S := by
  have e : makeD "Sum" [] (FSum___init__ ex ow) [partsD t, .int n] S = .ok (.hnd S.length) (S ++ [.ins "Sum" (sumF t n)]) := by
    unfold makeD
    rw [List.append_nil, init_sum h n]
    rfl
  rw [e]
  refine (cut_last fl ?_).trans rfl
  have := noh_sum t n
  unfold sumD at this
  simpa only [noh, nohO] using this
theorem make_sum0 (fl : Flat S) : (makeD "Sum" [.tup [], .int 0] (FSum___init__ ex ow) [] S).cut S.length = .ok (sumD [] 0) S := make_sum (t := []) ⟨rfl, List.nodup_nil, by decide⟩ 0 fl
theorem norm_mem {t : Tb} {x : Str} : x ∈ keys (normP t) → x ∈ keys t := fun h => by
  rw [norm_keys] at h
  obtain ⟨p, hp, rfl⟩ := List.mem_map.mp ((sortT_perm _).mem_iff.mp h)
  exact List.mem_map.mpr ⟨p, (List.mem_filter.mp hp).1, rfl⟩
theorem norm_len (t : Tb) : (normP t).length ≤ t.length := by
  unfold normP
  rw [List.length_map, (sortT_perm _).length_eq]
  unfold keys
  rw [List.length_map]
  exact List.length_filter_le _ _
theorem Ok.norm {t : Tb} (nd : (keys t).Nodup) (hn : ∀ p ∈ t, Pr.vn p.1 = true) (hl : t.length ≤ 1000) : Ok (normP t) := by
  refine ⟨norm_ok nd hn, ?_, Nat.le_trans (norm_len t) hl⟩
  rw [norm_keys]
  exact (sortT_perm _).nodup_iff.mpr (nd_filter nd Pr.nz)
theorem get_kv {t : Tb} {x : Str} {i : Int} (h : getT t x = some i) : dgetD (.dct (kvD t)) (.str x) S = .ok (.int i) S := by
  unfold dgetD
  simp only [dctOf, TL.keyOf, getK_kv, h, Option.map_some]
/-- sum_of: a dict from names to integers, 0 among them -/
theorem sum_of_ok {t : Tb} (nd : (keys t).Nodup) (hn : ∀ p ∈ t, Pr.vn p.1 = true) (hl : t.length ≤ 1000) (n : Int) (fl : Flat S) : Fsum_of ex ow [.dct (kvD t), .int n] S = .ok (sumD (normP t) n) S := by
  have e0 : (kvD t).map (fun kv => keyD kv.1) = t.map fun p => D.str p.1 := by
    unfold kvD
    rw [List.map_map]
    rfl
  have c1 : compL [3] (gNm 3) (tBl (eBin neD (eBin dgetD (eVar 0) (eVar 3)) (eC (.int 0)))) (eVar 3) ((kvD t).map fun kv => keyD kv.1) [] [some (.dct (kvD t)), some (.int n), none, none] S = .ok ((t.filter nz).map fun p => D.str p.1) S := by
    rw [e0]
    refine compL_filt (fun p : Str × Int => D.str p.1) nz (fun p => D.str p.1) t [] (fun p hp => ⟨[some (.dct (kvD t)), some (.int n), none, some (.str p.1)], by simp [wipeD, gNm], ?_, fun _ => by simp⟩)
    have := get_kv (S := S) (getT_mem nd hp)
    simp [this, nz]
  have l1 : ((kvD t).map fun kv => keyD kv.1).length ≤ sizeLine := by
    rw [e0, List.length_map]
    exact small_line (by omega)
  have lf : (t.filter nz).length ≤ t.length := List.length_filter_le _ _
  have l2 : ((t.filter nz).map fun p => D.str p.1).length ≤ sizeLine := by
    rw [List.length_map]
    exact small_line (by omega)
  have nf := nd_filter nd nz
  have hs : sortSetD false [.lst ((t.filter nz).map fun p => D.str p.1)] S = .ok (.lst ((sortT (keys (t.filter nz))).map D.str)) S := by
    unfold sortSetD lstOf
    have e : strsOf ((t.filter nz).map fun p => D.str p.1) = some (keys (t.filter nz)) := by
      have := strsOf_map (keys (t.filter nz))
      unfold keys at this ⊢
      rw [List.map_map] at this
      exact this
    simp only [Option.bind_some, e]
    rw [if_pos (by
      unfold keys
      rw [List.length_map]
      show _ < 4096
      omega), once_id nf, mkL_false]
    rw [List.length_map, (sortT_perm _).length_eq]
    unfold keys
    rw [List.length_map]
    exact small_line (by omega)
  have c2 : compL [3] (gNm 3) tYesD (eArgs mkT (aCons (eVar 3) (aCons (eBin dgetD (eVar 0) (eVar 3)) aNil))) ((sortT (keys (t.filter nz))).map D.str) [] [some (.dct (kvD t)), some (.int n), some (.lst ((sortT (keys (t.filter nz))).map D.str)), none] S = .ok ((normP t).map partD) S := by
    have := compL_map (vs := [3]) (tg := gNm 3) (tt := tYesD) (te := eArgs mkT (aCons (eVar 3) (aCons (eBin dgetD (eVar 0) (eVar 3)) aNil))) (ρ := [some (.dct (kvD t)), some (.int n), some (.lst ((sortT (keys (t.filter nz))).map D.str)), none]) (S := S) D.str (fun x => partD (x, (getT t x).getD 0)) (sortT (keys (t.filter nz))) [] (fun x hx => ⟨[some (.dct (kvD t)), some (.int n), some (.lst ((sortT (keys (t.filter nz))).map D.str)), some (.str x)], by simp [wipeD, gNm], by simp, ?_⟩)
    · rw [this]
      unfold normP
      rw [List.map_map]
      rfl
    · obtain ⟨p, hp, rfl⟩ := List.mem_map.mp ((sortT_perm _).mem_iff.mp hx)
      have hg := getT_mem nd (List.mem_filter.mp hp).1
      have := get_kv (S := S) hg
      simp [this, mkT_ok', hg, partD, small_line]
  have l3 : ((sortT (keys (t.filter nz))).map D.str).length ≤ sizeLine := by
    rw [List.length_map, (sortT_perm _).length_eq]
    unfold keys
    rw [List.length_map]
    exact small_line (by omega)
  have l4 : ((normP t).map partD).length ≤ sizeLine := by
    have := norm_len t
    rw [List.length_map]
    exact small_line (by omega)
  have ht : tupleD [.lst ((normP t).map partD)] S = .ok (partsD (normP t)) S := by
    show mkT _ S = _
    rw [mkT_ok' _ _ l4]
    rfl
  have hm := make_sum (ex := ex) (ow := ow) (Ok.norm nd hn hl) n fl
  have l1' : (kvD t).length ≤ sizeLine := by simpa using l1
  have l3' : (sortT (keys (t.filter nz))).length ≤ sizeLine := by simpa using l3
  unfold Fsum_of tsum_of
  simp [Nsum_of, c1, l1', mkL_false _ _ l2, hs, c2, l3', mkL_false _ _ l4, ht, hm]
/-! ### fields -/
theorem isO_sum (t : Tb) (n : Int) : isOwn "Sum" S (sumD t n) = true := rfl
theorem fld_parts (t : Tb) (n : Int) : fldD ["Sum"] "own_parts" (sumD t n) S = .ok (partsD t) S := fld_ins S (by decide) rfl
theorem fld_number (t : Tb) (n : Int) : fldD ["Sum"] "own_number" (sumD t n) S = .ok (.int n) S := fld_ins S (by decide) rfl
theorem fld_many (t : Tb) (n : Int) : fldD ["Sum"] "own_many" (sumD t n) S = .ok (.dct (kvD t)) S := fld_ins S (by decide) rfl
/-! ### added, times -/
def bd : Nat := 2 ^ 60
theorem bd_mul {i j : Int} (hi : i.natAbs ≤ bd) (hj : j.natAbs ≤ bd) : CMul i j ∨ CMulW i j := .inl (.inl (by unfold bd at hi; omega))
theorem mul_bd {i j : Int} (hi : i.natAbs ≤ bd) (hj : j.natAbs ≤ bd) : mulD (.int i) (.int j) S = .ok (.int (i * j)) S := mul_int S (bd_mul hi hj)
/-- all integers at names are small -/
def Sm (b : Nat) (t : Tb) : Prop := ∀ p ∈ t, p.2.natAbs ≤ b
theorem dct_last {k : List (Key × D)} : dctOf (S ++ [.dct k]) (.hnd S.length) = some k := by
  unfold dctOf
  simp
theorem added_loop {a b : D} {m : Int} (hm : m.natAbs ≤ bd) (n0 : Nat) (hn : S.length = n0) : ∀ (q t : Tb) (x y : Option D), Sm bd q → t.length + q.length ≤ 4000 →
    ∃ x' y', forL (gTp 2 (gsCons (gNm 4) (gsCons (gNm 5) gsNil))) (sDput (eVar 3) (eVar 4) (eBin (addU false) (eGet2 (eVar 3) (eVar 4) (eC (.int 0))) (eBin mulD (eVar 2) (eVar 5)))) (q.map partD) [some a, some b, some (.int m), some (.hnd n0), x, y] (S ++ [.dct (kvD t)]) = .nx [some a, some b, some (.int m), some (.hnd n0), x', y'] (S ++ [.dct (kvD (mergeT m t q))])
  | [], t, x, y, _, _ => ⟨x, y, rfl⟩
  | p :: q, t, x, y, hs, hl => by
    subst hn
    have hp := hs p List.mem_cons_self
    have h1 := mul_bd (S := S ++ [.dct (kvD t)]) hm hp
    have h2 : dgt2D (.hnd S.length) (.str p.1) (.int 0) (S ++ [.dct (kvD t)]) = .ok (.int ((getT t p.1).getD 0)) (S ++ [.dct (kvD t)]) := by
      unfold dgt2D
      simp only [dct_last, TL.keyOf, getK_kv]
      cases getT t p.1 <;> rfl
    have h3 : (dctOf (S ++ [.dct (kvD t)]) (.hnd S.length)).isSome = true := by rw [dct_last]; rfl
    have h4 : setDk (.hnd S.length) (.str p.1) (.int ((getT t p.1).getD 0 + m * p.2)) (S ++ [.dct (kvD t)]) = some (S ++ [.dct (kvD (addT t p.1 (m * p.2)))]) := by
      unfold setDk
      simp only [TL.keyOf, List.getElem?_append_right (Nat.le_refl _), Nat.sub_self, List.getElem?_cons_zero]
      rw [if_pos (by
        have : (kvD t).length = t.length := by simp [kvD]
        rw [this]
        have := small_line (n := t.length + 1) (by rw [List.length_cons] at hl; omega)
        omega), putG_kv]
      simp [addT]
    have h5 : addU false (.int ((getT t p.1).getD 0)) (.int (m * p.2)) (S ++ [.dct (kvD t)]) = .ok (.int ((getT t p.1).getD 0 + m * p.2)) (S ++ [.dct (kvD t)]) := rfl
    obtain ⟨x', y', e⟩ := added_loop (a := a) (b := b) hm S.length rfl q (addT t p.1 (m * p.2)) (some (.str p.1)) (some (.int p.2)) (fun z hz => hs z (List.mem_cons_of_mem _ hz)) (by
      have := len_put t p.1 ((getT t p.1).getD 0 + m * p.2)
      have e : (addT t p.1 (m * p.2)).length = (putT t p.1 ((getT t p.1).getD 0 + m * p.2)).length := rfl
      rw [List.length_cons] at hl
      omega)
    refine ⟨x', y', ?_⟩
    rw [List.map_cons]
    unfold forL
    simp [partD, h1, h2, h3, h5, h4]
    exact e
end
end Pr
set_option Elab.async false
set_option linter.all false
set_option maxRecDepth 100000
set_option maxHeartbeats 4000000
/-! Sums: added, times, the operators. -/
namespace Pr
open PySem PySem.Spec PyProof.Rows L2 TL TLX
section
variable {ex ow : List Str} {S : List O}
theorem cutS_last {S : List O} {o : O} {ρ : Env1} (h : Flat S) : (OutS.nx ρ (S ++ [o])).cut S.length = .nx (ρ.map fun z => z.map (D.sub (hfz S.length (S ++ [o]) fzd))) S := by
  show OutS.nx (rfz _ _ _) (sfz _ _) = _
  rw [sfz_flat h]
  unfold rfz
  rw [if_neg (by simp)]
theorem hfz_last {S : List O} {o : O} (ho : nohO o = true) : hfz S.length (S ++ [o]) fzd S.length = frz o := hfz_new (k := 5) (Nat.le_refl _) (by simp) ho
theorem sub_sum (f : Nat → D) (t : Tb) (n : Int) : D.sub f (sumD t n) = sumD t n := sub_noh f _ (noh_sum t n)
theorem keys_mergeT {m : Int} : ∀ {q t : Tb} {x : Str}, x ∈ keys (mergeT m t q) → x ∈ keys t ∨ x ∈ keys q
  | [], _, _, h => .inl h
  | p :: q, t, x, h => by
    rcases keys_mergeT (q := q) h with h | h
    · have h : x ∈ keys (putT t p.1 ((getT t p.1).getD 0 + m * p.2)) := h
      rw [keys_put] at h
      split at h
      · exact .inl h
      · rcases List.mem_append.mp h with h | h
        · exact .inl h
        · rw [List.mem_singleton.mp h]
          exact .inr List.mem_cons_self
    · exact .inr (List.mem_cons_of_mem _ h)
theorem vn_merge {m : Int} {t q : Tb} (ht : ∀ p ∈ t, Pr.vn p.1 = true) (hq : ∀ p ∈ q, Pr.vn p.1 = true) : ∀ p ∈ mergeT m t q, Pr.vn p.1 = true := fun p hp => by
  rcases keys_mergeT (List.mem_map.mpr ⟨p, hp, rfl⟩) with h | h
  · obtain ⟨z, hz, e⟩ := List.mem_map.mp h
    rw [← e]
    exact ht z hz
  · obtain ⟨z, hz, e⟩ := List.mem_map.mp h
    rw [← e]
    exact hq z hz
/-- one and so many times other -/
theorem added_ok {t q : Tb} {n m k : Int} (ht : Ok t) (hq : Ok q) (hl : t.length + q.length ≤ 1000) (sq : Sm bd q) (hk : k.natAbs ≤ bd) (hm : m.natAbs ≤ bd) (fl : Flat S) :
    Fadded ex ow [sumD t n, sumD q m, .int k] S = .ok (sumD (normP (mergeT k t q)) (n + k * m)) S := by
  have hd : dictLD true [.lst (t.map partD)] S = .ok (.hnd S.length) (S ++ [.dct (kvD t)]) := dict_parts true ht.nd
  have hll := ht.len
  have h1 := list_parts (S := S) (t := t) (by omega)
  obtain ⟨x', y', e⟩ := added_loop (S := S) (a := sumD t n) (b := sumD q m) hk S.length rfl q t none none sq (by omega)
  have nm := nd_merge (m := k) (q := q) ht.nd
  have hs := sum_of_ok (ex := ex) (ow := ow) (S := S) (t := mergeT k t q) nm (vn_merge (fun p hp => ht.vn hp) fun p hp => hq.vn hp) (Nat.le_trans (len_merge q t) hl) (n + k * m) fl
  have hmul := mul_bd (S := S) hk hm
  have hf := hfz_last (S := S) (o := .dct (kvD (mergeT k t q))) (by simp only [nohO, noh_kv])
  have hcut := cutS_last (S := S) (o := .dct (kvD (mergeT k t q))) (ρ := [some (sumD t n), some (sumD q m), some (.int k), some (.hnd S.length), x', y']) fl
  have body : bodyF 3 Nadded (tadded ex ow) [sumD t n, sumD q m, .int k] S = .ok (sumD (normP (mergeT k t q)) (n + k * m)) S := by
    unfold tadded
    simp [Nadded, fld_parts, h1, hd, e, hcut, sub_sum, D.sub, hf, frz, fld_number, hmul, addU, lstOf, addD, hs]
  show (bodyF 3 Nadded (tadded ex ow) _ S).cut S.length = _
  rw [body]
  show Out.ok _ _ = _
  rw [dfz_noh (noh_sum _ _)]
  have := sfz_flat (N := []) fl
  rw [List.append_nil] at this
  rw [this]
/-- so many times the table -/
def scale (k : Int) (t : Tb) : Tb := t.map fun p => (p.1, k * p.2)
theorem keys_scale (k : Int) (t : Tb) : keys (scale k t) = keys t := by
  unfold keys scale
  rw [List.map_map]
  rfl
theorem times_ok {t : Tb} {n k : Int} (ht : Ok t) (st : Sm bd t) (hk : k.natAbs ≤ bd) (hn : n.natAbs ≤ bd) (fl : Flat S) : Ftimes ex ow [sumD t n, .int k] S = .ok (sumD (normP (scale k t)) (k * n)) S := by
  have hll := ht.len
  have c1 : compD [3, 4] (gTp 2 (gsCons (gNm 3) (gsCons (gNm 4) gsNil))) tYesD (eVar 3) (eBin mulD (eVar 2) (eVar 4)) (t.map partD) [] [some (sumD t n), some (.int k), some (.int k), none, none] S = .ok (kvD (scale k t)) S := by
    have := compD_map (vs := [3, 4]) (tg := gTp 2 (gsCons (gNm 3) (gsCons (gNm 4) gsNil))) (tt := tYesD) (tk := eVar 3) (tv := eBin mulD (eVar 2) (eVar 4)) (ρ := [some (sumD t n), some (.int k), some (.int k), none, none]) (S := S) partD (fun p => (.inr p.1)) (fun p => .int (k * p.2)) t [] (fun _ _ => rfl) (by
      have e : t.map (fun p : Str × Int => (Sum.inr p.1 : Key)) = (keys t).map Sum.inr := by
        unfold keys
        rw [List.map_map]
        rfl
      rw [e]
      exact List.Pairwise.map _ (fun a b h e => h (Sum.inr.inj e)) ht.nd) (fun p hp => ⟨[some (sumD t n), some (.int k), some (.int k), some (.str p.1), some (.int p.2)], .str p.1, by simp [wipeD, partD], by simp, by simp, rfl, by
        have := mul_bd (S := S) hk (st p hp)
        simp [this]⟩)
    rw [this]
    unfold kvD scale
    rw [List.map_map]
    rfl
  have l1 : t.length ≤ sizeLine := small_line (by omega)
  have hmul := mul_bd (S := S) hk hn
  have hs := sum_of_ok (ex := ex) (ow := ow) (S := S) (t := scale k t) (by rw [keys_scale]; exact ht.nd) (fun p hp => by
    obtain ⟨z, hz, rfl⟩ := List.mem_map.mp hp
    exact (ht.vn hz : Pr.vn z.1 = true)) (by unfold scale; rw [List.length_map]; exact hll) (k * n) fl
  unfold Ftimes ttimes
  simp [Ntimes, fld_parts, c1, l1, mkD, fld_number, hmul, hs]
/-! ### the operators -/
theorem sum_parts (t : Tb) (n : Int) : FSum_parts ex ow [sumD t n] S = .ok (partsD t) S := by
  unfold FSum_parts tSum_parts
  simp [NSum_parts, fld_parts]
theorem sum_number (t : Tb) (n : Int) : FSum_number ex ow [sumD t n] S = .ok (.int n) S := by
  unfold FSum_number tSum_number
  simp [NSum_number, fld_number]
theorem is_whole_sum (ho : ("Sum" : Str) ∈ ow) (t : Tb) (n : Int) : Fis_whole ex ow [sumD t n] S = .ok (.bl false) S := by
  have h : isiA ex ow [sumD t n, .ty "int"] S = .ok (.bl false) S := isi_ins_ty S ho (by decide)
  unfold Fis_whole tis_whole
  simp [Nis_whole, h]
theorem isi_sum (ho : ("Sum" : Str) ∈ ow) (t : Tb) (n : Int) : isiA ex ow [sumD t n, .cls "Sum"] S = .ok (.bl true) S := by
  exact isi_ins_cls (ex := ex) S (C := "Sum") (B := "Sum") (fs := sumF t n) ho ho
theorem add_sum (ho : ("Sum" : Str) ∈ ow) {t q : Tb} {n m : Int} (ht : Ok t) (hq : Ok q) (hl : t.length + q.length ≤ 1000) (sq : Sm bd q) (hm : m.natAbs ≤ bd) (fl : Flat S) :
    FSum___add__ ex ow [sumD t n, sumD q m] S = .ok (sumD (normP (mergeT 1 t q)) (n + 1 * m)) S := by
  have h := added_ok (ex := ex) (ow := ow) (n := n) ht hq hl sq (k := 1) (by decide) hm fl
  unfold FSum___add__ tSum___add__
  simp [NSum___add__, is_whole_sum ho, isi_sum ho]
  simp at h
  simp [h]
theorem sub_sum' (ho : ("Sum" : Str) ∈ ow) {t q : Tb} {n m : Int} (ht : Ok t) (hq : Ok q) (hl : t.length + q.length ≤ 1000) (sq : Sm bd q) (hm : m.natAbs ≤ bd) (fl : Flat S) :
    FSum___sub__ ex ow [sumD t n, sumD q m] S = .ok (sumD (normP (mergeT (-1) t q)) (n + -1 * m)) S := by
  have h := added_ok (ex := ex) (ow := ow) (n := n) ht hq hl sq (k := -1) (by decide) hm fl
  unfold FSum___sub__ tSum___sub__
  simp [NSum___sub__, is_whole_sum ho, isi_sum ho]
  simp at h
  simp [h]
theorem add_int {t : Tb} {n i : Int} (ht : Ok t) (fl : Flat S) : FSum___add__ ex ow [sumD t n, .int i] S = .ok (sumD t (n + i)) S := by
  have h := make_sum (ex := ex) (ow := ow) ht (n + i) fl
  unfold FSum___add__ tSum___add__
  simp [NSum___add__, is_whole_int, fld_parts, fld_number, addU, lstOf, addD, h]
theorem radd_int {t : Tb} {n i : Int} (ht : Ok t) (fl : Flat S) : FSum___radd__ ex ow [sumD t n, .int i] S = .ok (sumD t (n + i)) S := by
  have h := make_sum (ex := ex) (ow := ow) ht (n + i) fl
  unfold FSum___radd__ tSum___radd__
  simp [NSum___radd__, is_whole_int, fld_parts, fld_number, addU, lstOf, addD, h]
theorem sub_int {t : Tb} {n i : Int} (ht : Ok t) (fl : Flat S) : FSum___sub__ ex ow [sumD t n, .int i] S = .ok (sumD t (n - i)) S := by
  have h := make_sum (ex := ex) (ow := ow) ht (n - i) fl
  unfold FSum___sub__ tSum___sub__
  simp [NSum___sub__, is_whole_int, fld_parts, fld_number, h]
theorem rsub_int {t : Tb} {n i : Int} (ht : Ok t) (st : Sm bd t) (hn : n.natAbs ≤ bd) (fl : Flat S) : FSum___rsub__ ex ow [sumD t n, .int i] S = .ok (sumD (normP (mergeT (-1) [] t)) (i + -1 * n)) S := by
  have o0 : Ok [] := ⟨rfl, List.nodup_nil, by decide⟩
  have h0 : (makeD "Sum" [] (FSum___init__ ex ow) [.tup [], .int i] S).cut S.length = .ok (sumD [] i) S := make_sum (ex := ex) (ow := ow) o0 i fl
  have hl := ht.len
  have h := added_ok (ex := ex) (ow := ow) (n := i) o0 ht (by simp; omega) st (k := -1) (by decide) hn fl
  have l0 : ([] : List D).length ≤ sizeLine := small_line (by decide)
  unfold FSum___rsub__ tSum___rsub__
  simp at h
  simp [NSum___rsub__, is_whole_int, mkT_ok' _ _ l0, h0, h]
theorem neg_sum {t : Tb} {n : Int} (ht : Ok t) (st : Sm bd t) (hn : n.natAbs ≤ bd) (fl : Flat S) : FSum___neg__ ex ow [sumD t n] S = .ok (sumD (normP (scale (-1) t)) (-1 * n)) S := by
  have h := times_ok (ex := ex) (ow := ow) ht st (k := -1) (by decide) hn fl
  unfold FSum___neg__ tSum___neg__
  simp at h
  simp [NSum___neg__, h]
theorem mul_sum {t : Tb} {n k : Int} (ht : Ok t) (st : Sm bd t) (hk : k.natAbs ≤ bd) (hn : n.natAbs ≤ bd) (fl : Flat S) : FSum___mul__ ex ow [sumD t n, .int k] S = .ok (sumD (normP (scale k t)) (k * n)) S := by
  have h := times_ok (ex := ex) (ow := ow) ht st hk hn fl
  unfold FSum___mul__ tSum___mul__
  simp [NSum___mul__, is_whole_int, h]
theorem rmul_sum {t : Tb} {n k : Int} (ht : Ok t) (st : Sm bd t) (hk : k.natAbs ≤ bd) (hn : n.natAbs ≤ bd) (fl : Flat S) : FSum___rmul__ ex ow [sumD t n, .int k] S = .ok (sumD (normP (scale k t)) (k * n)) S := by
  have h := times_ok (ex := ex) (ow := ow) ht st hk hn fl
  unfold FSum___rmul__ tSum___rmul__
  simp [NSum___rmul__, is_whole_int, h]
/-! ### what a sum comes to; equal sums -/
theorem eqv_parts : ∀ t q : Tb, PyData.eqvAll (t.map fun p => PyData.tuple [.str p.1, .int p.2]) (q.map fun p => PyData.tuple [.str p.1, .int p.2]) = decide (t = q)
  | [], [] => rfl
  | [], _ :: _ => rfl
  | _ :: _, [] => rfl
  | (a, i) :: t, (b, j) :: q => by
    simp only [List.map_cons, PyData.eqvAll, PyData.eqv, Bool.and_true, eqv_parts t q]
    by_cases h1 : a = b <;> by_cases h2 : i = j <;> by_cases h3 : t = q <;> simp [h1, h2, h3]
/-- what can be shown: names, small integers -/
def Sh (t : Tb) : Prop := (∀ p ∈ t, vn p.1 = true ∧ p.2.natAbs < 10 ^ 12) ∧ t.length ≤ 1000
theorem vn_ok {x : Str} (h : vn x = true) : PyData.strOk x = true := by
  unfold Pr.vn at h
  simp only [Bool.and_eq_true] at h
  unfold PyData.strOk
  rw [Array.all_eq_true_iff_forall_mem]
  intro c hc
  have := List.all_eq_true.mp h.2 c (Array.mem_toList_iff.mpr hc)
  unfold isL at this
  have := of_decide_eq_true this
  have big : ∀ c ∈ lettersS.cps.toList, c < 0x110000 := by decide +kernel
  simpa using big c this
theorem gd_part {p : Str × Int} (h : vn p.1 = true) (hi : p.2.natAbs < 10 ^ 12) : Gd 1 60 (partD p) (.tuple [.str p.1, .int p.2]) := by
  have h1 := gd_str (w := 8) (vn_ok h) (vn_len h)
  exact (gd_tup (gds_cons h1 (gds_cons (gd_int hi) (gds_nil (w := 0))))).up (by decide) (by decide)
def partsP (t : Tb) : PyData := .tuple (t.map fun p => PyData.tuple [.str p.1, .int p.2])
theorem gd_parts {t : Tb} (h : Sh t) : Gd 2 61000 (partsD t) (partsP t) := by
  have := gd_tup (gds_map partD (fun p : Str × Int => PyData.tuple [.str p.1, .int p.2]) t fun p hp => gd_part (h.1 p hp).1 (h.1 p hp).2)
  exact this.up (by decide) (by have := h.2; omega)
def pairP (t : Tb) (n : Int) : PyData := .tuple [partsP t, .int n]
theorem gd_pair {t : Tb} {n : Int} (h : Sh t) (hn : n.natAbs < 10 ^ 12) : Gd 3 62000 (.tup [partsD t, .int n]) (pairP t n) :=
  (gd_tup (gds_cons (gd_parts h) (gds_cons ((gd_int hn).up (k' := 2) (by decide) (Nat.le_refl _)) (gds_nil (w := 0))))).up (by decide) (by decide)
theorem eq_parts {t q : Tb} (ht : Sh t) (hq : Sh q) : eqD (partsD t) (partsD q) S = .ok (.bl (decide (t = q))) S := by
  have := gd_eq_tup (S := S) (a := t.map partD) (b := q.map partD) (gd_parts ht) (gd_parts hq) (by decide) (by decide)
  have e : eqD (partsD t) (partsD q) S = .ok (.bl (PyData.eqv (partsP t) (partsP q))) S := this
  rw [e]
  unfold partsP
  simp only [PyData.eqv, eqv_parts]
theorem eq_sum (ho : ("Sum" : Str) ∈ ow) {t q : Tb} {n m : Int} (ht : Sh t) (hq : Sh q) : FSum___eq__ ex ow [sumD t n, sumD q m] S = .ok (.bl (decide (t = q) && decide (n = m))) S := by
  have h := eq_parts (S := S) ht hq
  unfold FSum___eq__ tSum___eq__
  simp [NSum___eq__, isi_sum ho, fld_parts, fld_number, h]
  by_cases e : t = q <;> simp [e]
/-- all names of t have a value in v -/
def Has (v t : Tb) : Prop := ∀ p ∈ t, ∃ i, getT v p.1 = some i ∧ i.natAbs ≤ bd
def comes (v t : Tb) : Int := (t.map fun p => p.2 * (getT v p.1).getD 0).sum
structure Vals (v : Tb) : Prop where
  vn : ∀ p ∈ v, Pr.vn p.1 = true
  len : v.length ≤ 1000
theorem are_values_ok {v : Tb} (h : Vals v) : Fare_values ex ow [.dct (kvD v)] S = .ok (.bl true) S := by
  have e0 : (kvD v).map (fun kv => D.tup [keyD kv.1, kv.2]) = v.map partD := by
    unfold kvD
    rw [List.map_map]
    rfl
  have c1 : compL [1, 2] (gTp 2 (gsCons (gNm 1) (gsCons (gNm 2) gsNil))) tYesD (eAnd (eArgs (Fis_name ex ow) (aCons (eVar 1) aNil)) (eArgs (Fis_whole ex ow) (aCons (eVar 2) aNil))) ((kvD v).map fun kv => D.tup [keyD kv.1, kv.2]) [] [some (.dct (kvD v)), none, none] S = .ok (v.map fun _ => D.bl true) S := by
    rw [e0]
    refine compL_map partD (fun _ => D.bl true) v [] fun p hp => ⟨[some (.dct (kvD v)), some (.str p.1), some (.int p.2)], by simp [wipeD, partD], by simp, ?_⟩
    have h1 := h.vn p hp
    have h2 := is_name_str (ex := ex) (ow := ow) (S := S) (x := p.1) (by have := vn_len h1; omega)
    rw [h1] at h2
    simp [h2, is_whole_int]
  have hl := h.len
  have l0 : (kvD v).length ≤ sizeLine := by
    unfold kvD
    rw [List.length_map]
    exact small_line (by omega)
  have l1 : (v.map fun _ => D.bl true).length ≤ sizeLine := by
    rw [List.length_map]
    exact small_line (by omega)
  have hA := all_map (S := S) (fun _ : Str × Int => true) v
  have ht : v.all (fun _ => true) = true := List.all_eq_true.mpr fun _ _ => rfl
  rw [ht] at hA
  unfold Fare_values tare_values
  simp [Nare_values, c1, l0, mkL_false _ _ l1, hA]
theorem call_sum {t v : Tb} {n : Int} (ht : Ok t) (st : Sm bd t) (hv : Vals v) (hh : Has v t) : FSum___call__ ex ow [sumD t n, .dct (kvD v)] S = .ok (.int (n + comes v t)) S := by
  have e0 : (kvD t).map (fun kv => keyD kv.1) = t.map fun p => D.str p.1 := by
    unfold kvD
    rw [List.map_map]
    rfl
  have c1 : compL [2] (gNm 2) tYesD (eBin dinD (eVar 2) (eVar 1)) ((kvD t).map fun kv => keyD kv.1) [] [some (sumD t n), some (.dct (kvD v)), none, none] S = .ok (t.map fun _ => D.bl true) S := by
    rw [e0]
    refine compL_map (fun p : Str × Int => D.str p.1) (fun _ => D.bl true) t [] fun p hp => ⟨[some (sumD t n), some (.dct (kvD v)), some (.str p.1), none], by simp [wipeD], by simp, ?_⟩
    obtain ⟨i, hi, _⟩ := hh p hp
    have : dinD (.str p.1) (.dct (kvD v)) S = .ok (.bl true) S := by
      unfold dinD
      simp only [dctOf, TL.keyOf, hasK_kv, hi]
      rfl
    simp [this]
  have c2 : compL [2, 3] (gTp 2 (gsCons (gNm 2) (gsCons (gNm 3) gsNil))) tYesD (eBin mulD (eVar 3) (eBin dgetD (eVar 1) (eVar 2))) (t.map partD) [] [some (sumD t n), some (.dct (kvD v)), none, none] S = .ok (t.map fun p => D.int (p.2 * (getT v p.1).getD 0)) S := by
    have := compL_map (vs := [2, 3]) (tg := gTp 2 (gsCons (gNm 2) (gsCons (gNm 3) gsNil))) (tt := tYesD) (te := eBin mulD (eVar 3) (eBin dgetD (eVar 1) (eVar 2))) (ρ := [some (sumD t n), some (.dct (kvD v)), none, none]) (S := S) partD (fun p => D.int (p.2 * (getT v p.1).getD 0)) t [] fun p hp => ⟨[some (sumD t n), some (.dct (kvD v)), some (.str p.1), some (.int p.2)], by simp [wipeD, partD], by simp, by
      obtain ⟨i, hi, hb⟩ := hh p hp
      have h1 := get_kv (S := S) hi
      have h2 := mul_bd (S := S) (st p hp) hb
      simp [h1, h2, hi]⟩
    rw [this]
    rfl
  have hl := ht.len
  have l0 : (kvD t).length ≤ sizeLine := by
    unfold kvD
    rw [List.length_map]
    exact small_line (by omega)
  have l1 : (t.map fun _ => D.bl true).length ≤ sizeLine := by
    rw [List.length_map]
    exact small_line (by omega)
  have l2 : (t.map fun p => D.int (p.2 * (getT v p.1).getD 0)).length ≤ sizeLine := by
    rw [List.length_map]
    exact small_line (by omega)
  have l3 : t.length ≤ sizeLine := small_line (by omega)
  have hA := all_map (S := S) (fun _ : Str × Int => true) t
  have hT : t.all (fun _ => true) = true := List.all_eq_true.mpr fun _ _ => rfl
  rw [hT] at hA
  have hsum : TL.sumD [.lst (t.map fun p => D.int (p.2 * (getT v p.1).getD 0))] S = .ok (.int (comes v t)) S := by
    have e : (t.map fun p => D.int (p.2 * (getT v p.1).getD 0)) = (t.map fun p => p.2 * (getT v p.1).getD 0).map D.int := by
      rw [List.map_map]
      rfl
    rw [e]
    unfold TL.sumD lstOf
    simp only [Option.bind_some, intsOf_map]
    rfl
  have hv' := are_values_ok (ex := ex) (ow := ow) (S := S) hv
  have ha : addU false (.int n) (.int (comes v t)) S = .ok (.int (n + comes v t)) S := rfl
  unfold FSum___call__ tSum___call__
  simp [NSum___call__, hv', fld_many, fld_number, fld_parts, c1, l0, mkL_false _ _ l1, hA, c2, l3, mkL_false _ _ l2, hsum, ha]
end
end Pr
set_option Elab.async false
set_option linter.all false
set_option maxRecDepth 100000
set_option maxHeartbeats 4000000
/-! Tables by what they come to at each name; comprehensions whose members draw. -/
namespace Pr
open PySem PySem.Spec PyProof.Rows L2 TL TLX
def val (t : Tb) (x : Str) : Int := (getT t x).getD 0
theorem getT_put (t : Tb) (x : Str) (v : Int) (y : Str) : getT (putT t x v) y = if x = y then some v else getT t y := by
  unfold putT
  cases e : getT t x with
  | some i =>
    simp only [Option.isSome_some, if_true]
    have key : ∀ t : Tb, getT (t.map fun p => if p.1 = x then (p.1, v) else p) y = if x = y ∧ (getT t x).isSome then some v else getT t y := fun t => by
      induction t with
      | nil => simp [getT]
      | cons q r ih =>
        obtain ⟨z, j⟩ := q
        by_cases hz : z = x
        · subst hz
          simp only [List.map_cons, if_true, getT]
          by_cases hy : z = y
          · simp [hy]
          · simp only [if_neg hy, ih, hy, false_and, if_false]
        · simp only [List.map_cons, if_neg hz, getT]
          by_cases hy : z = y
          · have : ¬ x = y := fun e => hz (hy.trans e.symm)
            simp [hy, this]
          · simp only [if_neg hy, ih]
    rw [key, e]
    simp
  | none =>
    simp only [Option.isSome_none, Bool.false_eq_true, if_false]
    have key : ∀ t : Tb, getT t x = none → getT (t ++ [(x, v)]) y = if x = y then some v else getT t y := fun t => by
      induction t with
      | nil => intro _; simp [getT]
      | cons q r ih =>
        obtain ⟨z, j⟩ := q
        intro h
        simp only [getT] at h
        by_cases hz : z = x
        · rw [if_pos hz] at h
          cases h
        · rw [if_neg hz] at h
          simp only [List.cons_append, getT, ih h]
          by_cases hy : z = y
          · have : ¬ x = y := fun e => hz (hy.trans e.symm)
            simp [hy, this]
          · simp [hy]
    exact key t e
theorem val_add (t : Tb) (x : Str) (i : Int) (y : Str) : val (addT t x i) y = val t y + if x = y then i else 0 := by
  unfold val addT
  rw [getT_put]
  by_cases h : x = y
  · subst h
    simp
  · simp [h]
/-- what the pairs come to at a name, names twice or not -/
def tot (q : Tb) (y : Str) : Int := (q.map fun p => if p.1 = y then p.2 else 0).sum
theorem val_merge (m : Int) (y : Str) : ∀ (q t : Tb), val (mergeT m t q) y = val t y + m * tot q y
  | [], t => by simp [mergeT, tot]
  | p :: q, t => by
    rw [mergeT_cons, val_merge m y q, val_add]
    unfold tot
    simp only [List.map_cons, List.sum_cons, Int.mul_add]
    by_cases h : p.1 = y
    · simp [h]
      omega
    · simp [h]
theorem tot_nd {y : Str} : ∀ {q : Tb}, (keys q).Nodup → tot q y = val q y
  | [], _ => rfl
  | (x, i) :: q, nd => by
    have nd' := List.nodup_cons.mp nd
    have ih := tot_nd (y := y) nd'.2
    unfold tot val at ih ⊢
    simp only [List.map_cons, List.sum_cons, getT]
    rw [ih]
    by_cases h : x = y
    · subst h
      have : getT q x = none := getT_none nd'.1
      simp [this]
    · simp [h]
theorem tot_app (a b : Tb) (y : Str) : tot (a ++ b) y = tot a y + tot b y := by
  unfold tot
  simp
theorem val_scale (k : Int) (y : Str) : ∀ t : Tb, val (scale k t) y = k * val t y
  | [] => by simp [val, scale, getT]
  | (x, i) :: t => by
    have ih := val_scale k y t
    unfold val scale at ih ⊢
    simp only [List.map_cons, getT]
    by_cases h : x = y
    · simp [h]
    · simp only [if_neg h]
      exact ih
theorem mem_nz {t : Tb} (nd : (keys t).Nodup) (x : Str) : x ∈ keys (t.filter nz) ↔ val t x ≠ 0 := by
  constructor
  · intro h
    obtain ⟨p, hp, rfl⟩ := List.mem_map.mp h
    obtain ⟨h1, h2⟩ := List.mem_filter.mp hp
    unfold val
    rw [getT_mem nd h1]
    simpa [nz] using h2
  · intro h
    unfold val at h
    cases e : getT t x with
    | none =>
      rw [e] at h
      exact (h rfl).elim
    | some i =>
      rw [e] at h
      exact List.mem_map.mpr ⟨(x, i), List.mem_filter.mpr ⟨getT_some e, by simpa [nz] using h⟩, rfl⟩
theorem perm_of_mem {l m : List Str} (hl : l.Nodup) (hm : m.Nodup) (h : ∀ x, x ∈ l ↔ x ∈ m) : l.Perm m := (List.perm_ext_iff_of_nodup hl hm).mpr h
theorem sort_eq {l m : List Str} (hl : l.Nodup) (hm : m.Nodup) (h : ∀ x, x ∈ l ↔ x ∈ m) : sortT l = sortT m :=
  pw_uniq ((sortT_perm l).trans ((perm_of_mem hl hm h).trans (sortT_perm m).symm)) (sortT_pw l) (sortT_pw m)
/-- the form hangs on what it comes to alone -/
theorem norm_ext {t q : Tb} (nt : (keys t).Nodup) (nq : (keys q).Nodup) (h : ∀ x, val t x = val q x) : normP t = normP q := by
  have e := sort_eq (nd_filter nt nz) (nd_filter nq nz) fun x => by rw [mem_nz nt, mem_nz nq, h]
  unfold normP
  rw [e]
  apply List.map_congr_left
  intro x _
  have := h x
  unfold val at this
  rw [this]
theorem asc_pw' : ∀ {l : List Str}, asc l = true → l.Pairwise (fun x y => ltS x y = true)
  | [], _ => .nil
  | [x], _ => by simp
  | x :: y :: l, h => by
    unfold asc at h
    simp only [List.tail_cons, List.zip_cons_cons, List.all_cons, Bool.and_eq_true] at h
    have ih := asc_pw' (l := y :: l) (by unfold asc; exact h.2)
    refine List.pairwise_cons.mpr ⟨fun z hz => ?_, ih⟩
    rcases List.mem_cons.mp hz with e | hz
    · rw [e]
      exact h.1
    · have h2 := (List.pairwise_cons.mp ih).1 z hz
      unfold ltS at h2 ⊢
      have a := of_decide_eq_true h.1
      have b := of_decide_eq_true h2
      exact decide_eq_true (List.lt_trans a b)
theorem asc_le {l : List Str} (h : asc l = true) : l.Pairwise LeS := (asc_pw' h).imp fun {x y} hxy => by
  unfold LeS
  intro q
  unfold ltS at hxy
  exact absurd (List.lt_trans q (of_decide_eq_true hxy)) (List.lt_irrefl _)
theorem norm_id {t : Tb} (h : Ok t) : normP t = t := by
  have hf : t.filter nz = t := List.filter_eq_self.mpr fun p hp => by
    have := h.nz hp
    simpa [nz] using this
  have ha : asc (keys t) = true := by
    have := h.ok
    unfold okT at this
    exact (Bool.and_eq_true_iff.mp this).2
  have hs : sortT (keys t) = keys t := pw_uniq (sortT_perm _) (sortT_pw _) (asc_le ha)
  unfold normP
  rw [hf, hs]
  unfold keys
  rw [List.map_map]
  have : t.map ((fun x => (x, (getT t x).getD 0)) ∘ fun p => p.1) = t.map id := List.map_congr_left fun p hp => by
    simp only [Function.comp, getT_mem h.nd hp, Option.getD_some, id]
  rw [this, List.map_id]
theorem val_norm {t : Tb} (nd : (keys t).Nodup) (x : Str) : val (normP t) x = val t x := by
  have key : ∀ (l : List Str) (f : Str → Int), val (l.map fun x => (x, f x)) x = if x ∈ l then f x else 0 := fun l f => by
    induction l with
    | nil => rfl
    | cons y r ih =>
      unfold val at ih ⊢
      simp only [List.map_cons, getT]
      by_cases h : y = x
      · subst h
        simp
      · have h' : ¬ x = y := fun e => h e.symm
        simp only [if_neg h, ih, List.mem_cons, h', false_or]
  unfold normP
  rw [key]
  split
  · rfl
  · rename_i h
    have : ¬ x ∈ keys (t.filter nz) := fun m => h ((sortT_perm _).mem_iff.mpr m)
    rw [mem_nz nd] at this
    simp only [ne_eq, Decidable.not_not] at this
    exact this.symm
theorem norm_norm {t q : Tb} (nt : (keys t).Nodup) (hq : Ok q) (h : ∀ x, val t x = val q x) : normP t = q := by
  rw [norm_ext nt hq.nd h, norm_id hq]
/-! ### sums of names among some, with small integers -/
structure In (N : List Str) (l b : Nat) (t : Tb) : Prop where
  ok : Ok t
  mem : ∀ x ∈ keys t, x ∈ N
  len : t.length ≤ l
  sm : Sm b t
theorem val_sm {b : Nat} {t : Tb} (h : Sm b t) (x : Str) : (val t x).natAbs ≤ b := by
  unfold val
  cases e : getT t x with
  | none => simp
  | some i => exact h _ (getT_some e)
theorem sm_norm {b : Nat} {t : Tb} (nd : (keys t).Nodup) (h : ∀ x, (val t x).natAbs ≤ b) : Sm b (normP t) := fun p hp => by
  obtain ⟨x, hx, rfl⟩ := List.mem_map.mp hp
  exact h x
theorem In.merge {N : List Str} {l l' b b' : Nat} {t q : Tb} (h : In N l b t) (h' : In N l' b' q) (k : Int) (hl : l + l' ≤ 1000) : In N (l + l') (b + k.natAbs * b') (normP (mergeT k t q)) := by
  have nd := nd_merge (m := k) (q := q) h.ok.nd
  have e1 := h.len
  have e2 := h'.len
  have e3 := len_merge (m := k) q t
  refine ⟨Ok.norm nd (vn_merge (fun p hp => h.ok.vn hp) fun p hp => h'.ok.vn hp) (by omega), fun x hx => ?_, ?_, sm_norm nd fun x => ?_⟩
  · rcases keys_mergeT (norm_mem hx) with z | z
    · exact h.mem x z
    · exact h'.mem x z
  · exact Nat.le_trans (norm_len _) (by omega)
  · rw [val_merge, tot_nd h'.ok.nd]
    have a := val_sm h.sm x
    have c := val_sm h'.sm x
    have m : (k * val q x).natAbs = k.natAbs * (val q x).natAbs := Int.natAbs_mul ..
    have m2 : k.natAbs * (val q x).natAbs ≤ k.natAbs * b' := Nat.mul_le_mul_left _ c
    have := Int.natAbs_add_le (val t x) (k * val q x)
    omega
theorem In.scale {N : List Str} {l b : Nat} {t : Tb} (h : In N l b t) (k : Int) : In N l (k.natAbs * b) (normP (scale k t)) := by
  have nd : (keys (Pr.scale k t)).Nodup := by rw [keys_scale]; exact h.ok.nd
  have e1 := h.len
  have e2 := h.ok.len
  have hl : (Pr.scale k t).length = t.length := by unfold Pr.scale; rw [List.length_map]
  refine ⟨Ok.norm nd (fun p hp => ?_) (by omega), fun x hx => ?_, ?_, sm_norm nd fun x => ?_⟩
  · obtain ⟨z, hz, rfl⟩ := List.mem_map.mp hp
    exact (h.ok.vn hz : Pr.vn z.1 = true)
  · have := norm_mem hx
    rw [keys_scale] at this
    exact h.mem x this
  · exact Nat.le_trans (norm_len _) (by omega)
  · rw [val_scale, Int.natAbs_mul]
    exact Nat.mul_le_mul_left _ (val_sm h.sm x)
theorem In.sh {N : List Str} {l b : Nat} {t : Tb} (h : In N l b t) (hb : b < 10 ^ 12) : Sh t := ⟨fun p hp => ⟨h.ok.vn hp, Nat.lt_of_le_of_lt (h.sm p hp) hb⟩, h.ok.len⟩
theorem In.big {N : List Str} {l b : Nat} {t : Tb} (h : In N l b t) (hb : b ≤ bd) : Sm bd t := fun p hp => Nat.le_trans (h.sm p hp) hb
/-! ### what it comes to -/
theorem comes_lin (v : Tb) : ∀ t : Tb, comes v t = (t.map fun p => p.2 * val v p.1).sum := fun _ => rfl
theorem comes_len {v : Tb} {c : Nat} (hv : ∀ x, (val v x).natAbs ≤ c) : ∀ {b : Nat} {t : Tb}, Sm b t → (comes v t).natAbs ≤ t.length * (b * c)
  | b, [], _ => by simp [comes]
  | b, p :: t, h => by
    have ih := comes_len hv (b := b) (t := t) fun q hq => h q (List.mem_cons_of_mem _ hq)
    have h1 := h p List.mem_cons_self
    have h2 := hv p.1
    unfold comes at ih ⊢
    simp only [List.map_cons, List.sum_cons, List.length_cons, Nat.succ_mul]
    have m : (p.2 * (getT v p.1).getD 0).natAbs = p.2.natAbs * ((getT v p.1).getD 0).natAbs := Int.natAbs_mul ..
    have m2 : p.2.natAbs * ((getT v p.1).getD 0).natAbs ≤ b * c := Nat.mul_le_mul h1 h2
    have := Int.natAbs_add_le (p.2 * (getT v p.1).getD 0) ((t.map fun p => p.2 * (getT v p.1).getD 0).sum)
    omega
/-- what a table comes to, by all names of a list that has its own -/
theorem comes_over (v : Tb) : ∀ {t : Tb}, (keys t).Nodup → ∀ {N : List Str}, N.Nodup → (∀ x ∈ keys t, x ∈ N) → comes v t = (N.map fun x => val t x * val v x).sum
  | [], _, N, _, _ => by
    have : (N.map fun x => val [] x * val v x) = N.map fun _ => (0 : Int) := List.map_congr_left fun x _ => by simp [val, getT]
    rw [this]
    have z : ∀ N : List Str, (0 : Int) = (N.map fun _ => (0 : Int)).sum := fun N => by
      induction N with
      | nil => rfl
      | cons a r ih =>
        simp only [List.map_cons, List.sum_cons, Int.zero_add]
        exact ih
    exact z N
  | (x, i) :: t, nd, N, nN, h => by
    have nd' := List.nodup_cons.mp nd
    have ih := comes_over v nd'.2 nN fun y hy => h y (List.mem_cons_of_mem _ hy)
    have hx : x ∈ N := h x List.mem_cons_self
    have e : comes v ((x, i) :: t) = i * val v x + comes v t := by
      unfold comes val
      simp
    rw [e, ih]
    have h0 : val t x = 0 := by
      unfold val
      rw [getT_none nd'.1]
      rfl
    have key : ∀ N : List Str, N.Nodup → x ∈ N → i * val v x + (N.map fun y => val t y * val v y).sum = (N.map fun y => val ((x, i) :: t) y * val v y).sum := fun N => by
      induction N with
      | nil => intro _ hm; cases hm
      | cons y r ih2 =>
        intro nN hm
        have n' := List.nodup_cons.mp nN
        simp only [List.map_cons, List.sum_cons]
        by_cases hy : y = x
        · subst hy
          have e2 : (r.map fun z => val ((y, i) :: t) z * val v z) = r.map fun z => val t z * val v z := List.map_congr_left fun z hz => by
            have : ¬ y = z := fun e => n'.1 (e ▸ hz)
            simp [val, getT, this]
          rw [e2, h0]
          have : val ((y, i) :: t) y = i := by simp [val, getT]
          rw [this]
          omega
        · have hm' : x ∈ r := by
            rcases List.mem_cons.mp hm with e | e
            · exact (hy e.symm).elim
            · exact e
          have := ih2 n'.2 hm'
          have e3 : val ((x, i) :: t) y = val t y := by
            have : ¬ x = y := fun e => hy e.symm
            simp [val, getT, this]
          rw [e3]
          omega
    exact key N nN hx
theorem comes_merge (v : Tb) {t q : Tb} {k : Int} {N : List Str} (nN : N.Nodup) (nt : (keys t).Nodup) (nq : (keys q).Nodup) (ht : ∀ x ∈ keys t, x ∈ N) (hq : ∀ x ∈ keys q, x ∈ N) : comes v (normP (mergeT k t q)) = comes v t + k * comes v q := by
  have nd := nd_merge (m := k) (q := q) nt
  have nn : (keys (normP (mergeT k t q))).Nodup := by
    rw [norm_keys]
    exact (sortT_perm _).nodup_iff.mpr (nd_filter nd nz)
  rw [comes_over v nn nN fun x hx => by
    rcases keys_mergeT (norm_mem hx) with z | z
    · exact ht x z
    · exact hq x z, comes_over v nt nN ht, comes_over v nq nN hq]
  clear nN ht hq
  have e : ∀ x, val (normP (mergeT k t q)) x = val t x + k * val q x := fun x => by rw [val_norm nd, val_merge, tot_nd nq]
  simp only [e]
  clear e
  induction N with
  | nil => simp
  | cons y r ih =>
    simp only [List.map_cons, List.sum_cons]
    rw [ih]
    generalize (r.map fun x => val t x * val v x).sum = a
    generalize (r.map fun x => val q x * val v x).sum = b
    rw [Int.add_mul, Int.mul_add, Int.mul_assoc]
    omega
theorem comes_scale (v : Tb) {t : Tb} {k : Int} {N : List Str} (nN : N.Nodup) (nt : (keys t).Nodup) (ht : ∀ x ∈ keys t, x ∈ N) : comes v (normP (scale k t)) = k * comes v t := by
  have nd : (keys (scale k t)).Nodup := by rw [keys_scale]; exact nt
  have nn : (keys (normP (scale k t))).Nodup := by
    rw [norm_keys]
    exact (sortT_perm _).nodup_iff.mpr (nd_filter nd nz)
  rw [comes_over v nn nN fun x hx => by
    have := norm_mem hx
    rw [keys_scale] at this
    exact ht x this, comes_over v nt nN ht]
  clear nN ht
  have e : ∀ x, val (normP (scale k t)) x = k * val t x := fun x => by rw [val_norm nd, val_scale]
  simp only [e]
  clear e
  induction N with
  | nil => simp
  | cons y r ih =>
    simp only [List.map_cons, List.sum_cons]
    rw [ih, Int.mul_add, Int.mul_assoc]
/-! ### comprehensions whose members change the store -/
inductive All2 {α β : Type} (P : α → β → Prop) : List α → List β → Prop where
  | nil : All2 P [] []
  | cons {a : α} {b : β} {as : List α} {bs : List β} (h : P a b) (r : All2 P as bs) : All2 P (a :: as) (b :: bs)
theorem All2.len {α β : Type} {P : α → β → Prop} : ∀ {as : List α} {bs : List β}, All2 P as bs → bs.length = as.length
  | _, _, .nil => rfl
  | _, _, .cons _ r => by rw [List.length_cons, List.length_cons, r.len]
theorem compL_rel {vs : List Nat} {tg : TGx} {tt : TTx} {te : TEx} {ρ : Env1} {P : D → D → Prop} (M : Nat) (I : Nat → List O → Prop) : ∀ (ds acc : List D) (S : List O) (n : Nat), n + ds.length ≤ M → I n S →
    (∀ d ∈ ds, ∀ S n, n < M → I n S → ∃ ρ1 S1 S2 y, tg d (wipeD ρ vs) S = .nx ρ1 S1 ∧ tt ρ1 S1 = .ok true S1 ∧ te ρ1 S1 = .ok y S2 ∧ P d y ∧ I (n + 1) S2) →
    ∃ rs S', compL vs tg tt te ds acc ρ S = .ok (acc ++ rs) S' ∧ All2 P ds rs ∧ I (n + ds.length) S'
  | [], acc, S, n, _, h, _ => ⟨[], S, by simp [compL], .nil, h⟩
  | d :: ds, acc, S, n, hM, h, q => by
    rw [List.length_cons] at hM
    obtain ⟨ρ1, S1, S2, y, h1, h2, h3, h4, h5⟩ := q d List.mem_cons_self S n (by omega) h
    obtain ⟨rs, S', e, f, i⟩ := compL_rel M I ds (acc ++ [y]) S2 (n + 1) (by omega) h5 fun d hd => q d (List.mem_cons_of_mem _ hd)
    have en : n + (d :: ds).length = n + 1 + ds.length := by
      rw [List.length_cons]
      omega
    refine ⟨y :: rs, S', ?_, .cons h4 f, en ▸ i⟩
    unfold compL
    rw [h1]
    simp only [nox_nx, bind_ok, h2, nox_ok, if_true, h3, e]
    simp
theorem ownB_ii {C : Str} {F Fr : TF} {base : D → D → List O → Out D} {i j : Int} {S : List O} : ownB C F Fr base (.int i) (.int j) S = base (.int i) (.int j) S := rfl
theorem ownB_ss {F Fr : TF} {base : D → D → List O → Out D} {t q : Tb} {n m : Int} {S : List O} : ownB "Sum" F Fr base (sumD t n) (sumD q m) S = F [sumD t n, sumD q m] S := rfl
theorem ownB_si {F Fr : TF} {base : D → D → List O → Out D} {t : Tb} {n i : Int} {S : List O} : ownB "Sum" F Fr base (sumD t n) (.int i) S = F [sumD t n, .int i] S := rfl
theorem ownB_is {F Fr : TF} {base : D → D → List O → Out D} {t : Tb} {n i : Int} {S : List O} : ownB "Sum" F Fr base (.int i) (sumD t n) S = Fr [sumD t n, .int i] S := rfl
theorem ownU_s {F : TF} {base : D → List O → Out D} {t : Tb} {n : Int} {S : List O} : ownU "Sum" F base (sumD t n) S = F [sumD t n] S := rfl
theorem ownNe_ss {F : TF} {base : D → D → List O → Out D} {t q : Tb} {n m : Int} {S : List O} : ownNe "Sum" F base (sumD t n) (sumD q m) S = (F [sumD t n, sumD q m] S).bind fun d S1 => match d with
  | .bl b => .ok (.bl (!b)) S1
  | _ => .stuck := rfl
end Pr
set_option Elab.async false
set_option linter.all false
set_option maxRecDepth 100000
set_option maxHeartbeats 0
namespace Pr
open PySem PySem.Spec PyProof.Rows L2 TL
/-! what the program's defs do, as trees (printed by gen2.py) -/
def Nterm_text : List Str := ["many", "name"]
abbrev Pterm_text : List Str := ["many", "name"]
def tterm_text (ex ow : List Str) : TSx :=
  (sRet (eIf (tBl (eBin inqD (eVar 0) (eArgs mkT (aCons (eC (.int 1)) (aCons (eUn negD (eC (.int 1))) aNil))))) (eVar 1) (eJs [(eUn fmtD (eArgs absD (aCons (eVar 0) aNil))), (eC (.str " ")), (eUn fmtD (eVar 1))] Str.empty)))
def Fterm_text (ex ow : List Str) : TF := bodyF 2 Nterm_text (tterm_text ex ow)
def Ntext_of : List Str := ["told_ones", "number", "terms", "is_less", "first", "found", "term", "name", "size"]
abbrev Ptext_of : List Str := ["told_ones", "number"]
def ttext_of (ex ow : List Str) : TSx :=
  (sSeq (sSet 2 (eLc true [7, 8] (iTp (eVar 0)) (gTp 2 (gsCons (gNm 7) (gsCons (gNm 8) gsNil))) tYesD (eArgs mkT (aCons (eBin ltD (eVar 8) (eC (.int 0))) (aCons (eArgs (Fterm_text ex ow) (aCons (eVar 8) (aCons (eVar 7) aNil))) aNil)))))
    (sSeq (sIf (tOrT (tBl (eBin neD (eVar 1) (eC (.int 0)))) (tBl (eBin eqHD (eVar 2) (eArgs (mkL false) aNil)))) (sExpr (eLm appD (eVar 2) (eArgs mkT (aCons (eBin ltD (eVar 1) (eC (.int 0))) (aCons (eArgs strD (aCons (eArgs absD (aCons (eVar 1) aNil)) aNil)) aNil))))) sNext)
    (sSeq (sAsg (eBin ixD (eVar 2) (eC (.int 0))) (gTp 2 (gsCons (gNm 3) (gsCons (gNm 4) gsNil))))
    (sSeq (sSet 5 (eArgs (mkL true) (aCons (eIf (tTru (eVar 3)) (eBin addD (eC (.str "-")) (eVar 4)) (eVar 4)) aNil)))
    (sSeq (sFor (iLst (eSl false (eVar 2) (oSome (eC (.int 1))) oNil)) (gTp 2 (gsCons (gNm 3) (gsCons (gNm 6) gsNil))) (sExpr (eLm extD (eVar 5) (eArgs (mkL false) (aCons (eIf (tTru (eVar 3)) (eC (.str "-")) (eC (.str "+"))) (aCons (eVar 6) aNil))))))
    (sRet (eBinS joinD (eC (.str " ")) (eVar 5))))))))
def Ftext_of (ex ow : List Str) : TF := cutF (bodyF 2 Ntext_of (ttext_of ex ow))
def NSum_names : List Str := ["self", "name", "many"]
abbrev PSum_names : List Str := ["self"]
def tSum_names (ex ow : List Str) : TSx :=
  (sRet (eArgs tupleD (aCons (eLc false [1, 2] (iTp (eUn (fldD ["Sum"] "own_parts") (eVar 0))) (gTp 2 (gsCons (gNm 1) (gsCons (gNm 2) gsNil))) tYesD (eVar 1)) aNil)))
def FSum_names (ex ow : List Str) : TF := bodyF 1 NSum_names (tSum_names ex ow)
def NSum_text : List Str := ["self"]
abbrev PSum_text : List Str := ["self"]
def tSum_text (ex ow : List Str) : TSx :=
  (sRet (eArgs (Ftext_of ex ow) (aCons (eUn (fldD ["Sum"] "own_parts") (eVar 0)) (aCons (eUn (fldD ["Sum"] "own_number") (eVar 0)) aNil))))
def FSum_text (ex ow : List Str) : TF := bodyF 1 NSum_text (tSum_text ex ow)
def NSum___getitem__ : List Str := ["self", "name"]
abbrev PSum___getitem__ : List Str := ["self", "name"]
def tSum___getitem__ (ex ow : List Str) : TSx :=
  (sSeq (sIf (tNotT (tTru (eArgs (Fis_name ex ow) (aCons (eVar 1) aNil)))) (sRaise "BadName" (eVar 1)) sNext)
    (sRet (eGet2 (eUn (fldD ["Sum"] "own_many") (eVar 0)) (eVar 1) (eC (.int 0)))))
def FSum___getitem__ (ex ow : List Str) : TF := bodyF 2 NSum___getitem__ (tSum___getitem__ ex ow)
def NSum___len__ : List Str := ["self"]
abbrev PSum___len__ : List Str := ["self"]
def tSum___len__ (ex ow : List Str) : TSx :=
  (sRet (eArgs lenD (aCons (eUn (fldD ["Sum"] "own_parts") (eVar 0)) aNil)))
def FSum___len__ (ex ow : List Str) : TF := bodyF 1 NSum___len__ (tSum___len__ ex ow)
def NSum___contains__ : List Str := ["self", "value"]
abbrev PSum___contains__ : List Str := ["self", "value"]
def tSum___contains__ (ex ow : List Str) : TSx :=
  (sRet (eAnd (eArgs (isiA ex ow) (aCons (eVar 1) (aCons (eC (.ty "str")) aNil))) (eBin dinD (eVar 1) (eUn (fldD ["Sum"] "own_many") (eVar 0)))))
def FSum___contains__ (ex ow : List Str) : TF := bodyF 2 NSum___contains__ (tSum___contains__ ex ow)
end Pr
set_option Elab.async false
set_option linter.all false
set_option maxRecDepth 100000
set_option maxHeartbeats 4000000
/-! Sums: texts, names, one name's number. -/
namespace Pr
open PySem PySem.Spec PyProof.Rows L2 TL TLX
theorem strOk_of (s : String) : PyData.strOk (Str.ofString s) = true := by
  unfold PyData.strOk
  rw [Str.ofString_eq_toList, Array.all_eq_true_iff_forall_mem]
  intro c hc
  have this := Array.mem_toList_iff.mpr hc
  simp only [List.mem_map] at this
  obtain ⟨ch, _, rfl⟩ := this
  have := ch.valid
  unfold UInt32.isValidChar Nat.isValidChar at this
  simp only [decide_eq_true_eq]
  show ch.val.toNat < _
  omega
theorem strOk_app {a b : Str} (ha : PyData.strOk a = true) (hb : PyData.strOk b = true) : PyData.strOk (a ++ b) = true := by
  unfold PyData.strOk at *
  rw [Str.cps_append, Array.all_append, ha, hb]
  rfl
/-- a number's size as a text -/
def nS (m : Int) : Str := Str.ofString (toString (if m < 0 then -m else m))
theorem nS_len {m : Int} (h : m.natAbs < 10 ^ 12) : (nS m).length ≤ 12 := by
  unfold nS
  refine toString_length_le ?_ (by decide) ?_ <;> split <;> omega
/-- a term without its sign -/
def termS (m : Int) (x : Str) : Str := if m = 1 ∨ m = -1 then x else nS m ++ (" " : Str) ++ x
theorem termS_len {m : Int} {x : Str} (h : m.natAbs < 10 ^ 12) (hx : x.length ≤ 8) : (termS m x).length ≤ 21 := by
  have := nS_len h
  unfold termS
  split
  · omega
  · rw [Str.length_append, Str.length_append]
    have e : (" " : Str).length = 1 := rfl
    omega
theorem termS_ok {m : Int} {x : Str} (hx : vn x = true) : PyData.strOk (termS m x) = true := by
  unfold termS nS
  split
  · exact vn_ok hx
  · exact strOk_app (strOk_app (strOk_of _) (strOk_of _)) (vn_ok hx)
/-- the terms -/
def termsT (t : Tb) (n : Int) : List (Bool × Str) := (t.map fun p => (decide (p.2 < 0), termS p.2 p.1)) ++ (if n ≠ 0 ∨ t = [] then [(decide (n < 0), nS n)] else [])
def btD (q : Bool × Str) : D := .tup [.bl q.1, .str q.2]
def textS : List (Bool × Str) → Str
  | [] => ""
  | q :: r => r.foldl (fun acc p => acc ++ (if p.1 then (" - " : Str) else (" + " : Str)) ++ p.2) ((if q.1 then ("-" : Str) else ("" : Str)) ++ q.2)
/-- the words that are joined -/
def wordsT : List (Bool × Str) → List Str
  | [] => []
  | q :: r => (if q.1 then (if q.1 then ("-" : Str) else ("" : Str)) ++ q.2 else q.2) :: r.flatMap fun p => [if p.1 then ("-" : Str) else ("+" : Str), p.2]
theorem join_two (a b : Str) (r : List Str) : Str.join " " (a :: b :: r) = Str.join " " ((a ++ (" " : Str) ++ b) :: r) := (StrLaws.join_shift " " a b r).symm
theorem join_fold : ∀ (r : List (Bool × Str)) (a : Str), Str.join " " (a :: r.flatMap fun p => [if p.1 then ("-" : Str) else ("+" : Str), p.2]) = r.foldl (fun acc p => acc ++ (if p.1 then (" - " : Str) else (" + " : Str)) ++ p.2) a
  | [], _ => rfl
  | p :: r, a => by
    rw [List.flatMap_cons, List.cons_append, List.cons_append, List.nil_append, join_two, join_two, join_fold r, List.foldl_cons]
    congr 1
    cases p.1
    · show a ++ (" " : Str) ++ ("+" : Str) ++ (" " : Str) ++ p.2 = a ++ (" + " : Str) ++ p.2
      rw [Str.append_assoc (a ++ (" " : Str)), Str.append_assoc a]
      rfl
    · show a ++ (" " : Str) ++ ("-" : Str) ++ (" " : Str) ++ p.2 = a ++ (" - " : Str) ++ p.2
      rw [Str.append_assoc (a ++ (" " : Str)), Str.append_assoc a]
      rfl
theorem join_words : ∀ {l : List (Bool × Str)}, l ≠ [] → Str.join " " (wordsT l) = textS l
  | [], h => absurd rfl h
  | q :: r, _ => by
    unfold wordsT textS
    rw [join_fold]
    congr 1
    cases q.1
    · exact (Str.empty_append q.2).symm
    · rfl
theorem termsT_ne (t : Tb) (n : Int) : termsT t n ≠ [] := by
  unfold termsT
  cases t with
  | nil => simp
  | cons p r => simp
theorem sum_le {B : Nat} : ∀ {l : List Str}, (∀ y ∈ l, y.length ≤ B) → (l.map (·.length)).sum ≤ l.length * B
  | [], _ => Nat.zero_le _
  | y :: l, h => by
    have h1 := h y List.mem_cons_self
    have h2 := sum_le fun z hz => h z (List.mem_cons_of_mem _ hz)
    rw [List.map_cons, List.sum_cons, List.length_cons, Nat.succ_mul]
    omega
section
variable {ex ow : List Str} {S : List O}
@[simp] theorem inq_tup (neg : Bool) (x : D) (ds : List D) : inqG neg x (.tup ds) S = if flD x = true ∧ ds.all flD = true then .ok (.bl (if neg then !(ds.any fun a => eqF a x) else ds.any fun a => eqF a x)) S else .stuck := rfl
theorem fmt_str {y : Str} (h : y.length ≤ 4096) : fmtD (.str y) S = .ok (.str y) S := if_pos (small_line h)
theorem log_40 {i : Int} (h : i.natAbs < 10 ^ 12) : i.natAbs.log2 < 1920 := Nat.lt_trans (log2_lt (n := 40) (by omega) (by decide)) (by decide)
theorem fmt_abs {m : Int} (h : m.natAbs < 10 ^ 12) : fmtD (.int (if m < 0 then -m else m)) S = .ok (.str (nS m)) S := by
  show (if _ then _ else _) = _
  rw [if_pos]
  · rfl
  · apply log_40
    split <;> omega
theorem str_abs {m : Int} (h : m.natAbs < 10 ^ 12) : strD [.int (if m < 0 then -m else m)] S = .ok (.str (nS m)) S := by
  show (if _ then _ else _) = _
  rw [if_pos]
  · rfl
  · apply log_40
    split <;> omega
theorem js_nil (acc : Str) (ρ : Env1) : eJs [] acc ρ S = .ok (.str acc) S := rfl
theorem js_cons {t : TEx} {ts : List TEx} {acc y : Str} {ρ : Env1} (e : t ρ S = .ok (.str y) S) (hl : (acc ++ y).length ≤ 4096) : eJs (t :: ts) acc ρ S = eJs ts (acc ++ y) ρ S := by
  show (t ρ S).bind _ = _
  rw [e, bind_ok]
  exact if_pos (small_line hl)
theorem term_text_ok {m : Int} {x : Str} (hm : m.natAbs < 10 ^ 12) (hx : x.length ≤ 8) : Fterm_text ex ow [.int m, .str x] S = .ok (.str (termS m x)) S := by
  have hf := fmt_abs (S := S) hm
  have hg := fmt_str (S := S) (y := x) (by omega)
  have hn := nS_len hm
  have e1 : (" " : Str).length = 1 := rfl
  have l2 : ([D.int 1, .int (-1)] : List D).length ≤ sizeLine := small_line (by decide)
  have j : eJs [(eUn fmtD (eArgs absD (aCons (eVar 0) aNil))), (eC (.str " ")), (eUn fmtD (eVar 1))] Str.empty [some (.int m), some (.str x)] S = .ok (.str (nS m ++ (" " : Str) ++ x)) S := by
    rw [js_cons (y := nS m) (by simp [hf]) (by rw [Str.empty_append]; omega), js_cons (y := " ") rfl (by rw [Str.length_append, Str.empty_append]; omega), js_cons (y := x) (by simp [hg]) (by rw [Str.length_append, Str.length_append, Str.empty_append]; omega), js_nil, Str.empty_append]
  unfold Fterm_text tterm_text termS
  by_cases h1 : m = 1
  · subst h1
    simp [Nterm_text, mkT_ok' _ _ l2, flD, eqF]
  · by_cases h2 : m = -1
    · subst h2
      simp [Nterm_text, mkT_ok' _ _ l2, flD, eqF]
    · have b1 : ((1 : Int) == m) = false := by simpa using fun e => h1 e.symm
      have b2 : ((-1 : Int) == m) = false := by simpa using fun e => h2 e.symm
      simp [Nterm_text, mkT_ok' _ _ l2, flD, eqF, b1, b2, j, h1, h2]
/-! ### text_of -/
theorem eqH_nil {i : Nat} {ds : List D} {k w : Nat} {xs : List PyData} (hs : S[i]? = some (.lst ds)) (h : Gds k w ds xs) (hk : k ≤ 31) : eqHD (.hnd i) (.lst []) S = .ok (.bl ds.isEmpty) S := by
  unfold eqHD
  simp only [hs]
  have g := gd_lst h
  rw [eqD_lst, g.eq]
  have s2 : SeqAt.shaped (.list []) = true := (gd_lst (gds_nil (k := 0) (w := 0))).shaped (by decide)
  simp only [pd, pds, Option.map_some]
  rw [if_pos ⟨g.shaped (by omega), s2⟩]
  have e := h.eq
  cases ds with
  | nil =>
    simp only [pds] at e
    cases e
    rfl
  | cons d ds =>
    simp only [pds] at e
    cases q : pd d with
    | none => rw [q] at e; cases e
    | some x =>
      rw [q] at e
      cases q2 : pds ds with
      | none => rw [q2] at e; cases e
      | some ys =>
        rw [q2] at e
        cases e
        rfl
theorem gd_bt {q : Bool × Str} (h : PyData.strOk q.2 = true) (hl : q.2.length ≤ 21) : Gd 1 30 (btD q) (.tuple [.bool q.1, .str q.2]) :=
  (gd_tup (gds_cons gd_bl (gds_cons (gd_str h (show q.2.cps.size ≤ 21 from hl)) (gds_nil (w := 0))))).up (by decide) (by decide)
theorem ext_words {i : Nat} {l m : List Str} (h : l.length + m.length ≤ 4096) : extD i (l.map D.str) (.lst (m.map D.str)) S = .ok .non (S.set i (.lst ((l ++ m).map D.str))) := by
  show (if _ then _ else _) = _
  rw [if_pos (by rw [List.length_map, List.length_map]; exact small_line h), List.map_append]
abbrev textB : TSx := (sExpr (eLm extD (eVar 5) (eArgs (mkL false) (aCons (eIf (tTru (eVar 3)) (eC (.str "-")) (eC (.str "+"))) (aCons (eVar 6) aNil)))))
theorem text_loop {T : O} {n0 : Nat} {a b h : D} (hn : S.length + 1 = n0) : ∀ (r : List (Bool × Str)) (l : List Str) (x y z w u v : Option D), l.length + 2 * r.length ≤ 4000 →
    ∃ x' y' z' w' u', forL (gTp 2 (gsCons (gNm 3) (gsCons (gNm 6) gsNil))) textB (r.map btD) [some a, some b, some h, x, y, some (.hnd n0), z, w, u] (S ++ [T, .lst (l.map D.str)]) =
      .nx [some a, some b, some h, x', y', some (.hnd n0), z', w', u'] (S ++ [T, .lst ((l ++ r.flatMap fun p => [if p.1 then ("-" : Str) else ("+" : Str), p.2]).map D.str)])
  | [], l, x, y, z, w, u, v, _ => ⟨x, y, z, w, u, by simp [forL]⟩
  | p :: r, l, x, y, z, w, u, v, hl => by
    subst hn
    have g : (S ++ [T, .lst (l.map D.str)])[S.length + 1]? = some (.lst (l.map D.str)) := by
      rw [List.getElem?_append_right (by omega)]
      simp
    have s1 : ∀ o, (S ++ [T, .lst (l.map D.str)]).set (S.length + 1) o = S ++ [T, o] := fun o => by
      rw [List.set_append_right _ _ (by omega)]
      simp
    rw [List.length_cons] at hl
    have m2 : ∀ sg : Str, mkL false [.str sg, .str p.2] (S ++ [T, .lst (l.map D.str)]) = .ok (.lst ([sg, p.2].map D.str)) (S ++ [T, .lst (l.map D.str)]) := fun sg => mkL_false _ _ (small_line (by simp))
    have e1 : ∀ sg : Str, extD (S.length + 1) (l.map D.str) (.lst ([sg, p.2].map D.str)) (S ++ [T, .lst (l.map D.str)]) = .ok .non (S ++ [T, .lst ((l ++ [sg, p.2]).map D.str)]) := fun sg => by
      rw [ext_words (by simp; omega), s1]
    obtain ⟨x', y', z', w', u', e⟩ := text_loop (T := T) (a := a) (b := b) (h := h) (n0 := S.length + 1) rfl r (l ++ [if p.1 then ("-" : Str) else ("+" : Str), p.2]) (some (.bl p.1)) y (some (.str p.2)) w u v (by rw [List.length_append]; simp; omega)
    refine ⟨x', y', z', w', u', ?_⟩
    rw [List.map_cons]
    unfold forL
    rw [List.flatMap_cons, ← List.append_assoc]
    cases hp : p.1 with
    | true =>
      have m2' := m2 "-"
      have e1' := e1 "-"
      rw [hp] at e
      simp only [List.map_cons, List.map_nil] at m2' e1'
      simp [btD, hp, eLm, g, m2', e1']
      simpa using e
    | false =>
      have m2' := m2 "+"
      have e1' := e1 "+"
      rw [hp] at e
      simp only [List.map_cons, List.map_nil] at m2' e1'
      simp [btD, hp, eLm, g, m2', e1']
      simpa using e
theorem text_if {pt : D} {n : Int} {ts l1 : List D}
    (mn : mkL false [] (S ++ [.lst ts]) = .ok (.lst []) (S ++ [.lst ts]))
    (q1 : n = 0 → eqHD (.hnd S.length) (.lst []) (S ++ [.lst ts]) = .ok (.bl ts.isEmpty) (S ++ [.lst ts]))
    (sa : strD [.int (if n < 0 then -n else n)] (S ++ [.lst ts]) = .ok (.str (nS n)) (S ++ [.lst ts]))
    (mt : mkT [.bl (decide (n < 0)), .str (nS n)] (S ++ [.lst ts]) = .ok (.tup [.bl (decide (n < 0)), .str (nS n)]) (S ++ [.lst ts]))
    (ap : appD S.length ts (.tup [.bl (decide (n < 0)), .str (nS n)]) (S ++ [.lst ts]) = .ok .non (S ++ [.lst (ts ++ [.tup [.bl (decide (n < 0)), .str (nS n)]])]))
    (el : l1 = ts ++ if n ≠ 0 ∨ ts = [] then [.tup [.bl (decide (n < 0)), .str (nS n)]] else []) :
    sIf (tOrT (tBl (eBin neD (eVar 1) (eC (.int 0)))) (tBl (eBin eqHD (eVar 2) (eArgs (mkL false) aNil)))) (sExpr (eLm appD (eVar 2) (eArgs mkT (aCons (eBin ltD (eVar 1) (eC (.int 0))) (aCons (eArgs strD (aCons (eArgs absD (aCons (eVar 1) aNil)) aNil)) aNil))))) sNext
      [some pt, some (.int n), some (.hnd S.length), none, none, none, none, none, none] (S ++ [.lst ts]) = .nx [some pt, some (.int n), some (.hnd S.length), none, none, none, none, none, none] (S ++ [.lst l1]) := by
  subst el
  have g1 : (S ++ [O.lst ts])[S.length]? = some (.lst ts) := by simp
  by_cases hn : n = 0
  · have q1 := q1 hn
    by_cases ht : ts.isEmpty = true
    · have ht' : ts = [] := by simpa using ht
      rw [ht] at q1
      rw [if_pos (.inr ht')]
      simp [hn, mn, q1, eLm, g1]
      rw [hn] at sa mt ap
      simp at sa mt ap
      simp [sa, mt, g1, ap]
    · have ht' : ¬ ts = [] := by simpa using ht
      rw [Bool.eq_false_iff.mpr ht] at q1
      rw [if_neg (by simp [hn, ht'])]
      simp [hn, mn, q1]
  · rw [if_pos (.inl hn)]
    simp [hn, eLm, g1, sa, mt, ap]
theorem text_body {pt : D} {n : Int} {ps ts : List D} {l1 : List D} {b : Bool} {f w : Str} {x' y' z' w' u' : Option D} {ws : List D} {X : Str}
    (hi : itTp pt S = .ok ps S) (hl : ps.length ≤ sizeLine)
    (c1 : compL [7, 8] (gTp 2 (gsCons (gNm 7) (gsCons (gNm 8) gsNil))) tYesD (eArgs mkT (aCons (eBin ltD (eVar 8) (eC (.int 0))) (aCons (eArgs (Fterm_text ex ow) (aCons (eVar 8) (aCons (eVar 7) aNil))) aNil))) ps [] [some pt, some (.int n), none, none, none, none, none, none, none] S = .ok ts S)
    (m1 : mkL true ts S = .ok (.hnd S.length) (S ++ [.lst ts]))
    (hif : sIf (tOrT (tBl (eBin neD (eVar 1) (eC (.int 0)))) (tBl (eBin eqHD (eVar 2) (eArgs (mkL false) aNil)))) (sExpr (eLm appD (eVar 2) (eArgs mkT (aCons (eBin ltD (eVar 1) (eC (.int 0))) (aCons (eArgs strD (aCons (eArgs absD (aCons (eVar 1) aNil)) aNil)) aNil))))) sNext
      [some pt, some (.int n), some (.hnd S.length), none, none, none, none, none, none] (S ++ [.lst ts]) = .nx [some pt, some (.int n), some (.hnd S.length), none, none, none, none, none, none] (S ++ [.lst l1]))
    (i0 : ixD (.hnd S.length) (.int 0) (S ++ [.lst l1]) = .ok (.tup [.bl b, .str f]) (S ++ [.lst l1]))
    (ad : (if b = true then addD (.str "-") (.str f) (S ++ [.lst l1]) else .ok (.str f) (S ++ [.lst l1])) = .ok (.str w) (S ++ [.lst l1]))
    (mf : mkL true [.str w] (S ++ [.lst l1]) = .ok (.hnd (S.length + 1)) (S ++ [.lst l1, .lst [.str w]]))
    (sl : slD false (.hnd S.length) (some 1) none (S ++ [.lst l1, .lst [.str w]]) = .ok (.lst l1.tail) (S ++ [.lst l1, .lst [.str w]]))
    (fo : forL (gTp 2 (gsCons (gNm 3) (gsCons (gNm 6) gsNil))) textB l1.tail [some pt, some (.int n), some (.hnd S.length), some (.bl b), some (.str f), some (.hnd (S.length + 1)), none, none, none] (S ++ [.lst l1, .lst [.str w]]) =
      .nx [some pt, some (.int n), some (.hnd S.length), x', y', some (.hnd (S.length + 1)), z', w', u'] (S ++ [.lst l1, .lst ws]))
    (jn : joinD (.str " ") (.hnd (S.length + 1)) (S ++ [.lst l1, .lst ws]) = .ok (.str X) (S ++ [.lst l1, .lst ws])) :
    bodyF 2 Ntext_of (ttext_of ex ow) [pt, .int n] S = .ok (.str X) (S ++ [.lst l1, .lst ws]) := by
  unfold ttext_of
  generalize hI : sIf (tOrT (tBl (eBin neD (eVar 1) (eC (.int 0)))) (tBl (eBin eqHD (eVar 2) (eArgs (mkL false) aNil)))) (sExpr (eLm appD (eVar 2) (eArgs mkT (aCons (eBin ltD (eVar 1) (eC (.int 0))) (aCons (eArgs strD (aCons (eArgs absD (aCons (eVar 1) aNil)) aNil)) aNil))))) sNext = I at hif ⊢
  simp [Ntext_of, hi, hl, c1, m1, hif, i0, ad, mf, sl, fo, jn, strGd]
theorem cutD_tail (ds : List D) : TL.cutD ds (some 1) none = ds.tail := by
  unfold TL.cutD HT.sIx
  cases ds with
  | nil => rfl
  | cons a r => simp [show min 1 (r.length + 1) = 1 by omega]
theorem terms_all {t : Tb} {n : Int} (h : Sh t) (hn : n.natAbs < 10 ^ 12) : ∀ q ∈ termsT t n, q.2.length ≤ 21 ∧ PyData.strOk q.2 = true := fun q hq => by
  unfold termsT at hq
  rcases List.mem_append.mp hq with hq | hq
  · obtain ⟨p, hp, rfl⟩ := List.mem_map.mp hq
    have h1 := h.1 p hp
    exact ⟨termS_len h1.2 (vn_len h1.1), termS_ok h1.1⟩
  · split at hq
    · rw [List.mem_singleton.mp hq]
      exact ⟨Nat.le_trans (nS_len hn) (by decide), strOk_of _⟩
    · cases hq
theorem words_len : ∀ (l : List (Bool × Str)), (wordsT l).length ≤ 2 * l.length
  | [] => Nat.le_refl _
  | q :: r => by
    unfold wordsT
    rw [List.length_cons, List.length_cons]
    have : ∀ r : List (Bool × Str), (r.flatMap fun p => [if p.1 then ("-" : Str) else ("+" : Str), p.2]).length = 2 * r.length := fun r => by
      induction r with
      | nil => rfl
      | cons p r ih => simp [List.flatMap_cons, ih]; omega
    rw [this]
    omega
theorem words_all : ∀ {l : List (Bool × Str)}, (∀ q ∈ l, q.2.length ≤ 21) → ∀ y ∈ wordsT l, y.length ≤ 22
  | [], _, y, hy => by cases hy
  | q :: r, h, y, hy => by
    unfold wordsT at hy
    have e1 : ("-" : Str).length = 1 := rfl
    have e2 : ("+" : Str).length = 1 := rfl
    rcases List.mem_cons.mp hy with rfl | hy
    · have := h q List.mem_cons_self
      cases q.1
      · simpa using Nat.le_succ_of_le this
      · simp only [if_true, Str.length_append, e1]
        omega
    · obtain ⟨p, hp, hy⟩ := List.mem_flatMap.mp hy
      have := h p (List.mem_cons_of_mem _ hp)
      rcases List.mem_cons.mp hy with rfl | hy
      · split
        · rw [e1]; decide
        · rw [e2]; decide
      · rw [List.mem_singleton.mp hy]
        omega
theorem add_strs {a b : Str} (h : a.length + b.length ≤ 4096) : addD (.str a) (.str b) S = .ok (.str (a ++ b)) S := if_pos (small_line h)
theorem text_of_ok {t : Tb} {n : Int} (h : Sh t) (hn : n.natAbs < 10 ^ 12) (fl : Flat S) : Ftext_of ex ow [partsD t, .int n] S = .ok (.str (textS (termsT t n))) S := by
  have hall := terms_all h hn
  have hl := h.2
  have tl : (termsT t n).length ≤ 1001 := by
    unfold termsT
    rw [List.length_append, List.length_map]
    split <;> simp <;> omega
  have c1 : compL [7, 8] (gTp 2 (gsCons (gNm 7) (gsCons (gNm 8) gsNil))) tYesD (eArgs mkT (aCons (eBin ltD (eVar 8) (eC (.int 0))) (aCons (eArgs (Fterm_text ex ow) (aCons (eVar 8) (aCons (eVar 7) aNil))) aNil))) (t.map partD) [] [some (partsD t), some (.int n), none, none, none, none, none, none, none] S = .ok (t.map fun p => btD (decide (p.2 < 0), termS p.2 p.1)) S :=
    compL_map partD (fun p => btD (decide (p.2 < 0), termS p.2 p.1)) t [] fun p hp => ⟨[some (partsD t), some (.int n), none, none, none, none, none, some (.str p.1), some (.int p.2)], by simp [wipeD, partD], by simp, by
      have h1 := h.1 p hp
      have h2 := term_text_ok (ex := ex) (ow := ow) (S := S) h1.2 (vn_len h1.1)
      have l2 : ([D.bl (decide (p.2 < 0)), .str (termS p.2 p.1)] : List D).length ≤ sizeLine := small_line (by simp)
      simp [h2, mkT_ok' _ _ l2, btD]⟩
  obtain ⟨ts, hts⟩ : ∃ ts, ts = t.map fun p => btD (decide (p.2 < 0), termS p.2 p.1) := ⟨_, rfl⟩
  rw [← hts] at c1
  have ltl : ts.length ≤ 1000 := by rw [hts, List.length_map]; exact hl
  have gts : ∃ xs, Gds 1 (1000 * 31) ts xs := by
    rw [hts]
    have := gds_map (k := 1) (w := 30) (fun p : Str × Int => btD (decide (p.2 < 0), termS p.2 p.1)) (fun p => PyData.tuple [.bool (decide (p.2 < 0)), .str (termS p.2 p.1)]) t fun p hp => by
      have h1 := h.1 p hp
      exact gd_bt (q := (decide (p.2 < 0), termS p.2 p.1)) (termS_ok h1.1) (termS_len h1.2 (vn_len h1.1))
    exact ⟨_, this.eq, this.lay, this.small, this.can, this.dep, Nat.le_trans this.wei (Nat.mul_le_mul_right _ hl)⟩
  obtain ⟨xs, gts⟩ := gts
  have el : (termsT t n).map btD = ts ++ if n ≠ 0 ∨ ts = [] then [.tup [.bl (decide (n < 0)), .str (nS n)]] else [] := by
    unfold termsT
    rw [List.map_append, List.map_map, hts]
    congr 1
    have e : ((t.map fun p => btD (decide (p.2 < 0), termS p.2 p.1)) = []) ↔ t = [] := by simp
    by_cases hc : n ≠ 0 ∨ t = []
    · rw [if_pos hc, if_pos (by rwa [e])]
      rfl
    · rw [if_neg hc, if_neg (by rwa [e])]
      rfl
  have hne := termsT_ne t n
  generalize termsT t n = L at *
  obtain ⟨q, r, rfl⟩ : ∃ q r, L = q :: r := by
    cases L with
    | nil => exact absurd rfl hne
    | cons q r => exact ⟨q, r, rfl⟩
  have hq := hall q List.mem_cons_self
  have em : ("-" : Str).length = 1 := rfl
  have i0 : ixD (.hnd S.length) (.int 0) (S ++ [.lst ((q :: r).map btD)]) = .ok (.tup [.bl q.1, .str q.2]) (S ++ [.lst ((q :: r).map btD)]) := ix_hnd (ds := (q :: r).map btD) (by simp) (at0 _ _)
  have mf : ∀ d : D, mkL true [d] (S ++ [.lst ((q :: r).map btD)]) = .ok (.hnd (S.length + 1)) (S ++ [.lst ((q :: r).map btD), .lst [d]]) := fun d => by
    rw [mkL_true _ _ (small_line (by simp))]
    simp
  have sl : ∀ o : O, slD false (.hnd S.length) (some 1) none (S ++ [.lst ((q :: r).map btD), o]) = .ok (.lst ((q :: r).map btD).tail) (S ++ [.lst ((q :: r).map btD), o]) := fun o => by
    have g : (S ++ [O.lst ((q :: r).map btD), o])[S.length]? = some (.lst ((q :: r).map btD)) := by simp
    unfold slD
    simp only [lstOf, g]
    rw [cutD_tail, mkL_false]
    rw [List.length_tail, List.length_map]
    exact small_line (by omega)
  obtain ⟨x', y', z', w', u', fo⟩ := text_loop (S := S) (T := .lst ((q :: r).map btD)) (a := partsD t) (b := .int n) (h := .hnd S.length) (n0 := S.length + 1) rfl r [if q.1 then (if q.1 then ("-" : Str) else ("" : Str)) ++ q.2 else q.2] (some (.bl q.1)) (some (.str q.2)) none none none none (by simp; rw [List.length_cons] at tl; omega)
  have wl := words_len (q :: r)
  have wa := words_all fun p hp => (hall p hp).1
  have jn : joinD (.str " ") (.hnd (S.length + 1)) (S ++ [.lst ((q :: r).map btD), .lst ((wordsT (q :: r)).map D.str)]) = .ok (.str (textS (q :: r))) (S ++ [.lst ((q :: r).map btD), .lst ((wordsT (q :: r)).map D.str)]) := by
    have g : (S ++ [O.lst ((q :: r).map btD), .lst ((wordsT (q :: r)).map D.str)])[S.length + 1]? = some (.lst ((wordsT (q :: r)).map D.str)) := by
      rw [List.getElem?_append_right (by omega)]
      simp
    unfold joinD seqOf
    simp only [lstOf, g, Option.some_or, Option.bind_some, strsOf_map]
    have e1 : (" " : Str).length = 1 := rfl
    have hs := sum_le wa
    rw [if_pos (by rw [e1]; omega), join_eq, join_words (by simp)]
  have ap : appD S.length ts (.tup [.bl (decide (n < 0)), .str (nS n)]) (S ++ [.lst ts]) = .ok .non (S ++ [.lst (ts ++ [.tup [.bl (decide (n < 0)), .str (nS n)]])]) := by
    unfold appD
    rw [if_pos (by have := small_line (n := ts.length + 1) (by omega); omega)]
    simp
  obtain ⟨w, hw⟩ : ∃ w : Str, w = if q.1 then (if q.1 then ("-" : Str) else ("" : Str)) ++ q.2 else q.2 := ⟨_, rfl⟩
  have ad : (if q.1 = true then addD (.str "-") (.str q.2) (S ++ [.lst ((q :: r).map btD)]) else .ok (.str q.2) (S ++ [.lst ((q :: r).map btD)])) = .ok (.str w) (S ++ [.lst ((q :: r).map btD)]) := by
    rw [hw]
    cases hb : q.1 with
    | true =>
      simp only [if_true]
      exact add_strs (by rw [em]; omega)
    | false => simp only [Bool.false_eq_true, if_false]
  rw [← hw] at fo
  have body := text_body (ex := ex) (ow := ow) (S := S) (pt := partsD t) (n := n) (ps := t.map partD) (ts := ts) (l1 := (q :: r).map btD) (b := q.1) (f := q.2) (w := w) (ws := (wordsT (q :: r)).map D.str) (X := textS (q :: r)) rfl (by rw [List.length_map]; exact small_line (by omega)) c1 (mkL_true S ts (small_line (by omega)))
    (text_if (mkL_false _ _ (small_line (by decide))) (fun _ => eqH_nil (by simp) gts (by decide)) (str_abs hn) (mkT_ok' _ _ (small_line (by simp))) ap el) i0 ad (mf _) (sl _) (by
      rw [show wordsT (q :: r) = [w] ++ r.flatMap fun p => [if p.1 then ("-" : Str) else ("+" : Str), p.2] by rw [hw]; rfl]
      exact fo) jn
  unfold Ftext_of cutF
  rw [body]
  exact cut_ok fl rfl
end
end Pr
set_option Elab.async false
set_option linter.all false
set_option maxRecDepth 100000
set_option maxHeartbeats 4000000
/-! Sums: names, one name's number, in, ==. -/
namespace Pr
open PySem PySem.Spec PyProof.Rows L2 TL TLX
section
variable {ex ow : List Str} {S : List O}
/-! ### the properties, the special methods -/
theorem sum_text {t : Tb} {n : Int} (h : Sh t) (hn : n.natAbs < 10 ^ 12) (fl : Flat S) : FSum_text ex ow [sumD t n] S = .ok (.str (textS (termsT t n))) S := by
  have h1 := text_of_ok (ex := ex) (ow := ow) h hn fl
  unfold FSum_text tSum_text
  simp [NSum_text, fld_parts, fld_number, h1]
theorem prop_sum {F : TF} {t : Tb} {n : Int} {d : D} (h : F [sumD t n] S = .ok d S) : propD "Sum" F (sumD t n) S = .ok d S := by
  show propD "Sum" F (.ins "Sum" (sumF t n)) S = _
  rw [prop_ins]
  unfold sumD at h
  rw [h]
  rfl
theorem sum_names {t : Tb} {n : Int} (h : t.length ≤ 1000) : FSum_names ex ow [sumD t n] S = .ok (.tup (t.map fun p => D.str p.1)) S := by
  have c1 : compL [1, 2] (gTp 2 (gsCons (gNm 1) (gsCons (gNm 2) gsNil))) tYesD (eVar 1) (t.map partD) [] [some (sumD t n), none, none] S = .ok (t.map fun p => D.str p.1) S :=
    compL_map partD (fun p => D.str p.1) t [] fun p hp => ⟨[some (sumD t n), some (.str p.1), some (.int p.2)], by simp [wipeD, partD], by simp, by simp⟩
  have l1 : (t.map fun p => D.str p.1).length ≤ sizeLine := by
    rw [List.length_map]
    exact small_line (by omega)
  have l2 : t.length ≤ sizeLine := small_line (by omega)
  have ht : tupleD [.lst (t.map fun p => D.str p.1)] S = .ok (.tup (t.map fun p => D.str p.1)) S := by
    show mkT _ S = _
    rw [mkT_ok' _ _ l1]
  unfold FSum_names tSum_names
  simp [NSum_names, fld_parts, c1, l2, mkL_false _ _ l1, ht]
theorem sum_len {t : Tb} {n : Int} : FSum___len__ ex ow [sumD t n] S = .ok (.int t.length) S := by
  have h : lenD [partsD t] S = .ok (.int t.length) S := by
    show Out.ok (D.int (List.length _)) S = _
    rw [List.length_map]
  unfold FSum___len__ tSum___len__
  simp [NSum___len__, fld_parts, h]
theorem lenI_ok {i : Int} (h0 : 0 ≤ i) (h1 : i < 2 ^ 63) : lenI (.int i) S = .ok (.int i) S := if_pos ⟨h0, h1⟩
theorem lenO_ok {F : TF} {d : D} {i : Int} (h0 : 0 ≤ i) (h1 : i < 2 ^ 63) (ho : isOwn "Sum" S d = true) (hF : F [d] S = .ok (.int i) S) : lenO "Sum" F [d] S = .ok (.int i) S := by
  unfold lenO
  simp only [ho, if_true, hF, nox_ok, bind_ok, lenI_ok h0 h1]
theorem len_sum {t : Tb} {n : Int} (h : t.length ≤ 1000) : lenO "Sum" (FSum___len__ ex ow) [sumD t n] S = .ok (.int t.length) S := lenO_ok (by omega) (by omega) (isO_sum t n) sum_len
/-- what is no text -/
def noStr (S : List O) (d : D) : Prop := ∃ a, tyD S d = some a ∧ a ∈ tyL ∧ a ≠ "str"
theorem isi_noStr {d : D} (h : noStr S d) : isiA ex ow [d, .ty "str"] S = .ok (.bl false) S := by
  obtain ⟨a, h1, h2, h3⟩ := h
  have e : isTy a "str" = some false := by
    unfold isTy
    rw [if_pos ⟨h2, by decide⟩]
    simp [h3]
  show (match tyD S d with | some a => (match isTy a "str" with | some b => Out.ok (D.bl b) S | none => .stuck) | none => _) = _
  rw [h1]
  simp only [e]
theorem is_name_no {d : D} (h : noStr S d) : Fis_name ex ow [d] S = .ok (.bl false) S := by
  have h1 := isi_noStr (ex := ex) (ow := ow) h
  unfold Fis_name tis_name
  simp [Nis_name, h1]
theorem sub_sum_str {t : Tb} {n : Int} {x : Str} (h : vn x = true) : subO "Sum" (FSum___getitem__ ex ow) (sumD t n) (.str x) S = .ok (.int (val t x)) S := by
  have h1 := is_name_str (ex := ex) (ow := ow) (S := S) (x := x) (by have := vn_len h; omega)
  rw [h] at h1
  have h2 : dgt2D (.dct (kvD t)) (.str x) (.int 0) S = .ok (.int (val t x)) S := by
    unfold dgt2D val
    simp only [dctOf, TL.keyOf, getK_kv]
    cases getT t x <;> rfl
  show (if isOwn "Sum" S (sumD t n) then _ else _) = _
  rw [isO_sum, if_pos rfl]
  unfold FSum___getitem__ tSum___getitem__
  simp [NSum___getitem__, h1, fld_many, h2, dctOf]
theorem sub_sum_no {t : Tb} {n : Int} {d : D} (h : Fis_name ex ow [d] S = .ok (.bl false) S) : subO "Sum" (FSum___getitem__ ex ow) (sumD t n) d S = .exc "BadName" d S := by
  show (if isOwn "Sum" S (sumD t n) then _ else _) = _
  rw [isO_sum, if_pos rfl]
  unfold FSum___getitem__ tSum___getitem__
  simp [NSum___getitem__, h]
theorem din_kv {t : Tb} {x : Str} : dinD (.str x) (.dct (kvD t)) S = .ok (.bl (hasK (kvD t) (.inr x))) S := rfl
theorem in_sum_str {t : Tb} {n : Int} {x : Str} : inO "Sum" (FSum___contains__ ex ow) (.str x) (sumD t n) S = .ok (.bl (hasK (kvD t) (.inr x))) S := by
  show (if isOwn "Sum" S (sumD t n) then _ else _) = _
  rw [isO_sum, if_pos rfl]
  unfold FSum___contains__ tSum___contains__
  simp [NSum___contains__, fld_many, din_kv, bool1]
theorem in_sum_no {t : Tb} {n : Int} {d : D} (h : noStr S d) : inO "Sum" (FSum___contains__ ex ow) d (sumD t n) S = .ok (.bl false) S := by
  have h1 := isi_noStr (ex := ex) (ow := ow) h
  show (if isOwn "Sum" S (sumD t n) then _ else _) = _
  rw [isO_sum, if_pos rfl]
  unfold FSum___contains__ tSum___contains__
  simp [NSum___contains__, h1, bool1]
theorem eq_sum_other (ho : ("Sum" : Str) ∈ ow) {t : Tb} {n : Int} {d : D} {a : String} (h : tyD S d = some a) (ha : a ∈ tyL) (hd : isOwn "Sum" S d = false) : ownE "Sum" (FSum___eq__ ex ow) eqD (sumD t n) d S = .ok (.bl false) S := by
  have hi : isiA ex ow [d, .cls "Sum"] S = .ok (.bl false) S := by
    show (match tyD S d with | some a => if a ∈ tyL ∧ (("Sum" : Str) ∈ ow ∨ ("Sum" : Str) ∈ ex) then Out.ok (D.bl false) S else .stuck | none => _) = _
    rw [h]
    exact if_pos ⟨ha, .inl ho⟩
  have ht : tyIn S d = true := by
    unfold tyIn
    rw [h]
    exact decide_eq_true ha
  unfold ownE
  rw [isO_sum, if_pos rfl, hd, ht]
  simp only [Bool.or_true, if_true]
  unfold FSum___eq__ tSum___eq__
  simp [NSum___eq__, hi]
theorem eqE_sum (ho : ("Sum" : Str) ∈ ow) {t q : Tb} {n m : Int} (ht : Sh t) (hq : Sh q) : ownE "Sum" (FSum___eq__ ex ow) eqD (sumD t n) (sumD q m) S = .ok (.bl (decide (t = q) && decide (n = m))) S := by
  unfold ownE
  rw [isO_sum, if_pos rfl, isO_sum]
  simp only [Bool.true_or, if_true]
  exact eq_sum ho ht hq
end
end Pr
set_option Elab.async false
set_option linter.all false
set_option maxRecDepth 100000
set_option maxHeartbeats 4000000
/-! Values of any kind, for laws over sums. -/
namespace Pr
open PySem PySem.Spec PyProof.Rows L2 TL TLX
def odds1 : List D := [.non, .bl true, .bl false, .int 0, .int 1, .int (-1), .int 2, .int 7, .str "", .str "x", .str "0", .str "ann", .tup [], .lst [], .dct [], .tup [.int 0], .tup [.tup []], .lst [.int 0], .tup [.str "x", .int 1], .dct [(.inr "x", .int 1)]]
def odds2 : List D := [.tup [.tup [.str "x", .int 1]], .tup [.tup [.tup [.str "x", .int 1]], .int 0], .str "2 x", .tup [.str "ann"], .tup [.non], .int 100000000, .str "A", .tup [.bl true]]
def odds : List D := odds1 ++ odds2
def isStr : D → Bool
  | .str x => decide (x.length ≤ 4096)
  | _ => false
/-- a value that can be shown, a text or none -/
def plainB (d : D) : Bool := noh d && ((match pd d with
    | some x => reprOk x
    | none => false) && (isStr d || (match tyD [] d with
    | some a => decide (a ∈ tyL) && !decide (a = "str")
    | none => false)))
theorem tyD_noh {d : D} (h : noh d = true) (S : List O) : tyD S d = tyD [] d := by
  cases d <;> first | rfl | cases h
theorem plain_repr {d : D} (h : plainB d = true) : ∃ x : Str, ∀ S, reprD [d] S = .ok (.str x) S := by
  unfold plainB at h
  simp only [Bool.and_eq_true] at h
  have h2 := h.2.1
  split at h2
  · rename_i x e
    refine ⟨x.shown, fun S => ?_⟩
    unfold reprD
    simp only [e]
    rw [if_pos h2]
  · cases h2
theorem plain_kind {d : D} (h : plainB d = true) : (∃ x : Str, d = .str x ∧ x.length ≤ 4096) ∨ ∀ S, noStr S d := by
  unfold plainB at h
  simp only [Bool.and_eq_true, Bool.or_eq_true] at h
  rcases h.2.2 with h2 | h2
  · cases d with
    | str x => exact .inl ⟨x, rfl, of_decide_eq_true h2⟩
    | _ => cases h2
  · refine .inr fun S => ?_
    split at h2
    · rename_i a e
      simp only [Bool.and_eq_true, decide_eq_true_eq, Bool.not_eq_true', decide_eq_false_iff_not] at h2
      exact ⟨a, by rw [tyD_noh h.1]; exact e, h2.1, h2.2⟩
    · cases h2
theorem odds_plain : ∀ d ∈ odds, plainB d = true := by
  have h : odds.all plainB = true := by decide +kernel
  exact List.all_eq_true.mp h
theorem plain_str {x : Str} (h : vn x = true) : plainB (.str x) = true := by
  have g := gd_str (w := 8) (vn_ok h) (show x.cps.size ≤ 8 from vn_len h)
  have r := gd_repr (S := []) g (by decide) (by decide)
  unfold reprD at r
  simp only [g.eq] at r
  unfold plainB
  simp only [g.eq]
  have hl := vn_len h
  have e : reprOk (.str x) = true := by
    by_cases q : reprOk (.str x) = true
    · exact q
    · rw [if_neg q] at r
      cases r
  rw [e]
  simp only [noh, isStr, Bool.true_and, Bool.true_or, Bool.and_true]
  rw [decide_eq_true (by omega)]
  rfl
theorem repr_bl (b : Bool) : ∃ x : Str, ∀ S, reprD [.bl b] S = .ok (.str x) S := plain_repr (by cases b <;> decide +kernel)
theorem repr_int {i : Int} (h : i.natAbs < 10 ^ 12) : ∃ x : Str, ∀ S, reprD [.int i] S = .ok (.str x) S := ⟨_, fun S => gd_repr (gd_int h) (by decide) (by decide)⟩
section
variable {S : List O}
theorem eq_pair {t q : Tb} {n m : Int} (ht : Sh t) (hq : Sh q) (hn : n.natAbs < 10 ^ 12) (hm : m.natAbs < 10 ^ 12) : eqD (.tup [partsD t, .int n]) (.tup [partsD q, .int m]) S = .ok (.bl (decide (t = q) && decide (n = m))) S := by
  rw [gd_eq_tup (gd_pair ht hn) (gd_pair hq hm) (by decide) (by decide)]
  unfold pairP partsP
  simp only [PyData.eqv, PyData.eqvAll, eqv_parts, Bool.and_true]
  by_cases h2 : n = m <;> simp [h2]
theorem ne_pair {t q : Tb} {n m : Int} (ht : Sh t) (hq : Sh q) (hn : n.natAbs < 10 ^ 12) (hm : m.natAbs < 10 ^ 12) : neD (.tup [partsD t, .int n]) (.tup [partsD q, .int m]) S = .ok (.bl (!(decide (t = q) && decide (n = m)))) S := by
  rw [gd_ne_tup (gd_pair ht hn) (gd_pair hq hm) (by decide) (by decide)]
  unfold pairP partsP
  simp only [PyData.eqv, PyData.eqvAll, eqv_parts, Bool.and_true]
  by_cases h2 : n = m <;> simp [h2]
end
end Pr
set_option Elab.async false
set_option linter.all false
set_option maxRecDepth 100000
set_option maxHeartbeats 0
namespace Pr
open PySem PySem.Spec PyProof.Rows L2 TL
/-! what the program's defs do, as trees (printed by gen2.py) -/
def Nis_integer : List Str := ["value", "low", "high"]
abbrev Pis_integer : List Str := ["value", "low", "high"]
def tis_integer (ex ow : List Str) : TSx :=
  (sRet (eAnd (eArgs (Fis_whole ex ow) (aCons (eVar 0) aNil)) (eChain leD leD (eVar 1) (eVar 0) (eVar 2))))
def Fis_integer (ex ow : List Str) : TF := bodyF 3 Nis_integer (tis_integer ex ow)
def Ncheck_dial : List Str := ["value"]
abbrev Pcheck_dial : List Str := ["value"]
def tcheck_dial (ex ow : List Str) : TSx :=
  (sIf (tNotT (tTru (eArgs (Fis_integer ex ow) (aCons (eVar 0) (aCons (eC (.int 2)) (aCons (eC (.int 1000000)) aNil)))))) (sRaise "BadDial" (eVar 0)) sNext)
def Fcheck_dial (ex ow : List Str) : TF := bodyF 1 Ncheck_dial (tcheck_dial ex ow)
def NSum___mod__ : List Str := ["self", "dial", "modulus", "name", "size"]
abbrev PSum___mod__ : List Str := ["self", "dial"]
def tSum___mod__ (ex ow : List Str) : TSx :=
  (sSeq (sExpr (eArgs (Fcheck_dial ex ow) (aCons (eVar 1) aNil)))
    (sSeq (sSet 2 (eVar 1))
    (sRet (eArgs (Fsum_of ex ow) (aCons (eDc false [3, 4] (iTp (eUn (fldD ["Sum"] "own_parts") (eVar 0))) (gTp 2 (gsCons (gNm 3) (gsCons (gNm 4) gsNil))) tYesD (eVar 3) (eBin modD (eVar 4) (eVar 2))) (aCons (eBin modD (eUn (fldD ["Sum"] "own_number") (eVar 0)) (eVar 2)) aNil))))))
def FSum___mod__ (ex ow : List Str) : TF := bodyF 2 NSum___mod__ (tSum___mod__ ex ow)
def NSum_put : List Str := ["self", "name", "other", "left", "one", "many"]
abbrev PSum_put : List Str := ["self", "name", "other"]
def tSum_put (ex ow : List Str) : TSx :=
  (sSeq (sIf (tNotT (tTru (eArgs (Fis_name ex ow) (aCons (eVar 1) aNil)))) (sRaise "BadName" (eVar 1)) sNext)
    (sSeq (sIf (tNotT (tTru (eArgs (isiA ex ow) (aCons (eVar 2) (aCons (eC (.cls "Sum")) aNil))))) (sRaise "BadSum" (eVar 2)) sNext)
    (sSeq (sSet 3 (eDc false [4, 5] (iTp (eUn (fldD ["Sum"] "own_parts") (eVar 0))) (gTp 2 (gsCons (gNm 4) (gsCons (gNm 5) gsNil))) (tBl (eBin neD (eVar 4) (eVar 1))) (eVar 4) (eVar 5)))
    (sRet (eArgs (Fadded ex ow) (aCons (eArgs (Fsum_of ex ow) (aCons (eVar 3) (aCons (eUn (fldD ["Sum"] "own_number") (eVar 0)) aNil))) (aCons (eVar 2) (aCons (eGet2 (eUn (fldD ["Sum"] "own_many") (eVar 0)) (eVar 1) (eC (.int 0))) aNil))))))))
def FSum_put (ex ow : List Str) : TF := bodyF 3 NSum_put (tSum_put ex ow)
end Pr
set_option Elab.async false
set_option linter.all false
set_option maxRecDepth 100000
set_option maxHeartbeats 4000000
/-! Values that are bent; what is parts, of any value. -/
namespace Pr
open PySem PySem.Spec PyProof.Rows L2 TL TLX
/-- what becomes of a value that is bent -/
def bentL : Nat → D → List D
  | 0, _ => []
  | n + 1, .tup ds => ((List.range ds.length).flatMap fun k => match ds[k]? with
      | some e => (bentL n e).map fun x => .tup (cutD ds none (some (k : Nat)) ++ [x] ++ cutD ds (some ((k : Nat) + 1)) none)
      | none => []) ++ [.lst ds, .tup (cutD ds (some 1) none), .tup (cutD ds none (some (-1))), .tup (ds ++ cutD ds (some (-1)) none), .tup ds.reverse, .tup [], .tup (ds ++ [.int 0]), .non]
  | _ + 1, .str s => [.str (s ++ "x"), .str (cutS s none (some (-1))), .str (Txt.upper s), .str (s ++ " "), .lst [.str s], .str "x", .str "zq", .non, .int 0]
  | _ + 1, .bl b => [.bl (!b), .int (if b = true then 1 else 0), .non]
  | _ + 1, .int i => [.int (i + 1), .int (i - 1), .bl (decide (i = 1)), .str (toString i), .int (-1), .int 5, .int 0, .int (-i), .non, .tup [.int i]]
  | _ + 1, _ => odds
/-- a value that may be bent -/
def BendOk : Nat → D → Prop
  | 0, _ => False
  | n + 1, .tup ds => ds.length ≤ 1000 ∧ (∀ d ∈ ds, BendOk n d) ∧ ∃ b : Bool, (∀ S, neD (.tup ds) (.tup []) S = .ok (.bl b) S) ∧ (b = true → ds ≠ [])
  | _ + 1, .str s => s.length ≤ 1000
  | _ + 1, .int i => i.natAbs < 2 ^ 100
  | _ + 1, .bl _ => True
  | _ + 1, .non => True
  | _ + 1, .lst _ => True
  | _ + 1, .dct _ => True
  | _ + 1, _ => False
/-! ### small data -/
def okB : Nat → D → Bool
  | _, .non => true
  | _, .bl _ => true
  | _, .int i => decide (i.natAbs ≤ 1000000000)
  | _, .str x => PyData.strOk x && decide (x.length ≤ 60)
  | n + 1, .tup ds => decide (ds.length ≤ 12) && ds.all (okB n)
  | n + 1, .lst ds => decide (ds.length ≤ 12) && ds.all (okB n)
  | _, _ => false
def okW : Nat → Nat
  | 0 => 60
  | n + 1 => 12 * (okW n + 1)
theorem gds_all {k w m : Nat} : ∀ {ds : List D}, (∀ d ∈ ds, ∃ x, Gd k w d x) → ds.length ≤ m → ∃ xs, Gds k (m * (w + 1)) ds xs := fun {ds} h hl => by
  have : ∃ xs, Gds k (ds.length * (w + 1)) ds xs := by
    induction ds with
    | nil => exact ⟨[], by simpa using gds_nil⟩
    | cons d ds ih =>
      obtain ⟨x, hx⟩ := h d List.mem_cons_self
      obtain ⟨xs, hxs⟩ := ih (fun e he => h e (List.mem_cons_of_mem _ he)) (by rw [List.length_cons] at hl; omega)
      refine ⟨x :: xs, ?_⟩
      have := gds_cons hx hxs
      rw [List.length_cons, Nat.succ_mul]
      have e : ds.length * (w + 1) + (w + 1) = w + 1 + ds.length * (w + 1) := by omega
      rw [e]
      exact this
  obtain ⟨xs, g⟩ := this
  exact ⟨xs, g.eq, g.lay, g.small, g.can, g.dep, Nat.le_trans g.wei (Nat.mul_le_mul_right _ hl)⟩
theorem okW_60 : ∀ n, 60 ≤ okW n
  | 0 => Nat.le_refl _
  | n + 1 => by
    have := okW_60 n
    unfold okW
    omega
theorem okB_gd : ∀ (n : Nat) (d : D), okB n d = true → ∃ x, Gd n (okW n) d x
  | n, .non, _ => ⟨_, gd_non.up (Nat.zero_le _) (Nat.zero_le _)⟩
  | n, .bl _, _ => ⟨_, gd_bl.up (Nat.zero_le _) (Nat.zero_le _)⟩
  | n, .int i, h => by
    have h : decide (i.natAbs ≤ 1000000000) = true := by cases n <;> exact h
    have h := of_decide_eq_true h
    exact ⟨_, (gd_int (by omega)).up (Nat.zero_le _) (Nat.le_trans (by decide) (okW_60 n))⟩
  | n, .str x, h => by
    have h : (PyData.strOk x && decide (x.length ≤ 60)) = true := by cases n <;> exact h
    simp only [Bool.and_eq_true, decide_eq_true_eq] at h
    exact ⟨_, (gd_str h.1 (show x.cps.size ≤ 60 from h.2)).up (Nat.zero_le _) (okW_60 n)⟩
  | n + 1, .tup ds, h => by
    have h : (decide (ds.length ≤ 12) && ds.all (okB n)) = true := h
    simp only [Bool.and_eq_true, decide_eq_true_eq] at h
    obtain ⟨xs, g⟩ := gds_all (fun d hd => okB_gd n d (List.all_eq_true.mp h.2 d hd)) h.1
    exact ⟨_, gd_tup g⟩
  | n + 1, .lst ds, h => by
    have h : (decide (ds.length ≤ 12) && ds.all (okB n)) = true := h
    simp only [Bool.and_eq_true, decide_eq_true_eq] at h
    obtain ⟨xs, g⟩ := gds_all (fun d hd => okB_gd n d (List.all_eq_true.mp h.2 d hd)) h.1
    exact ⟨_, gd_lst g⟩
  | 0, .tup _, h => by cases h
  | 0, .lst _, h => by cases h
  | 0, .dct _, h => by cases h
  | _ + 1, .dct _, h => by cases h
  | 0, .scr _, h => by cases h
  | _ + 1, .scr _, h => by cases h
  | 0, .ty _, h => by cases h
  | _ + 1, .ty _, h => by cases h
  | 0, .ins _ _, h => by cases h
  | _ + 1, .ins _ _, h => by cases h
  | 0, .cls _, h => by cases h
  | _ + 1, .cls _, h => by cases h
  | 0, .exc _ _, h => by cases h
  | _ + 1, .exc _ _, h => by cases h
  | 0, .hnd _, h => by cases h
  | _ + 1, .hnd _, h => by cases h
  | 0, .any, h => by cases h
  | _ + 1, .any, h => by cases h
theorem okB_up1 : ∀ (n : Nat) (d : D), okB n d = true → okB (n + 1) d = true
  | 0, .non, _ => rfl
  | _ + 1, .non, _ => rfl
  | 0, .bl _, _ => rfl
  | _ + 1, .bl _, _ => rfl
  | 0, .int _, h => h
  | _ + 1, .int _, h => h
  | 0, .str _, h => h
  | _ + 1, .str _, h => h
  | n + 1, .tup ds, h => by
    have h : (decide (ds.length ≤ 12) && ds.all (okB n)) = true := h
    show (decide (ds.length ≤ 12) && ds.all (okB (n + 1))) = true
    simp only [Bool.and_eq_true] at h ⊢
    exact ⟨h.1, List.all_eq_true.mpr fun d hd => okB_up1 n d (List.all_eq_true.mp h.2 d hd)⟩
  | n + 1, .lst ds, h => by
    have h : (decide (ds.length ≤ 12) && ds.all (okB n)) = true := h
    show (decide (ds.length ≤ 12) && ds.all (okB (n + 1))) = true
    simp only [Bool.and_eq_true] at h ⊢
    exact ⟨h.1, List.all_eq_true.mpr fun d hd => okB_up1 n d (List.all_eq_true.mp h.2 d hd)⟩
  | 0, .tup _, h => by cases h
  | 0, .lst _, h => by cases h
  | 0, .dct _, h => by cases h
  | _ + 1, .dct _, h => by cases h
  | 0, .scr _, h => by cases h
  | _ + 1, .scr _, h => by cases h
  | 0, .ty _, h => by cases h
  | _ + 1, .ty _, h => by cases h
  | 0, .ins _ _, h => by cases h
  | _ + 1, .ins _ _, h => by cases h
  | 0, .cls _, h => by cases h
  | _ + 1, .cls _, h => by cases h
  | 0, .exc _ _, h => by cases h
  | _ + 1, .exc _ _, h => by cases h
  | 0, .hnd _, h => by cases h
  | _ + 1, .hnd _, h => by cases h
  | 0, .any, h => by cases h
  | _ + 1, .any, h => by cases h
theorem cut_mem {ds : List D} {lo hi : Option Int} {e : D} (h : e ∈ cutD ds lo hi) : e ∈ ds := by
  unfold TL.cutD at h
  exact List.mem_of_mem_drop (List.mem_of_mem_take h)
theorem cut_len (ds : List D) (lo hi : Option Int) : (cutD ds lo hi).length ≤ ds.length := by
  unfold TL.cutD
  rw [List.length_take, List.length_drop]
  omega
theorem ok_tup {n : Nat} {ds : List D} (hl : ds.length ≤ 12) (h : ∀ e ∈ ds, okB n e = true) : okB (n + 1) (.tup ds) = true := by
  show (decide (ds.length ≤ 12) && ds.all (okB n)) = true
  rw [decide_eq_true hl, List.all_eq_true.mpr h]
  rfl
theorem ok_lst {n : Nat} {ds : List D} (hl : ds.length ≤ 12) (h : ∀ e ∈ ds, okB n e = true) : okB (n + 1) (.lst ds) = true := by
  show (decide (ds.length ≤ 12) && ds.all (okB n)) = true
  rw [decide_eq_true hl, List.all_eq_true.mpr h]
  rfl
/-- a bent tuple -/
theorem bent_tup {m n : Nat} {ds : List D} (hl : ds.length ≤ 5) (h : ∀ e ∈ ds, okB n e = true) (hb : ∀ e ∈ ds, ∀ x ∈ bentL m e, okB n x = true) : ∀ d ∈ bentL (m + 1) (.tup ds), okB (n + 1) d = true := fun d hd => by
  simp only [bentL] at hd
  rcases List.mem_append.mp hd with hd | hd
  · obtain ⟨k, hk, hd⟩ := List.mem_flatMap.mp hd
    have hk := List.mem_range.mp hk
    rw [List.getElem?_eq_getElem hk] at hd
    obtain ⟨x, hx, rfl⟩ := List.mem_map.mp hd
    have hx := hb _ (List.getElem_mem hk) x hx
    have l1 := cut_len ds none (some (k : Nat))
    have l2 := cut_len ds (some ((k : Nat) + 1)) none
    refine ok_tup (by simp only [List.length_append, List.length_singleton]; omega) fun e he => ?_
    rcases List.mem_append.mp he with he | he
    · rcases List.mem_append.mp he with he | he
      · exact h e (cut_mem he)
      · rw [List.mem_singleton.mp he]
        exact hx
    · exact h e (cut_mem he)
  · have l1 := fun lo hi => cut_len ds lo hi
    have c := fun lo hi => ok_tup (n := n) (ds := cutD ds lo hi) (by have := l1 lo hi; omega) fun e he => h e (cut_mem he)
    simp only [List.mem_cons, List.not_mem_nil, or_false] at hd
    rcases hd with rfl | rfl | rfl | rfl | rfl | rfl | rfl | rfl
    · exact ok_lst (by omega) h
    · exact c _ _
    · exact c _ _
    · refine ok_tup (by have := l1 (some (-1)) none; rw [List.length_append]; omega) fun e he => ?_
      rcases List.mem_append.mp he with he | he
      · exact h e he
      · exact h e (cut_mem he)
    · exact ok_tup (by rw [List.length_reverse]; omega) fun e he => h e (List.mem_reverse.mp he)
    · exact ok_tup (by simp) fun e he => by cases he
    · refine ok_tup (by simp; omega) fun e he => ?_
      rcases List.mem_append.mp he with he | he
      · exact h e he
      · rw [List.mem_singleton.mp he]
        cases n <;> rfl
    · rfl
def poolN : List Str := ["x", "r", "a", "b", "own", "draw", "sum", "hand", "call", "burn", "people", "zzzzzzzz", "round", "next"]
theorem bent_name {m : Nat} {x : Str} (h : x ∈ poolN) : ∀ d ∈ bentL (m + 1) (.str x), okB 1 d = true := by
  have hall : poolN.all (fun x => (bentL 1 (.str x)).all (okB 1)) = true := by decide +kernel
  have := List.all_eq_true.mp hall x h
  exact fun d hd => List.all_eq_true.mp this d (by simpa only [bentL] using hd)
def smallI : List Int := [-9, -8, -7, -6, -5, -4, -3, -2, -1, 0, 1, 2, 3, 4, 5, 6, 7, 8, 9]
theorem small_mem {i : Int} (h : i.natAbs ≤ 9) : i ∈ smallI := by
  have h1 : -9 ≤ i := by omega
  have h2 : i ≤ 9 := by omega
  unfold smallI
  simp only [List.mem_cons, List.not_mem_nil, or_false]
  omega
theorem bent_int {m : Nat} {i : Int} (h : i.natAbs ≤ 9) : ∀ d ∈ bentL (m + 1) (.int i), okB 1 d = true := by
  have hall : smallI.all (fun x => (bentL 1 (.int x)).all (okB 1)) = true := by decide +kernel
  have := List.all_eq_true.mp hall i (small_mem h)
  exact fun d hd => List.all_eq_true.mp this d (by simpa only [bentL] using hd)
theorem name_ok {n : Nat} {x : Str} (h : x ∈ poolN) : okB n (.str x) = true := by
  have hall : poolN.all (fun x => okB 0 (.str x)) = true := by decide +kernel
  have := List.all_eq_true.mp hall x h
  cases n <;> exact this
theorem int_ok {n : Nat} {i : Int} (h : i.natAbs ≤ 9) : okB n (.int i) = true := by
  have : decide (i.natAbs ≤ 1000000000) = true := decide_eq_true (by omega)
  cases n <;> exact this
/-- bent parts are small data -/
theorem bent_parts {t : Tb} (hl : t.length ≤ 5) (hN : ∀ p ∈ t, p.1 ∈ poolN ∧ p.2.natAbs ≤ 9) : (∀ d ∈ bentL 4 (partsD t), okB 3 d = true) ∧ okB 3 (partsD t) = true := by
  have hp : ∀ p ∈ t, okB 2 (partD p) = true ∧ ∀ d ∈ bentL 3 (partD p), okB 2 d = true := fun p hp => by
    have h := hN p hp
    have h1 : ∀ e ∈ [D.str p.1, .int p.2], okB 1 e = true := fun e he => by
      simp only [List.mem_cons, List.not_mem_nil, or_false] at he
      rcases he with rfl | rfl
      · exact name_ok h.1
      · exact int_ok h.2
    exact ⟨ok_tup (by simp) h1, bent_tup (by simp) h1 fun e he => by
      simp only [List.mem_cons, List.not_mem_nil, or_false] at he
      rcases he with rfl | rfl
      · exact bent_name h.1
      · exact bent_int h.2⟩
  have ha : ∀ e ∈ t.map partD, okB 2 e = true := fun e he => by
    obtain ⟨p, hq, rfl⟩ := List.mem_map.mp he
    exact (hp p hq).1
  refine ⟨bent_tup (by rw [List.length_map]; exact hl) ha fun e he => ?_, ok_tup (by rw [List.length_map]; omega) ha⟩
  obtain ⟨p, hq, rfl⟩ := List.mem_map.mp he
  exact (hp p hq).2
end Pr
set_option Elab.async false
set_option linter.all false
set_option maxRecDepth 100000
set_option maxHeartbeats 4000000
/-! Parts of a sum, looked for in any value. -/
namespace Pr
open PySem PySem.Spec PyProof.Rows L2 TL TLX
/-- a value of a known kind, a text that is short, an integer that is small -/
def k0B (d : D) : Bool := noh d && ((match tyD [] d with
    | some a => decide (a ∈ tyL)
    | none => false) && (match d with
    | .str x => decide (x.length ≤ 4096)
    | .int i => decide (i.natAbs ≤ 1000000000)
    | _ => true))
def tupAll (p : D → Bool) : D → Bool
  | .tup ds => decide (ds.length ≤ 40) && ds.all p
  | _ => true
def k1B (d : D) : Bool := k0B d && tupAll k0B d
def k2B (d : D) : Bool := k0B d && tupAll k1B d
/-- a value that can be shown and looked at -/
structure Good (d : D) : Prop where
  sho : ∃ x : Str, ∀ S, reprD [d] S = .ok (.str x) S
  kd : k2B d = true
theorem k0_of_ok : ∀ {n : Nat} {d : D}, okB n d = true → k0B d = true := fun {n d} h => by
  cases d with
  | non => rfl
  | bl b => rfl
  | int i =>
    have h : decide (i.natAbs ≤ 1000000000) = true := by cases n <;> exact h
    unfold k0B
    simp only [h, noh, tyD]
    decide
  | str x =>
    have h : (PyData.strOk x && decide (x.length ≤ 60)) = true := by cases n <;> exact h
    simp only [Bool.and_eq_true, decide_eq_true_eq] at h
    unfold k0B
    simp only [noh, tyD, decide_eq_true (show x.length ≤ 4096 by omega)]
    decide
  | tup ds =>
    obtain ⟨x, g⟩ := okB_gd n _ h
    unfold k0B
    have hn : ∀ (n : Nat) (d : D), okB n d = true → noh d = true := fun n => by
      induction n with
      | zero => intro d hd; cases d <;> first | rfl | cases hd
      | succ n ih =>
        intro d hd
        cases d with
        | tup es =>
          have hd : (decide (es.length ≤ 12) && es.all (okB n)) = true := hd
          simp only [Bool.and_eq_true] at hd
          simp only [noh, nohs_all]
          exact List.all_eq_true.mpr fun e he => ih e (List.all_eq_true.mp hd.2 e he)
        | lst es =>
          have hd : (decide (es.length ≤ 12) && es.all (okB n)) = true := hd
          simp only [Bool.and_eq_true] at hd
          simp only [noh, nohs_all]
          exact List.all_eq_true.mpr fun e he => ih e (List.all_eq_true.mp hd.2 e he)
        | non => rfl
        | bl b => rfl
        | int i => rfl
        | str x => rfl
        | _ => cases hd
    rw [hn n _ h]
    simp only [tyD]
    decide
  | lst ds =>
    unfold k0B
    have hn : ∀ (n : Nat) (d : D), okB n d = true → noh d = true := fun n => by
      induction n with
      | zero => intro d hd; cases d <;> first | rfl | cases hd
      | succ n ih =>
        intro d hd
        cases d with
        | tup es =>
          have hd : (decide (es.length ≤ 12) && es.all (okB n)) = true := hd
          simp only [Bool.and_eq_true] at hd
          simp only [noh, nohs_all]
          exact List.all_eq_true.mpr fun e he => ih e (List.all_eq_true.mp hd.2 e he)
        | lst es =>
          have hd : (decide (es.length ≤ 12) && es.all (okB n)) = true := hd
          simp only [Bool.and_eq_true] at hd
          simp only [noh, nohs_all]
          exact List.all_eq_true.mpr fun e he => ih e (List.all_eq_true.mp hd.2 e he)
        | non => rfl
        | bl b => rfl
        | int i => rfl
        | str x => rfl
        | _ => cases hd
    rw [hn n _ h]
    simp only [tyD]
    decide
  | _ => cases n <;> cases h
theorem tup_ok {n : Nat} {p : D → Bool} {d : D} (h : okB (n + 1) d = true) (hp : ∀ e, okB n e = true → p e = true) : tupAll p d = true := by
  cases d with
  | tup ds =>
    have h : (decide (ds.length ≤ 12) && ds.all (okB n)) = true := h
    simp only [Bool.and_eq_true, decide_eq_true_eq] at h
    show (decide (ds.length ≤ 40) && ds.all p) = true
    rw [decide_eq_true (by omega), List.all_eq_true.mpr fun e he => hp e (List.all_eq_true.mp h.2 e he)]
    rfl
  | _ => rfl
theorem good_ok {d : D} (h : okB 3 d = true) : Good d := by
  obtain ⟨x, g⟩ := okB_gd 3 d h
  refine ⟨⟨_, fun S => gd_repr g (by decide) (by decide)⟩, ?_⟩
  have k1 : ∀ e, okB 2 e = true → k1B e = true := fun e he => by
    unfold k1B
    rw [k0_of_ok he, tup_ok (n := 1) he fun e he => k0_of_ok he]
    rfl
  unfold k2B
  rw [k0_of_ok h, tup_ok (n := 2) h k1]
  rfl
def goodB (d : D) : Bool := (match pd d with
    | some x => reprOk x
    | none => false) && k2B d
theorem good_of {d : D} (h : goodB d = true) : Good d := by
  unfold goodB at h
  simp only [Bool.and_eq_true] at h
  refine ⟨?_, h.2⟩
  have h2 := h.1
  split at h2
  · rename_i x e
    refine ⟨x.shown, fun S => ?_⟩
    unfold reprD
    simp only [e]
    rw [if_pos h2]
  · cases h2
theorem odds_good : ∀ d ∈ odds, Good d := by
  have h : odds.all goodB = true := by decide +kernel
  exact fun d hd => good_of (List.all_eq_true.mp h d hd)
/-! ### kinds -/
def isTyB (d : D) (n : String) : Bool := match tyD [] d with
  | some a => decide (a = n) || (decide (a = "bool") && decide (n = "int"))
  | none => false
section
variable {ex ow : List Str} {S : List O}
theorem isi_k0 {d : D} {n : String} (h : k0B d = true) (hn : n ∈ tyR) : isiA ex ow [d, .ty n] S = .ok (.bl (isTyB d n)) S := by
  unfold k0B at h
  simp only [Bool.and_eq_true] at h
  have h2 := h.2.1
  have e0 := tyD_noh h.1 S
  unfold isTyB
  split at h2
  · rename_i a e
    have ha := of_decide_eq_true h2
    rw [e] at e0
    have e : isTy a n = some (decide (a = n) || (decide (a = "bool") && decide (n = "int"))) := by
      unfold isTy
      rw [if_pos ⟨ha, hn⟩]
    show (match tyD S d with | some a => (match isTy a n with | some b => Out.ok (D.bl b) S | none => .stuck) | none => _) = _
    rw [e0]
    simp only [e]
  · cases h2
def isI : D → Bool
  | .int _ => true
  | _ => false
theorem whole_any {d : D} (h : k0B d = true) : Fis_whole ex ow [d] S = .ok (.bl (isI d)) S := by
  have h1 := isi_k0 (ex := ex) (ow := ow) (S := S) (n := "int") h (by decide)
  have h2 := isi_k0 (ex := ex) (ow := ow) (S := S) (n := "bool") h (by decide)
  have e : isI d = (isTyB d "int" && !isTyB d "bool") := by
    unfold k0B at h
    simp only [Bool.and_eq_true] at h
    cases d <;> first | rfl | (have := h.1; cases this)
  unfold Fis_whole tis_whole
  cases b1 : isTyB d "int" with
  | false =>
    rw [b1] at h1 e
    simp [Nis_whole, h1, e]
  | true =>
    rw [b1] at h1 e
    simp [Nis_whole, h1, h2, e]
def nmB : D → Bool
  | .str x => vn x
  | _ => false
theorem k0_noStr {d : D} (h : k0B d = true) (hs : ∀ x, d ≠ .str x) : noStr S d := by
  unfold k0B at h
  simp only [Bool.and_eq_true] at h
  have h2 := h.2.1
  split at h2
  · rename_i a e
    refine ⟨a, by rw [tyD_noh h.1]; exact e, of_decide_eq_true h2, fun z => ?_⟩
    subst z
    cases d <;> first | exact hs _ rfl | (simp [tyD] at e; done) | (have := h.1; cases this)
  · cases h2
theorem name_any {d : D} (h : k0B d = true) : Fis_name ex ow [d] S = .ok (.bl (nmB d)) S := by
  by_cases hs : ∃ x, d = .str x
  · obtain ⟨x, rfl⟩ := hs
    unfold k0B at h
    simp only [Bool.and_eq_true, decide_eq_true_eq] at h
    exact is_name_str h.2.2
  · rw [is_name_no (k0_noStr h fun x e => hs ⟨x, e⟩)]
    cases d <;> first | rfl | exact absurd ⟨_, rfl⟩ hs
theorem tup_any {d : D} (h : k0B d = true) (hd : ∀ ds, d ≠ .tup ds) (a b : D) : Fis_tuple ex ow [d, a, b] S = .ok (.bl false) S := by
  have h1 := isi_k0 (ex := ex) (ow := ow) (S := S) (n := "tuple") h (by decide)
  have e : isTyB d "tuple" = false := by
    unfold k0B at h
    simp only [Bool.and_eq_true] at h
    cases d <;> first | rfl | exact (hd _ rfl).elim | (have := h.1; cases this)
  rw [e] at h1
  unfold Fis_tuple tis_tuple
  simp [Nis_tuple, h1]
def izB : D → Bool
  | .int i => !decide (i = 0)
  | _ => false
/-- a name and an integer but 0 -/
def prB : D → Bool
  | .tup [a, b] => nmB a && izB b
  | _ => false
theorem part_any {d : D} (h : k1B d = true) : Fis_part ex ow [d] S = .ok (.bl (prB d)) S := by
  unfold k1B at h
  simp only [Bool.and_eq_true] at h
  by_cases hd : ∃ ds, d = .tup ds
  · obtain ⟨ds, rfl⟩ := hd
    have hall : (decide (ds.length ≤ 40) && ds.all k0B) = true := h.2
    simp only [Bool.and_eq_true, decide_eq_true_eq] at hall
    have hk := List.all_eq_true.mp hall.2
    by_cases hl : ds.length = 2
    · obtain ⟨a, b, rfl⟩ : ∃ a b, ds = [a, b] := by
        match ds, hl with
        | [a, b], _ => exact ⟨a, b, rfl⟩
      have ha := name_any (ex := ex) (ow := ow) (S := S) (hk a (by simp))
      have hb := whole_any (ex := ex) (ow := ow) (S := S) (hk b (by simp))
      have ht := is_tuple_tup (ex := ex) (ow := ow) (S := S) [a, b] 2 2
      simp at ht
      unfold Fis_part tis_part prB
      cases na : nmB a with
      | false =>
        rw [na] at ha
        simp [Nis_part, ht, ha, na]
      | true =>
        rw [na] at ha
        cases ib : isI b with
        | false =>
          rw [ib] at hb
          have e : izB b = false := by cases b <;> first | rfl | cases ib
          simp [Nis_part, ht, ha, hb, e]
        | true =>
          rw [ib] at hb
          cases b with
          | int i => simp [Nis_part, ht, ha, hb, izB, na]
          | _ => cases ib
    · have ht := is_tuple_tup (ex := ex) (ow := ow) (S := S) ds 2 2
      have e0 : (decide ((2 : Int) ≤ ds.length) && decide ((ds.length : Int) ≤ 2)) = false := by
        rw [Bool.and_eq_false_iff]
        by_cases h2 : (2 : Int) ≤ ds.length
        · right
          exact decide_eq_false (by omega)
        · left
          exact decide_eq_false h2
      rw [e0] at ht
      have e : prB (.tup ds) = false := by
        match ds, hl with
        | [], _ => rfl
        | [_], _ => rfl
        | [_, _], hl => exact absurd rfl hl
        | _ :: _ :: _ :: _, _ => rfl
      unfold Fis_part tis_part
      simp [Nis_part, ht, e]
  · have ht := tup_any (ex := ex) (ow := ow) (S := S) h.1 (fun ds e => hd ⟨ds, e⟩) (.int 2) (.int 2)
    have e : prB d = false := by
      cases d <;> first | rfl | exact absurd ⟨_, rfl⟩ hd
    unfold Fis_part tis_part
    simp [Nis_part, ht, e]
/-- the members of parts -/
theorem parts_dest : ∀ {ds : List D}, ds.all prB = true → ∃ t : Tb, ds = t.map partD ∧ t.all pOk = true
  | [], _ => ⟨[], rfl, rfl⟩
  | d :: ds, h => by
    simp only [List.all_cons, Bool.and_eq_true] at h
    obtain ⟨t, rfl, h2⟩ := parts_dest h.2
    have h1 := h.1
    unfold prB at h1
    split at h1
    · rename_i a b
      simp only [Bool.and_eq_true] at h1
      cases a with
      | str x =>
        cases b with
        | int i =>
          refine ⟨(x, i) :: t, rfl, ?_⟩
          simp only [List.all_cons, Bool.and_eq_true]
          exact ⟨by unfold pOk; rw [Bool.and_eq_true]; exact h1, h2⟩
        | _ => cases h1.2
      | _ => cases h1.1
    · cases h1
def nmOf : D → Str
  | .tup (.str x :: _) => x
  | _ => ""
def fsOf : D → D
  | .tup (a :: _) => a
  | _ => .non
/-- what are_parts says -/
def apB : D → Bool
  | .tup ds => ds.all prB && asc (ds.map nmOf)
  | _ => false
theorem apB_parts (t : Tb) : apB (partsD t) = okT t := by
  show ((t.map partD).all prB && asc ((t.map partD).map nmOf)) = _
  unfold okT
  rw [List.all_map, List.map_map]
  rfl
theorem are_parts_any {d : D} (h : k2B d = true) : Fare_parts ex ow [d] S = .ok (.bl (apB d)) S := by
  unfold k2B at h
  simp only [Bool.and_eq_true] at h
  have h1 := isi_k0 (ex := ex) (ow := ow) (S := S) (n := "tuple") h.1 (by decide)
  by_cases hd : ∃ ds, d = .tup ds
  · obtain ⟨ds, rfl⟩ := hd
    have hall : (decide (ds.length ≤ 40) && ds.all k1B) = true := h.2
    simp only [Bool.and_eq_true, decide_eq_true_eq] at hall
    have hk := List.all_eq_true.mp hall.2
    by_cases hp : ds.all prB = true
    · obtain ⟨t, rfl, ht⟩ := parts_dest hp
      have e : D.tup (t.map partD) = partsD t := rfl
      have hl := hall.1
      rw [List.length_map] at hl
      rw [e, apB_parts]
      exact are_parts_ok (by omega) fun p hp => by
        have := List.all_eq_true.mp ht p hp
        unfold pOk at this
        have := vn_len (Bool.and_eq_true_iff.mp this).1
        omega
    · have c1 : compL [1] (gNm 1) tYesD (eArgs (Fis_part ex ow) (aCons (eVar 1) aNil)) ds [] [some (.tup ds), none] S = .ok (ds.map fun e => D.bl (prB e)) S := by
        have := compL_map (vs := [1]) (tg := gNm 1) (tt := tYesD) (te := eArgs (Fis_part ex ow) (aCons (eVar 1) aNil)) (ρ := [some (.tup ds), none]) (S := S) (fun e : D => e) (fun e => D.bl (prB e)) ds [] fun e he => ⟨[some (.tup ds), some e], by simp [wipeD], by simp, by simp [part_any (hk e he)]⟩
        rw [List.map_id'] at this
        exact this
      have l1 : (ds.map fun e => D.bl (prB e)).length ≤ sizeLine := by
        rw [List.length_map]
        exact small_line (by omega)
      have l0 : ds.length ≤ sizeLine := small_line (by omega)
      have hA := all_map (S := S) prB ds
      have hp := Bool.eq_false_iff.mpr hp
      rw [hp] at hA
      have e : apB (.tup ds) = false := by
        show (ds.all prB && _) = false
        rw [hp]
        rfl
      have ht : isTyB (.tup ds) "tuple" = true := rfl
      rw [ht] at h1
      unfold Fare_parts tare_parts
      simp [Nare_parts, h1, l0, c1, mkL_false _ _ l1, hA, e]
  · have e : isTyB d "tuple" = false := by
      have h := h.1
      unfold k0B at h
      simp only [Bool.and_eq_true] at h
      cases d <;> first | rfl | exact absurd ⟨_, rfl⟩ hd | (have := h.1; cases this)
    have e2 : apB d = false := by
      cases d <;> first | rfl | exact absurd ⟨_, rfl⟩ hd
    rw [e] at h1
    unfold Fare_parts tare_parts
    simp [Nare_parts, h1, e2]
/-- parts are a table's -/
theorem apB_ok {d : D} (h : apB d = true) (hk : k2B d = true) : ∃ t : Tb, d = partsD t ∧ Ok t ∧ t.length ≤ 40 := by
  cases d with
  | tup ds =>
    have h0 := h
    unfold apB at h0
    rw [Bool.and_eq_true] at h0
    obtain ⟨t, rfl, ht⟩ := parts_dest h0.1
    unfold k2B at hk
    simp only [Bool.and_eq_true] at hk
    have hall : (decide ((t.map partD).length ≤ 40) && (t.map partD).all k1B) = true := hk.2
    simp only [Bool.and_eq_true, decide_eq_true_eq, List.length_map] at hall
    have e : apB (partsD t) = true := h
    rw [apB_parts] at e
    refine ⟨t, rfl, ⟨e, ?_, by omega⟩, hall.1⟩
    have ha : asc (keys t) = true := by
      unfold okT at e
      exact (Bool.and_eq_true_iff.mp e).2
    refine (asc_pw' ha).imp fun {x y} hxy e => ?_
    subst e
    unfold ltS at hxy
    exact absurd (of_decide_eq_true hxy) (List.lt_irrefl _)
  | _ => cases h
/-! ### Sum(..), made or refused -/
theorem make_parts {d b : D} {dfl xs : List D} (hx : xs ++ dfl = [d, b]) (h : k2B d = true) (hn : apB d = false) (nd : noh d = true) (fl : Flat S) : (makeD "Sum" dfl (FSum___init__ ex ow) xs S).cut S.length = .exc "BadParts" d S := by
  have h1 := are_parts_any (ex := ex) (ow := ow) (S := S ++ [.ins "Sum" []]) h
  rw [hn] at h1
  have e : FSum___init__ ex ow [.hnd S.length, d, b] (S ++ [.ins "Sum" []]) = .exc "BadParts" d (S ++ [.ins "Sum" []]) := by
    unfold FSum___init__ tSum___init__
    simp [NSum___init__, h1]
  unfold makeD
  rw [hx, e]
  exact cut_exc fl nd
theorem make_number {d b : D} {dfl xs : List D} (hx : xs ++ dfl = [d, b]) (h : k2B d = true) (hn : apB d = true) (hb : k0B b = true) (hi : isI b = false) (nb : noh b = true) (fl : Flat S) : (makeD "Sum" dfl (FSum___init__ ex ow) xs S).cut S.length = .exc "BadNumber" b S := by
  have h1 := are_parts_any (ex := ex) (ow := ow) (S := S ++ [.ins "Sum" []]) h
  rw [hn] at h1
  have h2 := whole_any (ex := ex) (ow := ow) (S := S ++ [.ins "Sum" []]) hb
  rw [hi] at h2
  have e : FSum___init__ ex ow [.hnd S.length, d, b] (S ++ [.ins "Sum" []]) = .exc "BadNumber" b (S ++ [.ins "Sum" []]) := by
    unfold FSum___init__ tSum___init__
    simp [NSum___init__, h1, h2]
  unfold makeD
  rw [hx, e]
  exact cut_exc fl nb
end
/-! ### ascending names by the sorted ones -/
theorem once_nd2 : ∀ (l acc : List Str), acc.Nodup → (l.foldl insT acc).Nodup
  | [], _, h => h
  | x :: l, acc, h => by
    rw [List.foldl_cons]
    refine once_nd2 l _ ?_
    unfold insT
    split
    · exact h
    · rename_i hx
      exact List.nodup_append.mpr ⟨h, by simp, fun a ha b hb e => hx (by rw [List.mem_singleton] at hb; rw [← hb, ← e]; exact ha)⟩
theorem asc_sorted (l : List Str) : decide (l = sortT (onceT l)) = asc l := by
  rw [Bool.eq_iff_iff, decide_eq_true_eq]
  constructor
  · intro e
    have nd : (sortT (onceT l)).Nodup := (sortT_perm _).nodup_iff.mpr (once_nd2 l [] List.nodup_nil)
    have pw := sortT_pw (onceT l)
    rw [← e] at nd pw
    exact asc_pw pw nd
  · intro h
    have nd : l.Nodup := (asc_pw' h).imp fun {x y} hxy e => by
      subst e
      unfold ltS at hxy
      exact absurd (of_decide_eq_true hxy) (List.lt_irrefl _)
    rw [once_id nd]
    exact (pw_uniq (sortT_perm _) (sortT_pw _) (asc_le h)).symm
theorem eqv_strs : ∀ l m : List Str, PyData.eqvAll (l.map PyData.str) (m.map PyData.str) = decide (l = m)
  | [], [] => rfl
  | [], _ :: _ => rfl
  | _ :: _, [] => rfl
  | a :: l, b :: m => by
    simp only [List.map_cons, PyData.eqvAll, PyData.eqv, eqv_strs l m]
    by_cases h1 : a = b <;> by_cases h2 : l = m <;> simp [h1, h2]
theorem eq_names {l m : List Str} {S : List O} (hl : ∀ x ∈ l, vn x = true) (hm : ∀ x ∈ m, vn x = true) : eqD (.lst (l.map D.str)) (.lst (m.map D.str)) S = .ok (.bl (decide (l = m))) S := by
  have g : ∀ l : List Str, (∀ x ∈ l, vn x = true) → Gd 1 (l.length * 9) (.lst (l.map D.str)) (.list (l.map PyData.str)) := fun l h =>
    gd_lst (gds_map D.str PyData.str l fun x hx => gd_str (vn_ok (h x hx)) (vn_len (h x hx)))
  rw [eqD_lst, (g l hl).eq, (g m hm).eq]
  simp only
  rw [if_pos ⟨(g l hl).shaped (by decide), (g m hm).shaped (by decide)⟩]
  simp only [PyData.eqv, eqv_strs]
end Pr
set_option Elab.async false
set_option linter.all false
set_option maxRecDepth 100000
set_option maxHeartbeats 4000000
/-! Dicts that can be shown; values of any kind that a sum is called with. -/
namespace Pr
open PySem PySem.Spec PyProof.Rows L2 TL TLX
/-! ### dicts that can be shown -/
def keyB : Key → Bool
  | .inl i => decide (i.natAbs ≤ 1000000000)
  | .inr x => PyData.strOk x && decide (x.length ≤ 60)
def numB : D → Bool
  | .int i => decide (i.natAbs ≤ 1000000000)
  | .bl _ => true
  | _ => false
def entB (kv : Key × D) : Bool := keyB kv.1 && numB kv.2
def keyP : Key → PyData
  | .inl i => .int i
  | .inr s => .str s
structure Gk (w : Nat) (kvs : List (Key × D)) (xs : List (PyData × PyData)) : Prop where
  eq : pdk kvs = some xs
  sho : PyData.showableKv xs = true
  dep : PyData.depthKv xs = 0
  lea : PyData.leavesShortKv 13 xs = true
  wei : PyData.weightKv xs ≤ w
theorem gd_keyP {k : Key} (h : keyB k = true) : Gd 0 60 (keyD k) (keyP k) := by
  cases k with
  | inl i =>
    have h := of_decide_eq_true (show decide (i.natAbs ≤ 1000000000) = true from h)
    exact (gd_int (by omega)).up (Nat.le_refl _) (by decide)
  | inr x =>
    have h : (PyData.strOk x && decide (x.length ≤ 60)) = true := h
    simp only [Bool.and_eq_true, decide_eq_true_eq] at h
    exact gd_str h.1 h.2
theorem gd_num {d : D} (h : numB d = true) : ∃ x, Gd 0 60 d x := by
  cases d with
  | int i =>
    have h := of_decide_eq_true (show decide (i.natAbs ≤ 1000000000) = true from h)
    exact ⟨_, (gd_int (by omega)).up (Nat.le_refl _) (by decide)⟩
  | bl b => exact ⟨_, gd_bl.up (Nat.le_refl _) (Nat.zero_le _)⟩
  | _ => cases h
theorem gd_leaf {k w : Nat} {d : D} {x : PyData} (g : Gd k w d x) : x.leavesShort 13 = true := PyData.leavesShort_of_canLay0 13 x g.lay g.small
theorem gk_all : ∀ {kvs : List (Key × D)}, (∀ kv ∈ kvs, entB kv = true) → ∃ xs, Gk (kvs.length * 122) kvs xs
  | [], _ => ⟨[], by simp only [pdk], rfl, by simp [PyData.depthKv], rfl, by simp [PyData.weightKv]⟩
  | (k, d) :: kvs, h => by
    obtain ⟨xs, g⟩ := gk_all fun kv hk => h kv (List.mem_cons_of_mem _ hk)
    have h1 := h (k, d) List.mem_cons_self
    unfold entB at h1
    rw [Bool.and_eq_true] at h1
    have gk : Gd 0 60 (keyD k) (keyP k) := gd_keyP h1.1
    obtain ⟨x, gx⟩ := gd_num h1.2
    refine ⟨(keyP k, x) :: xs, ?_, ?_, ?_, ?_, ?_⟩
    · simp only [pdk, gx.eq, g.eq, Option.bind_some, Option.map_some]
      cases k <;> rfl
    · simp only [PyData.showableKv, gk.can, gx.can, g.sho, Bool.and_self]
    · simp only [PyData.depthKv, g.dep]
      have := gk.dep
      have := gx.dep
      omega
    · simp only [PyData.leavesShortKv, gd_leaf gk, gd_leaf gx, g.lea, Bool.and_self]
    · simp only [PyData.weightKv, List.length_cons]
      have := gk.wei
      have := gx.wei
      have := g.wei
      omega
theorem repr_dct {kvs : List (Key × D)} (h : ∀ kv ∈ kvs, entB kv = true) (hl : kvs.length ≤ 1000) : ∃ s : Str, ∀ S, reprD [.dct kvs] S = .ok (.str s) S := by
  obtain ⟨xs, g⟩ := gk_all h
  have ok : reprOk (.dict xs) = true := by
    unfold reprOk
    have s := PyData.shown_fits (B := 13) (d := .dict xs) (by decide) (by decide) (by simpa only [PyData.leavesShort] using g.lea) (by simp only [PyData.weight]; have := g.wei; omega)
    simp only [PyData.showable, g.sho, PyData.depth, g.dep, Bool.true_and, Bool.and_eq_true, decide_eq_true_eq]
    exact ⟨by decide, s⟩
  refine ⟨PyData.shown (.dict xs), fun S => ?_⟩
  unfold reprD
  simp only [TL.pd, g.eq, Option.map_some]
  rw [if_pos ok]
/-! ### values of any kind -/
/-- a value that can be shown and looked at, with what it holds if it is a dict -/
structure Vl (d : D) : Prop where
  sho : ∃ s : Str, ∀ S, reprD [d] S = .ok (.str s) S
  k0 : k0B d = true
  ent : ∀ kvs, d = .dct kvs → (∀ kv ∈ kvs, entB kv = true) ∧ kvs.length ≤ 1000 ∧ (kvs.map (·.1)).Nodup
theorem noh_num {d : D} (h : numB d = true) : noh d = true := by
  cases d with
  | int i => rfl
  | bl b => rfl
  | _ => cases h
theorem nohk_all : ∀ {kvs : List (Key × D)}, (∀ kv ∈ kvs, entB kv = true) → nohk kvs = true
  | [], _ => rfl
  | (k, d) :: kvs, h => by
    have h1 := h (k, d) List.mem_cons_self
    unfold entB at h1
    rw [Bool.and_eq_true] at h1
    show (noh d && nohk kvs) = true
    rw [noh_num h1.2, nohk_all fun kv hk => h kv (List.mem_cons_of_mem _ hk)]
    rfl
theorem k0_dct {kvs : List (Key × D)} (h : ∀ kv ∈ kvs, entB kv = true) : k0B (.dct kvs) = true := by
  have : noh (.dct kvs) = true := by simpa only [noh] using nohk_all h
  unfold k0B
  rw [this]
  rfl
theorem vl_dct {kvs : List (Key × D)} (h : ∀ kv ∈ kvs, entB kv = true) (hl : kvs.length ≤ 1000) (nd : (kvs.map (·.1)).Nodup) : Vl (.dct kvs) :=
  ⟨repr_dct h hl, k0_dct h, fun q e => by cases e; exact ⟨h, hl, nd⟩⟩
theorem vl_good {d : D} (h : Good d) (hd : ∀ kvs, d ≠ .dct kvs) : Vl d := ⟨h.sho, by
  have := h.kd
  unfold k2B at this
  exact (Bool.and_eq_true_iff.mp this).1, fun q e => absurd e (hd q)⟩
theorem odds_vl : ∀ d ∈ odds, Vl d := fun d hd => by
  by_cases e : ∃ kvs, d = .dct kvs
  · obtain ⟨kvs, rfl⟩ := e
    have h : odds.all (fun d => match d with
      | .dct kvs => kvs.all entB && decide (kvs.length ≤ 1)
      | _ => true) = true := by decide +kernel
    have := List.all_eq_true.mp h _ hd
    simp only [Bool.and_eq_true, decide_eq_true_eq] at this
    refine vl_dct (List.all_eq_true.mp this.1) (by omega) ?_
    match kvs, this.2 with
    | [], _ => exact List.nodup_nil
    | [a], _ => exact List.nodup_cons.mpr ⟨by simp, List.nodup_nil⟩
  · exact vl_good (odds_good d hd) fun kvs h => e ⟨kvs, h⟩
def avB (kvs : List (Key × D)) : Bool := kvs.all fun kv => nmB (keyD kv.1) && isI kv.2
def dAv : D → Bool
  | .dct kvs => avB kvs
  | _ => false
def hasAll (t : Tb) : D → Bool
  | .dct kvs => t.all fun p => hasK kvs (.inr p.1)
  | _ => false
/-- whether a value is a dict from names to integers, with all names of a table -/
def valsB (t : Tb) (d : D) : Bool := dAv d && hasAll t d
theorem k0_key {k : Key} (h : keyB k = true) : k0B (keyD k) = true := by
  cases k with
  | inl i => exact k0_of_ok (n := 0) (d := .int i) h
  | inr x => exact k0_of_ok (n := 0) (d := .str x) h
theorem k0_num {d : D} (h : numB d = true) : k0B d = true := by
  cases d with
  | int i => exact k0_of_ok (n := 0) (d := .int i) h
  | bl b => rfl
  | _ => cases h
theorem ent_k0 {kv : Key × D} (h : entB kv = true) : k0B (keyD kv.1) = true ∧ k0B kv.2 = true := by
  unfold entB at h
  rw [Bool.and_eq_true] at h
  exact ⟨k0_key h.1, k0_num h.2⟩
section
variable {ex ow : List Str} {S : List O}
theorem are_values_any {d : D} (h : Vl d) : Fare_values ex ow [d] S = .ok (.bl (dAv d)) S := by
  have h1 := isi_k0 (ex := ex) (ow := ow) (S := S) (n := "dict") h.k0 (by decide)
  by_cases hd : ∃ kvs, d = .dct kvs
  · obtain ⟨kvs, rfl⟩ := hd
    obtain ⟨he, hl, nd⟩ := h.ent kvs rfl
    have c1 : compL [1, 2] (gTp 2 (gsCons (gNm 1) (gsCons (gNm 2) gsNil))) tYesD (eAnd (eArgs (Fis_name ex ow) (aCons (eVar 1) aNil)) (eArgs (Fis_whole ex ow) (aCons (eVar 2) aNil))) (kvs.map fun kv => D.tup [keyD kv.1, kv.2]) [] [some (.dct kvs), none, none] S = .ok (kvs.map fun kv => D.bl (nmB (keyD kv.1) && isI kv.2)) S := by
      have q : ∀ kv ∈ kvs, ∃ ρ1, gTp 2 (gsCons (gNm 1) (gsCons (gNm 2) gsNil)) (D.tup [keyD kv.1, kv.2]) (wipeD [some (.dct kvs), none, none] [1, 2]) S = .nx ρ1 S ∧ tYesD ρ1 S = .ok true S ∧ (eAnd (eArgs (Fis_name ex ow) (aCons (eVar 1) aNil)) (eArgs (Fis_whole ex ow) (aCons (eVar 2) aNil))) ρ1 S = .ok (D.bl (nmB (keyD kv.1) && isI kv.2)) S := fun kv hk => by
       refine ⟨[some (.dct kvs), some (keyD kv.1), some kv.2], by simp [wipeD], rfl, ?_⟩
       obtain ⟨a, b⟩ := ent_k0 (he kv hk)
       have n1 := name_any (ex := ex) (ow := ow) (S := S) a
       have w1 := whole_any (ex := ex) (ow := ow) (S := S) b
       cases e : nmB (keyD kv.1) with
       | false =>
         rw [e] at n1
         simp [n1]
       | true =>
         rw [e] at n1
         simp [n1, w1]
      exact compL_map (fun kv : Key × D => D.tup [keyD kv.1, kv.2]) (fun kv => D.bl (nmB (keyD kv.1) && isI kv.2)) kvs [] q
    have l0 : kvs.length ≤ sizeLine := small_line (by omega)
    have l1 : (kvs.map fun kv => D.bl (nmB (keyD kv.1) && isI kv.2)).length ≤ sizeLine := by
      rw [List.length_map]
      exact l0
    have hA := all_map (S := S) (fun kv : Key × D => nmB (keyD kv.1) && isI kv.2) kvs
    have ht : isTyB (.dct kvs) "dict" = true := rfl
    rw [ht] at h1
    unfold Fare_values tare_values
    simp [Nare_values, h1, c1, l0, mkL_false _ _ l1, hA]
    rfl
  · have e : isTyB d "dict" = false := by
      have h := h.k0
      unfold k0B at h
      simp only [Bool.and_eq_true] at h
      cases d <;> first | rfl | exact absurd ⟨_, rfl⟩ hd | (have := h.1; cases this)
    have e2 : dAv d = false := by
      cases d <;> first | rfl | exact absurd ⟨_, rfl⟩ hd
    rw [e] at h1
    unfold Fare_values tare_values
    simp [Nare_values, h1, e2]
theorem call_no {t : Tb} {n : Int} {d : D} (hd : Vl d) (hl : t.length ≤ 1000) (h : valsB t d = false) : FSum___call__ ex ow [sumD t n, d] S = .exc "BadValues" d S := by
  have hv := are_values_any (ex := ex) (ow := ow) (S := S) hd
  unfold valsB at h
  cases e : dAv d with
  | false =>
    rw [e] at hv
    unfold FSum___call__ tSum___call__
    simp [NSum___call__, hv]
  | true =>
    rw [e] at hv h
    cases d with
    | dct kvs =>
      have h : (t.all fun p => hasK kvs (.inr p.1)) = false := h
      have e0 : (kvD t).map (fun kv => keyD kv.1) = t.map fun p => D.str p.1 := by
        unfold kvD
        rw [List.map_map]
        rfl
      have c1 : compL [2] (gNm 2) tYesD (eBin dinD (eVar 2) (eVar 1)) ((kvD t).map fun kv => keyD kv.1) [] [some (sumD t n), some (.dct kvs), none, none] S = .ok (t.map fun p => D.bl (hasK kvs (.inr p.1))) S := by
        rw [e0]
        refine compL_map (fun p : Str × Int => D.str p.1) (fun p => D.bl (hasK kvs (.inr p.1))) t [] fun p hp => ⟨[some (sumD t n), some (.dct kvs), some (.str p.1), none], by simp [wipeD], by simp, ?_⟩
        have : dinD (.str p.1) (.dct kvs) S = .ok (.bl (hasK kvs (.inr p.1))) S := rfl
        simp [this]
      have l0 : (kvD t).length ≤ sizeLine := by
        unfold kvD
        rw [List.length_map]
        exact small_line (by omega)
      have l1 : (t.map fun p => D.bl (hasK kvs (.inr p.1))).length ≤ sizeLine := by
        rw [List.length_map]
        exact small_line (by omega)
      have hA := all_map (S := S) (fun p : Str × Int => hasK kvs (.inr p.1)) t
      rw [h] at hA
      unfold FSum___call__ tSum___call__
      simp [NSum___call__, hv, fld_many, c1, l0, mkL_false _ _ l1, hA]
    | _ => cases e
end
theorem kv_of_av : ∀ {kvs : List (Key × D)}, avB kvs = true → ∃ v : Tb, kvs = kvD v ∧ ∀ p ∈ v, vn p.1 = true
  | [], _ => ⟨[], rfl, fun _ h => by cases h⟩
  | (k, d) :: kvs, h => by
    unfold avB at h
    simp only [List.all_cons, Bool.and_eq_true] at h
    obtain ⟨v, rfl, hv⟩ := kv_of_av (kvs := kvs) h.2
    cases k with
    | inl i => cases h.1.1
    | inr x =>
      cases d with
      | int i => exact ⟨(x, i) :: v, rfl, fun p hp => (List.mem_cons.mp hp).elim (fun e => by rw [e]; exact h.1.1) (hv p)⟩
      | _ => cases h.1.2
/-- what a value is that a sum may be called with -/
theorem vals_yes {t : Tb} {d : D} (hd : Vl d) (h : valsB t d = true) : ∃ v, d = .dct (kvD v) ∧ Vals v ∧ Has v t ∧ ∀ x, (val v x).natAbs ≤ 1000000000 := by
  unfold valsB at h
  rw [Bool.and_eq_true] at h
  cases d with
  | dct kvs =>
    obtain ⟨v, rfl, hv⟩ := kv_of_av h.1
    obtain ⟨he, hl, nd⟩ := hd.ent _ rfl
    have sm : ∀ p ∈ v, p.2.natAbs ≤ 1000000000 := fun p hp => by
      have := he (.inr p.1, .int p.2) (List.mem_map.mpr ⟨p, hp, rfl⟩)
      unfold entB at this
      exact of_decide_eq_true (Bool.and_eq_true_iff.mp this).2
    refine ⟨v, rfl, ⟨hv, by rw [kvD, List.length_map] at hl; exact hl⟩, fun p hp => ?_, val_sm sm⟩
    have h2 : (t.all fun p => hasK (kvD v) (.inr p.1)) = true := h.2
    have h3 := List.all_eq_true.mp h2 p hp
    rw [hasK_kv] at h3
    cases e : getT v p.1 with
    | none =>
      rw [e] at h3
      cases h3
    | some i =>
      refine ⟨i, rfl, ?_⟩
      have := sm _ (getT_some e)
      unfold bd
      omega
  | _ => cases h.1
end Pr
set_option Elab.async false
set_option linter.all false
set_option maxRecDepth 100000
set_option maxHeartbeats 4000000
/-! Sums: rests on a dial, a sum put in the place of a name. -/
namespace Pr
open PySem PySem.Spec PyProof.Rows L2 TL TLX
theorem compD_filt {α : Type} {vs : List Nat} {tg : TGx} {tt : TTx} {tk tv : TEx} {ρ : Env1} {S : List O} (of : α → D) (c : α → Bool) (k : α → Key) (v : α → D) : ∀ (xs : List α) (acc : List (Key × D)), (∀ x ∈ xs, hasK acc (k x) = false) → (xs.map k).Nodup →
    (∀ x ∈ xs, ∃ ρ1 y, tg (of x) (wipeD ρ vs) S = .nx ρ1 S ∧ tt ρ1 S = .ok (c x) S ∧ tk ρ1 S = .ok y S ∧ keyOf y = some (k x) ∧ tv ρ1 S = .ok (v x) S) → compD vs tg tt tk tv (xs.map of) acc ρ S = .ok (acc ++ (xs.filter c).map fun x => (k x, v x)) S
  | [], acc, _, _, _ => by simp [compD]
  | x :: xs, acc, hn, nd, q => by
    obtain ⟨ρ1, y, h1, h2, h3, h4, h5⟩ := q x List.mem_cons_self
    rw [List.map_cons] at nd
    obtain ⟨nd1, nd2⟩ := List.nodup_cons.mp nd
    rw [List.map_cons]
    unfold compD
    rw [h1]
    cases hc : c x with
    | false =>
      rw [hc] at h2
      simp only [nox_nx, bind_ok, h2, nox_ok, Bool.false_eq_true, if_false]
      rw [compD_filt of c k v xs _ (fun z hz => hn z (List.mem_cons_of_mem _ hz)) nd2 fun d hd => q d (List.mem_cons_of_mem _ hd)]
      simp [hc]
    | true =>
      rw [hc] at h2
      simp only [nox_nx, bind_ok, h2, nox_ok, if_true, h3, h4, h5]
      have e : putG acc (k x) (v x) = acc ++ [(k x, v x)] := by
        unfold putG
        rw [hn x List.mem_cons_self]
        rfl
      rw [e, compD_filt of c k v xs _ (fun z hz => ?_) nd2 fun d hd => q d (List.mem_cons_of_mem _ hd)]
      · simp [hc]
      · rw [hasK_snoc, hn z (List.mem_cons_of_mem _ hz)]
        simp only [Bool.false_or, decide_eq_false_iff_not]
        exact fun e => nd1 (by rw [e]; exact List.mem_map.mpr ⟨z, hz, rfl⟩)
def dialB : D → Bool
  | .int i => decide (2 ≤ i) && decide (i ≤ 1000000)
  | _ => false
/-- the rests of a table -/
def modT (k : Int) (t : Tb) : Tb := t.map fun p => (p.1, p.2 % k)
theorem keys_mod (k : Int) (t : Tb) : keys (modT k t) = keys t := by
  unfold keys modT
  rw [List.map_map]
  rfl
theorem len_mod (k : Int) (t : Tb) : (modT k t).length = t.length := by
  unfold modT
  rw [List.length_map]
theorem val_mod (k : Int) (x : Str) : ∀ t : Tb, val (modT k t) x = val t x % k
  | [] => by simp [val, modT, getT]
  | (y, i) :: t => by
    have ih := val_mod k x t
    unfold val modT at ih ⊢
    simp only [List.map_cons, getT]
    by_cases h : y = x
    · simp [h]
    · simp only [if_neg h]
      exact ih
/-- what is left but for a name -/
def left (t : Tb) (x : Str) : Tb := t.filter fun p => !decide (p.1 = x)
theorem left_mem {t : Tb} {x : Str} {p : Str × Int} (h : p ∈ left t x) : p ∈ t := (List.mem_filter.mp h).1
theorem left_len (t : Tb) (x : Str) : (left t x).length ≤ t.length := List.length_filter_le _ _
theorem left_nd {t : Tb} (nd : (keys t).Nodup) (x : Str) : (keys (left t x)).Nodup := nd_filter nd _
theorem val_left (x y : Str) : ∀ t : Tb, val (left t x) y = if x = y then 0 else val t y
  | [] => by simp [left, val, getT]
  | (z, i) :: t => by
    have ih := val_left x y t
    unfold left at ih ⊢
    by_cases hz : z = x
    · subst hz
      simp only [List.filter_cons, decide_true, Bool.not_true, Bool.false_eq_true, if_false]
      rw [ih]
      by_cases hy : z = y
      · simp [hy]
      · simp [hy, val, getT]
    · simp only [List.filter_cons, hz, decide_false, Bool.not_false, if_true]
      by_cases hy : z = y
      · have : ¬ x = y := fun e => hz (hy.trans e.symm)
        simp [val, getT, hy, this]
      · have e : ∀ r : Tb, val ((z, i) :: r) y = val r y := fun r => by simp [val, getT, hy]
        rw [e, e]
        exact ih
section
variable {ex ow : List Str} {S : List O}
theorem integer_any {d : D} (h : k0B d = true) : Fis_integer ex ow [d, .int 2, .int 1000000] S = .ok (.bl (dialB d)) S := by
  have w := whole_any (ex := ex) (ow := ow) (S := S) h
  unfold Fis_integer tis_integer
  cases e : isI d with
  | false =>
    rw [e] at w
    have e2 : dialB d = false := by cases d <;> first | rfl | cases e
    simp [Nis_integer, w, e2]
  | true =>
    rw [e] at w
    cases d with
    | int i =>
      by_cases h2 : 2 ≤ i <;> simp [Nis_integer, w, dialB, h2]
    | _ => cases e
theorem dial_no {d : D} (h : k0B d = true) (hb : dialB d = false) : Fcheck_dial ex ow [d] S = .exc "BadDial" d S := by
  have w := integer_any (ex := ex) (ow := ow) (S := S) h
  rw [hb] at w
  unfold Fcheck_dial tcheck_dial
  simp [Ncheck_dial, w]
theorem dial_yes {d : D} (h : k0B d = true) (hb : dialB d = true) : Fcheck_dial ex ow [d] S = .ok .non S := by
  have w := integer_any (ex := ex) (ow := ow) (S := S) h
  rw [hb] at w
  unfold Fcheck_dial tcheck_dial
  simp [Ncheck_dial, w]
theorem mod_no {t : Tb} {n : Int} {d : D} (h : k0B d = true) (hb : dialB d = false) : FSum___mod__ ex ow [sumD t n, d] S = .exc "BadDial" d S := by
  have w := dial_no (ex := ex) (ow := ow) (S := S) h hb
  unfold FSum___mod__ tSum___mod__
  simp [NSum___mod__, w]
theorem mod_sum {t : Tb} {n k : Int} (ht : Ok t) (hb : dialB (.int k) = true) (hk : k0B (.int k) = true) (fl : Flat S) : FSum___mod__ ex ow [sumD t n, .int k] S = .ok (sumD (normP (modT k t)) (n % k)) S := by
  have w := dial_yes (ex := ex) (ow := ow) (S := S) hk hb
  have k0 : 0 < k := by
    have : (decide (2 ≤ k) && decide (k ≤ 1000000)) = true := hb
    simp only [Bool.and_eq_true, decide_eq_true_eq] at this
    omega
  have hll := ht.len
  have c1 : compD [3, 4] (gTp 2 (gsCons (gNm 3) (gsCons (gNm 4) gsNil))) tYesD (eVar 3) (eBin modD (eVar 4) (eVar 2)) (t.map partD) [] [some (sumD t n), some (.int k), some (.int k), none, none] S = .ok (kvD (modT k t)) S := by
    have := compD_map (vs := [3, 4]) (tg := gTp 2 (gsCons (gNm 3) (gsCons (gNm 4) gsNil))) (tt := tYesD) (tk := eVar 3) (tv := eBin modD (eVar 4) (eVar 2)) (ρ := [some (sumD t n), some (.int k), some (.int k), none, none]) (S := S) partD (fun p => (.inr p.1)) (fun p => .int (p.2 % k)) t [] (fun _ _ => rfl) (by
      have e : t.map (fun p : Str × Int => (Sum.inr p.1 : Key)) = (keys t).map Sum.inr := by
        unfold keys
        rw [List.map_map]
        rfl
      rw [e]
      exact List.Pairwise.map _ (fun a b h e => h (Sum.inr.inj e)) ht.nd) (fun p hp => ⟨[some (sumD t n), some (.int k), some (.int k), some (.str p.1), some (.int p.2)], .str p.1, by simp [wipeD, partD], by simp, by simp, rfl, by simp [TL.mod_int S k0]⟩)
    rw [this]
    unfold kvD modT
    rw [List.map_map]
    rfl
  have l1 : t.length ≤ sizeLine := small_line (by omega)
  have hs := sum_of_ok (ex := ex) (ow := ow) (S := S) (t := modT k t) (by rw [keys_mod]; exact ht.nd) (fun p hp => by
    obtain ⟨z, hz, rfl⟩ := List.mem_map.mp hp
    exact (ht.vn hz : Pr.vn z.1 = true)) (by rw [len_mod]; exact hll) (n % k) fl
  unfold FSum___mod__ tSum___mod__
  simp [NSum___mod__, w, fld_parts, c1, l1, mkD, fld_number, TL.mod_int S k0, hs]
theorem isi_k0_sum (ho : ("Sum" : Str) ∈ ow) {d : D} (h : k0B d = true) : isiA ex ow [d, .cls "Sum"] S = .ok (.bl false) S := by
  unfold k0B at h
  simp only [Bool.and_eq_true] at h
  have h2 := h.2.1
  have e0 := tyD_noh h.1 S
  split at h2
  · rename_i a e
    rw [e] at e0
    have ha := of_decide_eq_true h2
    show (match tyD S d with | some a => if a ∈ tyL ∧ (("Sum" : Str) ∈ ow ∨ ("Sum" : Str) ∈ ex) then Out.ok (D.bl false) S else .stuck | none => _) = _
    rw [e0]
    exact if_pos ⟨ha, .inl ho⟩
  · cases h2
theorem put_name {t : Tb} {n : Int} {d e : D} (h : k0B d = true) (hb : nmB d = false) : FSum_put ex ow [sumD t n, d, e] S = .exc "BadName" d S := by
  have w := name_any (ex := ex) (ow := ow) (S := S) h
  rw [hb] at w
  unfold FSum_put tSum_put
  simp [NSum_put, w]
theorem put_no (ho : ("Sum" : Str) ∈ ow) {t : Tb} {n : Int} {d e : D} (h : k0B d = true) (hb : nmB d = true) (he : k0B e = true) : FSum_put ex ow [sumD t n, d, e] S = .exc "BadSum" e S := by
  have w := name_any (ex := ex) (ow := ow) (S := S) h
  rw [hb] at w
  have i := isi_k0_sum (ex := ex) (S := S) ho he
  unfold FSum_put tSum_put
  simp [NSum_put, w, i]
theorem put_sum (ho : ("Sum" : Str) ∈ ow) {t q : Tb} {n m : Int} {x : Str} (hx : vn x = true) (ht : Ok t) (hq : Ok q) (hl : t.length + q.length ≤ 1000) (hv : (val t x).natAbs ≤ bd) (sq : Sm bd q) (hm : m.natAbs ≤ bd) (fl : Flat S) :
    FSum_put ex ow [sumD t n, .str x, sumD q m] S = .ok (sumD (normP (mergeT (val t x) (normP (left t x)) q)) (n + val t x * m)) S := by
  have w := is_name_str (ex := ex) (ow := ow) (S := S) (x := x) (by have := vn_len hx; omega)
  rw [hx] at w
  have i := isi_sum (ex := ex) (S := S) ho q m
  have hll := left_len t x
  have c1 : compD [4, 5] (gTp 2 (gsCons (gNm 4) (gsCons (gNm 5) gsNil))) (tBl (eBin neD (eVar 4) (eVar 1))) (eVar 4) (eVar 5) (t.map partD) [] [some (sumD t n), some (.str x), some (sumD q m), none, none, none] S = .ok (kvD (left t x)) S := by
    have := compD_filt (vs := [4, 5]) (tg := gTp 2 (gsCons (gNm 4) (gsCons (gNm 5) gsNil))) (tt := tBl (eBin neD (eVar 4) (eVar 1))) (tk := eVar 4) (tv := eVar 5) (ρ := [some (sumD t n), some (.str x), some (sumD q m), none, none, none]) (S := S) partD (fun p => !decide (p.1 = x)) (fun p => (.inr p.1)) (fun p => .int p.2) t [] (fun _ _ => rfl) (by
      have e : t.map (fun p : Str × Int => (Sum.inr p.1 : Key)) = (keys t).map Sum.inr := by
        unfold keys
        rw [List.map_map]
        rfl
      rw [e]
      exact List.Pairwise.map _ (fun a b h e => h (Sum.inr.inj e)) ht.nd) (fun p hp => ⟨[some (sumD t n), some (.str x), some (sumD q m), none, some (.str p.1), some (.int p.2)], .str p.1, by simp [wipeD, partD], by simp, by simp, rfl, by simp⟩)
    rw [this]
    rfl
  have l1 : t.length ≤ sizeLine := small_line (by omega)
  have nd := left_nd ht.nd x
  have vl : ∀ p ∈ left t x, vn p.1 = true := fun p hp => ht.vn (left_mem hp)
  have hs := sum_of_ok (ex := ex) (ow := ow) (S := S) (t := left t x) nd vl (by omega) n fl
  have ol : Ok (normP (left t x)) := Ok.norm nd vl (by omega)
  have ha := added_ok (ex := ex) (ow := ow) (S := S) (n := n) (m := m) (k := val t x) ol hq (by have := norm_len (left t x); omega) sq hv hm fl
  have h2 : dgt2D (.dct (kvD t)) (.str x) (.int 0) S = .ok (.int (val t x)) S := by
    unfold dgt2D val
    simp only [dctOf, TL.keyOf, getK_kv]
    cases getT t x <;> rfl
  unfold FSum_put tSum_put
  simp [NSum_put, w, i, fld_parts, fld_number, fld_many, c1, l1, mkD, hs, h2, ha, dctOf]
end
end Pr
set_option Elab.async false
set_option linter.all false
set_option maxRecDepth 100000
set_option maxHeartbeats 0
namespace K05
open PySem PySem.Spec PyProof.Rows L2 TL
def ex0 : List PySem.Str := [(PySem.Str.ofString "DialError"), (PySem.Str.ofString "BadParts"), (PySem.Str.ofString "BadNumber"), (PySem.Str.ofString "BadText"), (PySem.Str.ofString "BadName"), (PySem.Str.ofString "BadValues"), (PySem.Str.ofString "BadDial"), (PySem.Str.ofString "BadSum")]
def ex : List PySem.Str := ex0
def ow : List PySem.Str := [(PySem.Str.ofString "Sum")]
def N_law_pot : List Str := ["_law_script", "_law_k", "_law_cell", "_law_own", "_law_small"]
abbrev P_law_pot : List Str := ["_law_script", "_law_k"]
def t_law_pot : TSx :=
  (sSeq (sSet 2 (eIf (tBl (eBin ltD (eVar 1) (eArgs lenD (aCons (eVar 0) aNil)))) (eBin ixU (eVar 0) (eVar 1)) (eBin addD (eBin mulD (eC (.int 83)) (eVar 1)) (eC (.int 44)))))
    (sSeq (sSet 3 (eBin mulD (eBin modD (eArgs intD (aCons (eArgs absD (aCons (eVar 2) aNil)) aNil)) (eBin powD (eBin powD (eC (.int 10)) (eC (.int 60))) (eC (.int 5)))) (eArgs intD (aCons (eBin geD (eArgs absD (aCons (eVar 2) aNil)) (eBin powD (eC (.int 10)) (eC (.int 18)))) aNil))))
    (sSeq (sSet 4 (eBin modD (eArgs intD (aCons (eVar 2) aNil)) (eC (.int 2305843009213693951))))
    (sRet (eArgs (mkL true) (aCons (eVar 3) (aCons (eBin modD (eArgs intD (aCons (eBin addD (eBin addD (eBin mulD (eVar 4) (eC (.int 76271))) (eBin mulD (eBin mulD (eC (.int 8219)) (eVar 1)) (eVar 1))) (eC (.int 101))) aNil)) (eC (.int 2305843009213693921))) (aCons (eC (.int 0)) aNil))))))))
def F_law_pot : TF := bodyF 2 N_law_pot t_law_pot
def N_law_take : List Str := ["_law_pot_here", "_law_upto", "_law_digit", "_law_prime", "_law_blend"]
abbrev P_law_take : List Str := ["_law_pot_here", "_law_upto"]
def t_law_take : TSx :=
  (sSeq (sIf (tBl (eBin gtD (eBin ixD (eVar 0) (eC (.int 0))) (eC (.int 0)))) (sSeq (sSet 2 (eBin modD (eArgs intD (aCons (eBin ixD (eVar 0) (eC (.int 0))) aNil)) (eVar 1)))
    (sSeq (sAsg (eBin divD (eBin ixD (eVar 0) (eC (.int 0))) (eVar 1)) (gSb (eVar 0) (eC (.int 0))))
    (sRet (eVar 2)))) sNext)
    (sSeq (sAsg (eBin addD (eBin ixD (eVar 0) (eC (.int 2))) (eC (.int 1))) (gSb (eVar 0) (eC (.int 2))))
    (sSeq (sSet 3 (eBin ixD (eArgs (mkL false) (aCons (eC (.int 2147483647)) (aCons (eC (.int 2147483629)) (aCons (eC (.int 2147483587)) (aCons (eC (.int 2147483579)) (aCons (eC (.int 2147483563)) aNil)))))) (eBin modD (eArgs intD (aCons (eBin ixD (eVar 0) (eC (.int 2))) aNil)) (eC (.int 5)))))
    (sSeq (sSet 4 (eBin modD (eArgs intD (aCons (eBin powD (eArgs intD (aCons (eBin addD (eBin (addU false) (eBin ixD (eVar 0) (eC (.int 1))) (eBin mulD (eBin mulD (eC (.int 91049)) (eBin ixD (eVar 0) (eC (.int 2)))) (eBin ixD (eVar 0) (eC (.int 2))))) (eC (.int 79))) aNil)) (eC (.int 3))) aNil)) (eVar 3)))
    (sRet (eBin modD (eArgs intD (aCons (eBin divD (eBin mulD (eVar 4) (eBin addD (eBin modD (eArgs intD (aCons (eVar 4) aNil)) (eC (.int 10007))) (eBin mulD (eC (.int 97)) (eBin ixD (eVar 0) (eC (.int 2)))))) (eC (.int 127))) aNil)) (eVar 1)))))))
def F_law_take : TF := bodyF 2 N_law_take t_law_take
def N_law_of : List Str := ["_law_pot_here", "_law_some_here"]
abbrev P_law_of : List Str := ["_law_pot_here", "_law_some_here"]
def t_law_of : TSx :=
  (sRet (eBin ixU (eVar 1) (eArgs F_law_take (aCons (eVar 0) (aCons (eArgs lenD (aCons (eVar 1) aNil)) aNil)))))
def F_law_of : TF := bodyF 2 N_law_of t_law_of
def N_law_some : List Str := ["_law_pot_here", "_law_pool", "_law_many_here", "_law_left", "_law_found", "_law_turn"]
abbrev P_law_some : List Str := ["_law_pot_here", "_law_pool", "_law_many_here"]
def t_law_some : TSx :=
  (sSeq (sPar 3 4 (aCons (eArgs (listD true) (aCons (eVar 1) aNil)) (aCons (eArgs (mkL true) aNil) aNil)))
    (sSeq (sFor (iRg1 (aCons (eVar 2) aNil)) (gNm 5) (sExpr (eLm appD (eVar 4) (eLm popD (eVar 3) (eArgs F_law_take (aCons (eVar 0) (aCons (eArgs lenD (aCons (eVar 3) aNil)) aNil)))))))
    (sRet (eVar 4))))
def F_law_some : TF := cutF (bodyF 3 N_law_some t_law_some)
def N_law_names : List Str := ["_law_pot_here", "_law_many_here", "_law_pool"]
abbrev P_law_names : List Str := ["_law_pot_here", "_law_many_here"]
def t_law_names : TSx :=
  (sSeq (sSet 2 (eArgs (mkL false) (aCons (eC (.str "x")) (aCons (eC (.str "r")) (aCons (eC (.str "a")) (aCons (eC (.str "b")) (aCons (eC (.str "own")) (aCons (eC (.str "draw")) (aCons (eC (.str "sum")) (aCons (eC (.str "hand")) (aCons (eC (.str "call")) (aCons (eC (.str "burn")) (aCons (eC (.str "people")) (aCons (eC (.str "zzzzzzzz")) (aCons (eC (.str "round")) (aCons (eC (.str "next")) aNil))))))))))))))))
    (sRet (eArgs F_law_some (aCons (eVar 0) (aCons (eVar 2) (aCons (eVar 1) aNil))))))
def F_law_names : TF := bodyF 2 N_law_names t_law_names
def N_law_places : List Str := ["_law_script", "_law_most"]
abbrev P_law_places : List Str := ["_law_script", "_law_most"]
def t_law_places : TSx :=
  (sRet (eListRg false (aCons (eArgs max2D (aCons (eC (.int 1)) (aCons (eArgs min2D (aCons (eVar 1) (aCons (eArgs lenD (aCons (eVar 0) aNil)) aNil))) aNil))) aNil)))
def F_law_places : TF := bodyF 2 N_law_places t_law_places
def N_law_is_int : List Str := ["_law_value", "_law_low", "_law_high"]
abbrev P_law_is_int : List Str := ["_law_value", "_law_low", "_law_high"]
def t_law_is_int : TSx :=
  (sRet (eAnd (eArgs (isiA ex ow) (aCons (eVar 0) (aCons (eC (.ty "int")) aNil))) (eAnd (eNot (eArgs (isiA ex ow) (aCons (eVar 0) (aCons (eC (.ty "bool")) aNil)))) (eChain leD leD (eVar 1) (eVar 0) (eVar 2)))))
def F_law_is_int : TF := bodyF 3 N_law_is_int t_law_is_int
def N_law_is_word : List Str := ["_law_value", "_law_sign"]
abbrev P_law_is_word : List Str := ["_law_value"]
def t_law_is_word : TSx :=
  (sSeq (sIf (tOrT (tNotT (tTru (eArgs (isiA ex ow) (aCons (eVar 0) (aCons (eC (.ty "str")) aNil))))) (tNotT (tBl (eChain ltD ltD (eC (.int 0)) (eArgs lenD (aCons (eVar 0) aNil)) (eC (.int 9)))))) (sRet (eC (.bl false))) sNext)
    (sRet (eArgs allD (aCons (eLc false [1] (iAny (eVar 0)) (gNm 1) tYesD (eBin insgD (eVar 1) (eC (.str "abcdefghijklmnopqrstuvwxyz")))) aNil))))
def F_law_is_word : TF := bodyF 1 N_law_is_word t_law_is_word
def N_law_odd : List Str := ["_law_pot_here", "_law_some_here"]
abbrev P_law_odd : List Str := ["_law_pot_here"]
def t_law_odd : TSx :=
  (sSeq (sSet 1 (eArgs (mkL false) (aCons (eC .non) (aCons (eC (.bl true)) (aCons (eC (.bl false)) (aCons (eC (.int 0)) (aCons (eC (.int 1)) (aCons (eUn negD (eC (.int 1))) (aCons (eC (.int 2)) (aCons (eC (.int 7)) (aCons (eC (.str "")) (aCons (eC (.str "x")) (aCons (eC (.str "0")) (aCons (eC (.str "ann")) (aCons (eArgs mkT aNil) (aCons (eArgs (mkL false) aNil) (aCons (fun _ S => mkD false [] S) (aCons (eArgs mkT (aCons (eC (.int 0)) aNil)) (aCons (eArgs mkT (aCons (eArgs mkT aNil) aNil)) (aCons (eArgs (mkL false) (aCons (eC (.int 0)) aNil)) (aCons (eArgs mkT (aCons (eC (.str "x")) (aCons (eC (.int 1)) aNil))) (aCons (eDct false (pCons (eC (.str "x")) (eC (.int 1)) pNil)) aNil))))))))))))))))))))))
    (sRet (eArgs F_law_of (aCons (eVar 0) (aCons (eBin (catD false) (eVar 1) (eArgs (mkL false) (aCons (eArgs mkT (aCons (eArgs mkT (aCons (eC (.str "x")) (aCons (eC (.int 1)) aNil))) aNil)) (aCons (eArgs mkT (aCons (eArgs mkT (aCons (eArgs mkT (aCons (eC (.str "x")) (aCons (eC (.int 1)) aNil))) aNil)) (aCons (eC (.int 0)) aNil))) (aCons (eC (.str "2 x")) (aCons (eArgs mkT (aCons (eC (.str "ann")) aNil)) (aCons (eArgs mkT (aCons (eC .non) aNil)) (aCons (eBin powD (eC (.int 10)) (eC (.int 8))) (aCons (eC (.str "A")) (aCons (eArgs mkT (aCons (eC (.bl true)) aNil)) aNil)))))))))) aNil)))))
def F_law_odd : TF := bodyF 1 N_law_odd t_law_odd
def N_law_sum : List Str := ["_law_pairs", "_law_number", "_law_table", "_law_name", "_law_many_here"]
abbrev P_law_sum : List Str := ["_law_pairs", "_law_number"]
def t_law_sum : TSx :=
  (sSeq (sSet 2 (fun _ S => mkD true [] S))
    (sSeq (sFor (iAny (eVar 0)) (gTp 2 (gsCons (gNm 3) (gsCons (gNm 4) gsNil))) (sDput (eVar 2) (eVar 3) (eBin (addU false) (eGet2 (eVar 2) (eVar 3) (eC (.int 0))) (eVar 4))))
    (sRet (eArgs mkT (aCons (eArgs tupleD (aCons (eLc false [3] (iLst (eArgs (sortSetD false) (aCons (eArgs (listKD false) (aCons (eVar 2) aNil)) aNil))) (gNm 3) (tBl (eBin neD (eBin dgetD (eVar 2) (eVar 3)) (eC (.int 0)))) (eArgs mkT (aCons (eVar 3) (aCons (eBin dgetD (eVar 2) (eVar 3)) aNil)))) aNil)) (aCons (eVar 1) aNil))))))
def F_law_sum : TF := cutF (bodyF 2 N_law_sum t_law_sum)
def N_law_plus : List Str := ["_law_one", "_law_other"]
abbrev P_law_plus : List Str := ["_law_one", "_law_other"]
def t_law_plus : TSx :=
  (sRet (eArgs F_law_sum (aCons (eBin (addU false) (eBin ixD (eVar 0) (eC (.int 0))) (eBin ixD (eVar 1) (eC (.int 0)))) (aCons (eBin (addU false) (eBin ixD (eVar 0) (eC (.int 1))) (eBin ixD (eVar 1) (eC (.int 1)))) aNil))))
def F_law_plus : TF := bodyF 2 N_law_plus t_law_plus
def N_law_times : List Str := ["_law_one", "_law_many_here", "_law_name", "_law_its"]
abbrev P_law_times : List Str := ["_law_one", "_law_many_here"]
def t_law_times : TSx :=
  (sRet (eArgs F_law_sum (aCons (eLc false [2, 3] (iAny (eBin ixD (eVar 0) (eC (.int 0)))) (gTp 2 (gsCons (gNm 2) (gsCons (gNm 3) gsNil))) tYesD (eArgs mkT (aCons (eVar 2) (aCons (eBin mulD (eVar 3) (eVar 1)) aNil)))) (aCons (eBin mulD (eBin ixD (eVar 0) (eC (.int 1))) (eVar 1)) aNil))))
def F_law_times : TF := bodyF 2 N_law_times t_law_times
def N_law_put : List Str := ["_law_one", "_law_name", "_law_other", "_law_many_here", "_law_rest", "_law_row"]
abbrev P_law_put : List Str := ["_law_one", "_law_name", "_law_other"]
def t_law_put : TSx :=
  (sSeq (sSet 3 (eGet2 (eArgs (dictLD false) (aCons (eArgs (listD false) (aCons (eBin ixD (eVar 0) (eC (.int 0))) aNil)) aNil)) (eVar 1) (eC (.int 0))))
    (sSeq (sSet 4 (eArgs F_law_sum (aCons (eLc false [5] (iAny (eBin ixD (eVar 0) (eC (.int 0)))) (gNm 5) (tBl (eBin neD (eBin ixD (eVar 5) (eC (.int 0))) (eVar 1))) (eVar 5)) (aCons (eBin ixD (eVar 0) (eC (.int 1))) aNil))))
    (sRet (eArgs F_law_plus (aCons (eVar 4) (aCons (eArgs F_law_times (aCons (eVar 2) (aCons (eVar 3) aNil))) aNil))))))
def F_law_put : TF := bodyF 3 N_law_put t_law_put
def N_law_made : List Str := ["_law_one"]
abbrev P_law_made : List Str := ["_law_one"]
def t_law_made : TSx :=
  (sRet (eCut (eArgs (makeD "Sum" [] (Pr.FSum___init__ ex ow)) (aCons (eBin ixD (eVar 0) (eC (.int 0))) (aCons (eBin ixD (eVar 0) (eC (.int 1))) aNil)))))
def F_law_made : TF := bodyF 1 N_law_made t_law_made
def N_law_pair : List Str := ["_law_made_here"]
abbrev P_law_pair : List Str := ["_law_made_here"]
def t_law_pair : TSx :=
  (sRet (eArgs mkT (aCons (eUn (propD "Sum" (Pr.FSum_parts ex ow)) (eVar 0)) (aCons (eUn (propD "Sum" (Pr.FSum_number ex ow)) (eVar 0)) aNil))))
def F_law_pair : TF := bodyF 1 N_law_pair t_law_pair
def N_law_many : List Str := ["_law_pot_here"]
abbrev P_law_many : List Str := ["_law_pot_here"]
def t_law_many : TSx :=
  (sRet (eArgs F_law_of (aCons (eVar 0) (aCons (eArgs (mkL false) (aCons (eC (.int 1)) (aCons (eC (.int 1)) (aCons (eUn negD (eC (.int 1))) (aCons (eC (.int 2)) (aCons (eC (.int 1)) (aCons (eUn negD (eC (.int 2))) (aCons (eC (.int 3)) (aCons (eC (.int 4)) (aCons (eC (.int 6)) (aCons (eUn negD (eC (.int 3))) (aCons (eC (.int 5)) (aCons (eC (.int 9)) (aCons (eUn negD (eC (.int 9))) (aCons (eC (.int 8)) aNil))))))))))))))) aNil))))
def F_law_many : TF := bodyF 1 N_law_many t_law_many
def N_law_some_sum : List Str := ["_law_pot_here", "_law_names_here", "_law_most", "_law_some_here", "_law_name"]
abbrev P_law_some_sum : List Str := ["_law_pot_here", "_law_names_here", "_law_most"]
def t_law_some_sum : TSx :=
  (sSeq (sSet 3 (eArgs F_law_some (aCons (eVar 0) (aCons (eVar 1) (aCons (eArgs min2D (aCons (eArgs lenD (aCons (eVar 1) aNil)) (aCons (eArgs intD (aCons (eArgs F_law_take (aCons (eVar 0) (aCons (eBin addD (eVar 2) (eC (.int 1))) aNil))) aNil)) aNil))) aNil)))))
    (sRet (eArgs F_law_sum (aCons (eLc false [4] (iLst (eVar 3)) (gNm 4) tYesD (eArgs mkT (aCons (eVar 4) (aCons (eArgs F_law_many (aCons (eVar 0) aNil)) aNil)))) (aCons (eArgs F_law_of (aCons (eVar 0) (aCons (eArgs (mkL false) (aCons (eC (.int 0)) (aCons (eC (.int 0)) (aCons (eC (.int 0)) (aCons (eC (.int 1)) (aCons (eUn negD (eC (.int 1))) (aCons (eC (.int 5)) (aCons (eUn negD (eC (.int 99))) (aCons (eC (.int 99)) aNil))))))))) aNil))) aNil)))))
def F_law_some_sum : TF := bodyF 3 N_law_some_sum t_law_some_sum
def N_law_comes : List Str := ["_law_one", "_law_values", "_law_name", "_law_many_here"]
abbrev P_law_comes : List Str := ["_law_one", "_law_values"]
def t_law_comes : TSx :=
  (sRet (eBin (addU false) (eArgs sumD (aCons (eLc false [2, 3] (iAny (eBin ixD (eVar 0) (eC (.int 0)))) (gTp 2 (gsCons (gNm 2) (gsCons (gNm 3) gsNil))) tYesD (eBin mulD (eVar 3) (eBin dgetD (eVar 1) (eVar 2)))) aNil)) (eBin ixD (eVar 0) (eC (.int 1)))))
def F_law_comes : TF := bodyF 2 N_law_comes t_law_comes
def N_law_rests_right : List Str := ["_law_pot_here", "_law_one", "_law_made_here", "_law_some_here", "_law_dial", "_law_caught", "_law_heard", "_law_due", "_law_name", "_law_many_here"]
abbrev P_law_rests_right : List Str := ["_law_pot_here", "_law_one", "_law_made_here"]
def t_law_rests_right : TSx :=
  (sSeq (sSet 3 (eArgs (mkL false) (aCons (eC (.int 2)) (aCons (eC (.int 3)) (aCons (eC (.int 10)) (aCons (eC (.int 97)) (aCons (eBin powD (eC (.int 10)) (eC (.int 6))) (aCons (eBin addD (eBin powD (eC (.int 10)) (eC (.int 6))) (eC (.int 1))) (aCons (eC (.int 1)) (aCons (eC (.int 0)) (aCons (eUn negD (eC (.int 2))) (aCons (eC (.bl true)) (aCons (eC .non) (aCons (eC (.str "6")) (aCons (eArgs mkT (aCons (eC (.int 6)) aNil)) (aCons (eArgs F_law_odd (aCons (eVar 0) aNil)) (aCons (eBin addD (eC (.int 2)) (eArgs F_law_take (aCons (eVar 0) (aCons (eC (.int 40)) aNil)))) aNil)))))))))))))))))
    (sSeq (sFor (iLst (eVar 3)) (gNm 4) (sSeq (sAsg (eTold ex 0 "_law_rests_right" (eBin (ownL "Sum" (Pr.FSum___mod__ ex ow) modD) (eVar 2) (eVar 4))) (gTp 2 (gsCons (gNm 5) (gsCons (gNm 6) gsNil))))
    (sIf (tTru (eArgs F_law_is_int (aCons (eVar 4) (aCons (eC (.int 2)) (aCons (eBin powD (eC (.int 10)) (eC (.int 6))) aNil))))) (sSeq (sSet 7 (eArgs F_law_sum (aCons (eLc false [8, 9] (iAny (eBin ixD (eVar 1) (eC (.int 0)))) (gTp 2 (gsCons (gNm 8) (gsCons (gNm 9) gsNil))) tYesD (eArgs mkT (aCons (eVar 8) (aCons (eBin modD (eArgs intD (aCons (eVar 9) aNil)) (eVar 4)) aNil)))) (aCons (eBin modD (eArgs intD (aCons (eBin ixD (eVar 1) (eC (.int 1))) aNil)) (eVar 4)) aNil))))
    (sIf (tOrT (tBl (eBin notND (eVar 5) (eC .non))) (tBl (eBin neD (eArgs reprD (aCons (eArgs F_law_pair (aCons (eVar 6) aNil)) aNil)) (eArgs reprD (aCons (eVar 7) aNil))))) (sRet (eC (.bl false))) sNext)) (sIf (tOrT (tNotT (tTru (eArgs (isiA ex ow) (aCons (eVar 5) (aCons (eC (.cls "BadDial")) aNil))))) (tBl (eBin neD (eArgs reprD (aCons (eUn (valE ex) (eVar 5)) aNil)) (eArgs reprD (aCons (eVar 4) aNil))))) (sRet (eC (.bl false))) sNext))))
    (sRet (eC (.bl true)))))
def F_law_rests_right : TF := bodyF 3 N_law_rests_right t_law_rests_right
def N_law_are_values : List Str := ["_law_one", "_law_value", "_law_name", "_law_many_here"]
abbrev P_law_are_values : List Str := ["_law_one", "_law_value"]
def t_law_are_values : TSx :=
  (sSeq (sIf (tOrT (tNotT (tTru (eArgs (isiA ex ow) (aCons (eVar 1) (aCons (eC (.ty "dict")) aNil))))) (tNotT (tTru (eArgs allD (aCons (eLc false [2] (iLst (eArgs (listKF false) (aCons (eVar 1) aNil))) (gNm 2) tYesD (eArgs F_law_is_word (aCons (eVar 2) aNil))) aNil))))) (sRet (eC (.bl false))) sNext)
    (sSeq (sIf (tNotT (tTru (eArgs allD (aCons (eLc false [2] (iLst (eArgs (listKF false) (aCons (eVar 1) aNil))) (gNm 2) tYesD (eArgs F_law_is_int (aCons (eBin dgetD (eVar 1) (eVar 2)) (aCons (eUn negD (eBin powD (eC (.int 10)) (eC (.int 12)))) (aCons (eBin powD (eC (.int 10)) (eC (.int 12))) aNil))))) aNil)))) (sRet (eC (.bl false))) sNext)
    (sRet (eArgs allD (aCons (eLc false [2, 3] (iAny (eBin ixD (eVar 0) (eC (.int 0)))) (gTp 2 (gsCons (gNm 2) (gsCons (gNm 3) gsNil))) tYesD (eBin dinD (eVar 2) (eVar 1))) aNil)))))
def F_law_are_values : TF := bodyF 2 N_law_are_values t_law_are_values
def N_law_values_right : List Str := ["_law_pot_here", "_law_one", "_law_made_here", "_law_names_here", "_law_plain", "_law_some_here", "_law_value", "_law_caught", "_law_heard", "_law_name"]
abbrev P_law_values_right : List Str := ["_law_pot_here", "_law_one", "_law_made_here", "_law_names_here"]
def t_law_values_right : TSx :=
  (sSeq (sSet 4 (eArgs (dictLD false) (aCons (eLc false [9] (iLst (eVar 3)) (gNm 9) tYesD (eArgs mkT (aCons (eVar 9) (aCons (eBin subD (eArgs F_law_take (aCons (eVar 0) (aCons (eC (.int 30)) aNil))) (eC (.int 9))) aNil)))) aNil)))
    (sSeq (sSet 5 (eArgs (mkL false) (aCons (eVar 4) (aCons (eArgs (dictLD false) (aCons (eBin (catD false) (eLsI (eVar 4)) (eArgs (mkL false) (aCons (eArgs mkT (aCons (eC (.str "zq")) (aCons (eC (.int 3)) aNil))) aNil))) aNil)) (aCons (eArgs (dictLD false) (aCons (eBin (catD false) (eLsI (eVar 4)) (eArgs (mkL false) (aCons (eArgs mkT (aCons (eC (.str "zq")) (aCons (eC (.bl true)) aNil))) aNil))) aNil)) (aCons (fun _ S => mkD false [] S) (aCons (eC .non) (aCons (eArgs (mkL false) aNil) (aCons (eC (.int 0)) aNil)))))))))
    (sSeq (sSet 5 (eBin (catD false) (eVar 5) (eArgs (mkL false) (aCons (eArgs (dictLD false) (aCons (eBin (catD false) (eLsI (eVar 4)) (eArgs (mkL false) (aCons (eArgs mkT (aCons (eC (.str "A")) (aCons (eC (.int 3)) aNil))) aNil))) aNil)) (aCons (eArgs (dictLD false) (aCons (eBin (catD false) (eLsI (eVar 4)) (eArgs (mkL false) (aCons (eArgs mkT (aCons (eC (.int 5)) (aCons (eC (.int 3)) aNil))) aNil))) aNil)) (aCons (eArgs F_law_odd (aCons (eVar 0) aNil)) aNil))))))
    (sSeq (sSet 5 (eBin (catD false) (eVar 5) (eArgs (mkL false) (aCons (eArgs (dictLD false) (aCons (eSl false (eLsI (eVar 4)) (oSome (eC (.int 1))) oNil) aNil)) (aCons (eArgs (dictLD false) (aCons (eUn (backLD false) (eLsI (eVar 4))) aNil)) (aCons (eLsI (eVar 4)) aNil))))))
    (sSeq (sFor (iLst (eVar 5)) (gNm 6) (sSeq (sAsg (eTold ex 1 "_law_values_right" (eCallO "Sum" (Pr.FSum___call__ ex ow) (eVar 2) (aCons (eVar 6) aNil))) (gTp 2 (gsCons (gNm 7) (gsCons (gNm 8) gsNil))))
    (sIf (tTru (eArgs F_law_are_values (aCons (eVar 1) (aCons (eVar 6) aNil)))) (sIf (tOrT (tBl (eBin notND (eVar 7) (eC .non))) (tBl (eBin neD (eArgs reprD (aCons (eVar 8) aNil)) (eArgs reprD (aCons (eArgs F_law_comes (aCons (eVar 1) (aCons (eVar 6) aNil))) aNil))))) (sRet (eC (.bl false))) sNext) (sIf (tOrT (tNotT (tTru (eArgs (isiA ex ow) (aCons (eVar 7) (aCons (eC (.cls "BadValues")) aNil))))) (tBl (eBin neD (eArgs reprD (aCons (eUn (valE ex) (eVar 7)) aNil)) (eArgs reprD (aCons (eVar 6) aNil))))) (sRet (eC (.bl false))) sNext))))
    (sRet (eC (.bl true))))))))
def F_law_values_right : TF := bodyF 4 N_law_values_right t_law_values_right
def N_law_right : List Str := ["_law_pot_here", "_law_names_here", "_law_one", "_law_other", "_law_made_here", "_law_its", "_law_name", "_law_thing", "_law_caught", "_law_heard"]
abbrev P_law_right : List Str := ["_law_pot_here"]
def t_law_right : TSx :=
  (sSeq (sSet 1 (eArgs F_law_names (aCons (eVar 0) (aCons (eC (.int 5)) aNil))))
    (sSeq (sPar 2 3 (aCons (eArgs F_law_some_sum (aCons (eVar 0) (aCons (eVar 1) (aCons (eC (.int 4)) aNil)))) (aCons (eArgs F_law_some_sum (aCons (eVar 0) (aCons (eVar 1) (aCons (eC (.int 4)) aNil)))) aNil)))
    (sSeq (sAsg (eArgs mkT (aCons (eArgs F_law_made (aCons (eVar 2) aNil)) (aCons (eArgs F_law_made (aCons (eVar 3) aNil)) aNil))) (gTp 2 (gsCons (gNm 4) (gsCons (gNm 5) gsNil))))
    (sSeq (sIf (tOrT (tNotT (tTru (eArgs F_law_rests_right (aCons (eVar 0) (aCons (eVar 2) (aCons (eVar 4) aNil)))))) (tNotT (tTru (eArgs F_law_values_right (aCons (eVar 0) (aCons (eVar 2) (aCons (eVar 4) (aCons (eVar 1) aNil)))))))) (sRet (eC (.bl false))) sNext)
    (sSeq (sFor (iLst (eBin (catD false) (eVar 1) (eArgs (mkL false) (aCons (eC (.str "zq")) (aCons (eC .non) (aCons (eC (.str "A")) (aCons (eC (.str "")) (aCons (eC (.bl true)) (aCons (eArgs F_law_odd (aCons (eVar 0) aNil)) aNil))))))))) (gNm 6) (sFor (iTp (eArgs mkT (aCons (eVar 5) (aCons (eVar 4) (aCons (eC .non) (aCons (eC (.int 3)) (aCons (eVar 3) (aCons (eArgs F_law_odd (aCons (eVar 0) aNil)) aNil)))))))) (gNm 7) (sSeq (sAsg (eTold ex 2 "_law_right" (eMeth "Sum" "put" (Pr.FSum_put ex ow) (eVar 4) (aCons (eVar 6) (aCons (eVar 7) aNil)))) (gTp 2 (gsCons (gNm 8) (gsCons (gNm 9) gsNil))))
    (sIf (tNotT (tTru (eArgs F_law_is_word (aCons (eVar 6) aNil)))) (sIf (tOrT (tNotT (tTru (eArgs (isiA ex ow) (aCons (eVar 8) (aCons (eC (.cls "BadName")) aNil))))) (tBl (eBin neD (eArgs reprD (aCons (eUn (valE ex) (eVar 8)) aNil)) (eArgs reprD (aCons (eVar 6) aNil))))) (sRet (eC (.bl false))) sNext) (sIf (tNotT (tTru (eArgs (isiA ex ow) (aCons (eVar 7) (aCons (eC (.cls "Sum")) aNil))))) (sIf (tOrT (tNotT (tTru (eArgs (isiA ex ow) (aCons (eVar 8) (aCons (eC (.cls "BadSum")) aNil))))) (tBl (eBin neD (eArgs reprD (aCons (eUn (valE ex) (eVar 8)) aNil)) (eArgs reprD (aCons (eVar 7) aNil))))) (sRet (eC (.bl false))) sNext) (sIf (tOrT (tBl (eBin notND (eVar 8) (eC .non))) (tBl (eBin neD (eArgs reprD (aCons (eArgs F_law_pair (aCons (eVar 9) aNil)) aNil)) (eArgs reprD (aCons (eArgs F_law_put (aCons (eVar 2) (aCons (eVar 6) (aCons (eArgs F_law_pair (aCons (eVar 7) aNil)) aNil)))) aNil))))) (sRet (eC (.bl false))) sNext))))))
    (sRet (eBin eqD (eArgs reprD (aCons (eArgs F_law_pair (aCons (eVar 4) aNil)) aNil)) (eArgs reprD (aCons (eVar 2) aNil)))))))))
def F_law_right : TF := cutF (bodyF 1 N_law_right t_law_right)
def Nlaw : List Str := ["_law_script", "_law_place"]
abbrev Plaw : List Str := ["_law_script"]
def tlaw : TSx :=
  (sRet (eArgs allD (aCons (eLc false [1] (iLst (eArgs F_law_places (aCons (eVar 0) (aCons (eC (.int 6)) aNil)))) (gNm 1) tYesD (eArgs F_law_right (aCons (eArgs F_law_pot (aCons (eVar 0) (aCons (eVar 1) aNil))) aNil))) aNil)))
def Flaw : TF := bodyF 1 Nlaw tlaw
end K05
set_option Elab.async false
set_option linter.all false
set_option maxRecDepth 100000
set_option maxHeartbeats 0
namespace K05
open PySem PySem.Spec PyProof.Rows L2 TL
abbrev Pg : Program := PySem.Challenge.pw_dialsums_k05_rests_and_what_is_put_in
def top (i : Nat) : Stmt := Pg.main.body.getD i (.Pass ⟨0, 0, 0, 0⟩)

abbrev sis_whole : Stmt := top 17
def dis_whole : DefX := ⟨(adG "is_whole"), "is_whole", "is_whole", defArgs sis_whole, defBody sis_whole, defScope sis_whole, [], []⟩
abbrev sis_integer : Stmt := top 18
def dis_integer : DefX := ⟨(adG "is_integer"), "is_integer", "is_integer", defArgs sis_integer, defBody sis_integer, defScope sis_integer, [], []⟩
abbrev sis_tuple : Stmt := top 19
def dis_tuple : DefX := ⟨(adG "is_tuple"), "is_tuple", "is_tuple", defArgs sis_tuple, defBody sis_tuple, defScope sis_tuple, [], []⟩
abbrev sis_name : Stmt := top 20
def dis_name : DefX := ⟨(adG "is_name"), "is_name", "is_name", defArgs sis_name, defBody sis_name, defScope sis_name, [], []⟩
abbrev sdo_ascend : Stmt := top 21
def ddo_ascend : DefX := ⟨(adG "do_ascend"), "do_ascend", "do_ascend", defArgs sdo_ascend, defBody sdo_ascend, defScope sdo_ascend, [], []⟩
abbrev scheck_dial : Stmt := top 23
def dcheck_dial : DefX := ⟨(adG "check_dial"), "check_dial", "check_dial", defArgs scheck_dial, defBody scheck_dial, defScope scheck_dial, [], []⟩
abbrev sis_part : Stmt := top 27
def dis_part : DefX := ⟨(adG "is_part"), "is_part", "is_part", defArgs sis_part, defBody sis_part, defScope sis_part, [], []⟩
abbrev sare_parts : Stmt := top 28
def dare_parts : DefX := ⟨(adG "are_parts"), "are_parts", "are_parts", defArgs sare_parts, defBody sare_parts, defScope sare_parts, [], []⟩
abbrev sSum___init__ : Stmt := inClass (top 36) 0
def dSum___init__ : DefX := ⟨(adM "Sum" "__init__"), "__init__", "Sum.__init__", defArgs sSum___init__, defBody sSum___init__, defScope sSum___init__, [.adr (adD (adM "Sum" "__init__") 0), .int 0], []⟩
abbrev ssum_of : Stmt := top 29
def dsum_of : DefX := ⟨(adG "sum_of"), "sum_of", "sum_of", defArgs ssum_of, defBody ssum_of, defScope ssum_of, [], []⟩
abbrev sadded : Stmt := top 38
def dadded : DefX := ⟨(adG "added"), "added", "added", defArgs sadded, defBody sadded, defScope sadded, [], []⟩
abbrev sare_values : Stmt := top 37
def dare_values : DefX := ⟨(adG "are_values"), "are_values", "are_values", defArgs sare_values, defBody sare_values, defScope sare_values, [], []⟩
abbrev sSum_parts : Stmt := inClass (top 36) 1
def dSum_parts : DefX := ⟨(adR "Sum" "parts" "property"), "parts", "Sum.parts", defArgs sSum_parts, defBody sSum_parts, defScope sSum_parts, [], []⟩
abbrev sSum_number : Stmt := inClass (top 36) 2
def dSum_number : DefX := ⟨(adR "Sum" "number" "property"), "number", "Sum.number", defArgs sSum_number, defBody sSum_number, defScope sSum_number, [], []⟩
abbrev sSum___call__ : Stmt := inClass (top 36) 10
def dSum___call__ : DefX := ⟨(adM "Sum" "__call__"), "__call__", "Sum.__call__", defArgs sSum___call__, defBody sSum___call__, defScope sSum___call__, [], []⟩
abbrev sSum___mod__ : Stmt := inClass (top 36) 19
def dSum___mod__ : DefX := ⟨(adM "Sum" "__mod__"), "__mod__", "Sum.__mod__", defArgs sSum___mod__, defBody sSum___mod__, defScope sSum___mod__, [], []⟩
abbrev sSum_put : Stmt := inClass (top 36) 20
def dSum_put : DefX := ⟨(adM "Sum" "put"), "put", "Sum.put", defArgs sSum_put, defBody sSum_put, defScope sSum_put, [], []⟩
abbrev s_law_pot : Stmt := top 41
def d_law_pot : DefX := ⟨(adG "_law_pot"), "_law_pot", "_law_pot", defArgs s_law_pot, defBody s_law_pot, defScope s_law_pot, [], []⟩
abbrev s_law_take : Stmt := top 42
def d_law_take : DefX := ⟨(adG "_law_take"), "_law_take", "_law_take", defArgs s_law_take, defBody s_law_take, defScope s_law_take, [], []⟩
abbrev s_law_of : Stmt := top 43
def d_law_of : DefX := ⟨(adG "_law_of"), "_law_of", "_law_of", defArgs s_law_of, defBody s_law_of, defScope s_law_of, [], []⟩
abbrev s_law_some : Stmt := top 44
def d_law_some : DefX := ⟨(adG "_law_some"), "_law_some", "_law_some", defArgs s_law_some, defBody s_law_some, defScope s_law_some, [], []⟩
abbrev s_law_names : Stmt := top 45
def d_law_names : DefX := ⟨(adG "_law_names"), "_law_names", "_law_names", defArgs s_law_names, defBody s_law_names, defScope s_law_names, [], []⟩
abbrev s_law_places : Stmt := top 46
def d_law_places : DefX := ⟨(adG "_law_places"), "_law_places", "_law_places", defArgs s_law_places, defBody s_law_places, defScope s_law_places, [], []⟩
abbrev s_law_told : Stmt := top 47
def d_law_told : DefX := ⟨(adG "_law_told"), "_law_told", "_law_told", defArgs s_law_told, defBody s_law_told, defScope s_law_told, [], []⟩
abbrev s_law_is_int : Stmt := top 48
def d_law_is_int : DefX := ⟨(adG "_law_is_int"), "_law_is_int", "_law_is_int", defArgs s_law_is_int, defBody s_law_is_int, defScope s_law_is_int, [], []⟩
abbrev s_law_is_word : Stmt := top 49
def d_law_is_word : DefX := ⟨(adG "_law_is_word"), "_law_is_word", "_law_is_word", defArgs s_law_is_word, defBody s_law_is_word, defScope s_law_is_word, [], []⟩
abbrev s_law_odd : Stmt := top 50
def d_law_odd : DefX := ⟨(adG "_law_odd"), "_law_odd", "_law_odd", defArgs s_law_odd, defBody s_law_odd, defScope s_law_odd, [], []⟩
abbrev s_law_sum : Stmt := top 51
def d_law_sum : DefX := ⟨(adG "_law_sum"), "_law_sum", "_law_sum", defArgs s_law_sum, defBody s_law_sum, defScope s_law_sum, [], []⟩
abbrev s_law_plus : Stmt := top 52
def d_law_plus : DefX := ⟨(adG "_law_plus"), "_law_plus", "_law_plus", defArgs s_law_plus, defBody s_law_plus, defScope s_law_plus, [], []⟩
abbrev s_law_times : Stmt := top 53
def d_law_times : DefX := ⟨(adG "_law_times"), "_law_times", "_law_times", defArgs s_law_times, defBody s_law_times, defScope s_law_times, [], []⟩
abbrev s_law_put : Stmt := top 54
def d_law_put : DefX := ⟨(adG "_law_put"), "_law_put", "_law_put", defArgs s_law_put, defBody s_law_put, defScope s_law_put, [], []⟩
abbrev s_law_made : Stmt := top 55
def d_law_made : DefX := ⟨(adG "_law_made"), "_law_made", "_law_made", defArgs s_law_made, defBody s_law_made, defScope s_law_made, [], []⟩
abbrev s_law_pair : Stmt := top 56
def d_law_pair : DefX := ⟨(adG "_law_pair"), "_law_pair", "_law_pair", defArgs s_law_pair, defBody s_law_pair, defScope s_law_pair, [], []⟩
abbrev s_law_many : Stmt := top 57
def d_law_many : DefX := ⟨(adG "_law_many"), "_law_many", "_law_many", defArgs s_law_many, defBody s_law_many, defScope s_law_many, [], []⟩
abbrev s_law_some_sum : Stmt := top 58
def d_law_some_sum : DefX := ⟨(adG "_law_some_sum"), "_law_some_sum", "_law_some_sum", defArgs s_law_some_sum, defBody s_law_some_sum, defScope s_law_some_sum, [], []⟩
abbrev s_law_comes : Stmt := top 59
def d_law_comes : DefX := ⟨(adG "_law_comes"), "_law_comes", "_law_comes", defArgs s_law_comes, defBody s_law_comes, defScope s_law_comes, [], []⟩
abbrev s_law_rests_right : Stmt := top 60
def d_law_rests_right : DefX := ⟨(adG "_law_rests_right"), "_law_rests_right", "_law_rests_right", defArgs s_law_rests_right, defBody s_law_rests_right, defScope s_law_rests_right, [], []⟩
abbrev s_law_are_values : Stmt := top 61
def d_law_are_values : DefX := ⟨(adG "_law_are_values"), "_law_are_values", "_law_are_values", defArgs s_law_are_values, defBody s_law_are_values, defScope s_law_are_values, [], []⟩
abbrev s_law_values_right : Stmt := top 62
def d_law_values_right : DefX := ⟨(adG "_law_values_right"), "_law_values_right", "_law_values_right", defArgs s_law_values_right, defBody s_law_values_right, defScope s_law_values_right, [], []⟩
abbrev s_law_right : Stmt := top 63
def d_law_right : DefX := ⟨(adG "_law_right"), "_law_right", "_law_right", defArgs s_law_right, defBody s_law_right, defScope s_law_right, [], []⟩
abbrev slaw : Stmt := top 64
def dlaw : DefX := ⟨(adG "law"), "law", "law", defArgs slaw, defBody slaw, defScope slaw, [], []⟩
def fn : List DefX := [dis_whole, dis_integer, dis_tuple, dis_name, ddo_ascend, dcheck_dial, dis_part, dare_parts, dSum___init__, dsum_of, dadded, dare_values, dSum_parts, dSum_number, dSum___call__, dSum___mod__, dSum_put, d_law_pot, d_law_take, d_law_of, d_law_some, d_law_names, d_law_places, d_law_told, d_law_is_int, d_law_is_word, d_law_odd, d_law_sum, d_law_plus, d_law_times, d_law_put, d_law_made, d_law_pair, d_law_many, d_law_some_sum, d_law_comes, d_law_rests_right, d_law_are_values, d_law_values_right, d_law_right, dlaw]
def ini : IniD := ⟨"__init__", "DialError.__init__", ⟨4, 17, 4, 21⟩, ⟨4, 23, 4, 28⟩, ⟨5, 8, 5, 13⟩, ⟨5, 8, 5, 15⟩, ⟨5, 8, 5, 24⟩, ⟨5, 25, 5, 30⟩, ⟨5, 8, 5, 31⟩, ⟨5, 8, 5, 31⟩, ⟨6, 8, 6, 12⟩, ⟨6, 8, 6, 18⟩, ⟨6, 21, 6, 26⟩, ⟨6, 8, 6, 26⟩⟩
def iniV : IniV := ini.val
def fb0 : List Fb := [sysB, freeB "len", freeB "int", freeB "abs", freeB "max", freeB "min", freeB "list", freeB "range", freeB "isinstance", freeB "str", freeB "repr", freeB "all", freeB "bool", freeB "tuple", freeB "sum", freeB "set", freeB "sorted", freeB "dict", freeB "zip", freeB "super", faB (.str "LETTERS" "abcdefghijklmnopqrstuvwxyz"), faB (.int "MOST_LETTERS" 8), faB (.int "LEAST_DIAL" 2), faB (.int "MOST_DIAL" 1000000), faB (.int "PAIR" 2), gloB "is_whole", gloB "is_integer", gloB "is_tuple", gloB "is_name", gloB "do_ascend", gloB "check_dial", gloB "is_part", gloB "are_parts", gloB "sum_of", gloB "added", gloB "are_values"]
def fb1 : List Fb := [gloB "_law_pot", gloB "_law_take", gloB "_law_of", gloB "_law_some", gloB "_law_names", gloB "_law_places", gloB "_law_told", gloB "_law_is_int", gloB "_law_is_word", gloB "_law_odd", gloB "_law_sum", gloB "_law_plus", gloB "_law_times", gloB "_law_put", gloB "_law_made", gloB "_law_pair", gloB "_law_many", gloB "_law_some_sum", gloB "_law_comes", gloB "_law_rests_right", gloB "_law_are_values", gloB "_law_values_right", gloB "_law_right", gloB "law", gloB "Sum", faB (.cls "Sum"), fnB "Sum" "__call__", ownAnyB "Sum" "mod", faB (.mkr "Sum"), tup0B (adD (adM "Sum" "__init__") 0), propB "Sum" "parts", propB "Sum" "number", faB (.meth "Sum" "__call__"), faB (.meth "Sum" "__mod__"), faB (.meth "Sum" "put"), faB (.noat "Sum" "own_parts")]
def fb2 : List Fb := [faB (.noat "Sum" "own_number"), faB (.noat "Sum" "own_many"), exsB ex, ifnB Pg.main.file, isfB ex ow]
def fb : List Fb := fb0 ++ fb1 ++ fb2
def loose0 : List PySem.Str := [(PySem.Str.ofString "DialError"), (PySem.Str.ofString "BadParts"), (PySem.Str.ofString "BadNumber"), (PySem.Str.ofString "BadText"), (PySem.Str.ofString "BadName"), (PySem.Str.ofString "BadValues"), (PySem.Str.ofString "BadDial"), (PySem.Str.ofString "BadSum"), (PySem.Str.ofString "Sum"), (PySem.Str.ofString "is_whole"), (PySem.Str.ofString "is_integer"), (PySem.Str.ofString "is_tuple"), (PySem.Str.ofString "is_name"), (PySem.Str.ofString "do_ascend"), (PySem.Str.ofString "integer_in"), (PySem.Str.ofString "check_dial"), (PySem.Str.ofString "is_part"), (PySem.Str.ofString "are_parts"), (PySem.Str.ofString "sum_of"), (PySem.Str.ofString "term_text"), (PySem.Str.ofString "text_of"), (PySem.Str.ofString "term_at"), (PySem.Str.ofString "signed_words"), (PySem.Str.ofString "read"), (PySem.Str.ofString "sum_in"), (PySem.Str.ofString "are_values"), (PySem.Str.ofString "added"), (PySem.Str.ofString "times"), (PySem.Str.ofString "_law_pot"), (PySem.Str.ofString "_law_take"), (PySem.Str.ofString "_law_of"), (PySem.Str.ofString "_law_some"), (PySem.Str.ofString "_law_names"), (PySem.Str.ofString "_law_places"), (PySem.Str.ofString "_law_told"), (PySem.Str.ofString "_law_is_int")]
def loose1 : List PySem.Str := [(PySem.Str.ofString "_law_is_word"), (PySem.Str.ofString "_law_odd"), (PySem.Str.ofString "_law_sum"), (PySem.Str.ofString "_law_plus"), (PySem.Str.ofString "_law_times"), (PySem.Str.ofString "_law_put"), (PySem.Str.ofString "_law_made"), (PySem.Str.ofString "_law_pair"), (PySem.Str.ofString "_law_many"), (PySem.Str.ofString "_law_some_sum"), (PySem.Str.ofString "_law_comes"), (PySem.Str.ofString "_law_rests_right"), (PySem.Str.ofString "_law_are_values"), (PySem.Str.ofString "_law_values_right"), (PySem.Str.ofString "_law_right"), (PySem.Str.ofString "BLANK"), (PySem.Str.ofString "FIGURES"), (PySem.Str.ofString "LEAST_DIAL"), (PySem.Str.ofString "LETTERS"), (PySem.Str.ofString "MINUS"), (PySem.Str.ofString "MOST_DIAL"), (PySem.Str.ofString "MOST_LETTERS"), (PySem.Str.ofString "PAIR"), (PySem.Str.ofString "PLUS")]
def loose : List PySem.Str := loose0 ++ loose1
abbrev R : PySem.W.OpenRow := PySem.W.OpenLaw.row PySem.Challenge.rw_dialsums_k05_rests_and_what_is_put_in
def ms : List Str := ["_law_rests_right", "_law_values_right", "_law_right"]
abbrev hk : PySem.W.Hook := hookXT 6 ms fb fn iniV
def ob (s : PySem.W.SharedT) : AlT := obsXT 6 ms fb fn (HandSHeadRun.getT s)
theorem ob_eq (s : PySem.W.SharedT) : ob s = hk.obs s.abs := obsXT_eq (HandSHeadRun.getT_eq s)
theorem run (w : World) : HandSHeadRun.RunEq R (PySem.W.view R.prog [64]) hk ob 12000 loose w := by
  intro os
  kernel_rfl
end K05
set_option Elab.async false
set_option linter.all false
set_option maxRecDepth 100000
set_option maxHeartbeats 0
namespace K05
open PySem PySem.Spec PyProof.Rows L2 TL LamX
structure Fax (K : PySem.W.Frag) (mg : Str → Option Value) : Prop where
  sys : ∃ os, K.lookup sysModules = some os
  f_len : mg "len" = none
  f_int : mg "int" = none
  f_abs : mg "abs" = none
  f_max : mg "max" = none
  f_min : mg "min" = none
  f_list : mg "list" = none
  f_range : mg "range" = none
  f_isinstance : mg "isinstance" = none
  f_str : mg "str" = none
  f_repr : mg "repr" = none
  f_all : mg "all" = none
  f_bool : mg "bool" = none
  f_tuple : mg "tuple" = none
  f_sum : mg "sum" = none
  f_set : mg "set" = none
  f_sorted : mg "sorted" = none
  f_dict : mg "dict" = none
  f_zip : mg "zip" = none
  f_super : mg "super" = none
  nLETTERS : ∃ t, mg "LETTERS" = some (.str "abcdefghijklmnopqrstuvwxyz" t)
  nMOST_LETTERS : ∃ t, mg "MOST_LETTERS" = some (.int 8 t)
  nLEAST_DIAL : ∃ t, mg "LEAST_DIAL" = some (.int 2 t)
  nMOST_DIAL : ∃ t, mg "MOST_DIAL" = some (.int 1000000 t)
  nPAIR : ∃ t, mg "PAIR" = some (.int 2 t)
  gis_whole : mg "is_whole" = some (.ref (He.ga K "is_whole"))
  gis_integer : mg "is_integer" = some (.ref (He.ga K "is_integer"))
  gis_tuple : mg "is_tuple" = some (.ref (He.ga K "is_tuple"))
  gis_name : mg "is_name" = some (.ref (He.ga K "is_name"))
  gdo_ascend : mg "do_ascend" = some (.ref (He.ga K "do_ascend"))
  gcheck_dial : mg "check_dial" = some (.ref (He.ga K "check_dial"))
  gis_part : mg "is_part" = some (.ref (He.ga K "is_part"))
  gare_parts : mg "are_parts" = some (.ref (He.ga K "are_parts"))
  gsum_of : mg "sum_of" = some (.ref (He.ga K "sum_of"))
  gadded : mg "added" = some (.ref (He.ga K "added"))
  gare_values : mg "are_values" = some (.ref (He.ga K "are_values"))
  g_law_pot : mg "_law_pot" = some (.ref (He.ga K "_law_pot"))
  g_law_take : mg "_law_take" = some (.ref (He.ga K "_law_take"))
  g_law_of : mg "_law_of" = some (.ref (He.ga K "_law_of"))
  g_law_some : mg "_law_some" = some (.ref (He.ga K "_law_some"))
  g_law_names : mg "_law_names" = some (.ref (He.ga K "_law_names"))
  g_law_places : mg "_law_places" = some (.ref (He.ga K "_law_places"))
  g_law_told : mg "_law_told" = some (.ref (He.ga K "_law_told"))
  g_law_is_int : mg "_law_is_int" = some (.ref (He.ga K "_law_is_int"))
  g_law_is_word : mg "_law_is_word" = some (.ref (He.ga K "_law_is_word"))
  g_law_odd : mg "_law_odd" = some (.ref (He.ga K "_law_odd"))
  g_law_sum : mg "_law_sum" = some (.ref (He.ga K "_law_sum"))
  g_law_plus : mg "_law_plus" = some (.ref (He.ga K "_law_plus"))
  g_law_times : mg "_law_times" = some (.ref (He.ga K "_law_times"))
  g_law_put : mg "_law_put" = some (.ref (He.ga K "_law_put"))
  g_law_made : mg "_law_made" = some (.ref (He.ga K "_law_made"))
  g_law_pair : mg "_law_pair" = some (.ref (He.ga K "_law_pair"))
  g_law_many : mg "_law_many" = some (.ref (He.ga K "_law_many"))
  g_law_some_sum : mg "_law_some_sum" = some (.ref (He.ga K "_law_some_sum"))
  g_law_comes : mg "_law_comes" = some (.ref (He.ga K "_law_comes"))
  g_law_rests_right : mg "_law_rests_right" = some (.ref (He.ga K "_law_rests_right"))
  g_law_are_values : mg "_law_are_values" = some (.ref (He.ga K "_law_are_values"))
  g_law_values_right : mg "_law_values_right" = some (.ref (He.ga K "_law_values_right"))
  g_law_right : mg "_law_right" = some (.ref (He.ga K "_law_right"))
  glaw : mg "law" = some (.ref (He.ga K "law"))
  kSum : mg "Sum" = some (.ref (He.ga K "Sum"))
  cSum : CL K "Sum"
  fcSum : fnB "Sum" "__call__" K = true
  oaSum_mod : ownAnyB "Sum" "mod" K = true
  mkSum : (He.Fa.mkr "Sum").ok K = true
  dtSum0 : tup0B (adD (adM "Sum" "__init__") 0) K = true
  pSum_parts : propB "Sum" "parts" K = true
  pSum_number : propB "Sum" "number" K = true
  mSum___call__ : (He.Fa.meth "Sum" "__call__").ok K = true
  mSum___mod__ : (He.Fa.meth "Sum" "__mod__").ok K = true
  mSum_put : (He.Fa.meth "Sum" "put").ok K = true
  aown_parts : ∀ C ∈ (["Sum"] : List Str), CL K C ∧ NoAttr K (He.ga K C) "own_parts"
  aown_number : ∀ C ∈ (["Sum"] : List Str), CL K C ∧ NoAttr K (He.ga K C) "own_number"
  aown_many : ∀ C ∈ (["Sum"] : List Str), CL K C ∧ NoAttr K (He.ga K C) "own_many"
  exf : ExF K ex
  ifn : TLI.IFn K Pg (He.ga K dErr) (He.ma K (He.ga K dErr) "__init__")
  cl : ∀ C ∈ ex, mg C = some (.ref (He.ga K C))
  isf : IsF K ex ow
theorem scis_whole : FnScope Pr.Nis_whole Pr.Pis_whole (defScope sis_whole) := ⟨rfl, rfl, rfl, by decide +kernel, rfl, by decide +kernel, by decide +kernel⟩
theorem wis_whole {w : World} {K : PySem.W.Frag} {mg : Str → Option Value} {base : Heap} (V : Fax K mg)  (E : XK) (q : Str) (cd : Value) : DSs (Sg.of Pg w K mg base Pr.Nis_whole (defScope sis_whole) 0 E q cd) (defBody sis_whole) (Pr.tis_whole ex ow) :=
  (dss_one (ds_ret (de_and (de_isA V.isf V.f_isinstance (da_cons (dv 0) (da_cons (de_gty V.f_int (by decide +kernel)) da_nil))) (de_one (de_not (de_isA V.isf V.f_isinstance (da_cons (dv 0) (da_cons (de_gty V.f_bool (by decide +kernel)) da_nil))))))))
theorem scis_integer : FnScope Pr.Nis_integer Pr.Pis_integer (defScope sis_integer) := ⟨rfl, rfl, rfl, by decide +kernel, rfl, by decide +kernel, by decide +kernel⟩
theorem wis_integer {w : World} {K : PySem.W.Frag} {mg : Str → Option Value} {base : Heap} (V : Fax K mg) (cis_whole : TDef Pg w K mg base 1 "is_whole" 1 (Pr.Fis_whole ex ow)) (E : XK) (q : Str) (cd : Value) : DSs (Sg.of Pg w K mg base Pr.Nis_integer (defScope sis_integer) 1 E q cd) (defBody sis_integer) (Pr.tis_integer ex ow) :=
  (dss_one (ds_ret (de_and (de_callT cis_whole (da_cons (dv 0) da_nil) (Nat.le_of_ble_eq_true rfl)) (de_one (de_chain op_leX op_leX ok_le ok_le (dv 1) (dv 0) (dv 2))))))
theorem scis_tuple : FnScope Pr.Nis_tuple Pr.Pis_tuple (defScope sis_tuple) := ⟨rfl, rfl, rfl, by decide +kernel, rfl, by decide +kernel, by decide +kernel⟩
theorem wis_tuple {w : World} {K : PySem.W.Frag} {mg : Str → Option Value} {base : Heap} (V : Fax K mg)  (E : XK) (q : Str) (cd : Value) : DSs (Sg.of Pg w K mg base Pr.Nis_tuple (defScope sis_tuple) 0 E q cd) (defBody sis_tuple) (Pr.tis_tuple ex ow) :=
  (dss_one (ds_ret (de_and (de_isA V.isf V.f_isinstance (da_cons (dv 0) (da_cons (de_gty V.f_tuple (by decide +kernel)) da_nil))) (de_one (de_chain op_leX op_leX ok_le ok_le (dv 1) (de_len V.f_len (da_cons (dv 0) da_nil)) (dv 2))))))
theorem scis_name : FnScope Pr.Nis_name Pr.Pis_name (defScope sis_name) := ⟨rfl, rfl, rfl, by decide +kernel, rfl, by decide +kernel, by decide +kernel⟩
theorem wis_name {w : World} {K : PySem.W.Frag} {mg : Str → Option Value} {base : Heap} (V : Fax K mg)  (E : XK) (q : Str) (cd : Value) : DSs (Sg.of Pg w K mg base Pr.Nis_name (defScope sis_name) 0 E q cd) (defBody sis_name) (Pr.tis_name ex ow) :=
  (dss_cons (ds_if (DW.dt (dw_or (dt_not (dt_tru (de_isA V.isf V.f_isinstance (da_cons (dv 0) (da_cons (de_gty V.f_str (by decide +kernel)) da_nil))))) (dw_or1 (dt_not (dt_chain op_leX op_leX ok_le ok_le de_int (de_len V.f_len (da_cons (dv 0) da_nil)) (de_gint V.nMOST_LETTERS)))))) (dss_one (ds_ret de_bl)) dss_nil)
    (dss_one (ds_ret (de_all V.f_all (da_cons (de_lc false [("letter", 1)] (di_any (dv 0)) (dg_name (i := 1)) dts_nil (de_insg (dv 1) (de_gstr V.nLETTERS)) (ok := by dsimp only [Sg.lam, Sg.of, Sg.blk]; decide +kernel)) da_nil)))))
theorem scdo_ascend : FnScope Pr.Ndo_ascend Pr.Pdo_ascend (defScope sdo_ascend) := ⟨rfl, rfl, rfl, by decide +kernel, rfl, by decide +kernel, by decide +kernel⟩
theorem wdo_ascend {w : World} {K : PySem.W.Frag} {mg : Str → Option Value} {base : Heap} (V : Fax K mg)  (E : XK) (q : Str) (cd : Value) : DSs (Sg.of Pg w K mg base Pr.Ndo_ascend (defScope sdo_ascend) 0 E q cd) (defBody sdo_ascend) (Pr.tdo_ascend ex ow) :=
  (dss_one (ds_ret (de_all V.f_all (da_cons (de_lc false [("one", 1), ("other", 2)] (di_zip (da_cons (dv 0) (da_cons (de_sl false (dv 0) (do_some de_int) do_nil) da_nil)) V.f_zip) (dg_tup (dgs_cons (dg_name (i := 1)) (dgs_cons (dg_name (i := 2)) dgs_nil))) dts_nil (de_lt (dv 1) (dv 2)) (ok := by dsimp only [Sg.lam, Sg.of, Sg.blk]; decide +kernel)) da_nil))))
theorem sccheck_dial : FnScope Pr.Ncheck_dial Pr.Pcheck_dial (defScope scheck_dial) := ⟨rfl, rfl, rfl, by decide +kernel, rfl, by decide +kernel, by decide +kernel⟩
theorem wcheck_dial {w : World} {K : PySem.W.Frag} {mg : Str → Option Value} {base : Heap} (V : Fax K mg) (cis_integer : TDef Pg w K mg base 2 "is_integer" 3 (Pr.Fis_integer ex ow)) (E : XK) (q : Str) (cd : Value) : DSs (Sg.of Pg w K mg base Pr.Ncheck_dial (defScope scheck_dial) 2 E q cd) (defBody scheck_dial) (Pr.tcheck_dial ex ow) :=
  (dss_one (ds_if (dt_not (dt_tru (de_callT cis_integer (da_cons (dv 0) (da_cons (de_gint V.nLEAST_DIAL) (da_cons (de_gint V.nMOST_DIAL) da_nil))) (Nat.le_of_ble_eq_true rfl)))) (dss_one (ds_raise V.exf (by decide) V.ifn V.f_super (V.cl _ (by decide)) (Nat.le_of_ble_eq_true rfl) (dv 0))) dss_nil))
theorem scis_part : FnScope Pr.Nis_part Pr.Pis_part (defScope sis_part) := ⟨rfl, rfl, rfl, by decide +kernel, rfl, by decide +kernel, by decide +kernel⟩
theorem wis_part {w : World} {K : PySem.W.Frag} {mg : Str → Option Value} {base : Heap} (V : Fax K mg) (cis_name : TDef Pg w K mg base 1 "is_name" 1 (Pr.Fis_name ex ow)) (cis_tuple : TDef Pg w K mg base 1 "is_tuple" 3 (Pr.Fis_tuple ex ow)) (cis_whole : TDef Pg w K mg base 1 "is_whole" 1 (Pr.Fis_whole ex ow)) (E : XK) (q : Str) (cd : Value) : DSs (Sg.of Pg w K mg base Pr.Nis_part (defScope sis_part) 1 E q cd) (defBody sis_part) (Pr.tis_part ex ow) :=
  (dss_one (ds_ret (de_and (de_callT cis_tuple (da_cons (dv 0) (da_cons (de_gint V.nPAIR) (da_cons (de_gint V.nPAIR) da_nil))) (Nat.le_of_ble_eq_true rfl)) (de_and (de_callT cis_name (da_cons (de_ix (dv 0) de_int) da_nil) (Nat.le_of_ble_eq_true rfl)) (de_and (de_callT cis_whole (da_cons (de_ix (dv 0) de_int) da_nil) (Nat.le_of_ble_eq_true rfl)) (de_one (de_ne (de_ix (dv 0) de_int) de_int)))))))
theorem scare_parts : FnScope Pr.Nare_parts Pr.Pare_parts (defScope sare_parts) := ⟨rfl, rfl, rfl, by decide +kernel, rfl, by decide +kernel, by decide +kernel⟩
theorem ware_parts {w : World} {K : PySem.W.Frag} {mg : Str → Option Value} {base : Heap} (V : Fax K mg) (cdo_ascend : TDef Pg w K mg base 1 "do_ascend" 1 (Pr.Fdo_ascend ex ow)) (cis_part : TDef Pg w K mg base 2 "is_part" 1 (Pr.Fis_part ex ow)) (E : XK) (q : Str) (cd : Value) : DSs (Sg.of Pg w K mg base Pr.Nare_parts (defScope sare_parts) 2 E q cd) (defBody sare_parts) (Pr.tare_parts ex ow) :=
  (dss_cons (ds_if (DW.dt (dw_or (dt_not (dt_tru (de_isA V.isf V.f_isinstance (da_cons (dv 0) (da_cons (de_gty V.f_tuple (by decide +kernel)) da_nil))))) (dw_or1 (dt_not (dt_tru (de_all V.f_all (da_cons (de_lc false [("one", 1)] (di_tup (dv 0)) (dg_name (i := 1)) dts_nil (de_callT cis_part (da_cons (dv 1) da_nil) (Nat.le_of_ble_eq_true rfl)) (ok := by dsimp only [Sg.lam, Sg.of, Sg.blk]; decide +kernel)) da_nil))))))) (dss_one (ds_ret de_bl)) dss_nil)
    (dss_one (ds_ret (de_callT cdo_ascend (da_cons (de_lc false [("one", 1)] (di_tup (dv 0)) (dg_name (i := 1)) dts_nil (de_ix (dv 1) de_int) (ok := by dsimp only [Sg.lam, Sg.of, Sg.blk]; decide +kernel)) da_nil) (Nat.le_of_ble_eq_true rfl)))))
theorem scSum___init__ : FnScope Pr.NSum___init__ Pr.PSum___init__ (defScope sSum___init__) := ⟨rfl, rfl, rfl, by decide +kernel, rfl, by decide +kernel, by decide +kernel⟩
theorem wSum___init__ {w : World} {K : PySem.W.Frag} {mg : Str → Option Value} {base : Heap} (V : Fax K mg) (care_parts : TDef Pg w K mg base 3 "are_parts" 1 (Pr.Fare_parts ex ow)) (cis_whole : TDef Pg w K mg base 1 "is_whole" 1 (Pr.Fis_whole ex ow)) (E : XK) (q : Str) (cd : Value) : DSs (Sg.of Pg w K mg base Pr.NSum___init__ (defScope sSum___init__) 3 E q cd) (defBody sSum___init__) (Pr.tSum___init__ ex ow) :=
  (dss_cons (ds_if (dt_not (dt_tru (de_callT care_parts (da_cons (dv 1) da_nil) (Nat.le_of_ble_eq_true rfl)))) (dss_one (ds_raise V.exf (by decide) V.ifn V.f_super (V.cl _ (by decide)) (Nat.le_of_ble_eq_true rfl) (dv 1))) dss_nil)
    (dss_cons (ds_if (dt_not (dt_tru (de_callT cis_whole (da_cons (dv 2) da_nil) (Nat.le_of_ble_eq_true rfl)))) (dss_one (ds_raise V.exf (by decide) V.ifn V.f_super (V.cl _ (by decide)) (Nat.le_of_ble_eq_true rfl) (dv 2))) dss_nil)
    (dss_cons (ds_fld V.aown_parts (dv 0) (dv 1))
    (dss_cons (ds_fld V.aown_number (dv 0) (dv 2))
    (dss_one (ds_fld V.aown_many (dv 0) (de_dictL false V.f_dict (da_cons (de_list false V.f_list (da_cons (dv 1) da_nil)) da_nil))))))))
theorem scsum_of : FnScope Pr.Nsum_of Pr.Psum_of (defScope ssum_of) := ⟨rfl, rfl, rfl, by decide +kernel, rfl, by decide +kernel, by decide +kernel⟩
theorem wsum_of {w : World} {K : PySem.W.Frag} {mg : Str → Option Value} {base : Heap} (V : Fax K mg) (mkSum0 : TMk Pg w K mg base 4 "Sum" 3 [] (Pr.FSum___init__ ex ow)) (E : XK) (q : Str) (cd : Value) : DSs (Sg.of Pg w K mg base Pr.Nsum_of (defScope ssum_of) 5 E q cd) (defBody ssum_of) (Pr.tsum_of ex ow) :=
  (dss_cons (ds_set (i := 2) (de_sortSet false V.f_sorted V.f_set (da_cons (de_lc false [("name", 3)] (di_keys (dv 0)) (dg_name (i := 3)) (dts_one (dt_ne (de_dget (dv 0) (dv 3)) de_int)) (dv 3) (ok := by dsimp only [Sg.lam, Sg.of, Sg.blk]; decide +kernel)) da_nil)))
    (dss_one (ds_ret (de_cut (de_make mkSum0 (da_cons (de_tuple V.f_tuple (da_cons (de_lc false [("name", 3)] (di_lst (dv 2)) (dg_name (i := 3)) dts_nil (de_tup (da_cons (dv 3) (da_cons (de_dget (dv 0) (dv 3)) da_nil))) (ok := by dsimp only [Sg.lam, Sg.of, Sg.blk]; decide +kernel)) da_nil)) (da_cons (dv 1) da_nil)) (Nat.le_of_ble_eq_true rfl))))))
theorem scadded : FnScope Pr.Nadded Pr.Padded (defScope sadded) := ⟨rfl, rfl, rfl, by decide +kernel, rfl, by decide +kernel, by decide +kernel⟩
theorem wadded {w : World} {K : PySem.W.Frag} {mg : Str → Option Value} {base : Heap} (V : Fax K mg) (csum_of : TDef Pg w K mg base 6 "sum_of" 2 (Pr.Fsum_of ex ow)) (E : XK) (q : Str) (cd : Value) : DSs (Sg.of Pg w K mg base Pr.Nadded (defScope sadded) 6 E q cd) (defBody sadded) (Pr.tadded ex ow) :=
  (dss_two 2 (dss_cut (dss_cons (ds_set (i := 3) (de_dictL true V.f_dict (da_cons (de_list false V.f_list (da_cons (de_fld V.aown_parts (dv 0)) da_nil)) da_nil)))
    (dss_one (ds_for (di_tup (de_fld V.aown_parts (dv 1))) (dg_tup (dgs_cons (dg_name (i := 4)) (dgs_cons (dg_name (i := 5)) dgs_nil))) (dss_one (ds_dput (dv 3) (dv 4) (de_addU false (de_get2 (dv 3) (dv 4) de_int (fun _ => ⟨rfl, rfl, rfl, rfl⟩)) (de_mul (dv 2) (dv 5)))))))))
    (dss_one (ds_ret (de_callT csum_of (da_cons (dv 3) (da_cons (de_addU false (de_fld V.aown_number (dv 0)) (de_mul (dv 2) (de_fld V.aown_number (dv 1)))) da_nil)) (Nat.le_of_ble_eq_true rfl)))))
theorem scare_values : FnScope Pr.Nare_values Pr.Pare_values (defScope sare_values) := ⟨rfl, rfl, rfl, by decide +kernel, rfl, by decide +kernel, by decide +kernel⟩
theorem ware_values {w : World} {K : PySem.W.Frag} {mg : Str → Option Value} {base : Heap} (V : Fax K mg) (cis_name : TDef Pg w K mg base 1 "is_name" 1 (Pr.Fis_name ex ow)) (cis_whole : TDef Pg w K mg base 1 "is_whole" 1 (Pr.Fis_whole ex ow)) (E : XK) (q : Str) (cd : Value) : DSs (Sg.of Pg w K mg base Pr.Nare_values (defScope sare_values) 1 E q cd) (defBody sare_values) (Pr.tare_values ex ow) :=
  (dss_cons (ds_if (dt_not (dt_tru (de_isA V.isf V.f_isinstance (da_cons (dv 0) (da_cons (de_gty V.f_dict (by decide +kernel)) da_nil))))) (dss_one (ds_ret de_bl)) dss_nil)
    (dss_one (ds_ret (de_all V.f_all (da_cons (de_lc false [("name", 1), ("number", 2)] (di_items (dv 0)) (dg_tup (dgs_cons (dg_name (i := 1)) (dgs_cons (dg_name (i := 2)) dgs_nil))) dts_nil (de_and (de_callT cis_name (da_cons (dv 1) da_nil) (Nat.le_of_ble_eq_true rfl)) (de_one (de_callT cis_whole (da_cons (dv 2) da_nil) (Nat.le_of_ble_eq_true rfl)))) (ok := by dsimp only [Sg.lam, Sg.of, Sg.blk]; decide +kernel)) da_nil)))))
theorem scSum_parts : FnScope Pr.NSum_parts Pr.PSum_parts (defScope sSum_parts) := ⟨rfl, rfl, rfl, by decide +kernel, rfl, by decide +kernel, by decide +kernel⟩
theorem wSum_parts {w : World} {K : PySem.W.Frag} {mg : Str → Option Value} {base : Heap} (V : Fax K mg)  (E : XK) (q : Str) (cd : Value) : DSs (Sg.of Pg w K mg base Pr.NSum_parts (defScope sSum_parts) 0 E q cd) (defBody sSum_parts) (Pr.tSum_parts ex ow) :=
  (dss_one (ds_ret (de_fld V.aown_parts (dv 0))))
theorem scSum_number : FnScope Pr.NSum_number Pr.PSum_number (defScope sSum_number) := ⟨rfl, rfl, rfl, by decide +kernel, rfl, by decide +kernel, by decide +kernel⟩
theorem wSum_number {w : World} {K : PySem.W.Frag} {mg : Str → Option Value} {base : Heap} (V : Fax K mg)  (E : XK) (q : Str) (cd : Value) : DSs (Sg.of Pg w K mg base Pr.NSum_number (defScope sSum_number) 0 E q cd) (defBody sSum_number) (Pr.tSum_number ex ow) :=
  (dss_one (ds_ret (de_fld V.aown_number (dv 0))))
theorem scSum___call__ : FnScope Pr.NSum___call__ Pr.PSum___call__ (defScope sSum___call__) := ⟨rfl, rfl, rfl, by decide +kernel, rfl, by decide +kernel, by decide +kernel⟩
theorem wSum___call__ {w : World} {K : PySem.W.Frag} {mg : Str → Option Value} {base : Heap} (V : Fax K mg) (care_values : TDef Pg w K mg base 2 "are_values" 1 (Pr.Fare_values ex ow)) (E : XK) (q : Str) (cd : Value) : DSs (Sg.of Pg w K mg base Pr.NSum___call__ (defScope sSum___call__) 2 E q cd) (defBody sSum___call__) (Pr.tSum___call__ ex ow) :=
  (dss_cons (ds_if (DW.dt (dw_or (dt_not (dt_tru (de_callT care_values (da_cons (dv 1) da_nil) (Nat.le_of_ble_eq_true rfl)))) (dw_or1 (dt_not (dt_tru (de_all V.f_all (da_cons (de_lc false [("name", 2)] (di_keys (de_fld V.aown_many (dv 0))) (dg_name (i := 2)) dts_nil (de_din (dv 2) (dv 1)) (ok := by dsimp only [Sg.lam, Sg.of, Sg.blk]; decide +kernel)) da_nil))))))) (dss_one (ds_raise V.exf (by decide) V.ifn V.f_super (V.cl _ (by decide)) (Nat.le_of_ble_eq_true rfl) (dv 1))) dss_nil)
    (dss_one (ds_ret (de_addU false (de_fld V.aown_number (dv 0)) (de_sumc V.f_sum (da_cons (de_lc false [("name", 2), ("many", 3)] (di_tup (de_fld V.aown_parts (dv 0))) (dg_tup (dgs_cons (dg_name (i := 2)) (dgs_cons (dg_name (i := 3)) dgs_nil))) dts_nil (de_mul (dv 3) (de_dget (dv 1) (dv 2))) (ok := by dsimp only [Sg.lam, Sg.of, Sg.blk]; decide +kernel)) da_nil))))))
theorem scSum___mod__ : FnScope Pr.NSum___mod__ Pr.PSum___mod__ (defScope sSum___mod__) := ⟨rfl, rfl, rfl, by decide +kernel, rfl, by decide +kernel, by decide +kernel⟩
theorem wSum___mod__ {w : World} {K : PySem.W.Frag} {mg : Str → Option Value} {base : Heap} (V : Fax K mg) (ccheck_dial : TDef Pg w K mg base 3 "check_dial" 1 (Pr.Fcheck_dial ex ow)) (csum_of : TDef Pg w K mg base 6 "sum_of" 2 (Pr.Fsum_of ex ow)) (E : XK) (q : Str) (cd : Value) : DSs (Sg.of Pg w K mg base Pr.NSum___mod__ (defScope sSum___mod__) 6 E q cd) (defBody sSum___mod__) (Pr.tSum___mod__ ex ow) :=
  (dss_cons (ds_expr (de_callT ccheck_dial (da_cons (dv 1) da_nil) (Nat.le_of_ble_eq_true rfl)))
    (dss_cons (ds_set (i := 2) (dv 1))
    (dss_one (ds_ret (de_callT csum_of (da_cons (de_dc false [("name", 3), ("size", 4)] (di_tup (de_fld V.aown_parts (dv 0))) (dg_tup (dgs_cons (dg_name (i := 3)) (dgs_cons (dg_name (i := 4)) dgs_nil))) dts_nil (dv 3) (de_mod (dv 4) (dv 2)) (ok := by dsimp only [Sg.lam, Sg.of, Sg.blk]; decide +kernel)) (da_cons (de_mod (de_fld V.aown_number (dv 0)) (dv 2)) da_nil)) (Nat.le_of_ble_eq_true rfl))))))
theorem scSum_put : FnScope Pr.NSum_put Pr.PSum_put (defScope sSum_put) := ⟨rfl, rfl, rfl, by decide +kernel, rfl, by decide +kernel, by decide +kernel⟩
theorem wSum_put {w : World} {K : PySem.W.Frag} {mg : Str → Option Value} {base : Heap} (V : Fax K mg) (cadded : TDef Pg w K mg base 7 "added" 3 (Pr.Fadded ex ow)) (cis_name : TDef Pg w K mg base 1 "is_name" 1 (Pr.Fis_name ex ow)) (csum_of : TDef Pg w K mg base 6 "sum_of" 2 (Pr.Fsum_of ex ow)) (E : XK) (q : Str) (cd : Value) : DSs (Sg.of Pg w K mg base Pr.NSum_put (defScope sSum_put) 7 E q cd) (defBody sSum_put) (Pr.tSum_put ex ow) :=
  (dss_cons (ds_if (dt_not (dt_tru (de_callT cis_name (da_cons (dv 1) da_nil) (Nat.le_of_ble_eq_true rfl)))) (dss_one (ds_raise V.exf (by decide) V.ifn V.f_super (V.cl _ (by decide)) (Nat.le_of_ble_eq_true rfl) (dv 1))) dss_nil)
    (dss_cons (ds_if (dt_not (dt_tru (de_isA V.isf V.f_isinstance (da_cons (dv 2) (da_cons (de_gcls V.kSum) da_nil))))) (dss_one (ds_raise V.exf (by decide) V.ifn V.f_super (V.cl _ (by decide)) (Nat.le_of_ble_eq_true rfl) (dv 2))) dss_nil)
    (dss_cons (ds_setDc (i := 3) false [("one", 4), ("many", 5)] (di_tup (de_fld V.aown_parts (dv 0))) (dg_tup (dgs_cons (dg_name (i := 4)) (dgs_cons (dg_name (i := 5)) dgs_nil))) (dts_one (dt_ne (dv 4) (dv 1))) (dv 4) (dv 5) (ok := by dsimp only [Sg.lam, Sg.of, Sg.blk]; decide +kernel))
    (dss_one (ds_ret (de_callT cadded (da_cons (de_callT csum_of (da_cons (dv 3) (da_cons (de_fld V.aown_number (dv 0)) da_nil)) (Nat.le_of_ble_eq_true rfl)) (da_cons (dv 2) (da_cons (de_get2 (de_fld V.aown_many (dv 0)) (dv 1) de_int (fun _ => ⟨rfl, rfl, rfl, rfl⟩)) da_nil))) (Nat.le_of_ble_eq_true rfl)))))))
theorem sc_law_pot : FnScope N_law_pot P_law_pot (defScope s_law_pot) := ⟨rfl, rfl, rfl, by decide +kernel, rfl, by decide +kernel, by decide +kernel⟩
theorem w_law_pot {w : World} {K : PySem.W.Frag} {mg : Str → Option Value} {base : Heap} (V : Fax K mg)  (E : XK) (q : Str) (cd : Value) : DSs (Sg.of Pg w K mg base N_law_pot (defScope s_law_pot) 0 E q cd) (defBody s_law_pot) t_law_pot :=
  (dss_cons (ds_set (i := 2) (de_if (dt_lt (dv 1) (de_len V.f_len (da_cons (dv 0) da_nil))) (de_ixU (dv 0) (dv 1)) (de_add (de_mul de_int (dv 1)) de_int)))
    (dss_cons (ds_set (i := 3) (de_mul (de_mod (de_intc V.f_int (da_cons (de_abs V.f_abs (da_cons (dv 2) da_nil)) da_nil)) (de_pow (de_pow de_int de_int) de_int)) (de_intc V.f_int (da_cons (de_ge (de_abs V.f_abs (da_cons (dv 2) da_nil)) (de_pow de_int de_int)) da_nil))))
    (dss_cons (ds_set (i := 4) (de_mod (de_intc V.f_int (da_cons (dv 2) da_nil)) de_int))
    (dss_one (ds_ret (de_lst true (da_cons (dv 3) (da_cons (de_mod (de_intc V.f_int (da_cons (de_add (de_add (de_mul (dv 4) de_int) (de_mul (de_mul de_int (dv 1)) (dv 1))) de_int) da_nil)) de_int) (da_cons de_int da_nil)))))))))
theorem sc_law_take : FnScope N_law_take P_law_take (defScope s_law_take) := ⟨rfl, rfl, rfl, by decide +kernel, rfl, by decide +kernel, by decide +kernel⟩
theorem w_law_take {w : World} {K : PySem.W.Frag} {mg : Str → Option Value} {base : Heap} (V : Fax K mg)  (E : XK) (q : Str) (cd : Value) : DSs (Sg.of Pg w K mg base N_law_take (defScope s_law_take) 0 E q cd) (defBody s_law_take) t_law_take :=
  (dss_cons (ds_if (dt_gt (de_ix (dv 0) de_int) de_int) (dss_cons (ds_set (i := 2) (de_mod (de_intc V.f_int (da_cons (de_ix (dv 0) de_int) da_nil)) (dv 1)))
    (dss_cons (ds_asg (de_div (de_ix (dv 0) de_int) (dv 1)) (dg_sub (dv 0) de_int))
    (dss_one (ds_ret (dv 2))))) dss_nil)
    (dss_cons (ds_asg (de_add (de_ix (dv 0) de_int) de_int) (dg_sub (dv 0) de_int))
    (dss_cons (ds_set (i := 3) (de_ix (de_lst false (da_cons de_int (da_cons de_int (da_cons de_int (da_cons de_int (da_cons de_int da_nil)))))) (de_mod (de_intc V.f_int (da_cons (de_ix (dv 0) de_int) da_nil)) de_int)))
    (dss_cons (ds_set (i := 4) (de_mod (de_intc V.f_int (da_cons (de_pow (de_intc V.f_int (da_cons (de_add (de_addU false (de_ix (dv 0) de_int) (de_mul (de_mul de_int (de_ix (dv 0) de_int)) (de_ix (dv 0) de_int))) de_int) da_nil)) de_int) da_nil)) (dv 3)))
    (dss_one (ds_ret (de_mod (de_intc V.f_int (da_cons (de_div (de_mul (dv 4) (de_add (de_mod (de_intc V.f_int (da_cons (dv 4) da_nil)) de_int) (de_mul de_int (de_ix (dv 0) de_int)))) de_int) da_nil)) (dv 1))))))))
theorem sc_law_of : FnScope N_law_of P_law_of (defScope s_law_of) := ⟨rfl, rfl, rfl, by decide +kernel, rfl, by decide +kernel, by decide +kernel⟩
theorem w_law_of {w : World} {K : PySem.W.Frag} {mg : Str → Option Value} {base : Heap} (V : Fax K mg) (c_law_take : TDef Pg w K mg base 1 "_law_take" 2 F_law_take) (E : XK) (q : Str) (cd : Value) : DSs (Sg.of Pg w K mg base N_law_of (defScope s_law_of) 1 E q cd) (defBody s_law_of) t_law_of :=
  (dss_one (ds_ret (de_ixU (dv 1) (de_callT c_law_take (da_cons (dv 0) (da_cons (de_len V.f_len (da_cons (dv 1) da_nil)) da_nil)) (Nat.le_of_ble_eq_true rfl)))))
theorem sc_law_some : FnScope N_law_some P_law_some (defScope s_law_some) := ⟨rfl, rfl, rfl, by decide +kernel, rfl, by decide +kernel, by decide +kernel⟩
theorem w_law_some {w : World} {K : PySem.W.Frag} {mg : Str → Option Value} {base : Heap} (V : Fax K mg) (c_law_take : TDef Pg w K mg base 1 "_law_take" 2 F_law_take) (E : XK) (q : Str) (cd : Value) : DSs (Sg.of Pg w K mg base N_law_some (defScope s_law_some) 1 E q cd) (defBody s_law_some) t_law_some :=
  (dss_cons (ds_par (i := 3) (j := 4) (da_cons (de_list true V.f_list (da_cons (dv 1) da_nil)) (da_cons (de_lst true da_nil) da_nil)))
    (dss_cons (ds_for (di_rng1 (da_cons (dv 2) da_nil) V.f_range) (dg_name (i := 5)) (dss_one (ds_expr (de_append (dv 4) (de_pop1 (dv 3) (de_callT c_law_take (da_cons (dv 0) (da_cons (de_len V.f_len (da_cons (dv 3) da_nil)) da_nil)) (Nat.le_of_ble_eq_true rfl)))))))
    (dss_one (ds_ret (dv 4)))))
theorem sc_law_names : FnScope N_law_names P_law_names (defScope s_law_names) := ⟨rfl, rfl, rfl, by decide +kernel, rfl, by decide +kernel, by decide +kernel⟩
theorem w_law_names {w : World} {K : PySem.W.Frag} {mg : Str → Option Value} {base : Heap} (V : Fax K mg) (c_law_some : TDef Pg w K mg base 2 "_law_some" 3 F_law_some) (E : XK) (q : Str) (cd : Value) : DSs (Sg.of Pg w K mg base N_law_names (defScope s_law_names) 2 E q cd) (defBody s_law_names) t_law_names :=
  (dss_cons (ds_set (i := 2) (de_lst false (da_cons de_str (da_cons de_str (da_cons de_str (da_cons de_str (da_cons de_str (da_cons de_str (da_cons de_str (da_cons de_str (da_cons de_str (da_cons de_str (da_cons de_str (da_cons de_str (da_cons de_str (da_cons de_str da_nil))))))))))))))))
    (dss_one (ds_ret (de_callT c_law_some (da_cons (dv 0) (da_cons (dv 2) (da_cons (dv 1) da_nil))) (Nat.le_of_ble_eq_true rfl)))))
theorem sc_law_places : FnScope N_law_places P_law_places (defScope s_law_places) := ⟨rfl, rfl, rfl, by decide +kernel, rfl, by decide +kernel, by decide +kernel⟩
theorem w_law_places {w : World} {K : PySem.W.Frag} {mg : Str → Option Value} {base : Heap} (V : Fax K mg)  (E : XK) (q : Str) (cd : Value) : DSs (Sg.of Pg w K mg base N_law_places (defScope s_law_places) 0 E q cd) (defBody s_law_places) t_law_places :=
  (dss_one (ds_ret (de_listRg1 false V.f_list V.f_range (de_max2 V.f_max (da_cons de_int (da_cons (de_min2 V.f_min (da_cons (dv 1) (da_cons (de_len V.f_len (da_cons (dv 0) da_nil)) da_nil))) da_nil))))))
theorem sc_law_is_int : FnScope N_law_is_int P_law_is_int (defScope s_law_is_int) := ⟨rfl, rfl, rfl, by decide +kernel, rfl, by decide +kernel, by decide +kernel⟩
theorem w_law_is_int {w : World} {K : PySem.W.Frag} {mg : Str → Option Value} {base : Heap} (V : Fax K mg)  (E : XK) (q : Str) (cd : Value) : DSs (Sg.of Pg w K mg base N_law_is_int (defScope s_law_is_int) 0 E q cd) (defBody s_law_is_int) t_law_is_int :=
  (dss_one (ds_ret (de_and (de_isA V.isf V.f_isinstance (da_cons (dv 0) (da_cons (de_gty V.f_int (by decide +kernel)) da_nil))) (de_and (de_not (de_isA V.isf V.f_isinstance (da_cons (dv 0) (da_cons (de_gty V.f_bool (by decide +kernel)) da_nil)))) (de_one (de_chain op_leX op_leX ok_le ok_le (dv 1) (dv 0) (dv 2)))))))
theorem sc_law_is_word : FnScope N_law_is_word P_law_is_word (defScope s_law_is_word) := ⟨rfl, rfl, rfl, by decide +kernel, rfl, by decide +kernel, by decide +kernel⟩
theorem w_law_is_word {w : World} {K : PySem.W.Frag} {mg : Str → Option Value} {base : Heap} (V : Fax K mg)  (E : XK) (q : Str) (cd : Value) : DSs (Sg.of Pg w K mg base N_law_is_word (defScope s_law_is_word) 0 E q cd) (defBody s_law_is_word) t_law_is_word :=
  (dss_cons (ds_if (DW.dt (dw_or (dt_not (dt_tru (de_isA V.isf V.f_isinstance (da_cons (dv 0) (da_cons (de_gty V.f_str (by decide +kernel)) da_nil))))) (dw_or1 (dt_not (dt_chain op_ltX op_ltX ok_lt ok_lt de_int (de_len V.f_len (da_cons (dv 0) da_nil)) de_int))))) (dss_one (ds_ret de_bl)) dss_nil)
    (dss_one (ds_ret (de_all V.f_all (da_cons (de_lc false [("_law_sign", 1)] (di_any (dv 0)) (dg_name (i := 1)) dts_nil (de_insg (dv 1) de_str) (ok := by dsimp only [Sg.lam, Sg.of, Sg.blk]; decide +kernel)) da_nil)))))
theorem sc_law_odd : FnScope N_law_odd P_law_odd (defScope s_law_odd) := ⟨rfl, rfl, rfl, by decide +kernel, rfl, by decide +kernel, by decide +kernel⟩
theorem w_law_odd {w : World} {K : PySem.W.Frag} {mg : Str → Option Value} {base : Heap} (V : Fax K mg) (c_law_of : TDef Pg w K mg base 2 "_law_of" 2 F_law_of) (E : XK) (q : Str) (cd : Value) : DSs (Sg.of Pg w K mg base N_law_odd (defScope s_law_odd) 2 E q cd) (defBody s_law_odd) t_law_odd :=
  (dss_cons (ds_set (i := 1) (de_lst false (da_cons de_non (da_cons de_bl (da_cons de_bl (da_cons de_int (da_cons de_int (da_cons (de_neg de_int) (da_cons de_int (da_cons de_int (da_cons de_str (da_cons de_str (da_cons de_str (da_cons de_str (da_cons (de_tup da_nil) (da_cons (de_lst false da_nil) (da_cons (de_dct0 false) (da_cons (de_tup (da_cons de_int da_nil)) (da_cons (de_tup (da_cons (de_tup da_nil) da_nil)) (da_cons (de_lst false (da_cons de_int da_nil)) (da_cons (de_tup (da_cons de_str (da_cons de_int da_nil))) (da_cons (de_dct false (dp_cons de_str de_int dp_nil)) da_nil))))))))))))))))))))))
    (dss_one (ds_ret (de_callT c_law_of (da_cons (dv 0) (da_cons (de_cat false (dv 1) (de_lst false (da_cons (de_tup (da_cons (de_tup (da_cons de_str (da_cons de_int da_nil))) da_nil)) (da_cons (de_tup (da_cons (de_tup (da_cons (de_tup (da_cons de_str (da_cons de_int da_nil))) da_nil)) (da_cons de_int da_nil))) (da_cons de_str (da_cons (de_tup (da_cons de_str da_nil)) (da_cons (de_tup (da_cons de_non da_nil)) (da_cons (de_pow de_int de_int) (da_cons de_str (da_cons (de_tup (da_cons de_bl da_nil)) da_nil)))))))))) da_nil)) (Nat.le_of_ble_eq_true rfl)))))
theorem sc_law_sum : FnScope N_law_sum P_law_sum (defScope s_law_sum) := ⟨rfl, rfl, rfl, by decide +kernel, rfl, by decide +kernel, by decide +kernel⟩
theorem w_law_sum {w : World} {K : PySem.W.Frag} {mg : Str → Option Value} {base : Heap} (V : Fax K mg)  (E : XK) (q : Str) (cd : Value) : DSs (Sg.of Pg w K mg base N_law_sum (defScope s_law_sum) 0 E q cd) (defBody s_law_sum) t_law_sum :=
  (dss_cons (ds_set (i := 2) (de_dct0 true))
    (dss_cons (ds_for (di_any (dv 0)) (dg_tup (dgs_cons (dg_name (i := 3)) (dgs_cons (dg_name (i := 4)) dgs_nil))) (dss_one (ds_dput (dv 2) (dv 3) (de_addU false (de_get2 (dv 2) (dv 3) de_int (fun _ => ⟨rfl, rfl, rfl, rfl⟩)) (dv 4)))))
    (dss_one (ds_ret (de_tup (da_cons (de_tuple V.f_tuple (da_cons (de_lc false [("_law_name", 3)] (di_lst (de_sortSet false V.f_sorted V.f_set (da_cons (de_listK false V.f_list (da_cons (dv 2) da_nil)) da_nil))) (dg_name (i := 3)) (dts_one (dt_ne (de_dget (dv 2) (dv 3)) de_int)) (de_tup (da_cons (dv 3) (da_cons (de_dget (dv 2) (dv 3)) da_nil))) (ok := by dsimp only [Sg.lam, Sg.of, Sg.blk]; decide +kernel)) da_nil)) (da_cons (dv 1) da_nil)))))))
theorem sc_law_plus : FnScope N_law_plus P_law_plus (defScope s_law_plus) := ⟨rfl, rfl, rfl, by decide +kernel, rfl, by decide +kernel, by decide +kernel⟩
theorem w_law_plus {w : World} {K : PySem.W.Frag} {mg : Str → Option Value} {base : Heap} (V : Fax K mg) (c_law_sum : TDef Pg w K mg base 1 "_law_sum" 2 F_law_sum) (E : XK) (q : Str) (cd : Value) : DSs (Sg.of Pg w K mg base N_law_plus (defScope s_law_plus) 1 E q cd) (defBody s_law_plus) t_law_plus :=
  (dss_one (ds_ret (de_callT c_law_sum (da_cons (de_addU false (de_ix (dv 0) de_int) (de_ix (dv 1) de_int)) (da_cons (de_addU false (de_ix (dv 0) de_int) (de_ix (dv 1) de_int)) da_nil)) (Nat.le_of_ble_eq_true rfl))))
theorem sc_law_times : FnScope N_law_times P_law_times (defScope s_law_times) := ⟨rfl, rfl, rfl, by decide +kernel, rfl, by decide +kernel, by decide +kernel⟩
theorem w_law_times {w : World} {K : PySem.W.Frag} {mg : Str → Option Value} {base : Heap} (V : Fax K mg) (c_law_sum : TDef Pg w K mg base 1 "_law_sum" 2 F_law_sum) (E : XK) (q : Str) (cd : Value) : DSs (Sg.of Pg w K mg base N_law_times (defScope s_law_times) 1 E q cd) (defBody s_law_times) t_law_times :=
  (dss_one (ds_ret (de_callT c_law_sum (da_cons (de_lc false [("_law_name", 2), ("_law_its", 3)] (di_any (de_ix (dv 0) de_int)) (dg_tup (dgs_cons (dg_name (i := 2)) (dgs_cons (dg_name (i := 3)) dgs_nil))) dts_nil (de_tup (da_cons (dv 2) (da_cons (de_mul (dv 3) (dv 1)) da_nil))) (ok := by dsimp only [Sg.lam, Sg.of, Sg.blk]; decide +kernel)) (da_cons (de_mul (de_ix (dv 0) de_int) (dv 1)) da_nil)) (Nat.le_of_ble_eq_true rfl))))
theorem sc_law_put : FnScope N_law_put P_law_put (defScope s_law_put) := ⟨rfl, rfl, rfl, by decide +kernel, rfl, by decide +kernel, by decide +kernel⟩
theorem w_law_put {w : World} {K : PySem.W.Frag} {mg : Str → Option Value} {base : Heap} (V : Fax K mg) (c_law_plus : TDef Pg w K mg base 2 "_law_plus" 2 F_law_plus) (c_law_sum : TDef Pg w K mg base 1 "_law_sum" 2 F_law_sum) (c_law_times : TDef Pg w K mg base 2 "_law_times" 2 F_law_times) (E : XK) (q : Str) (cd : Value) : DSs (Sg.of Pg w K mg base N_law_put (defScope s_law_put) 2 E q cd) (defBody s_law_put) t_law_put :=
  (dss_cons (ds_set (i := 3) (de_get2 (de_dictL false V.f_dict (da_cons (de_list false V.f_list (da_cons (de_ix (dv 0) de_int) da_nil)) da_nil)) (dv 1) de_int (fun _ => ⟨rfl, rfl, rfl, rfl⟩)))
    (dss_cons (ds_set (i := 4) (de_callT c_law_sum (da_cons (de_lc false [("_law_row", 5)] (di_any (de_ix (dv 0) de_int)) (dg_name (i := 5)) (dts_one (dt_ne (de_ix (dv 5) de_int) (dv 1))) (dv 5) (ok := by dsimp only [Sg.lam, Sg.of, Sg.blk]; decide +kernel)) (da_cons (de_ix (dv 0) de_int) da_nil)) (Nat.le_of_ble_eq_true rfl)))
    (dss_one (ds_ret (de_callT c_law_plus (da_cons (dv 4) (da_cons (de_callT c_law_times (da_cons (dv 2) (da_cons (dv 3) da_nil)) (Nat.le_of_ble_eq_true rfl)) da_nil)) (Nat.le_of_ble_eq_true rfl))))))
theorem sc_law_made : FnScope N_law_made P_law_made (defScope s_law_made) := ⟨rfl, rfl, rfl, by decide +kernel, rfl, by decide +kernel, by decide +kernel⟩
theorem w_law_made {w : World} {K : PySem.W.Frag} {mg : Str → Option Value} {base : Heap} (V : Fax K mg) (mkSum0 : TMk Pg w K mg base 4 "Sum" 3 [] (Pr.FSum___init__ ex ow)) (E : XK) (q : Str) (cd : Value) : DSs (Sg.of Pg w K mg base N_law_made (defScope s_law_made) 5 E q cd) (defBody s_law_made) t_law_made :=
  (dss_one (ds_ret (de_cut (de_make mkSum0 (da_cons (de_ix (dv 0) de_int) (da_cons (de_ix (dv 0) de_int) da_nil)) (Nat.le_of_ble_eq_true rfl)))))
theorem sc_law_pair : FnScope N_law_pair P_law_pair (defScope s_law_pair) := ⟨rfl, rfl, rfl, by decide +kernel, rfl, by decide +kernel, by decide +kernel⟩
theorem w_law_pair {w : World} {K : PySem.W.Frag} {mg : Str → Option Value} {base : Heap} (V : Fax K mg) (cSum_number : TProp Pg w K mg base 1 "Sum" "number" (Pr.FSum_number ex ow)) (cSum_parts : TProp Pg w K mg base 1 "Sum" "parts" (Pr.FSum_parts ex ow)) (E : XK) (q : Str) (cd : Value) : DSs (Sg.of Pg w K mg base N_law_pair (defScope s_law_pair) 2 E q cd) (defBody s_law_pair) t_law_pair :=
  (dss_one (ds_ret (de_tup (da_cons (de_prop cSum_parts (dv 0) (Nat.le_of_ble_eq_true rfl)) (da_cons (de_prop cSum_number (dv 0) (Nat.le_of_ble_eq_true rfl)) da_nil)))))
theorem sc_law_many : FnScope N_law_many P_law_many (defScope s_law_many) := ⟨rfl, rfl, rfl, by decide +kernel, rfl, by decide +kernel, by decide +kernel⟩
theorem w_law_many {w : World} {K : PySem.W.Frag} {mg : Str → Option Value} {base : Heap} (V : Fax K mg) (c_law_of : TDef Pg w K mg base 2 "_law_of" 2 F_law_of) (E : XK) (q : Str) (cd : Value) : DSs (Sg.of Pg w K mg base N_law_many (defScope s_law_many) 2 E q cd) (defBody s_law_many) t_law_many :=
  (dss_one (ds_ret (de_callT c_law_of (da_cons (dv 0) (da_cons (de_lst false (da_cons de_int (da_cons de_int (da_cons (de_neg de_int) (da_cons de_int (da_cons de_int (da_cons (de_neg de_int) (da_cons de_int (da_cons de_int (da_cons de_int (da_cons (de_neg de_int) (da_cons de_int (da_cons de_int (da_cons (de_neg de_int) (da_cons de_int da_nil))))))))))))))) da_nil)) (Nat.le_of_ble_eq_true rfl))))
theorem sc_law_some_sum : FnScope N_law_some_sum P_law_some_sum (defScope s_law_some_sum) := ⟨rfl, rfl, rfl, by decide +kernel, rfl, by decide +kernel, by decide +kernel⟩
theorem w_law_some_sum {w : World} {K : PySem.W.Frag} {mg : Str → Option Value} {base : Heap} (V : Fax K mg) (c_law_many : TDef Pg w K mg base 3 "_law_many" 1 F_law_many) (c_law_of : TDef Pg w K mg base 2 "_law_of" 2 F_law_of) (c_law_some : TDef Pg w K mg base 2 "_law_some" 3 F_law_some) (c_law_sum : TDef Pg w K mg base 1 "_law_sum" 2 F_law_sum) (c_law_take : TDef Pg w K mg base 1 "_law_take" 2 F_law_take) (E : XK) (q : Str) (cd : Value) : DSs (Sg.of Pg w K mg base N_law_some_sum (defScope s_law_some_sum) 3 E q cd) (defBody s_law_some_sum) t_law_some_sum :=
  (dss_cons (ds_set (i := 3) (de_callT c_law_some (da_cons (dv 0) (da_cons (dv 1) (da_cons (de_min2 V.f_min (da_cons (de_len V.f_len (da_cons (dv 1) da_nil)) (da_cons (de_intc V.f_int (da_cons (de_callT c_law_take (da_cons (dv 0) (da_cons (de_add (dv 2) de_int) da_nil)) (Nat.le_of_ble_eq_true rfl)) da_nil)) da_nil))) da_nil))) (Nat.le_of_ble_eq_true rfl)))
    (dss_one (ds_ret (de_callT c_law_sum (da_cons (de_lc false [("_law_name", 4)] (di_lst (dv 3)) (dg_name (i := 4)) dts_nil (de_tup (da_cons (dv 4) (da_cons (de_callT c_law_many (da_cons (dv 0) da_nil) (Nat.le_of_ble_eq_true rfl)) da_nil))) (ok := by dsimp only [Sg.lam, Sg.of, Sg.blk]; decide +kernel)) (da_cons (de_callT c_law_of (da_cons (dv 0) (da_cons (de_lst false (da_cons de_int (da_cons de_int (da_cons de_int (da_cons de_int (da_cons (de_neg de_int) (da_cons de_int (da_cons (de_neg de_int) (da_cons de_int da_nil))))))))) da_nil)) (Nat.le_of_ble_eq_true rfl)) da_nil)) (Nat.le_of_ble_eq_true rfl)))))
theorem sc_law_comes : FnScope N_law_comes P_law_comes (defScope s_law_comes) := ⟨rfl, rfl, rfl, by decide +kernel, rfl, by decide +kernel, by decide +kernel⟩
theorem w_law_comes {w : World} {K : PySem.W.Frag} {mg : Str → Option Value} {base : Heap} (V : Fax K mg)  (E : XK) (q : Str) (cd : Value) : DSs (Sg.of Pg w K mg base N_law_comes (defScope s_law_comes) 0 E q cd) (defBody s_law_comes) t_law_comes :=
  (dss_one (ds_ret (de_addU false (de_sumc V.f_sum (da_cons (de_lc false [("_law_name", 2), ("_law_many_here", 3)] (di_any (de_ix (dv 0) de_int)) (dg_tup (dgs_cons (dg_name (i := 2)) (dgs_cons (dg_name (i := 3)) dgs_nil))) dts_nil (de_mul (dv 3) (de_dget (dv 1) (dv 2))) (ok := by dsimp only [Sg.lam, Sg.of, Sg.blk]; decide +kernel)) da_nil)) (de_ix (dv 0) de_int))))
theorem sc_law_rests_right : FnScope N_law_rests_right P_law_rests_right (defScope s_law_rests_right) := ⟨rfl, rfl, rfl, by decide +kernel, rfl, by decide +kernel, by decide +kernel⟩
theorem w_law_rests_right {w : World} {K : PySem.W.Frag} {mg : Str → Option Value} {base : Heap} (V : Fax K mg) (cSum___mod__ : TMet Pg w K mg base 7 "Sum" "__mod__" 2 (Pr.FSum___mod__ ex ow)) (c_law_is_int : TDef Pg w K mg base 1 "_law_is_int" 3 F_law_is_int) (c_law_odd : TDef Pg w K mg base 3 "_law_odd" 1 F_law_odd) (c_law_pair : TDef Pg w K mg base 3 "_law_pair" 1 F_law_pair) (c_law_sum : TDef Pg w K mg base 1 "_law_sum" 2 F_law_sum) (c_law_take : TDef Pg w K mg base 1 "_law_take" 2 F_law_take) (tldB : TabsB K mg ms base) (tldC : ToldC K mg) (E : XK)  : DSs (Sg.of Pg w K mg base N_law_rests_right (defScope s_law_rests_right) 9 E "_law_rests_right" (cdAt K (He.ga K "_law_rests_right"))) (defBody s_law_rests_right) t_law_rests_right :=
  (dss_cons (ds_set (i := 3) (de_lst false (da_cons de_int (da_cons de_int (da_cons de_int (da_cons de_int (da_cons (de_pow de_int de_int) (da_cons (de_add (de_pow de_int de_int) de_int) (da_cons de_int (da_cons de_int (da_cons (de_neg de_int) (da_cons de_bl (da_cons de_non (da_cons de_str (da_cons (de_tup (da_cons de_int da_nil)) (da_cons (de_callT c_law_odd (da_cons (dv 0) da_nil) (Nat.le_of_ble_eq_true rfl)) (da_cons (de_add de_int (de_callT c_law_take (da_cons (dv 0) (da_cons de_int da_nil)) (Nat.le_of_ble_eq_true rfl))) da_nil)))))))))))))))))
    (dss_cons (ds_for (di_lst (dv 3)) (dg_name (i := 4)) (dss_cons (ds_asg (de_toldC (x := "_law_rests_right") (ms := ms) 0 7 tldC V.exf (V.cl _ V.exf.de) tldB (by decide) (fun _ _ => (de_binS (op_ownL (op := .Mod) cSum___mod__ opsMod V.oaSum_mod rfl (Nat.le_of_ble_eq_true rfl)) (dv 2) (dv 4))) (Nat.le_of_ble_eq_true rfl) (L := lamS_by (by dsimp only [Sg.of]; decide +kernel))) (dg_tup (dgs_cons (dg_name (i := 5)) (dgs_cons (dg_name (i := 6)) dgs_nil))))
    (dss_one (ds_if (dt_tru (de_callT c_law_is_int (da_cons (dv 4) (da_cons de_int (da_cons (de_pow de_int de_int) da_nil))) (Nat.le_of_ble_eq_true rfl))) (dss_cons (ds_set (i := 7) (de_callT c_law_sum (da_cons (de_lc false [("_law_name", 8), ("_law_many_here", 9)] (di_any (de_ix (dv 1) de_int)) (dg_tup (dgs_cons (dg_name (i := 8)) (dgs_cons (dg_name (i := 9)) dgs_nil))) dts_nil (de_tup (da_cons (dv 8) (da_cons (de_mod (de_intc V.f_int (da_cons (dv 9) da_nil)) (dv 4)) da_nil))) (ok := by dsimp only [Sg.lam, Sg.of, Sg.blk]; decide +kernel)) (da_cons (de_mod (de_intc V.f_int (da_cons (de_ix (dv 1) de_int) da_nil)) (dv 4)) da_nil)) (Nat.le_of_ble_eq_true rfl)))
    (dss_one (ds_if (DW.dt (dw_or (dt_notN (dv 5) de_non) (dw_or1 (dt_ne (de_repr V.sys V.f_repr (da_cons (de_callT c_law_pair (da_cons (dv 6) da_nil) (Nat.le_of_ble_eq_true rfl)) da_nil)) (de_repr V.sys V.f_repr (da_cons (dv 7) da_nil)))))) (dss_one (ds_ret de_bl)) dss_nil))) (dss_one (ds_if (DW.dt (dw_or (dt_not (dt_tru (de_isA V.isf V.f_isinstance (da_cons (dv 5) (da_cons (de_gcls (V.cl _ (by decide))) da_nil))))) (dw_or1 (dt_ne (de_repr V.sys V.f_repr (da_cons (de_valE V.exf (dv 5)) da_nil)) (de_repr V.sys V.f_repr (da_cons (dv 4) da_nil)))))) (dss_one (ds_ret de_bl)) dss_nil))))))
    (dss_one (ds_ret de_bl))))
theorem sc_law_are_values : FnScope N_law_are_values P_law_are_values (defScope s_law_are_values) := ⟨rfl, rfl, rfl, by decide +kernel, rfl, by decide +kernel, by decide +kernel⟩
theorem w_law_are_values {w : World} {K : PySem.W.Frag} {mg : Str → Option Value} {base : Heap} (V : Fax K mg) (c_law_is_int : TDef Pg w K mg base 1 "_law_is_int" 3 F_law_is_int) (c_law_is_word : TDef Pg w K mg base 1 "_law_is_word" 1 F_law_is_word) (E : XK) (q : Str) (cd : Value) : DSs (Sg.of Pg w K mg base N_law_are_values (defScope s_law_are_values) 1 E q cd) (defBody s_law_are_values) t_law_are_values :=
  (dss_cons (ds_if (DW.dt (dw_or (dt_not (dt_tru (de_isA V.isf V.f_isinstance (da_cons (dv 1) (da_cons (de_gty V.f_dict (by decide +kernel)) da_nil))))) (dw_or1 (dt_not (dt_tru (de_all V.f_all (da_cons (de_lc false [("_law_name", 2)] (di_lst (de_listKF false V.f_list (da_cons (dv 1) da_nil))) (dg_name (i := 2)) dts_nil (de_callT c_law_is_word (da_cons (dv 2) da_nil) (Nat.le_of_ble_eq_true rfl)) (ok := by dsimp only [Sg.lam, Sg.of, Sg.blk]; decide +kernel)) da_nil))))))) (dss_one (ds_ret de_bl)) dss_nil)
    (dss_cons (ds_if (dt_not (dt_tru (de_all V.f_all (da_cons (de_lc false [("_law_name", 2)] (di_lst (de_listKF false V.f_list (da_cons (dv 1) da_nil))) (dg_name (i := 2)) dts_nil (de_callT c_law_is_int (da_cons (de_dget (dv 1) (dv 2)) (da_cons (de_neg (de_pow de_int de_int)) (da_cons (de_pow de_int de_int) da_nil))) (Nat.le_of_ble_eq_true rfl)) (ok := by dsimp only [Sg.lam, Sg.of, Sg.blk]; decide +kernel)) da_nil)))) (dss_one (ds_ret de_bl)) dss_nil)
    (dss_one (ds_ret (de_all V.f_all (da_cons (de_lc false [("_law_name", 2), ("_law_many_here", 3)] (di_any (de_ix (dv 0) de_int)) (dg_tup (dgs_cons (dg_name (i := 2)) (dgs_cons (dg_name (i := 3)) dgs_nil))) dts_nil (de_din (dv 2) (dv 1)) (ok := by dsimp only [Sg.lam, Sg.of, Sg.blk]; decide +kernel)) da_nil))))))
theorem sc_law_values_right : FnScope N_law_values_right P_law_values_right (defScope s_law_values_right) := ⟨rfl, rfl, rfl, by decide +kernel, rfl, by decide +kernel, by decide +kernel⟩
theorem w_law_values_right {w : World} {K : PySem.W.Frag} {mg : Str → Option Value} {base : Heap} (V : Fax K mg) (cSum___call__ : TMet Pg w K mg base 3 "Sum" "__call__" 2 (Pr.FSum___call__ ex ow)) (c_law_are_values : TDef Pg w K mg base 2 "_law_are_values" 2 F_law_are_values) (c_law_comes : TDef Pg w K mg base 1 "_law_comes" 2 F_law_comes) (c_law_odd : TDef Pg w K mg base 3 "_law_odd" 1 F_law_odd) (c_law_take : TDef Pg w K mg base 1 "_law_take" 2 F_law_take) (tldB : TabsB K mg ms base) (tldC : ToldC K mg) (E : XK)  : DSs (Sg.of Pg w K mg base N_law_values_right (defScope s_law_values_right) 5 E "_law_values_right" (cdAt K (He.ga K "_law_values_right"))) (defBody s_law_values_right) t_law_values_right :=
  (dss_cons (ds_set (i := 4) (de_dictL false V.f_dict (da_cons (de_lc false [("_law_name", 9)] (di_lst (dv 3)) (dg_name (i := 9)) dts_nil (de_tup (da_cons (dv 9) (da_cons (de_sub (de_callT c_law_take (da_cons (dv 0) (da_cons de_int da_nil)) (Nat.le_of_ble_eq_true rfl)) de_int) da_nil))) (ok := by dsimp only [Sg.lam, Sg.of, Sg.blk]; decide +kernel)) da_nil)))
    (dss_cons (ds_set (i := 5) (de_lst false (da_cons (dv 4) (da_cons (de_dictL false V.f_dict (da_cons (de_cat false (de_listItems V.f_list (dv 4)) (de_lst false (da_cons (de_tup (da_cons de_str (da_cons de_int da_nil))) da_nil))) da_nil)) (da_cons (de_dictL false V.f_dict (da_cons (de_cat false (de_listItems V.f_list (dv 4)) (de_lst false (da_cons (de_tup (da_cons de_str (da_cons de_bl da_nil))) da_nil))) da_nil)) (da_cons (de_dct0 false) (da_cons de_non (da_cons (de_lst false da_nil) (da_cons de_int da_nil)))))))))
    (dss_cons (ds_set (i := 5) (de_cat false (dv 5) (de_lst false (da_cons (de_dictL false V.f_dict (da_cons (de_cat false (de_listItems V.f_list (dv 4)) (de_lst false (da_cons (de_tup (da_cons de_str (da_cons de_int da_nil))) da_nil))) da_nil)) (da_cons (de_dictL false V.f_dict (da_cons (de_cat false (de_listItems V.f_list (dv 4)) (de_lst false (da_cons (de_tup (da_cons de_int (da_cons de_int da_nil))) da_nil))) da_nil)) (da_cons (de_callT c_law_odd (da_cons (dv 0) da_nil) (Nat.le_of_ble_eq_true rfl)) da_nil))))))
    (dss_cons (ds_set (i := 5) (de_cat false (dv 5) (de_lst false (da_cons (de_dictL false V.f_dict (da_cons (de_sl false (de_listItems V.f_list (dv 4)) (do_some de_int) do_nil) da_nil)) (da_cons (de_dictL false V.f_dict (da_cons (de_revL false (de_listItems V.f_list (dv 4))) da_nil)) (da_cons (de_listItems V.f_list (dv 4)) da_nil))))))
    (dss_cons (ds_for (di_lst (dv 5)) (dg_name (i := 6)) (dss_cons (ds_asg (de_toldC (x := "_law_values_right") (ms := ms) 1 3 tldC V.exf (V.cl _ V.exf.de) tldB (by decide) (fun _ _ => (de_callO cSum___call__ (dv 2) (da_cons (dv 6) da_nil) V.fcSum (Nat.le_of_ble_eq_true rfl))) (Nat.le_of_ble_eq_true rfl) (L := lamS_by (by dsimp only [Sg.of]; decide +kernel))) (dg_tup (dgs_cons (dg_name (i := 7)) (dgs_cons (dg_name (i := 8)) dgs_nil))))
    (dss_one (ds_if (dt_tru (de_callT c_law_are_values (da_cons (dv 1) (da_cons (dv 6) da_nil)) (Nat.le_of_ble_eq_true rfl))) (dss_one (ds_if (DW.dt (dw_or (dt_notN (dv 7) de_non) (dw_or1 (dt_ne (de_repr V.sys V.f_repr (da_cons (dv 8) da_nil)) (de_repr V.sys V.f_repr (da_cons (de_callT c_law_comes (da_cons (dv 1) (da_cons (dv 6) da_nil)) (Nat.le_of_ble_eq_true rfl)) da_nil)))))) (dss_one (ds_ret de_bl)) dss_nil)) (dss_one (ds_if (DW.dt (dw_or (dt_not (dt_tru (de_isA V.isf V.f_isinstance (da_cons (dv 7) (da_cons (de_gcls (V.cl _ (by decide))) da_nil))))) (dw_or1 (dt_ne (de_repr V.sys V.f_repr (da_cons (de_valE V.exf (dv 7)) da_nil)) (de_repr V.sys V.f_repr (da_cons (dv 6) da_nil)))))) (dss_one (ds_ret de_bl)) dss_nil))))))
    (dss_one (ds_ret de_bl)))))))
theorem sc_law_right : FnScope N_law_right P_law_right (defScope s_law_right) := ⟨rfl, rfl, rfl, by decide +kernel, rfl, by decide +kernel, by decide +kernel⟩
theorem w_law_right {w : World} {K : PySem.W.Frag} {mg : Str → Option Value} {base : Heap} (V : Fax K mg) (cSum_put : TMet Pg w K mg base 8 "Sum" "put" 3 (Pr.FSum_put ex ow)) (c_law_is_word : TDef Pg w K mg base 1 "_law_is_word" 1 F_law_is_word) (c_law_made : TDef Pg w K mg base 6 "_law_made" 1 F_law_made) (c_law_names : TDef Pg w K mg base 3 "_law_names" 2 F_law_names) (c_law_odd : TDef Pg w K mg base 3 "_law_odd" 1 F_law_odd) (c_law_pair : TDef Pg w K mg base 3 "_law_pair" 1 F_law_pair) (c_law_put : TDef Pg w K mg base 3 "_law_put" 3 F_law_put) (c_law_rests_right : TDef Pg w K mg base 10 "_law_rests_right" 3 F_law_rests_right) (c_law_some_sum : TDef Pg w K mg base 4 "_law_some_sum" 3 F_law_some_sum) (c_law_values_right : TDef Pg w K mg base 6 "_law_values_right" 4 F_law_values_right) (tldB : TabsB K mg ms base) (tldC : ToldC K mg) (E : XK)  : DSs (Sg.of Pg w K mg base N_law_right (defScope s_law_right) 10 E "_law_right" (cdAt K (He.ga K "_law_right"))) (defBody s_law_right) t_law_right :=
  (dss_cons (ds_set (i := 1) (de_callT c_law_names (da_cons (dv 0) (da_cons de_int da_nil)) (Nat.le_of_ble_eq_true rfl)))
    (dss_cons (ds_par (i := 2) (j := 3) (da_cons (de_callT c_law_some_sum (da_cons (dv 0) (da_cons (dv 1) (da_cons de_int da_nil))) (Nat.le_of_ble_eq_true rfl)) (da_cons (de_callT c_law_some_sum (da_cons (dv 0) (da_cons (dv 1) (da_cons de_int da_nil))) (Nat.le_of_ble_eq_true rfl)) da_nil)))
    (dss_cons (ds_asg (de_tup (da_cons (de_callT c_law_made (da_cons (dv 2) da_nil) (Nat.le_of_ble_eq_true rfl)) (da_cons (de_callT c_law_made (da_cons (dv 3) da_nil) (Nat.le_of_ble_eq_true rfl)) da_nil))) (dg_tup (dgs_cons (dg_name (i := 4)) (dgs_cons (dg_name (i := 5)) dgs_nil))))
    (dss_cons (ds_if (DW.dt (dw_or (dt_not (dt_tru (de_callT c_law_rests_right (da_cons (dv 0) (da_cons (dv 2) (da_cons (dv 4) da_nil))) (Nat.le_of_ble_eq_true rfl)))) (dw_or1 (dt_not (dt_tru (de_callT c_law_values_right (da_cons (dv 0) (da_cons (dv 2) (da_cons (dv 4) (da_cons (dv 1) da_nil)))) (Nat.le_of_ble_eq_true rfl))))))) (dss_one (ds_ret de_bl)) dss_nil)
    (dss_cons (ds_for (di_lst (de_cat false (dv 1) (de_lst false (da_cons de_str (da_cons de_non (da_cons de_str (da_cons de_str (da_cons de_bl (da_cons (de_callT c_law_odd (da_cons (dv 0) da_nil) (Nat.le_of_ble_eq_true rfl)) da_nil))))))))) (dg_name (i := 6)) (dss_one (ds_for (di_tup (de_tup (da_cons (dv 5) (da_cons (dv 4) (da_cons de_non (da_cons de_int (da_cons (dv 3) (da_cons (de_callT c_law_odd (da_cons (dv 0) da_nil) (Nat.le_of_ble_eq_true rfl)) da_nil)))))))) (dg_name (i := 7)) (dss_cons (ds_asg (de_toldC (x := "_law_right") (ms := ms) 2 8 tldC V.exf (V.cl _ V.exf.de) tldB (by decide) (fun _ _ => (de_meth cSum_put (dv 4) (da_cons (dv 6) (da_cons (dv 7) da_nil)) (Nat.le_of_ble_eq_true rfl))) (Nat.le_of_ble_eq_true rfl) (L := lamS_by (by dsimp only [Sg.of]; decide +kernel))) (dg_tup (dgs_cons (dg_name (i := 8)) (dgs_cons (dg_name (i := 9)) dgs_nil))))
    (dss_one (ds_if (dt_not (dt_tru (de_callT c_law_is_word (da_cons (dv 6) da_nil) (Nat.le_of_ble_eq_true rfl)))) (dss_one (ds_if (DW.dt (dw_or (dt_not (dt_tru (de_isA V.isf V.f_isinstance (da_cons (dv 8) (da_cons (de_gcls (V.cl _ (by decide))) da_nil))))) (dw_or1 (dt_ne (de_repr V.sys V.f_repr (da_cons (de_valE V.exf (dv 8)) da_nil)) (de_repr V.sys V.f_repr (da_cons (dv 6) da_nil)))))) (dss_one (ds_ret de_bl)) dss_nil)) (dss_one (ds_if (dt_not (dt_tru (de_isA V.isf V.f_isinstance (da_cons (dv 7) (da_cons (de_gcls V.kSum) da_nil))))) (dss_one (ds_if (DW.dt (dw_or (dt_not (dt_tru (de_isA V.isf V.f_isinstance (da_cons (dv 8) (da_cons (de_gcls (V.cl _ (by decide))) da_nil))))) (dw_or1 (dt_ne (de_repr V.sys V.f_repr (da_cons (de_valE V.exf (dv 8)) da_nil)) (de_repr V.sys V.f_repr (da_cons (dv 7) da_nil)))))) (dss_one (ds_ret de_bl)) dss_nil)) (dss_one (ds_if (DW.dt (dw_or (dt_notN (dv 8) de_non) (dw_or1 (dt_ne (de_repr V.sys V.f_repr (da_cons (de_callT c_law_pair (da_cons (dv 9) da_nil) (Nat.le_of_ble_eq_true rfl)) da_nil)) (de_repr V.sys V.f_repr (da_cons (de_callT c_law_put (da_cons (dv 2) (da_cons (dv 6) (da_cons (de_callT c_law_pair (da_cons (dv 7) da_nil) (Nat.le_of_ble_eq_true rfl)) da_nil))) (Nat.le_of_ble_eq_true rfl)) da_nil)))))) (dss_one (ds_ret de_bl)) dss_nil))))))))))
    (dss_one (ds_ret (de_eq (de_repr V.sys V.f_repr (da_cons (de_callT c_law_pair (da_cons (dv 4) da_nil) (Nat.le_of_ble_eq_true rfl)) da_nil)) (de_repr V.sys V.f_repr (da_cons (dv 2) da_nil))))))))))
theorem sclaw : FnScope Nlaw Plaw (defScope slaw) := ⟨rfl, rfl, rfl, by decide +kernel, rfl, by decide +kernel, by decide +kernel⟩
theorem wlaw {w : World} {K : PySem.W.Frag} {mg : Str → Option Value} {base : Heap} (V : Fax K mg) (c_law_places : TDef Pg w K mg base 1 "_law_places" 2 F_law_places) (c_law_pot : TDef Pg w K mg base 1 "_law_pot" 2 F_law_pot) (c_law_right : TDef Pg w K mg base 11 "_law_right" 1 F_law_right) (E : XK) (q : Str) (cd : Value) : DSs (Sg.of Pg w K mg base Nlaw (defScope slaw) 11 E q cd) (defBody slaw) tlaw :=
  (dss_one (ds_ret (de_all V.f_all (da_cons (de_lc false [("_law_place", 1)] (di_lst (de_callT c_law_places (da_cons (dv 0) (da_cons de_int da_nil)) (Nat.le_of_ble_eq_true rfl))) (dg_name (i := 1)) dts_nil (de_callT c_law_right (da_cons (de_callT c_law_pot (da_cons (dv 0) (da_cons (dv 1) da_nil)) (Nat.le_of_ble_eq_true rfl)) da_nil) (Nat.le_of_ble_eq_true rfl)) (ok := by dsimp only [Sg.lam, Sg.of, Sg.blk]; decide +kernel)) da_nil))))
def lawLevel : Nat := 12
theorem facts {w : World} {K : PySem.W.Frag} {mg : Str → Option Value} {h : Heap} {f : Addr} (X : K.In h) (G : h.Ns mainGlobals mg) (hf : mg "law" = some (.ref f)) (c : obsX fb fn K = valX fn iniV) :
    ∃ fd : FuncData, (∀ (s : Shared) (u : Value), BindsTo s fd ⟨[u], []⟩ [("_law_script", u)]) ∧ ∀ base : Heap, K.In base → base.Ns mainGlobals mg → TabsB K mg ms base → TFn Pg w K mg base 12 f fd ["_law_script"] Flaw := by
  have i0 := saysX_fact c 0 (f := sysB) rfl
  have h_f_len := He.free_ok X G (saysX_fact c 1 (f := freeB "len") rfl)
  have h_f_int := He.free_ok X G (saysX_fact c 2 (f := freeB "int") rfl)
  have h_f_abs := He.free_ok X G (saysX_fact c 3 (f := freeB "abs") rfl)
  have h_f_max := He.free_ok X G (saysX_fact c 4 (f := freeB "max") rfl)
  have h_f_min := He.free_ok X G (saysX_fact c 5 (f := freeB "min") rfl)
  have h_f_list := He.free_ok X G (saysX_fact c 6 (f := freeB "list") rfl)
  have h_f_range := He.free_ok X G (saysX_fact c 7 (f := freeB "range") rfl)
  have h_f_isinstance := He.free_ok X G (saysX_fact c 8 (f := freeB "isinstance") rfl)
  have h_f_str := He.free_ok X G (saysX_fact c 9 (f := freeB "str") rfl)
  have h_f_repr := He.free_ok X G (saysX_fact c 10 (f := freeB "repr") rfl)
  have h_f_all := He.free_ok X G (saysX_fact c 11 (f := freeB "all") rfl)
  have h_f_bool := He.free_ok X G (saysX_fact c 12 (f := freeB "bool") rfl)
  have h_f_tuple := He.free_ok X G (saysX_fact c 13 (f := freeB "tuple") rfl)
  have h_f_sum := He.free_ok X G (saysX_fact c 14 (f := freeB "sum") rfl)
  have h_f_set := He.free_ok X G (saysX_fact c 15 (f := freeB "set") rfl)
  have h_f_sorted := He.free_ok X G (saysX_fact c 16 (f := freeB "sorted") rfl)
  have h_f_dict := He.free_ok X G (saysX_fact c 17 (f := freeB "dict") rfl)
  have h_f_zip := He.free_ok X G (saysX_fact c 18 (f := freeB "zip") rfl)
  have h_f_super := He.free_ok X G (saysX_fact c 19 (f := freeB "super") rfl)
  have h_nLETTERS := He.str_ok X G (saysX_fact c 20 (f := faB (.str "LETTERS" "abcdefghijklmnopqrstuvwxyz")) rfl)
  have h_nMOST_LETTERS := He.int_ok X G (saysX_fact c 21 (f := faB (.int "MOST_LETTERS" 8)) rfl)
  have h_nLEAST_DIAL := He.int_ok X G (saysX_fact c 22 (f := faB (.int "LEAST_DIAL" 2)) rfl)
  have h_nMOST_DIAL := He.int_ok X G (saysX_fact c 23 (f := faB (.int "MOST_DIAL" 1000000)) rfl)
  have h_nPAIR := He.int_ok X G (saysX_fact c 24 (f := faB (.int "PAIR" 2)) rfl)
  have h_gis_whole := He.glo_ok X G (saysX_fact c 25 (f := gloB "is_whole") rfl)
  have h_gis_integer := He.glo_ok X G (saysX_fact c 26 (f := gloB "is_integer") rfl)
  have h_gis_tuple := He.glo_ok X G (saysX_fact c 27 (f := gloB "is_tuple") rfl)
  have h_gis_name := He.glo_ok X G (saysX_fact c 28 (f := gloB "is_name") rfl)
  have h_gdo_ascend := He.glo_ok X G (saysX_fact c 29 (f := gloB "do_ascend") rfl)
  have h_gcheck_dial := He.glo_ok X G (saysX_fact c 30 (f := gloB "check_dial") rfl)
  have h_gis_part := He.glo_ok X G (saysX_fact c 31 (f := gloB "is_part") rfl)
  have h_gare_parts := He.glo_ok X G (saysX_fact c 32 (f := gloB "are_parts") rfl)
  have h_gsum_of := He.glo_ok X G (saysX_fact c 33 (f := gloB "sum_of") rfl)
  have h_gadded := He.glo_ok X G (saysX_fact c 34 (f := gloB "added") rfl)
  have h_gare_values := He.glo_ok X G (saysX_fact c 35 (f := gloB "are_values") rfl)
  have h_g_law_pot := He.glo_ok X G (saysX_fact c 36 (f := gloB "_law_pot") rfl)
  have h_g_law_take := He.glo_ok X G (saysX_fact c 37 (f := gloB "_law_take") rfl)
  have h_g_law_of := He.glo_ok X G (saysX_fact c 38 (f := gloB "_law_of") rfl)
  have h_g_law_some := He.glo_ok X G (saysX_fact c 39 (f := gloB "_law_some") rfl)
  have h_g_law_names := He.glo_ok X G (saysX_fact c 40 (f := gloB "_law_names") rfl)
  have h_g_law_places := He.glo_ok X G (saysX_fact c 41 (f := gloB "_law_places") rfl)
  have h_g_law_told := He.glo_ok X G (saysX_fact c 42 (f := gloB "_law_told") rfl)
  have h_g_law_is_int := He.glo_ok X G (saysX_fact c 43 (f := gloB "_law_is_int") rfl)
  have h_g_law_is_word := He.glo_ok X G (saysX_fact c 44 (f := gloB "_law_is_word") rfl)
  have h_g_law_odd := He.glo_ok X G (saysX_fact c 45 (f := gloB "_law_odd") rfl)
  have h_g_law_sum := He.glo_ok X G (saysX_fact c 46 (f := gloB "_law_sum") rfl)
  have h_g_law_plus := He.glo_ok X G (saysX_fact c 47 (f := gloB "_law_plus") rfl)
  have h_g_law_times := He.glo_ok X G (saysX_fact c 48 (f := gloB "_law_times") rfl)
  have h_g_law_put := He.glo_ok X G (saysX_fact c 49 (f := gloB "_law_put") rfl)
  have h_g_law_made := He.glo_ok X G (saysX_fact c 50 (f := gloB "_law_made") rfl)
  have h_g_law_pair := He.glo_ok X G (saysX_fact c 51 (f := gloB "_law_pair") rfl)
  have h_g_law_many := He.glo_ok X G (saysX_fact c 52 (f := gloB "_law_many") rfl)
  have h_g_law_some_sum := He.glo_ok X G (saysX_fact c 53 (f := gloB "_law_some_sum") rfl)
  have h_g_law_comes := He.glo_ok X G (saysX_fact c 54 (f := gloB "_law_comes") rfl)
  have h_g_law_rests_right := He.glo_ok X G (saysX_fact c 55 (f := gloB "_law_rests_right") rfl)
  have h_g_law_are_values := He.glo_ok X G (saysX_fact c 56 (f := gloB "_law_are_values") rfl)
  have h_g_law_values_right := He.glo_ok X G (saysX_fact c 57 (f := gloB "_law_values_right") rfl)
  have h_g_law_right := He.glo_ok X G (saysX_fact c 58 (f := gloB "_law_right") rfl)
  have h_glaw := He.glo_ok X G (saysX_fact c 59 (f := gloB "law") rfl)
  have h_kSum := He.glo_ok X G (saysX_fact c 60 (f := gloB "Sum") rfl)
  have h_cSum := He.cls_ok (saysX_fact c 61 (f := faB (.cls "Sum")) rfl)
  have h_fcSum := (saysX_fact c 62 (f := fnB "Sum" "__call__") rfl)
  have h_oaSum_mod := (saysX_fact c 63 (f := ownAnyB "Sum" "mod") rfl)
  have h_mkSum := (saysX_fact c 64 (f := faB (.mkr "Sum")) rfl)
  have h_dtSum0 := (saysX_fact c 65 (f := tup0B (adD (adM "Sum" "__init__") 0)) rfl)
  have h_pSum_parts := (saysX_fact c 66 (f := propB "Sum" "parts") rfl)
  have h_pSum_number := (saysX_fact c 67 (f := propB "Sum" "number") rfl)
  have h_mSum___call__ := (saysX_fact c 68 (f := faB (.meth "Sum" "__call__")) rfl)
  have h_mSum___mod__ := (saysX_fact c 69 (f := faB (.meth "Sum" "__mod__")) rfl)
  have h_mSum_put := (saysX_fact c 70 (f := faB (.meth "Sum" "put")) rfl)
  have h__naown_parts_Sum := He.noat_ok (saysX_fact c 71 (f := faB (.noat "Sum" "own_parts")) rfl)
  have h__naown_number_Sum := He.noat_ok (saysX_fact c 72 (f := faB (.noat "Sum" "own_number")) rfl)
  have h__naown_many_Sum := He.noat_ok (saysX_fact c 73 (f := faB (.noat "Sum" "own_many")) rfl)
  have h_aown_parts : ∀ C ∈ (["Sum"] : List Str), CL K C ∧ NoAttr K (He.ga K C) "own_parts" := fun C hC => by
    rw [List.mem_singleton.mp hC]
    exact ⟨h_cSum, h__naown_parts_Sum⟩
  have h_aown_number : ∀ C ∈ (["Sum"] : List Str), CL K C ∧ NoAttr K (He.ga K C) "own_number" := fun C hC => by
    rw [List.mem_singleton.mp hC]
    exact ⟨h_cSum, h__naown_number_Sum⟩
  have h_aown_many : ∀ C ∈ (["Sum"] : List Str), CL K C ∧ NoAttr K (He.ga K C) "own_many" := fun C hC => by
    rw [List.mem_singleton.mp hC]
    exact ⟨h_cSum, h__naown_many_Sum⟩
  obtain ⟨xf, xg⟩ := exF_of (saysX_fact c 74 (f := exsB ex) rfl)
  have xi := ifn_of (P := Pg) (i := ini) (saysX_ini c) (saysX_fact c 75 (f := ifnB Pg.main.file) rfl) (by decide +kernel) (by decide +kernel)
  have xs := isf_of xf (saysX_fact c 76 (f := isfB ex ow) rfl)
  have V : Fax K mg := ⟨Option.isSome_iff_exists.mp i0, h_f_len, h_f_int, h_f_abs, h_f_max, h_f_min, h_f_list, h_f_range, h_f_isinstance, h_f_str, h_f_repr, h_f_all, h_f_bool, h_f_tuple, h_f_sum, h_f_set, h_f_sorted, h_f_dict, h_f_zip, h_f_super, h_nLETTERS, h_nMOST_LETTERS, h_nLEAST_DIAL, h_nMOST_DIAL, h_nPAIR, h_gis_whole, h_gis_integer, h_gis_tuple, h_gis_name, h_gdo_ascend, h_gcheck_dial, h_gis_part, h_gare_parts, h_gsum_of, h_gadded, h_gare_values, h_g_law_pot, h_g_law_take, h_g_law_of, h_g_law_some, h_g_law_names, h_g_law_places, h_g_law_told, h_g_law_is_int, h_g_law_is_word, h_g_law_odd, h_g_law_sum, h_g_law_plus, h_g_law_times, h_g_law_put, h_g_law_made, h_g_law_pair, h_g_law_many, h_g_law_some_sum, h_g_law_comes, h_g_law_rests_right, h_g_law_are_values, h_g_law_values_right, h_g_law_right, h_glaw, h_kSum, h_cSum, h_fcSum, h_oaSum_mod, h_mkSum, h_dtSum0, h_pSum_parts, h_pSum_number, h_mSum___call__, h_mSum___mod__, h_mSum_put, h_aown_parts, h_aown_number, h_aown_many, xf, xi, fun C hC => PySem.W.mg_of X G (xg C hC), xs⟩
  obtain ⟨fdis_whole, Dis_whole⟩ := saysX_def c 0 (d := dis_whole) rfl
  obtain ⟨fdis_integer, Dis_integer⟩ := saysX_def c 1 (d := dis_integer) rfl
  obtain ⟨fdis_tuple, Dis_tuple⟩ := saysX_def c 2 (d := dis_tuple) rfl
  obtain ⟨fdis_name, Dis_name⟩ := saysX_def c 3 (d := dis_name) rfl
  obtain ⟨fddo_ascend, Ddo_ascend⟩ := saysX_def c 4 (d := ddo_ascend) rfl
  obtain ⟨fdcheck_dial, Dcheck_dial⟩ := saysX_def c 5 (d := dcheck_dial) rfl
  obtain ⟨fdis_part, Dis_part⟩ := saysX_def c 6 (d := dis_part) rfl
  obtain ⟨fdare_parts, Dare_parts⟩ := saysX_def c 7 (d := dare_parts) rfl
  obtain ⟨fdSum___init__, DSum___init__⟩ := saysX_def c 8 (d := dSum___init__) rfl
  obtain ⟨fdsum_of, Dsum_of⟩ := saysX_def c 9 (d := dsum_of) rfl
  obtain ⟨fdadded, Dadded⟩ := saysX_def c 10 (d := dadded) rfl
  obtain ⟨fdare_values, Dare_values⟩ := saysX_def c 11 (d := dare_values) rfl
  obtain ⟨fdSum_parts, DSum_parts⟩ := saysX_def c 12 (d := dSum_parts) rfl
  obtain ⟨fdSum_number, DSum_number⟩ := saysX_def c 13 (d := dSum_number) rfl
  obtain ⟨fdSum___call__, DSum___call__⟩ := saysX_def c 14 (d := dSum___call__) rfl
  obtain ⟨fdSum___mod__, DSum___mod__⟩ := saysX_def c 15 (d := dSum___mod__) rfl
  obtain ⟨fdSum_put, DSum_put⟩ := saysX_def c 16 (d := dSum_put) rfl
  obtain ⟨fd_law_pot, D_law_pot⟩ := saysX_def c 17 (d := d_law_pot) rfl
  obtain ⟨fd_law_take, D_law_take⟩ := saysX_def c 18 (d := d_law_take) rfl
  obtain ⟨fd_law_of, D_law_of⟩ := saysX_def c 19 (d := d_law_of) rfl
  obtain ⟨fd_law_some, D_law_some⟩ := saysX_def c 20 (d := d_law_some) rfl
  obtain ⟨fd_law_names, D_law_names⟩ := saysX_def c 21 (d := d_law_names) rfl
  obtain ⟨fd_law_places, D_law_places⟩ := saysX_def c 22 (d := d_law_places) rfl
  obtain ⟨fd_law_told, D_law_told⟩ := saysX_def c 23 (d := d_law_told) rfl
  obtain ⟨fd_law_is_int, D_law_is_int⟩ := saysX_def c 24 (d := d_law_is_int) rfl
  obtain ⟨fd_law_is_word, D_law_is_word⟩ := saysX_def c 25 (d := d_law_is_word) rfl
  obtain ⟨fd_law_odd, D_law_odd⟩ := saysX_def c 26 (d := d_law_odd) rfl
  obtain ⟨fd_law_sum, D_law_sum⟩ := saysX_def c 27 (d := d_law_sum) rfl
  obtain ⟨fd_law_plus, D_law_plus⟩ := saysX_def c 28 (d := d_law_plus) rfl
  obtain ⟨fd_law_times, D_law_times⟩ := saysX_def c 29 (d := d_law_times) rfl
  obtain ⟨fd_law_put, D_law_put⟩ := saysX_def c 30 (d := d_law_put) rfl
  obtain ⟨fd_law_made, D_law_made⟩ := saysX_def c 31 (d := d_law_made) rfl
  obtain ⟨fd_law_pair, D_law_pair⟩ := saysX_def c 32 (d := d_law_pair) rfl
  obtain ⟨fd_law_many, D_law_many⟩ := saysX_def c 33 (d := d_law_many) rfl
  obtain ⟨fd_law_some_sum, D_law_some_sum⟩ := saysX_def c 34 (d := d_law_some_sum) rfl
  obtain ⟨fd_law_comes, D_law_comes⟩ := saysX_def c 35 (d := d_law_comes) rfl
  obtain ⟨fd_law_rests_right, D_law_rests_right⟩ := saysX_def c 36 (d := d_law_rests_right) rfl
  obtain ⟨fd_law_are_values, D_law_are_values⟩ := saysX_def c 37 (d := d_law_are_values) rfl
  obtain ⟨fd_law_values_right, D_law_values_right⟩ := saysX_def c 38 (d := d_law_values_right) rfl
  obtain ⟨fd_law_right, D_law_right⟩ := saysX_def c 39 (d := d_law_right) rfl
  obtain ⟨fdlaw, Dlaw⟩ := saysX_def c 40 (d := dlaw) rfl
  have eqf := hf.symm.trans V.glaw
  cases eqf
  refine ⟨fdlaw, fun s u => FunD.bindsA (ps := Plaw) Dlaw (fun _ _ _ _ _ _ us hl => match us, hl with | [_], _ => rfl) s [u] rfl, fun base _ _ ztldB => ?_⟩
  have ztldC : ToldC K mg := ⟨_, _, _, _, _, D_law_told, V.g_law_told, (D_law_told.bindsN (ps := [nLook]) fun _ _ _ _ _ _ us hl => match us, hl with | [_], _ => rfl), ⟨rfl, rfl, rfl, by decide +kernel, rfl, by decide +kernel, by decide +kernel⟩, ⟨rfl, rfl, rfl, rfl, rfl⟩, ⟨_, _, _, _, _, _, _, _, _, _, _, _, _, _, _, _, _, _, _, _, _, _, _, _, _, _,  rfl, fun env h => by cases env; cases h; rfl⟩⟩
  have zcis_whole := tdef_of Dis_whole V.gis_whole scis_whole (Dis_whole.bindsN (ps := Pr.Pis_whole) fun _ _ _ _ _ _ us hl => match us, hl with | [_], _ => rfl) (fun E => wis_whole (w := w) (base := base) V  E _ _)
  have zcis_integer := tdef_of Dis_integer V.gis_integer scis_integer (Dis_integer.bindsN (ps := Pr.Pis_integer) fun _ _ _ _ _ _ us hl => match us, hl with | [_, _, _], _ => rfl) (fun E => wis_integer (w := w) (base := base) V zcis_whole E _ _)
  have zcis_tuple := tdef_of Dis_tuple V.gis_tuple scis_tuple (Dis_tuple.bindsN (ps := Pr.Pis_tuple) fun _ _ _ _ _ _ us hl => match us, hl with | [_, _, _], _ => rfl) (fun E => wis_tuple (w := w) (base := base) V  E _ _)
  have zcis_name := tdef_of Dis_name V.gis_name scis_name (Dis_name.bindsN (ps := Pr.Pis_name) fun _ _ _ _ _ _ us hl => match us, hl with | [_], _ => rfl) (fun E => wis_name (w := w) (base := base) V  E _ _)
  have zcdo_ascend := tdef_of Ddo_ascend V.gdo_ascend scdo_ascend (Ddo_ascend.bindsN (ps := Pr.Pdo_ascend) fun _ _ _ _ _ _ us hl => match us, hl with | [_], _ => rfl) (fun E => wdo_ascend (w := w) (base := base) V  E _ _)
  have zccheck_dial := tdef_of Dcheck_dial V.gcheck_dial sccheck_dial (Dcheck_dial.bindsN (ps := Pr.Pcheck_dial) fun _ _ _ _ _ _ us hl => match us, hl with | [_], _ => rfl) (fun E => wcheck_dial (w := w) (base := base) V zcis_integer E _ _)
  have zcis_part := tdef_of Dis_part V.gis_part scis_part (Dis_part.bindsN (ps := Pr.Pis_part) fun _ _ _ _ _ _ us hl => match us, hl with | [_], _ => rfl) (fun E => wis_part (w := w) (base := base) V zcis_name zcis_tuple zcis_whole E _ _)
  have zcare_parts := tdef_of Dare_parts V.gare_parts scare_parts (Dare_parts.bindsN (ps := Pr.Pare_parts) fun _ _ _ _ _ _ us hl => match us, hl with | [_], _ => rfl) (fun E => ware_parts (w := w) (base := base) V zcdo_ascend zcis_part E _ _)
  have zmkSum0 := tmk_of (dfl := []) (j := 2) DSum___init__ V.mkSum V.kSum scSum___init__ (DSum___init__.binds1 3 2 (by simp [DefX.dvs, dSum___init__]) (by simp [DefX.dvs, dSum___init__]) fun _ _ _ _ _ _ _ us its h1 h2 => match us, its, h1, h2 with | [_, _, _], [_, _], _, _ => ⟨_, rfl, rfl⟩) (fun g H => by
    simp only [DefX.dvs, dSum___init__, List.map_cons, List.map_nil, List.drop, RVs]) (fun E => wSum___init__ (w := w) (base := base) V zcare_parts zcis_whole E _ _)
  have zmkSum1 := tmk_of (dfl := [.int 0]) (j := 1) DSum___init__ V.mkSum V.kSum scSum___init__ (DSum___init__.binds1 2 1 (by simp [DefX.dvs, dSum___init__]) (by simp [DefX.dvs, dSum___init__]) fun _ _ _ _ _ _ _ us its h1 h2 => match us, its, h1, h2 with | [_, _], [_, _], _, _ => ⟨_, rfl, rfl⟩) (fun g H => by
    simp only [DefX.dvs, dSum___init__, List.map_cons, List.map_nil, List.drop, RVs]
    exact ⟨_, _, rfl, by simp only [RV, He.Dv.v], rfl⟩) (fun E => wSum___init__ (w := w) (base := base) V zcare_parts zcis_whole E _ _)
  have zmkSum2 := tmk_of (dfl := [.tup [], .int 0]) (j := 0) DSum___init__ V.mkSum V.kSum scSum___init__ (DSum___init__.binds1 1 0 (by simp [DefX.dvs, dSum___init__]) (by simp [DefX.dvs, dSum___init__]) fun _ _ _ _ _ _ _ us its h1 h2 => match us, its, h1, h2 with | [_], [_, _], _, _ => ⟨_, rfl, rfl⟩) (fun g H => by
    simp only [DefX.dvs, dSum___init__, List.map_cons, List.map_nil, List.drop, RVs]
    exact ⟨_, _, rfl, tup0B_ok V.dtSum0 g H, ⟨_, _, rfl, by simp only [RV, He.Dv.v], rfl⟩⟩) (fun E => wSum___init__ (w := w) (base := base) V zcare_parts zcis_whole E _ _)
  have zcsum_of := tdef_of Dsum_of V.gsum_of scsum_of (Dsum_of.bindsN (ps := Pr.Psum_of) fun _ _ _ _ _ _ us hl => match us, hl with | [_, _], _ => rfl) (fun E => wsum_of (w := w) (base := base) V zmkSum0 E _ _)
  have zcadded := tdef_of Dadded V.gadded scadded (Dadded.bindsN (ps := Pr.Padded) fun _ _ _ _ _ _ us hl => match us, hl with | [_, _, _], _ => rfl) (fun E => wadded (w := w) (base := base) V zcsum_of E _ _)
  replace zcadded := zcadded.cut
  have zcare_values := tdef_of Dare_values V.gare_values scare_values (Dare_values.bindsN (ps := Pr.Pare_values) fun _ _ _ _ _ _ us hl => match us, hl with | [_], _ => rfl) (fun E => ware_values (w := w) (base := base) V zcis_name zcis_whole E _ _)
  have zcSum_parts := tprop_of DSum_parts V.pSum_parts V.cSum scSum_parts (DSum_parts.bindsN (ps := Pr.PSum_parts) fun _ _ _ _ _ _ us hl => match us, hl with | [_], _ => rfl) (fun E => wSum_parts (w := w) (base := base) V  E _ _)
  have zcSum_number := tprop_of DSum_number V.pSum_number V.cSum scSum_number (DSum_number.bindsN (ps := Pr.PSum_number) fun _ _ _ _ _ _ us hl => match us, hl with | [_], _ => rfl) (fun E => wSum_number (w := w) (base := base) V  E _ _)
  have zcSum___call__ := tmet_of DSum___call__ V.mSum___call__ V.cSum scSum___call__ (DSum___call__.bindsN (ps := Pr.PSum___call__) fun _ _ _ _ _ _ us hl => match us, hl with | [_, _], _ => rfl) (fun E => wSum___call__ (w := w) (base := base) V zcare_values E _ _)
  have zcSum___mod__ := tmet_of DSum___mod__ V.mSum___mod__ V.cSum scSum___mod__ (DSum___mod__.bindsN (ps := Pr.PSum___mod__) fun _ _ _ _ _ _ us hl => match us, hl with | [_, _], _ => rfl) (fun E => wSum___mod__ (w := w) (base := base) V zccheck_dial zcsum_of E _ _)
  have zcSum_put := tmet_of DSum_put V.mSum_put V.cSum scSum_put (DSum_put.bindsN (ps := Pr.PSum_put) fun _ _ _ _ _ _ us hl => match us, hl with | [_, _, _], _ => rfl) (fun E => wSum_put (w := w) (base := base) V zcadded zcis_name zcsum_of E _ _)
  have zc_law_pot := tdef_of D_law_pot V.g_law_pot sc_law_pot (D_law_pot.bindsN (ps := P_law_pot) fun _ _ _ _ _ _ us hl => match us, hl with | [_, _], _ => rfl) (fun E => w_law_pot (w := w) (base := base) V  E _ _)
  have zc_law_take := tdef_of D_law_take V.g_law_take sc_law_take (D_law_take.bindsN (ps := P_law_take) fun _ _ _ _ _ _ us hl => match us, hl with | [_, _], _ => rfl) (fun E => w_law_take (w := w) (base := base) V  E _ _)
  have zc_law_of := tdef_of D_law_of V.g_law_of sc_law_of (D_law_of.bindsN (ps := P_law_of) fun _ _ _ _ _ _ us hl => match us, hl with | [_, _], _ => rfl) (fun E => w_law_of (w := w) (base := base) V zc_law_take E _ _)
  have zc_law_some := tdef_of D_law_some V.g_law_some sc_law_some (D_law_some.bindsN (ps := P_law_some) fun _ _ _ _ _ _ us hl => match us, hl with | [_, _, _], _ => rfl) (fun E => w_law_some (w := w) (base := base) V zc_law_take E _ _)
  replace zc_law_some := zc_law_some.cut
  have zc_law_names := tdef_of D_law_names V.g_law_names sc_law_names (D_law_names.bindsN (ps := P_law_names) fun _ _ _ _ _ _ us hl => match us, hl with | [_, _], _ => rfl) (fun E => w_law_names (w := w) (base := base) V zc_law_some E _ _)
  have zc_law_places := tdef_of D_law_places V.g_law_places sc_law_places (D_law_places.bindsN (ps := P_law_places) fun _ _ _ _ _ _ us hl => match us, hl with | [_, _], _ => rfl) (fun E => w_law_places (w := w) (base := base) V  E _ _)
  have zc_law_is_int := tdef_of D_law_is_int V.g_law_is_int sc_law_is_int (D_law_is_int.bindsN (ps := P_law_is_int) fun _ _ _ _ _ _ us hl => match us, hl with | [_, _, _], _ => rfl) (fun E => w_law_is_int (w := w) (base := base) V  E _ _)
  have zc_law_is_word := tdef_of D_law_is_word V.g_law_is_word sc_law_is_word (D_law_is_word.bindsN (ps := P_law_is_word) fun _ _ _ _ _ _ us hl => match us, hl with | [_], _ => rfl) (fun E => w_law_is_word (w := w) (base := base) V  E _ _)
  have zc_law_odd := tdef_of D_law_odd V.g_law_odd sc_law_odd (D_law_odd.bindsN (ps := P_law_odd) fun _ _ _ _ _ _ us hl => match us, hl with | [_], _ => rfl) (fun E => w_law_odd (w := w) (base := base) V zc_law_of E _ _)
  have zc_law_sum := tdef_of D_law_sum V.g_law_sum sc_law_sum (D_law_sum.bindsN (ps := P_law_sum) fun _ _ _ _ _ _ us hl => match us, hl with | [_, _], _ => rfl) (fun E => w_law_sum (w := w) (base := base) V  E _ _)
  replace zc_law_sum := zc_law_sum.cut
  have zc_law_plus := tdef_of D_law_plus V.g_law_plus sc_law_plus (D_law_plus.bindsN (ps := P_law_plus) fun _ _ _ _ _ _ us hl => match us, hl with | [_, _], _ => rfl) (fun E => w_law_plus (w := w) (base := base) V zc_law_sum E _ _)
  have zc_law_times := tdef_of D_law_times V.g_law_times sc_law_times (D_law_times.bindsN (ps := P_law_times) fun _ _ _ _ _ _ us hl => match us, hl with | [_, _], _ => rfl) (fun E => w_law_times (w := w) (base := base) V zc_law_sum E _ _)
  have zc_law_put := tdef_of D_law_put V.g_law_put sc_law_put (D_law_put.bindsN (ps := P_law_put) fun _ _ _ _ _ _ us hl => match us, hl with | [_, _, _], _ => rfl) (fun E => w_law_put (w := w) (base := base) V zc_law_plus zc_law_sum zc_law_times E _ _)
  have zc_law_made := tdef_of D_law_made V.g_law_made sc_law_made (D_law_made.bindsN (ps := P_law_made) fun _ _ _ _ _ _ us hl => match us, hl with | [_], _ => rfl) (fun E => w_law_made (w := w) (base := base) V zmkSum0 E _ _)
  have zc_law_pair := tdef_of D_law_pair V.g_law_pair sc_law_pair (D_law_pair.bindsN (ps := P_law_pair) fun _ _ _ _ _ _ us hl => match us, hl with | [_], _ => rfl) (fun E => w_law_pair (w := w) (base := base) V zcSum_number zcSum_parts E _ _)
  have zc_law_many := tdef_of D_law_many V.g_law_many sc_law_many (D_law_many.bindsN (ps := P_law_many) fun _ _ _ _ _ _ us hl => match us, hl with | [_], _ => rfl) (fun E => w_law_many (w := w) (base := base) V zc_law_of E _ _)
  have zc_law_some_sum := tdef_of D_law_some_sum V.g_law_some_sum sc_law_some_sum (D_law_some_sum.bindsN (ps := P_law_some_sum) fun _ _ _ _ _ _ us hl => match us, hl with | [_, _, _], _ => rfl) (fun E => w_law_some_sum (w := w) (base := base) V zc_law_many zc_law_of zc_law_some zc_law_sum zc_law_take E _ _)
  have zc_law_comes := tdef_of D_law_comes V.g_law_comes sc_law_comes (D_law_comes.bindsN (ps := P_law_comes) fun _ _ _ _ _ _ us hl => match us, hl with | [_, _], _ => rfl) (fun E => w_law_comes (w := w) (base := base) V  E _ _)
  have zc_law_rests_right := tdef_of D_law_rests_right V.g_law_rests_right sc_law_rests_right (D_law_rests_right.bindsN (ps := P_law_rests_right) fun _ _ _ _ _ _ us hl => match us, hl with | [_, _, _], _ => rfl) (fun E => w_law_rests_right (w := w) (base := base) V zcSum___mod__ zc_law_is_int zc_law_odd zc_law_pair zc_law_sum zc_law_take ztldB ztldC E)
  have zc_law_are_values := tdef_of D_law_are_values V.g_law_are_values sc_law_are_values (D_law_are_values.bindsN (ps := P_law_are_values) fun _ _ _ _ _ _ us hl => match us, hl with | [_, _], _ => rfl) (fun E => w_law_are_values (w := w) (base := base) V zc_law_is_int zc_law_is_word E _ _)
  have zc_law_values_right := tdef_of D_law_values_right V.g_law_values_right sc_law_values_right (D_law_values_right.bindsN (ps := P_law_values_right) fun _ _ _ _ _ _ us hl => match us, hl with | [_, _, _, _], _ => rfl) (fun E => w_law_values_right (w := w) (base := base) V zcSum___call__ zc_law_are_values zc_law_comes zc_law_odd zc_law_take ztldB ztldC E)
  have zc_law_right := tdef_of D_law_right V.g_law_right sc_law_right (D_law_right.bindsN (ps := P_law_right) fun _ _ _ _ _ _ us hl => match us, hl with | [_], _ => rfl) (fun E => w_law_right (w := w) (base := base) V zcSum_put zc_law_is_word zc_law_made zc_law_names zc_law_odd zc_law_pair zc_law_put zc_law_rests_right zc_law_some_sum zc_law_values_right ztldB ztldC E)
  replace zc_law_right := zc_law_right.cut
  exact tfn_of Dlaw sclaw (fun E => wlaw (w := w) (base := base) V zc_law_places zc_law_pot zc_law_right E _ _)
end K05
set_option Elab.async false
set_option linter.all false
set_option maxRecDepth 100000
set_option maxHeartbeats 4000000
namespace K05
open PySem PySem.Spec PyProof.Rows L2 TL
/-- the pot -/
structure Pot (S : List O) (i : Nat) (T : Int) : Prop where
  ex : ∃ a b t : Int, S[i]? = some (.lst [.int a, .int b, .int t]) ∧ 0 ≤ a ∧ 0 ≤ b ∧ b < 2 ^ 61 ∧ 0 ≤ t ∧ t ≤ T
structure Step (i : Nat) (T : Int) (S S' : List O) : Prop where
  len : S'.length = S.length
  off : ∀ j, j ≠ i → S'[j]? = S[j]?
  pot : Pot S' i T
def Ret (o : Out D) (P : D → List O → Prop) : Prop := ∃ d S, o = .ok d S ∧ P d S
theorem cdiv {i u : Int} (hu : 0 < u) (hu2 : u < 2 ^ 62) : CDivW i u := ⟨hu, by
    have h2 := Nat.log2_lt (n := u.natAbs) (k := 62) (by omega)
    have := h2.mpr (by omega)
    omega⟩
theorem take1 {S : List O} {i : Nat} {a b t u : Int} (h : S[i]? = some (.lst [.int a, .int b, .int t])) (ha : 0 < a) (hu : 0 < u) (hu2 : u < 2 ^ 62) :
    F_law_take [.hnd i, .int u] S = .ok (.int (a % u)) (S.set i (.lst [.int (a / u), .int b, .int t])) := by
  have c1 : ixD (.hnd i) (.int 0) S = .ok (.int a) S := ix_hnd h rfl
  have c2 : CDivW a u := cdiv hu hu2
  have c3 : setD (.hnd i) (.int 0) (.int (a / u)) S = some (S.set i (.lst [.int (a / u), .int b, .int t])) := set_hnd h rfl
  unfold F_law_take t_law_take
  simp [N_law_take, c1, ha, mod_int S hu, div_int S c2, c3]
theorem log2_le {x : Int} {n k : Nat} (h : x.natAbs < 2 ^ n) (hn : n ≤ k) : x.natAbs.log2 ≤ k := by
  by_cases h0 : x.natAbs = 0
  · rw [h0]
    simp
  · have := (Nat.log2_lt (n := x.natAbs) (k := n) h0).mpr h
    omega
theorem bits_le {x : Int} {n : Nat} (h : x.natAbs < 2 ^ n) : Builtin.Int.intBits x ≤ n + 1 := by
  unfold Builtin.Int.intBits
  split
  · omega
  · have := log2_le (k := n) h (Nat.le_refl _)
    omega
theorem cmul {i j : Int} (h1 : i.natAbs < 2 ^ 1000) (h2 : j.natAbs < 2 ^ 1000) : CMul i j ∨ CMulW i j := .inr (by
  have := log2_le (k := 1000) h1 (Nat.le_refl _)
  have := log2_le (k := 1000) h2 (Nat.le_refl _)
  show _ + _ < _
  omega)
/-- a choice of five -/
theorem five (x : Int) (h0 : 0 ≤ x) (h5 : x < 5) : ∃ p : Int, 0 < p ∧ p < 2 ^ 31 ∧ atI [D.int 2147483647, .int 2147483629, .int 2147483587, .int 2147483579, .int 2147483563] x = some (.int p) := by
  have : x = 0 ∨ x = 1 ∨ x = 2 ∨ x = 3 ∨ x = 4 := by omega
  rcases this with rfl | rfl | rfl | rfl | rfl
  · exact ⟨2147483647, by decide, by decide, rfl⟩
  · exact ⟨2147483629, by decide, by decide, rfl⟩
  · exact ⟨2147483587, by decide, by decide, rfl⟩
  · exact ⟨2147483579, by decide, by decide, rfl⟩
  · exact ⟨2147483563, by decide, by decide, rfl⟩
theorem take2 {S : List O} {i : Nat} {b t u : Int} (h : S[i]? = some (.lst [.int 0, .int b, .int t])) (hb : 0 ≤ b) (hb2 : b < 2 ^ 61) (ht : 0 ≤ t) (ht2 : t < 2 ^ 20) (hu : 0 < u) (hu2 : u < 2 ^ 62) :
    ∃ r : Int, F_law_take [.hnd i, .int u] S = .ok (.int r) (S.set i (.lst [.int 0, .int b, .int (t + 1)])) ∧ 0 ≤ r ∧ r < u := by
  have hi : i < S.length := (List.getElem?_eq_some_iff.mp h).1
  have g1 : (S.set i (.lst [.int 0, .int b, .int (t + 1)]))[i]? = some (.lst [.int 0, .int b, .int (t + 1)]) := List.getElem?_set_self hi
  generalize hS : S.set i (.lst [.int 0, .int b, .int (t + 1)]) = S' at g1
  have c0 : ixD (.hnd i) (.int 0) S = .ok (.int 0) S := ix_hnd h rfl
  have c2 : ixD (.hnd i) (.int 2) S = .ok (.int t) S := ix_hnd h rfl
  have c3 : setD (.hnd i) (.int 2) (.int (t + 1)) S = some S' := by
    rw [← hS]
    exact set_hnd h rfl
  have d1 : ixD (.hnd i) (.int 1) S' = .ok (.int b) S' := ix_hnd g1 rfl
  have d2 : ixD (.hnd i) (.int 2) S' = .ok (.int (t + 1)) S' := ix_hnd g1 rfl
  obtain ⟨p, hp, hp2, e5⟩ := five ((t + 1) % 5) (Int.emod_nonneg _ (by decide)) (Int.emod_lt_of_pos _ (by decide))
  have d5 := ix_lst (S := S') e5
  have hm0 : ∀ x : Int, 0 ≤ x → x < 2 ^ 200 → x.natAbs < 2 ^ 1000 := fun x h1 h2 => by
    have : x.natAbs < 2 ^ 200 := by omega
    exact Nat.lt_of_lt_of_le this (Nat.pow_le_pow_right (by decide) (by decide))
  have hm := fun {x y : Int} (h1 : 0 ≤ x) (h2 : x < 2 ^ 200) (h3 : 0 ≤ y) (h4 : y < 2 ^ 200) => mul_int S' (i := x) (j := y) (cmul (hm0 x h1 h2) (hm0 y h3 h4))
  have l5 : mkL false [D.int 2147483647, .int 2147483629, .int 2147483587, .int 2147483579, .int 2147483563] S' = .ok (.lst [D.int 2147483647, .int 2147483629, .int 2147483587, .int 2147483579, .int 2147483563]) S' := mkL_false S' _ (small_line (by decide))
  have t0 : 0 ≤ t + 1 := by omega
  have t2 : t + 1 ≤ 2 ^ 20 := by omega
  generalize htt : t + 1 = y at *
  have y1 : 91049 * y * y ≤ 91049 * 2 ^ 20 * 2 ^ 20 := Int.mul_le_mul (by omega) t2 t0 (by decide)
  have y0 : 0 ≤ 91049 * y * y := Int.mul_nonneg (by omega) t0
  have m1 := hm (x := 91049) (y := y) (by decide) (by decide) t0 (by omega)
  have m2 := hm (x := 91049 * y) (y := y) (by omega) (by omega) t0 (by omega)
  have hq0 : 0 ≤ b + 91049 * y * y + 79 := by omega
  have hq1 : b + 91049 * y * y + 79 < 2 ^ 62 := by omega
  generalize hq : b + 91049 * y * y + 79 = q at *
  have w1 : powD (.int q) (.int 3) S' = .ok (.int (q ^ 3)) S' := pow_intD S' ⟨by decide, by
    have := bits_le (x := q) (n := 62) (by omega)
    omega⟩
  have m3 := mod_int S' (i := q ^ 3) hp
  have x0 : 0 ≤ q ^ 3 % p := Int.emod_nonneg _ (by omega)
  have x1 : q ^ 3 % p < p := Int.emod_lt_of_pos _ hp
  generalize hx : q ^ 3 % p = x at *
  have m4 := hm (x := 97) (y := y) (by decide) (by decide) t0 (by omega)
  have m6 := mod_int S' (i := x) (j := 10007) (by decide)
  have z0 : 0 ≤ x % 10007 := Int.emod_nonneg _ (by decide)
  have z1 : x % 10007 < 10007 := Int.emod_lt_of_pos _ (by decide)
  have m5 := hm (x := x) (y := x % 10007 + 97 * y) x0 (by omega) (by omega) (by omega)
  have v1 := div_int S' (i := x * (x % 10007 + 97 * y)) (cdiv (u := 127) (by decide) (by decide))
  refine ⟨x * (x % 10007 + 97 * y) / 127 % u, ?_, Int.emod_nonneg _ (by omega), Int.emod_lt_of_pos _ hu⟩
  unfold F_law_take t_law_take
  simp [N_law_take, c0, c2, htt, c3, l5, d2, mod_int S' (i := y) (j := 5) (by decide), d5, d1, m1, m2, hq, w1, m3, hx, m6, m4, m5, v1, mod_int S' hu]
/-- a draw -/
theorem take {S : List O} {i : Nat} {T u : Int} (h : Pot S i T) (hT : T < 2 ^ 20) (hu : 0 < u) (hu2 : u < 2 ^ 62) : Ret (F_law_take [.hnd i, .int u] S) fun d S' => (∃ r : Int, d = .int r ∧ 0 ≤ r ∧ r < u) ∧ Step i (T + 1) S S' := by
  obtain ⟨a, b, t, h1, ha, hb, hb2, ht, htT⟩ := h.ex
  have hi : i < S.length := (List.getElem?_eq_some_iff.mp h1).1
  by_cases h0 : 0 < a
  · refine ⟨_, _, take1 h1 h0 hu hu2, ⟨_, rfl, Int.emod_nonneg _ (by omega), Int.emod_lt_of_pos _ hu⟩, ⟨by simp, fun j hj => List.getElem?_set_ne (Ne.symm hj), ⟨a / u, b, t, List.getElem?_set_self hi, ?_, hb, hb2, ht, by omega⟩⟩⟩
    exact Int.ediv_nonneg ha (by omega)
  · have e : a = 0 := by omega
    subst e
    obtain ⟨r, h2, h3, h4⟩ := take2 h1 hb hb2 ht (by omega) hu hu2
    exact ⟨_, _, h2, ⟨r, rfl, h3, h4⟩, ⟨by simp, fun j hj => List.getElem?_set_ne (Ne.symm hj), ⟨0, b, t + 1, List.getElem?_set_self hi, by decide, hb, hb2, by omega, by omega⟩⟩⟩
theorem Pot.up {S : List O} {i : Nat} {T T' : Int} (h : Pot S i T) (hT : T ≤ T') : Pot S i T' := by
  obtain ⟨a, b, t, h1, h2, h3, h4, h5, h6⟩ := h.ex
  exact ⟨a, b, t, h1, h2, h3, h4, h5, by omega⟩
theorem Step.up {S S' : List O} {i : Nat} {T T' : Int} (h : Step i T S S') (hT : T ≤ T') : Step i T' S S' := ⟨h.len, h.off, h.pot.up hT⟩
theorem Step.tr {S S1 S2 : List O} {i : Nat} {T T' : Int} (h : Step i T S S1) (h2 : Step i T' S1 S2) : Step i T' S S2 := ⟨h2.len.trans h.len, fun j hj => (h2.off j hj).trans (h.off j hj), h2.pot⟩
theorem Step.here {S : List O} {i : Nat} {T : Int} (h : Pot S i T) : Step i T S S := ⟨rfl, fun _ _ => rfl, h⟩
theorem at_nat {α : Type} {xs : List α} {k : Nat} (h : k < xs.length) : atI xs (k : Int) = some xs[k] := by
  unfold atI ixN
  rw [if_pos (by omega), if_pos (by omega)]
  simp [h]
theorem at_int {α : Type} {xs : List α} {r : Int} (h0 : 0 ≤ r) (h : r < xs.length) : ∃ x, atI xs r = some x ∧ x ∈ xs := by
  obtain ⟨k, rfl⟩ := Int.eq_ofNat_of_zero_le h0
  have hk : k < xs.length := by omega
  exact ⟨xs[k], at_nat hk, List.getElem_mem hk⟩
theorem len_lst {ds : List D} {S : List O} : lenD [.lst ds] S = .ok (.int ds.length) S := rfl
theorem len_tup {ds : List D} {S : List O} : lenD [.tup ds] S = .ok (.int ds.length) S := rfl
/-- one of some -/
theorem of_ok {S : List O} {i : Nat} {T : Int} {ds : List D} (h : Pot S i T) (hT : T < 2 ^ 20) (h0 : ds ≠ []) (h1 : ds.length ≤ 4096) : Ret (F_law_of [.hnd i, .lst ds] S) fun d S' => d ∈ ds ∧ Step i (T + 1) S S' := by
  have hl : 0 < ds.length := List.length_pos_iff.mpr h0
  obtain ⟨d, S', e, ⟨r, rfl, r0, r1⟩, st⟩ := take (u := ds.length) h hT (by omega) (by omega)
  obtain ⟨x, e2, hx⟩ := at_int (xs := ds) r0 r1
  refine ⟨x, S', ?_, hx, st⟩
  unfold F_law_of t_law_of
  simp [N_law_of, len_lst, e, ix_lst e2]
/-- the places -/
theorem places_ok {ns : List Int} {m : Int} {S : List O} (hm : m ≤ 2 ^ 20) : F_law_places [.scr ns, .int m] S = .ok (.lst (rng 0 (max 1 (min m ns.length)))) S := by
  have hlen : lenD [.scr ns] S = .ok (.int ns.length) S := by
    unfold lenD seqOf lstOf
    simp
  have e : (if (if (ns.length : Int) < m then (ns.length : Int) else m) > 1 then (if (ns.length : Int) < m then (ns.length : Int) else m) else 1) = max 1 (min m ns.length) := by
    rw [Int.max_def, Int.min_def]
    split <;> split <;> split <;> split <;> omega
  have hb : lsRgD false [.int (max 1 (min m ns.length))] S = .ok (.lst (rng 0 (max 1 (min m ns.length)))) S := by
    have hr : RgOk 0 (max 1 (min m ns.length)) := by
      refine ⟨?_, ?_, ?_, ?_, ?_⟩ <;> first | decide | (rw [Int.max_def, Int.min_def]; split <;> split <;> omega)
    rw [lsRg1 S hr]
    refine mkL_false S _ ?_
    rw [sizeLine_eq]
    unfold rng
    rw [List.length_map, List.length_range]
    rw [Int.max_def, Int.min_def]
    split <;> split <;> omega
  unfold F_law_places t_law_places
  simp [N_law_places, eListRg, hlen, e, hb]
theorem ix_scr {S : List O} {ns : List Int} {k : Int} (h0 : 0 ≤ k) (h1 : k < ns.length) : ∃ c, ixD (.scr ns) (.int k) S = .ok (.int c) S := by
  obtain ⟨x, e, hx⟩ := at_int (xs := ns.map D.int) h0 (by simpa using h1)
  obtain ⟨c, _, rfl⟩ := List.mem_map.mp hx
  exact ⟨c, by unfold ixD seqOf lstOf; simp [e]⟩
theorem ite01 (p : Prop) [Decidable p] : (0 : Int) ≤ if p then 1 else 0 := by split <;> decide
/-- the pot's beginning -/
theorem pot_ok {ns : List Int} {k : Int} (S : List O) (h0 : 0 ≤ k) (h1 : k < 2 ^ 20) : Ret (F_law_pot [.scr ns, .int k] S) fun d S' => d = .hnd S.length ∧ ∃ o, S' = S ++ [o] ∧ Pot S' S.length 0 := by
  have hlen : lenD [.scr ns] S = .ok (.int ns.length) S := by
    unfold lenD seqOf lstOf
    simp
  obtain ⟨M1, p1, q1⟩ : ∃ M1 : Int, powD (.int 10) (.int 60) S = .ok (.int M1) S ∧ M1.natAbs < 2 ^ 200 ∧ 0 < M1 := ⟨10 ^ 60, pow_intD S ⟨by decide, by decide⟩, by decide, by decide⟩
  obtain ⟨M, p2, q2⟩ : ∃ M : Int, powD (.int M1) (.int 5) S = .ok (.int M) S ∧ 0 < M := ⟨M1 ^ 5, pow_intD S ⟨by decide, by
    have := bits_le q1.1
    omega⟩, Int.pow_pos q1.2⟩
  obtain ⟨Q, p3⟩ : ∃ Q : Int, powD (.int 10) (.int 18) S = .ok (.int Q) S := ⟨10 ^ 18, pow_intD S ⟨by decide, by decide⟩⟩
  have hmod := fun x => mod_int S (i := x) q2
  have hmul : ∀ (x : Int) (p : Prop) [Decidable p], mulD (.int x) (.int (if p then 1 else 0)) S = .ok (.int (x * (if p then 1 else 0))) S := fun x p _ => mul_int S (.inl (.inr (by split <;> decide)))
  have hsm := fun x => mod_int S (i := x) (j := 2305843009213693951) (by decide)
  have hse := fun x => mod_int S (i := x) (j := 2305843009213693921) (by decide)
  have m73 := mul_int S (i := 83) (j := k) (.inl (.inl (by decide)))
  have m82 := mul_int S (i := 8219) (j := k) (.inl (.inl (by decide)))
  have m8k := mul_int S (i := 8219 * k) (j := k) (.inl (.inr ⟨by omega, by omega⟩))
  have m76 := fun x => mul_int S (i := x) (j := 76271) (.inl (.inr (by decide)))
  have mL : ∀ ds : List D, ds.length ≤ 40 → mkL true ds S = .ok (.hnd S.length) (S ++ [.lst ds]) := fun ds hl => mkL_true S ds (small_line (by omega))
  have fin : ∀ c : Int, ∃ a b : Int, 0 ≤ a ∧ 0 ≤ b ∧ b < 2 ^ 61 ∧ a = (if c < 0 then -c else c) % M * (if Q ≤ (if c < 0 then -c else c) then 1 else 0) ∧ b = (c % 2305843009213693951 * 76271 + 8219 * k * k + 101) % 2305843009213693921 := fun c => by
    refine ⟨_, _, ?_, Int.emod_nonneg _ (by decide), ?_, rfl, rfl⟩
    · refine Int.mul_nonneg (Int.emod_nonneg _ (by omega)) (ite01 _)
    · have := Int.emod_lt_of_pos (c % 2305843009213693951 * 76271 + 8219 * k * k + 101) (b := 2305843009213693921) (by decide)
      omega
  have done : ∀ c a b : Int, 0 ≤ a → 0 ≤ b → b < 2 ^ 61 → Ret (.ok (.hnd S.length) (S ++ [.lst [.int a, .int b, .int 0]])) fun d S' => d = .hnd S.length ∧ ∃ o, S' = S ++ [o] ∧ Pot S' S.length 0 := fun c a b ha hb hb2 =>
    ⟨_, _, rfl, rfl, _, rfl, a, b, 0, by simp, ha, hb, hb2, by decide, by decide⟩
  by_cases hk : k < ns.length
  · obtain ⟨c, hc⟩ := ix_scr (S := S) h0 hk
    obtain ⟨a, b, ha, hb, hb2, ea, eb⟩ := fin c
    have z := done c a b ha hb hb2
    rw [ea, eb] at z
    unfold F_law_pot t_law_pot
    simpa [N_law_pot, hlen, hk, hc, p1, p2, p3, hmod, hmul, hsm, hse, m82, m8k, m76, mL] using z
  · obtain ⟨a, b, ha, hb, hb2, ea, eb⟩ := fin (83 * k + 44)
    have z := done (83 * k + 44) a b ha hb hb2
    rw [ea, eb] at z
    unfold F_law_pot t_law_pot
    simpa [N_law_pot, hlen, hk, m73, p1, p2, p3, hmod, hmul, hsm, hse, m82, m8k, m76, mL] using z
end K05
set_option Elab.async false
set_option linter.all false
set_option maxRecDepth 100000
set_option maxHeartbeats 4000000
namespace K05
open PySem PySem.Spec PyProof.Rows L2 TL TLX Pr
/-! the law's own helpers over sums -/
theorem Step.eq {S S' : List O} {i : Nat} {T : Int} (h : Step i T S S') : ∃ a b t : Int, S' = S.set i (.lst [.int a, .int b, .int t]) ∧ i < S.length := by
  obtain ⟨a, b, t, h1, _⟩ := h.pot.ex
  have hi : i < S.length := by
    rw [← h.len]
    exact (List.getElem?_eq_some_iff.mp h1).1
  refine ⟨a, b, t, List.ext_getElem? fun j => ?_, hi⟩
  by_cases hj : j = i
  · subst hj
    rw [h1, List.getElem?_set_self hi]
  · rw [h.off j hj, List.getElem?_set_ne (Ne.symm hj)]
theorem Step.flat {S S' : List O} {i : Nat} {T : Int} (h : Step i T S S') (fl : Flat S) : Flat S' := by
  obtain ⟨a, b, t, rfl, _⟩ := h.eq
  exact fl.set rfl
theorem Pot.app {S N : List O} {i : Nat} {T : Int} (h : Pot S i T) : Pot (S ++ N) i T := by
  obtain ⟨a, b, t, h1, h2⟩ := h.ex
  exact ⟨a, b, t, by rw [List.getElem?_append_left (List.getElem?_eq_some_iff.mp h1).1]; exact h1, h2⟩
theorem Pot.lt {S : List O} {i : Nat} {T : Int} (h : Pot S i T) : i < S.length := by
  obtain ⟨a, b, t, h1, _⟩ := h.ex
  exact (List.getElem?_eq_some_iff.mp h1).1
theorem Step.app {S N S' : List O} {i : Nat} {T : Int} (h : Step i T (S ++ N) S') (hi : i < S.length) : ∃ S1, S' = S1 ++ N ∧ Step i T S S1 := by
  obtain ⟨a, b, t, h1, h2, h3, h4, h5, h6⟩ := h.pot.ex
  have e : S' = S.set i (.lst [.int a, .int b, .int t]) ++ N := by
    refine List.ext_getElem? fun j => ?_
    by_cases hj : j = i
    · subst hj
      rw [h1, List.getElem?_append_left (by simpa using hi), List.getElem?_set_self hi]
    · rw [h.off j hj]
      by_cases hl : j < S.length
      · rw [List.getElem?_append_left hl, List.getElem?_append_left (by simpa using hl), List.getElem?_set_ne (Ne.symm hj)]
      · rw [List.getElem?_append_right (by omega), List.getElem?_append_right (by simp; omega)]
        simp
  exact ⟨_, e, by simp, fun j hj => List.getElem?_set_ne (Ne.symm hj), ⟨a, b, t, List.getElem?_set_self hi, h2, h3, h4, h5, h6⟩⟩
theorem get_l {S : List O} {l f : O} : (S ++ [l, f])[S.length]? = some l := by simp
theorem get_f {S : List O} {l f : O} : (S ++ [l, f])[S.length + 1]? = some f := by
  rw [List.getElem?_append_right (by omega)]
  simp
theorem set_l {S : List O} {l f o : O} : (S ++ [l, f]).set S.length o = S ++ [o, f] := by simp
theorem set_f {S : List O} {l f o : O} : (S ++ [l, f]).set (S.length + 1) o = S ++ [l, o] := by
  rw [List.set_append_right _ _ (by omega)]
  simp
theorem erase_perm {α : Type} : ∀ {l : List α} {n : Nat} (h : n < l.length), (l[n] :: l.eraseIdx n).Perm l
  | a :: l, 0, _ => List.Perm.refl _
  | a :: l, n + 1, h => by
    have ih := erase_perm (l := l) (n := n) (by simpa using h)
    simp only [List.getElem_cons_succ, List.eraseIdx_cons_succ]
    exact (List.Perm.swap a _ _).trans (ih.cons a)
/-- one turn of some: a member goes from what is left to what is found -/
theorem some_turn {S : List O} {i : Nat} {T : Int} {l f : List D} {c d x : D} (h : Pot S i T) (hT : T < 2 ^ 20) (h0 : l ≠ []) (hl : l.length ≤ 4000) (hf : f.length ≤ 4000) :
    ∃ S1 y l', sExpr (eLm appD (eVar 4) (eLm popD (eVar 3) (eArgs F_law_take (aCons (eVar 0) (aCons (eArgs lenD (aCons (eVar 3) aNil)) aNil))))) [some (.hnd i), some c, some d, some (.hnd S.length), some (.hnd (S.length + 1)), some x] (S ++ [.lst l, .lst f]) = .nx [some (.hnd i), some c, some d, some (.hnd S.length), some (.hnd (S.length + 1)), some x] (S1 ++ [.lst l', .lst (f ++ [y])]) ∧ Step i (T + 1) S S1 ∧ (y :: l').Perm l := by
  have hlen : 0 < l.length := List.length_pos_iff.mpr h0
  obtain ⟨_, S', e, ⟨r, rfl, r0, r1⟩, st⟩ := take (u := l.length) (h.app (N := [.lst l, .lst f])) hT (by omega) (by omega)
  obtain ⟨S1, rfl, st1⟩ := st.app h.lt
  have hr : r.toNat < l.length := by omega
  refine ⟨S1, l[r.toNat], l.eraseIdx r.toNat, ?_, st1, ?_⟩
  · have g1 := get_l (S := S) (l := .lst l) (f := .lst f)
    have g2 := get_f (S := S) (l := .lst l) (f := .lst f)
    have e1 := st1.len
    have g3 : (S1 ++ [O.lst l, .lst f])[S.length]? = some (.lst l) := by rw [← e1]; exact get_l
    have g4 : (S1 ++ [O.lst (l.eraseIdx r.toNat), .lst f])[S.length + 1]? = some (.lst f) := by rw [← e1]; exact get_f
    have ln : lenD [.hnd S.length] (S ++ [.lst l, .lst f]) = .ok (.int l.length) (S ++ [.lst l, .lst f]) := by
      unfold lenD
      simp only [g1]
    have p1 : popD S.length l (.int r) (S1 ++ [.lst l, .lst f]) = .ok l[r.toNat] (S1 ++ [.lst (l.eraseIdx r.toNat), .lst f]) := by
      unfold popD
      simp only
      rw [if_pos ⟨r0, by omega⟩, List.getElem?_eq_getElem hr]
      simp only
      rw [← e1, set_l]
    have p2 : appD (S.length + 1) f l[r.toNat] (S1 ++ [.lst (l.eraseIdx r.toNat), .lst f]) = .ok .non (S1 ++ [.lst (l.eraseIdx r.toNat), .lst (f ++ [l[r.toNat]])]) := by
      unfold appD
      have := small_line (n := f.length + 1) (by omega)
      rw [if_pos (by omega), ← e1, set_f]
    have q1 : eLm popD (eVar 3) (eArgs F_law_take (aCons (eVar 0) (aCons (eArgs lenD (aCons (eVar 3) aNil)) aNil))) [some (.hnd i), some c, some d, some (.hnd S.length), some (.hnd (S.length + 1)), some x] (S ++ [.lst l, .lst f]) = .ok l[r.toNat] (S1 ++ [.lst (l.eraseIdx r.toNat), .lst f]) := by
      unfold eLm
      simp [g1, ln, e, g3, p1]
    rw [sExpr_ap]
    unfold eLm at q1 ⊢
    simp only [eVar_ap _ _ _ (show ([some (D.hnd i), some c, some d, some (.hnd S.length), some (.hnd (S.length + 1)), some x] : Env1)[4]? = some (some (.hnd (S.length + 1))) from rfl), bind_ok, g2]
    rw [q1]
    simp only [bind_ok, g4, p2, stm_ok]
  · exact erase_perm hr
abbrev someB : TSx := sExpr (eLm appD (eVar 4) (eLm popD (eVar 3) (eArgs F_law_take (aCons (eVar 0) (aCons (eArgs lenD (aCons (eVar 3) aNil)) aNil)))))
theorem some_loop {S : List O} {i n : Nat} {T : Int} {xs : List D} {m : Nat} {c d : D} (hn : S.length = n) (hT : T + m < 2 ^ 20) (hl : xs.length ≤ 4000) :
    ∀ (ds : List D) (k : Nat) (S1 : List O) (l f : List D) (x : Option D), k + ds.length = m → f.length = k → (f ++ l).Perm xs → m ≤ xs.length → Step i (T + k) S S1 →
      ∃ S2 l' f' x', forL (gNm 5) someB ds [some (.hnd i), some c, some d, some (.hnd n), some (.hnd (n + 1)), x] (S1 ++ [.lst l, .lst f]) = .nx [some (.hnd i), some c, some d, some (.hnd n), some (.hnd (n + 1)), x'] (S2 ++ [.lst l', .lst f']) ∧ f'.length = m ∧ (f' ++ l').Perm xs ∧ Step i (T + m) S S2 := by
  intro ds
  induction ds with
  | nil =>
    intro k S1 l f x e1 e2 e3 hm e4
    have e : k = m := e1
    subst e
    exact ⟨S1, l, f, x, rfl, e2, e3, e4⟩
  | cons d0 ds ih =>
    intro k S1 l f x e1 e2 e3 hm e4
    have hp := e3.length_eq
    rw [List.length_append] at hp
    rw [List.length_cons] at e1
    have hl0 : l ≠ [] := fun z => by
      rw [z] at hp
      simp at hp
      omega
    have el := e4.len
    obtain ⟨S2, y, l', t1, t2, t3⟩ := some_turn (c := c) (d := d) (x := d0) (l := l) (f := f) e4.pot (by omega) hl0 (by omega) (by omega)
    rw [el, hn] at t1
    have e5 : (f ++ [y] ++ l').Perm xs := by
      refine List.Perm.trans ?_ e3
      rw [List.append_assoc]
      exact List.Perm.append_left f t3
    have e : T + (k : Nat) + 1 = T + ((k + 1 : Nat) : Int) := by omega
    have st := e4.tr t2
    rw [e] at st
    obtain ⟨S3, l2, f2, x2, u1, u2, u3, u4⟩ := ih (k + 1) S2 l' (f ++ [y]) (some d0) (by omega) (by simp [e2]) e5 hm st
    refine ⟨S3, l2, f2, x2, ?_, u2, u3, u4⟩
    unfold forL
    simp only [gNm_ap, only_nx, seq_nx, List.set_cons_succ, List.set_cons_zero, t1, turn_nx]
    exact u1
theorem some_body {S S2 : List O} {i : Nat} {xs l' f' ds : List D} {mi : Int} {x' : Option D} (l1 : listD true [.lst xs] S = .ok (.hnd S.length) (S ++ [.lst xs])) (l2 : mkL true [] (S ++ [.lst xs]) = .ok (.hnd (S.length + 1)) (S ++ [.lst xs, .lst []])) (hi : rg1 [.int mi] (S ++ [.lst xs, .lst []]) = .ok ds (S ++ [.lst xs, .lst []]))
    (e : forL (gNm 5) someB ds [some (.hnd i), some (.lst xs), some (.int mi), some (.hnd S.length), some (.hnd (S.length + 1)), none] (S ++ [.lst xs, .lst []]) = .nx [some (.hnd i), some (.lst xs), some (.int mi), some (.hnd S.length), some (.hnd (S.length + 1)), x'] (S2 ++ [.lst l', .lst f'])) :
    bodyF 3 N_law_some t_law_some [.hnd i, .lst xs, .int mi] S = .ok (.hnd (S.length + 1)) (S2 ++ [.lst l', .lst f']) := by
  unfold t_law_some
  simp [N_law_some, l1, l2, hi, e]
/-- so many members of a list, in a drawn sequence -/
theorem some_ok {S : List O} {i : Nat} {T : Int} {xs : List D} {m : Nat} (h : Pot S i T) (fl : Flat S) (hT : T + m < 2 ^ 20) (hm : m ≤ xs.length) (hl : xs.length ≤ 4000) (hx : nohs xs = true) :
    Ret (F_law_some [.hnd i, .lst xs, .int m] S) fun d S' => (∃ ys zs, d = .lst ys ∧ (ys ++ zs).Perm xs ∧ ys.length = m) ∧ Step i (T + m) S S' := by
  obtain ⟨S2, l', f', x', e, h1, h2, h3⟩ := some_loop (c := .lst xs) (d := .int m) (n := S.length) rfl hT hl (rng 0 m) 0 S xs [] none (by rw [rng_len]; omega) rfl (List.Perm.refl _) hm (by
    have := Step.here h
    simpa using this)
  have l1 : listD true [.lst xs] S = .ok (.hnd S.length) (S ++ [.lst xs]) := mkL_true S xs (small_line (by omega))
  have l2 : mkL true [] (S ++ [.lst xs]) = .ok (.hnd (S.length + 1)) (S ++ [.lst xs, .lst []]) := by
    rw [mkL_true _ _ (small_line (by decide))]
    simp
  have hi := rg1_ok (S := S ++ [.lst xs, .lst []]) (j := (m : Int)) (by omega) (by omega)
  have body := some_body l1 l2 hi e
  have hn : nohO (.lst f') = true := by
    show nohs f' = true
    rw [nohs_all] at hx ⊢
    rw [List.all_eq_true] at hx ⊢
    intro d hd
    exact hx d (h2.mem_iff.mp (List.mem_append_left _ hd))
  refine ⟨.lst f', S2, ?_, ⟨f', l', rfl, h2, h1⟩, h3⟩
  unfold F_law_some cutF
  rw [body]
  exact cut_new' h3.len (h3.flat fl) (by omega) (by rw [← h3.len]; exact get_f) hn
theorem list_of_strs {l : List Str} : ∀ {ys : List D}, (∀ y ∈ ys, y ∈ l.map D.str) → ∃ zs : List Str, ys = zs.map D.str
  | [], _ => ⟨[], rfl⟩
  | y :: ys, h => by
    obtain ⟨x, _, rfl⟩ := List.mem_map.mp (h y List.mem_cons_self)
    obtain ⟨zs, rfl⟩ := list_of_strs (ys := ys) fun z hz => h z (List.mem_cons_of_mem _ hz)
    exact ⟨x :: zs, rfl⟩
theorem nohs_strs (l : List Str) : nohs (l.map D.str) = true := by
  rw [nohs_all, List.all_eq_true]
  intro d hd
  obtain ⟨x, _, rfl⟩ := List.mem_map.mp hd
  rfl
theorem str_inj : Function.Injective D.str := fun a b h => by cases h; rfl
/-- some of texts that are unlike -/
theorem some_strs {S : List O} {i : Nat} {T : Int} {l : List Str} {m : Nat} (h : Pot S i T) (fl : Flat S) (hT : T + m < 2 ^ 20) (hm : m ≤ l.length) (hl : l.length ≤ 4000) (nd : l.Nodup) :
    Ret (F_law_some [.hnd i, .lst (l.map D.str), .int m] S) fun d S' => (∃ ys : List Str, d = .lst (ys.map D.str) ∧ ys.Nodup ∧ (∀ y ∈ ys, y ∈ l) ∧ ys.length = m) ∧ Step i (T + m) S S' := by
  obtain ⟨d, S', e, ⟨ys, zs, rfl, hp, hlen⟩, st⟩ := some_ok (xs := l.map D.str) h fl hT (by simpa using hm) (by simpa using hl) (nohs_strs l)
  have hmem : ∀ y ∈ ys, y ∈ l.map D.str := fun y hy => hp.mem_iff.mp (List.mem_append_left _ hy)
  obtain ⟨us, rfl⟩ := list_of_strs hmem
  have nd2 : (l.map D.str).Nodup := List.Pairwise.map _ (fun a b h e => h (str_inj e)) nd
  have nd3 := (List.nodup_append.mp (hp.nodup_iff.mpr nd2)).1
  refine ⟨_, S', e, ⟨us, rfl, ?_, fun y hy => ?_, by simpa using hlen⟩, st⟩
  · have := List.Pairwise.of_map (f := D.str) (S := fun a b => a ≠ b) (R := fun a b => a ≠ b) (fun a b h e => h (by rw [e])) nd3
    exact this
  · obtain ⟨x, hx, e⟩ := List.mem_map.mp (hmem (.str y) (List.mem_map.mpr ⟨y, hy, rfl⟩))
    cases e
    exact hx

end K05
set_option Elab.async false
set_option linter.all false
set_option maxRecDepth 100000
set_option maxHeartbeats 4000000
namespace K05
open PySem PySem.Spec PyProof.Rows L2 TL TLX Pr
/-! sums by the law's own hand -/
def pairD (t : Tb) (n : Int) : D := .tup [partsD t, .int n]
def tot0 (q : Tb) : Tb := mergeT 1 [] q
theorem tot0_nd (q : Tb) : (keys (tot0 q)).Nodup := nd_merge List.nodup_nil
theorem val_tot0 (q : Tb) (x : Str) : val (tot0 q) x = tot q x := by
  unfold tot0
  rw [val_merge]
  simp [val, getT]
abbrev sumB : TSx := sDput (eVar 2) (eVar 3) (eBin (addU false) (eGet2 (eVar 2) (eVar 3) (eC (.int 0))) (eVar 4))
theorem sum_loop {S : List O} {a b : D} {n0 : Nat} (hn : S.length = n0) : ∀ (q t : Tb) (x y : Option D), t.length + q.length ≤ 4000 →
    ∃ x' y', forL (gTp 2 (gsCons (gNm 3) (gsCons (gNm 4) gsNil))) sumB (q.map partD) [some a, some b, some (.hnd n0), x, y] (S ++ [.dct (kvD t)]) = .nx [some a, some b, some (.hnd n0), x', y'] (S ++ [.dct (kvD (mergeT 1 t q))])
  | [], t, x, y, _ => ⟨x, y, rfl⟩
  | p :: q, t, x, y, hl => by
    subst hn
    have h2 : dgt2D (.hnd S.length) (.str p.1) (.int 0) (S ++ [.dct (kvD t)]) = .ok (.int ((getT t p.1).getD 0)) (S ++ [.dct (kvD t)]) := by
      unfold dgt2D
      simp only [dct_last, TL.keyOf, getK_kv]
      cases getT t p.1 <;> rfl
    have h3 : (dctOf (S ++ [.dct (kvD t)]) (.hnd S.length)).isSome = true := by rw [dct_last]; rfl
    have h4 : setDk (.hnd S.length) (.str p.1) (.int ((getT t p.1).getD 0 + p.2)) (S ++ [.dct (kvD t)]) = some (S ++ [.dct (kvD (addT t p.1 (1 * p.2)))]) := by
      unfold setDk
      simp only [TL.keyOf, List.getElem?_append_right (Nat.le_refl _), Nat.sub_self, List.getElem?_cons_zero]
      rw [if_pos (by
        have : (kvD t).length = t.length := by simp [kvD]
        rw [this]
        have := small_line (n := t.length + 1) (by rw [List.length_cons] at hl; omega)
        omega), putG_kv]
      simp [addT]
    obtain ⟨x', y', e⟩ := sum_loop (a := a) (b := b) (n0 := S.length) rfl q (addT t p.1 (1 * p.2)) (some (.str p.1)) (some (.int p.2)) (by
      have := len_put t p.1 ((getT t p.1).getD 0 + 1 * p.2)
      have e : (addT t p.1 (1 * p.2)).length = (putT t p.1 ((getT t p.1).getD 0 + 1 * p.2)).length := rfl
      rw [List.length_cons] at hl
      omega)
    refine ⟨x', y', ?_⟩
    rw [List.map_cons]
    unfold forL
    simp [partD, h2, h3, h4]
    rw [mergeT_cons]
    simp only [Int.one_mul] at e ⊢
    exact e
theorem norm_law {t : Tb} (nd : (keys t).Nodup) : ((sortT (keys t)).filter fun x => nz (x, val t x)).map (fun x => (x, val t x)) = normP t := by
  have e : (sortT (keys t)).filter (fun x => nz (x, val t x)) = sortT (keys (t.filter nz)) := by
    refine pw_uniq ?_ ((sortT_pw _).filter _) (sortT_pw _)
    refine (perm_of_mem (((sortT_perm _).nodup_iff.mpr nd).filter _) ((sortT_perm _).nodup_iff.mpr (nd_filter nd nz)) fun x => ?_)
    rw [List.mem_filter, (sortT_perm _).mem_iff, (sortT_perm _).mem_iff, mem_nz nd]
    constructor
    · rintro ⟨_, h⟩
      simpa [nz] using h
    · intro h
      refine ⟨?_, by simpa [nz] using h⟩
      have : x ∈ keys (t.filter nz) := (mem_nz nd x).mpr h
      obtain ⟨p, hp, rfl⟩ := List.mem_map.mp this
      exact List.mem_map.mpr ⟨p, (List.mem_filter.mp hp).1, rfl⟩
  rw [e]
  rfl
theorem get_last {S : List O} {t : Tb} {x : Str} (h : x ∈ keys t) : dgetD (.hnd S.length) (.str x) (S ++ [.dct (kvD t)]) = .ok (.int (val t x)) (S ++ [.dct (kvD t)]) := by
  obtain ⟨i, hi⟩ := getT_has h
  unfold dgetD val
  simp only [dct_last, TL.keyOf, getK_kv, hi, Option.map_some, Option.getD_some]
/-- pairs, by a list or a tuple -/
theorem sum_ok {S : List O} {q : Tb} {n : Int} {d : D} (fl : Flat S) (hl : q.length ≤ 1000) (hd : itAny d (S ++ [.dct []]) = .ok (q.map partD) (S ++ [.dct []])) : F_law_sum [d, .int n] S = .ok (pairD (normP (tot0 q)) n) S := by
  obtain ⟨x', y', e⟩ := sum_loop (S := S) (a := d) (b := .int n) rfl q [] none none (by simp; omega)
  have ll := len_merge (m := 1) q []
  have nd := tot0_nd q
  have ek : (kvD (tot0 q)).map (fun kv => keyD kv.1) = (keys (tot0 q)).map D.str := by
    unfold kvD keys
    rw [List.map_map, List.map_map]
    rfl
  have hlen : (keys (tot0 q)).length ≤ 1000 := by
    unfold keys tot0
    rw [List.length_map]
    simp at ll
    omega
  have hk : listKD false [.hnd S.length] (S ++ [.dct (kvD (tot0 q))]) = .ok (.lst ((keys (tot0 q)).map D.str)) (S ++ [.dct (kvD (tot0 q))]) := by
    have hkl : (kvD (tot0 q)).length ≤ sizeLine := by
      have : (kvD (tot0 q)).length = (keys (tot0 q)).length := by simp [kvD, keys]
      rw [this]
      exact small_line (by omega)
    unfold listKD
    simp only [List.getElem?_append_right (Nat.le_refl _), Nat.sub_self, List.getElem?_cons_zero]
    rw [if_pos hkl, ek, mkL_false]
    rw [List.length_map]
    exact small_line (by omega)
  have hs : sortSetD false [.lst ((keys (tot0 q)).map D.str)] (S ++ [.dct (kvD (tot0 q))]) = .ok (.lst ((sortT (keys (tot0 q))).map D.str)) (S ++ [.dct (kvD (tot0 q))]) := by
    unfold sortSetD lstOf
    simp only [Option.bind_some, strsOf_map]
    rw [if_pos (by show _ < 4096; omega), once_id nd, mkL_false]
    rw [List.length_map, (sortT_perm _).length_eq]
    exact small_line (by omega)
  have c1 : compL [3] (gNm 3) (tBl (eBin neD (eBin dgetD (eVar 2) (eVar 3)) (eC (.int 0)))) (eArgs mkT (aCons (eVar 3) (aCons (eBin dgetD (eVar 2) (eVar 3)) aNil))) ((sortT (keys (tot0 q))).map D.str) [] [some d, some (.int n), some (.hnd S.length), x', y'] (S ++ [.dct (kvD (tot0 q))]) = .ok ((normP (tot0 q)).map partD) (S ++ [.dct (kvD (tot0 q))]) := by
    have := compL_filt (vs := [3]) (tg := gNm 3) (tt := tBl (eBin neD (eBin dgetD (eVar 2) (eVar 3)) (eC (.int 0)))) (te := eArgs mkT (aCons (eVar 3) (aCons (eBin dgetD (eVar 2) (eVar 3)) aNil))) (ρ := [some d, some (.int n), some (.hnd S.length), x', y']) (S := S ++ [.dct (kvD (tot0 q))]) D.str (fun x => nz (x, val (tot0 q) x)) (fun x => partD (x, val (tot0 q) x)) (sortT (keys (tot0 q))) [] (fun x hx => ⟨[some d, some (.int n), some (.hnd S.length), some (.str x), y'], by simp [wipeD, gNm], ?_, fun _ => ?_⟩)
    · rw [this, ← norm_law nd, List.map_map]
      rfl
    · have hg := get_last (S := S) ((sortT_perm _).mem_iff.mp hx)
      simp [hg, nz]
    · have hg := get_last (S := S) ((sortT_perm _).mem_iff.mp hx)
      have l2 : ([D.str x, .int (val (tot0 q) x)] : List D).length ≤ sizeLine := small_line (by simp)
      simp [hg, mkT_ok' _ _ l2, partD]
  have l1 : (sortT (keys (tot0 q))).length ≤ sizeLine := by
    rw [(sortT_perm _).length_eq]
    exact small_line (by omega)
  have nl := norm_len (tot0 q)
  have kl : (keys (tot0 q)).length = (tot0 q).length := by simp [keys]
  have l3 : ((normP (tot0 q)).map partD).length ≤ sizeLine := by
    rw [List.length_map]
    exact small_line (by omega)
  have ht : tupleD [.lst ((normP (tot0 q)).map partD)] (S ++ [.dct (kvD (tot0 q))]) = .ok (partsD (normP (tot0 q))) (S ++ [.dct (kvD (tot0 q))]) := by
    show mkT _ _ = _
    rw [mkT_ok' _ _ l3]
    rfl
  have l4 : ([partsD (normP (tot0 q)), D.int n] : List D).length ≤ sizeLine := small_line (by simp)
  have e' : forL (gTp 2 (gsCons (gNm 3) (gsCons (gNm 4) gsNil))) sumB (q.map partD) [some d, some (.int n), some (.hnd S.length), none, none] (S ++ [.dct []]) = .nx [some d, some (.int n), some (.hnd S.length), x', y'] (S ++ [.dct (kvD (tot0 q))]) := e
  have body : bodyF 2 N_law_sum t_law_sum [d, .int n] S = .ok (pairD (normP (tot0 q)) n) (S ++ [.dct (kvD (tot0 q))]) := by
    unfold t_law_sum
    simp [N_law_sum, mkD, hd, e', hk, hs, c1, l1, mkL_false _ _ l3, ht, mkT_ok' _ _ l4, pairD]
  unfold F_law_sum cutF
  rw [body]
  refine cut_ok fl ?_
  unfold pairD
  simp only [noh, nohs, noh_parts, Bool.and_self]
theorem sum_lst {S : List O} {q : Tb} {n : Int} (fl : Flat S) (hl : q.length ≤ 1000) : F_law_sum [.lst (q.map partD), .int n] S = .ok (pairD (normP (tot0 q)) n) S := sum_ok fl hl rfl
theorem sum_tup {S : List O} {q : Tb} {n : Int} (fl : Flat S) (hl : q.length ≤ 1000) : F_law_sum [partsD q, .int n] S = .ok (pairD (normP (tot0 q)) n) S := sum_ok fl hl rfl
theorem tot0_id {t : Tb} (nd : (keys t).Nodup) {q : Tb} (nq : (keys q).Nodup) (h : ∀ x, val t x = val q x) : normP (tot0 t) = normP q := norm_ext (tot0_nd t) nq fun x => by rw [val_tot0, tot_nd nd, h]
@[simp] theorem pair_0 {t : Tb} {n : Int} {S : List O} : ixD (pairD t n) (.int 0) S = .ok (partsD t) S := ix_tup0 _ _
@[simp] theorem pair_1 {t : Tb} {n : Int} {S : List O} : ixD (pairD t n) (.int 1) S = .ok (.int n) S := ix_tup1 _ _ _
theorem made_ok {S : List O} {t : Tb} {n : Int} (h : Ok t) (fl : Flat S) : F_law_made [pairD t n] S = .ok (sumD t n) S := by
  have hm := make_sum (ex := ex) (ow := ow) h n fl
  unfold F_law_made t_law_made
  simp [N_law_made, hm]
theorem pair_ok {S : List O} {t : Tb} {n : Int} : F_law_pair [sumD t n] S = .ok (pairD t n) S := by
  have h1 : propD "Sum" (Pr.FSum_parts ex ow) (sumD t n) S = .ok (partsD t) S := by
    show propD "Sum" _ (.ins "Sum" (sumF t n)) S = _
    rw [prop_ins]
    have := sum_parts (ex := ex) (ow := ow) (S := S) t n
    unfold Pr.sumD at this
    rw [this]
    rfl
  have h2 : propD "Sum" (Pr.FSum_number ex ow) (sumD t n) S = .ok (.int n) S := by
    show propD "Sum" _ (.ins "Sum" (sumF t n)) S = _
    rw [prop_ins]
    have := sum_number (ex := ex) (ow := ow) (S := S) t n
    unfold Pr.sumD at this
    rw [this]
    rfl
  have l2 : ([partsD t, D.int n] : List D).length ≤ sizeLine := small_line (by simp)
  unfold F_law_pair t_law_pair
  simp [N_law_pair, h1, h2, mkT_ok' _ _ l2, pairD]
def manys : List Int := [1, 1, -1, 2, 1, -2, 3, 4, 6, -3, 5, 9, -9, 8]
theorem of_ints {S : List O} {i : Nat} {T : Int} {l : List Int} (h : Pot S i T) (hT : T < 2 ^ 20) (h0 : l ≠ []) (h1 : l.length ≤ 4096) : Ret (F_law_of [.hnd i, .lst (l.map D.int)] S) fun d S' => (∃ r, d = .int r ∧ r ∈ l) ∧ Step i (T + 1) S S' := by
  obtain ⟨d, S', e, hd, st⟩ := of_ok (ds := l.map D.int) h hT (by simpa using h0) (by simpa using h1)
  obtain ⟨r, hr, rfl⟩ := List.mem_map.mp hd
  exact ⟨_, S', e, ⟨r, rfl, hr⟩, st⟩
theorem many_ok {S : List O} {i : Nat} {T : Int} (h : Pot S i T) (hT : T < 2 ^ 20) : Ret (F_law_many [.hnd i] S) fun d S' => (∃ r : Int, d = .int r ∧ r.natAbs ≤ 9 ∧ r ≠ 0) ∧ Step i (T + 1) S S' := by
  obtain ⟨d, S', e, ⟨r, rfl, hr⟩, st⟩ := of_ints (l := manys) h hT (by decide) (by decide)
  have hb : ∀ r ∈ manys, r.natAbs ≤ 9 ∧ r ≠ 0 := by decide
  refine ⟨_, S', ?_, ⟨r, rfl, hb r hr⟩, st⟩
  have mL : ∀ ds : List D, ds.length ≤ 40 → mkL false ds S = .ok (.lst ds) S := fun ds hl => mkL_false S ds (small_line (by omega))
  simp only [manys, List.map_cons, List.map_nil] at e
  unfold F_law_many t_law_many
  simp [N_law_many, mL, e]

end K05
set_option Elab.async false
set_option linter.all false
set_option maxRecDepth 100000
set_option maxHeartbeats 4000000
namespace K05
open PySem PySem.Spec PyProof.Rows L2 TL TLX Pr
/-! drawn names, drawn sums -/
def poolS : List Str := ["x", "r", "a", "b", "own", "draw", "sum", "hand", "call", "burn", "people", "zzzzzzzz", "round", "next"]
theorem pool_ok : poolS.Nodup ∧ ∀ x ∈ poolS, vn x = true := by
  refine ⟨by decide +kernel, ?_⟩
  have h : poolS.all vn = true := by decide +kernel
  exact List.all_eq_true.mp h
theorem names_ok {S : List O} {i : Nat} {T mi : Int} {m : Nat} (h : Pot S i T) (fl : Flat S) (hT : T + 14 < 2 ^ 20) (hm : m ≤ 14) (hmi : mi = m) :
    Ret (F_law_names [.hnd i, .int mi] S) fun d S' => (∃ ys : List Str, d = .lst (ys.map D.str) ∧ ys.Nodup ∧ (∀ y ∈ ys, vn y = true) ∧ (∀ y ∈ ys, y ∈ poolS) ∧ ys.length = m) ∧ Step i (T + 14) S S' := by
  obtain ⟨_, S', e, ⟨ys, rfl, h1, h2, h3⟩, st⟩ := some_strs (l := poolS) (m := m) h fl (by omega) (by simpa [poolS] using hm) (by decide) pool_ok.1
  refine ⟨_, S', ?_, ⟨ys, rfl, h1, fun y hy => pool_ok.2 y (h2 y hy), h2, h3⟩, st.up (by omega)⟩
  rw [← hmi] at e
  have mL : ∀ ds : List D, ds.length ≤ 40 → mkL false ds S = .ok (.lst ds) S := fun ds hl => mkL_false S ds (small_line (by omega))
  simp only [poolS, List.map_cons, List.map_nil] at e
  unfold F_law_names t_law_names
  simp [N_law_names, mL, e]
theorem parts_of {us : List Str} {rs : List D} (h : All2 (fun d y => ∃ (x : Str) (r : Int), d = D.str x ∧ y = partD (x, r) ∧ r.natAbs ≤ 9 ∧ r ≠ 0) (us.map D.str) rs) : ∃ q : Tb, rs = q.map partD ∧ keys q = us ∧ Sm 9 q ∧ ∀ p ∈ q, p.2 ≠ 0 := by
  induction us generalizing rs with
  | nil =>
    cases h
    exact ⟨[], rfl, rfl, (fun _ h => absurd h List.not_mem_nil), (fun _ h => absurd h List.not_mem_nil)⟩
  | cons u us ih =>
    cases h with
    | cons h1 h2 =>
      obtain ⟨y, r, e1, rfl, h3, h4⟩ := h1
      cases e1
      obtain ⟨q, rfl, rfl, h5, h6⟩ := ih h2
      refine ⟨(u, r) :: q, rfl, rfl, fun p hp => ?_, fun p hp => ?_⟩
      · rcases List.mem_cons.mp hp with e | hp
        · rw [e]
          exact h3
        · exact h5 p hp
      · rcases List.mem_cons.mp hp with e | hp
        · rw [e]
          exact h4
        · exact h6 p hp
def nums : List Int := [0, 0, 0, 1, -1, 5, -99, 99]
theorem some_sum_body {S S1 S2 S3 S4 : List O} {i : Nat} {mo Nl r kk n : Int} {us : List Str} {q : Tb} {N : List Str} {res : D} (ln : lenD [.lst (N.map D.str)] S = .ok (.int Nl) S) (hA : addD (.int mo) (.int 1) S = .ok (.int (mo + 1)) S) (e1 : F_law_take [.hnd i, .int (mo + 1)] S = .ok (.int r) S1) (hmin : min2D [.int Nl, .int r] S1 = .ok (.int kk) S1)
    (e2 : F_law_some [.hnd i, .lst (N.map D.str), .int kk] S1 = .ok (.lst (us.map D.str)) S2) (e3 : compL [4] (gNm 4) tYesD (eArgs mkT (aCons (eVar 4) (aCons (eArgs F_law_many (aCons (eVar 0) aNil)) aNil))) (us.map D.str) [] [some (.hnd i), some (.lst (N.map D.str)), some (.int mo), some (.lst (us.map D.str)), none] S2 = .ok (q.map partD) S3)
    (lq : us.length ≤ sizeLine) (mL3 : mkL false (q.map partD) S3 = .ok (.lst (q.map partD)) S3) (mL : ∀ ds : List D, ds.length ≤ 40 → mkL false ds S3 = .ok (.lst ds) S3) (e4 : F_law_of [.hnd i, .lst [.int 0, .int 0, .int 0, .int 1, .int (-1), .int 5, .int (-99), .int 99]] S3 = .ok (.int n) S4) (e5 : F_law_sum [.lst (q.map partD), .int n] S4 = .ok res S4) :
    F_law_some_sum [.hnd i, .lst (N.map D.str), .int mo] S = .ok res S4 := by
  unfold F_law_some_sum t_law_some_sum
  simp [N_law_some_sum, ln, e1, hmin, e2, e3, lq, mL3, mL, e4, e5]
theorem some_sum_ok {S : List O} {i : Nat} {T mo : Int} {N : List Str} {most : Nat} (h : Pot S i T) (fl : Flat S) (hT : T + 40 < 2 ^ 20) (hmo : mo = most) (hm : most ≤ 14) (nd : N.Nodup) (hN : N.length ≤ 14) (hv : ∀ y ∈ N, vn y = true) :
    Ret (F_law_some_sum [.hnd i, .lst (N.map D.str), .int mo] S) fun d S' => (∃ t n, d = pairD t n ∧ In N most 9 t ∧ n.natAbs ≤ 99) ∧ Step i (T + 40) S S' := by
  obtain ⟨_, S1, e1, ⟨r, rfl, r0, r1⟩, st1⟩ := take (u := mo + 1) h (by omega) (by omega) (by omega)
  obtain ⟨kk, hk⟩ : ∃ kk : Int, kk = if r < (N.length : Int) then r else (N.length : Int) := ⟨_, rfl⟩
  have hk0 : 0 ≤ kk := by
    rw [hk]
    split <;> omega
  obtain ⟨k, hkk⟩ := Int.eq_ofNat_of_zero_le hk0
  have hkN : k ≤ N.length ∧ k ≤ most := by
    rw [hk] at hkk
    split at hkk <;> omega
  obtain ⟨_, S2, e2, ⟨us, rfl, n1, n2, n3⟩, st2⟩ := some_strs (l := N) (m := k) st1.pot (st1.flat fl) (by omega) hkN.1 (by omega) nd
  have ek : ((k : Nat) : Int) = kk := hkk.symm
  rw [ek] at e2
  have hus : us.length ≤ 14 := by omega
  obtain ⟨rs, S3, e3, al, st3⟩ := compL_rel (vs := [4]) (tg := gNm 4) (tt := tYesD) (te := eArgs mkT (aCons (eVar 4) (aCons (eArgs F_law_many (aCons (eVar 0) aNil)) aNil))) (ρ := [some (.hnd i), some (.lst (N.map D.str)), some (.int mo), some (.lst (us.map D.str)), none])
    (P := fun d y => ∃ (x : Str) (r : Int), d = D.str x ∧ y = partD (x, r) ∧ r.natAbs ≤ 9 ∧ r ≠ 0) 14 (fun n Z => Step i (T + 20 + n) S2 Z) (us.map D.str) [] S2 0 (by simpa using hus) (Step.here (st2.pot.up (by omega))) (fun d hd Z n hn hZ => by
      obtain ⟨x, hx, rfl⟩ := List.mem_map.mp hd
      obtain ⟨_, Z2, e, ⟨r, rfl, hr, hr0⟩, st⟩ := many_ok hZ.pot (by omega)
      have l2 : ([D.str x, .int r] : List D).length ≤ sizeLine := small_line (by simp)
      refine ⟨[some (.hnd i), some (.lst (N.map D.str)), some (.int mo), some (.lst (us.map D.str)), some (.str x)], Z, Z2, partD (x, r), by simp [wipeD, gNm], by simp, ?_, ⟨x, r, rfl, rfl, hr, hr0⟩, (hZ.tr st).up (by omega)⟩
      simp [e, mkT_ok' _ _ l2, partD])
  obtain ⟨q, rfl, rfl, sq, zq⟩ := parts_of al
  have st3 : Step i (T + 35) S2 S3 := st3.up (by simp; omega)
  obtain ⟨_, S4, e4, ⟨n, rfl, hn⟩, st4⟩ := of_ints (l := nums) st3.pot (by omega) (by decide) (by decide)
  have nb : ∀ r ∈ nums, r.natAbs ≤ 99 := by decide
  have st : Step i (T + 40) S S4 := (((st1.tr st2).tr st3).tr st4).up (by omega)
  have ql : q.length ≤ 14 := by simpa [keys] using hus
  have vq : ∀ p ∈ q, vn p.1 = true := fun p hp => hv _ (n2 _ (List.mem_map.mpr ⟨p, hp, rfl⟩))
  have e5 := sum_lst (S := S4) (q := q) (n := n) (st.flat fl) (by omega)
  rw [tot0_id n1 n1 fun _ => rfl] at e5
  refine ⟨_, S4, ?_, ⟨normP q, n, rfl, ⟨Ok.norm n1 vq (by omega), fun x hx => n2 x (norm_mem hx), Nat.le_trans (norm_len q) ?_, sm_norm n1 (val_sm sq)⟩, nb n hn⟩, st⟩
  · have ln : lenD [.lst (N.map D.str)] S = .ok (.int N.length) S := by
      show Out.ok (D.int (List.length _)) S = _
      rw [List.length_map]
    have mL : ∀ ds : List D, ds.length ≤ 40 → mkL false ds S3 = .ok (.lst ds) S3 := fun ds hl => mkL_false S3 ds (small_line (by omega))
    have mL3 : mkL false (q.map partD) S3 = .ok (.lst (q.map partD)) S3 := mkL_false S3 _ (small_line (by rw [List.length_map]; omega))
    have lq : (keys q).length ≤ sizeLine := small_line (by omega)
    simp only [nums, List.map_cons, List.map_nil] at e4
    have hA : addD (.int mo) (.int 1) S = .ok (.int (mo + 1)) S := rfl
    have hmin : min2D [.int (N.length : Int), .int r] S1 = .ok (.int kk) S1 := by
      rw [hk]
      rfl
    simp only [List.nil_append] at e3
    exact some_sum_body ln hA e1 hmin e2 e3 lq mL3 mL e4 e5
  · have : (keys q).length = q.length := by simp [keys]
    omega

end K05
set_option Elab.async false
set_option linter.all false
set_option maxRecDepth 100000
set_option maxHeartbeats 4000000
namespace K05
open PySem PySem.Spec PyProof.Rows L2 TL TLX Pr
/-! the law's own look at words; values of any kind -/
theorem word_str {S : List O} {x : Str} (h : x.length ≤ 4096) : F_law_is_word [.str x] S = .ok (.bl (vn x)) S := by
  have hl := len_strD (S := S) h
  have hs : (TL.signs x).length ≤ sizeLine := by
    unfold TL.signs
    rw [List.length_map]
    exact small_line h
  have hc : compL [1] (gNm 1) tYesD (eBin insgD (eVar 1) (eC (.str "abcdefghijklmnopqrstuvwxyz"))) (TL.signs x) [] [some (.str x), none] S = .ok (x.cps.toList.map fun c => D.bl (isL c)) S :=
    compL_map (fun c : Nat => D.str ⟨#[c]⟩) (fun c => D.bl (isL c)) x.cps.toList [] (fun c _ => ⟨[some (.str x), some (D.str ⟨#[c]⟩)], by simp [wipeD, gNm], by simp, by simp [insgD, isL]⟩)
  have hm : (x.cps.toList.map fun c => D.bl (isL c)).length ≤ sizeLine := by
    rw [List.length_map]
    exact small_line h
  have hA := all_map (S := S) isL x.cps.toList
  unfold F_law_is_word t_law_is_word vn
  by_cases h1 : 1 ≤ x.length
  · by_cases h2 : x.length ≤ 8
    · have a1 : (0 : Int) < x.length := by omega
      have a2 : (x.length : Int) < 9 := by omega
      have b1 : 0 < x.length := by omega
      simp [N_law_is_word, hl, a1, b1, a2, h1, h2, hs, hc, mkL_false _ _ hm, hA]
    · have a1 : (0 : Int) < x.length := by omega
      have a2 : ¬ (x.length : Int) < 9 := by omega
      have b1 : 0 < x.length := by omega
      simp [N_law_is_word, hl, a1, b1, a2, h1, h2]
  · have a1 : ¬ (0 : Int) < x.length := by omega
    have b1 : ¬ 0 < x.length := by omega
    simp [N_law_is_word, hl, a1, b1, h1]
theorem word_no {S : List O} {d : D} (h : noStr S d) : F_law_is_word [d] S = .ok (.bl false) S := by
  have h1 := isi_noStr (ex := ex) (ow := ow) h
  unfold F_law_is_word t_law_is_word
  simp [N_law_is_word, h1]

end K05
set_option Elab.async false
set_option linter.all false
set_option maxRecDepth 100000
set_option maxHeartbeats 4000000
namespace K05
open PySem PySem.Spec PyProof.Rows L2 TL TLX Pr
theorem odd_body {S S1 : List O} {i : Nat} {d : D} (mL : ∀ (Z : List O) (ds : List D), ds.length ≤ 40 → mkL false ds Z = .ok (.lst ds) Z) (mT : ∀ (Z : List O) (ds : List D), ds.length ≤ 40 → mkT ds Z = .ok (.tup ds) Z)
    (hd : ∀ (Z : List O) (ρ : Env1), eDct false (pCons (eC (.str "x")) (eC (.int 1)) pNil) ρ Z = .ok (.dct [(.inr "x", .int 1)]) Z) (hp : powD (.int 10) (.int 8) S = .ok (.int 100000000) S)
    (e : F_law_of [.hnd i, .lst odds] S = .ok d S1) : F_law_odd [.hnd i] S = .ok d S1 := by
  have hm : ∀ Z : List O, mkD false [] Z = .ok (.dct []) Z := fun _ => rfl
  have hc : ∀ a b : List D, a.length = 20 → b.length = 8 → catD false (.lst a) (.lst b) S = .ok (.lst (a ++ b)) S := fun a b h1 h2 => by
    show mkL false (a ++ b) S = _
    exact mL S _ (by rw [List.length_append]; omega)
  unfold odds odds1 odds2 at e
  unfold F_law_odd t_law_odd
  simp at e
  simp [N_law_odd, mL, mT, hm, hd, hp, hc, e]
theorem odd_ok {S : List O} {i : Nat} {T : Int} (h : Pot S i T) (hT : T < 2 ^ 20) : Ret (F_law_odd [.hnd i] S) fun d S' => d ∈ odds ∧ Step i (T + 1) S S' := by
  obtain ⟨d, S', e, hd, st⟩ := of_ok (ds := odds) h hT (by decide) (by decide)
  exact ⟨d, S', odd_body (fun Z ds hl => mkL_false Z ds (small_line (by omega))) (fun Z ds hl => mkT_ok' Z ds (small_line (by omega))) (fun _ _ => rfl) (pow_intD S ⟨by decide, by decide⟩) e, hd, st⟩

end K05
set_option Elab.async false
set_option linter.all false
set_option maxRecDepth 100000
set_option maxHeartbeats 4000000
namespace K05
open PySem PySem.Spec PyProof.Rows L2 TL TLX Pr
/-! integers and parts by the law's own look -/
theorem lint_any {S : List O} {d : D} (h : k0B d = true) : F_law_is_int [d, .int (-1000000000000), .int 1000000000000] S = .ok (.bl (isI d)) S := by
  have h1 := isi_k0 (ex := ex) (ow := ow) (S := S) (n := "int") h (by decide)
  have h2 := isi_k0 (ex := ex) (ow := ow) (S := S) (n := "bool") h (by decide)
  have e : isI d = (isTyB d "int" && !isTyB d "bool") := by
    unfold k0B at h
    simp only [Bool.and_eq_true] at h
    cases d <;> first | rfl | (have := h.1; cases this)
  unfold F_law_is_int t_law_is_int
  cases b1 : isTyB d "int" with
  | false =>
    rw [b1] at h1 e
    simp [N_law_is_int, h1, e]
  | true =>
    rw [b1] at h1 e
    cases b2 : isTyB d "bool" with
    | true =>
      rw [b2] at h2 e
      simp [N_law_is_int, h1, h2, e]
    | false =>
      rw [b2] at h2 e
      cases d with
      | int i =>
        unfold k0B at h
        simp only [Bool.and_eq_true, decide_eq_true_eq] at h
        have hi := h.2.2
        have a1 : (-1000000000000 : Int) ≤ i := by omega
        have a2 : i ≤ (1000000000000 : Int) := by omega
        simp [N_law_is_int, h1, h2, a1, a2, e]
      | _ => cases e
theorem lword_any {S : List O} {d : D} (h : k0B d = true) : F_law_is_word [d] S = .ok (.bl (nmB d)) S := by
  by_cases hs : ∃ x, d = .str x
  · obtain ⟨x, rfl⟩ := hs
    unfold k0B at h
    simp only [Bool.and_eq_true, decide_eq_true_eq] at h
    exact word_str h.2.2
  · rw [word_no (k0_noStr h fun x e => hs ⟨x, e⟩)]
    cases d <;> first | rfl | exact absurd ⟨_, rfl⟩ hs
theorem lplus_ok {S : List O} {t q : Tb} {n m : Int} (fl : Flat S) (ht : Ok t) (hq : Ok q) (hl : t.length + q.length ≤ 1000) : F_law_plus [pairD t n, pairD q m] S = .ok (pairD (normP (mergeT 1 t q)) (n + m)) S := by
  have hs := sum_tup (S := S) (q := t ++ q) (n := n + m) fl (by rw [List.length_append]; exact hl)
  have en : normP (tot0 (t ++ q)) = normP (mergeT 1 t q) := norm_ext (tot0_nd _) (nd_merge ht.nd) fun x => by
    rw [val_tot0, tot_app, val_merge, tot_nd ht.nd, tot_nd hq.nd]
    omega
  rw [en] at hs
  have ea : addU false (partsD t) (partsD q) S = .ok (partsD (t ++ q)) S := by
    have l1 : (t.map partD ++ q.map partD).length ≤ sizeLine := small_line (by rw [List.length_append, List.length_map, List.length_map]; omega)
    show addD (.tup (t.map partD)) (.tup (q.map partD)) S = .ok (.tup ((t ++ q).map partD)) S
    rw [List.map_append]
    unfold addD
    exact if_pos (by rw [List.length_append] at l1; exact l1)
  unfold F_law_plus t_law_plus
  simp [N_law_plus, ea, hs]
theorem ltimes_ok {S : List O} {t : Tb} {n k : Int} (fl : Flat S) (ht : Ok t) (st : Sm bd t) (hk : k.natAbs ≤ bd) (hn : n.natAbs ≤ bd) : F_law_times [pairD t n, .int k] S = .ok (pairD (normP (scale k t)) (k * n)) S := by
  have hll := ht.len
  have sl : (scale k t).length = t.length := by unfold scale; rw [List.length_map]
  have hs := sum_lst (S := S) (q := scale k t) (n := n * k) fl (by omega)
  have nd : (keys (scale k t)).Nodup := by rw [keys_scale]; exact ht.nd
  rw [tot0_id nd nd fun _ => rfl] at hs
  have c1 : compL [2, 3] (gTp 2 (gsCons (gNm 2) (gsCons (gNm 3) gsNil))) tYesD (eArgs mkT (aCons (eVar 2) (aCons (eBin mulD (eVar 3) (eVar 1)) aNil))) (t.map partD) [] [some (pairD t n), some (.int k), none, none] S = .ok ((scale k t).map partD) S := by
    have := compL_map (vs := [2, 3]) (tg := gTp 2 (gsCons (gNm 2) (gsCons (gNm 3) gsNil))) (tt := tYesD) (te := eArgs mkT (aCons (eVar 2) (aCons (eBin mulD (eVar 3) (eVar 1)) aNil))) (ρ := [some (pairD t n), some (.int k), none, none]) (S := S) partD (fun p => partD (p.1, k * p.2)) t [] fun p hp => ⟨[some (pairD t n), some (.int k), some (.str p.1), some (.int p.2)], by simp [wipeD, partD], by simp, by
      have h2 := mul_bd (S := S) (st p hp) hk
      rw [Int.mul_comm p.2 k] at h2
      have l2 : ([D.str p.1, .int (k * p.2)] : List D).length ≤ sizeLine := small_line (by simp)
      simp [h2, mkT_ok' _ _ l2, partD]⟩
    rw [this]
    unfold scale
    rw [List.map_map]
    rfl
  have l1 : t.length ≤ sizeLine := small_line (by omega)
  have l2 : ((scale k t).map partD).length ≤ sizeLine := by
    rw [List.length_map, sl]
    exact l1
  have hm := mul_bd (S := S) hn hk
  have e : n * k = k * n := Int.mul_comm ..
  unfold F_law_times t_law_times
  simp [N_law_times, c1, l1, mkL_false _ _ l2, hm, hs, partsD]
  rw [e]
theorem lcomes_ok {S : List O} {t v : Tb} {n : Int} (ht : Ok t) (st : Sm bd t) (hh : Has v t) : F_law_comes [pairD t n, .dct (kvD v)] S = .ok (.int (comes v t + n)) S := by
  have hl := ht.len
  have c2 : compL [2, 3] (gTp 2 (gsCons (gNm 2) (gsCons (gNm 3) gsNil))) tYesD (eBin mulD (eVar 3) (eBin dgetD (eVar 1) (eVar 2))) (t.map partD) [] [some (pairD t n), some (.dct (kvD v)), none, none] S = .ok (t.map fun p => D.int (p.2 * (getT v p.1).getD 0)) S := by
    have := compL_map (vs := [2, 3]) (tg := gTp 2 (gsCons (gNm 2) (gsCons (gNm 3) gsNil))) (tt := tYesD) (te := eBin mulD (eVar 3) (eBin dgetD (eVar 1) (eVar 2))) (ρ := [some (pairD t n), some (.dct (kvD v)), none, none]) (S := S) partD (fun p => D.int (p.2 * (getT v p.1).getD 0)) t [] fun p hp => ⟨[some (pairD t n), some (.dct (kvD v)), some (.str p.1), some (.int p.2)], by simp [wipeD, partD], by simp, by
      obtain ⟨i, hi, hb⟩ := hh p hp
      have h1 := get_kv (S := S) hi
      have h2 := mul_bd (S := S) (st p hp) hb
      simp [h1, h2, hi]⟩
    rw [this]
    rfl
  have l2 : (t.map fun p => D.int (p.2 * (getT v p.1).getD 0)).length ≤ sizeLine := by
    rw [List.length_map]
    exact small_line (by omega)
  have l3 : t.length ≤ sizeLine := small_line (by omega)
  have hsum : TL.sumD [.lst (t.map fun p => D.int (p.2 * (getT v p.1).getD 0))] S = .ok (.int (comes v t)) S := by
    have e : (t.map fun p => D.int (p.2 * (getT v p.1).getD 0)) = (t.map fun p => p.2 * (getT v p.1).getD 0).map D.int := by
      rw [List.map_map]
      rfl
    rw [e]
    unfold TL.sumD lstOf
    simp only [Option.bind_some, intsOf_map]
    rfl
  unfold F_law_comes t_law_comes
  simp [N_law_comes, c2, l3, mkL_false _ _ l2, hsum, partsD]

theorem ldial_any {S : List O} {d : D} (h : k0B d = true) : F_law_is_int [d, .int 2, .int 1000000] S = .ok (.bl (dialB d)) S := by
  have h1 := isi_k0 (ex := ex) (ow := ow) (S := S) (n := "int") h (by decide)
  have h2 := isi_k0 (ex := ex) (ow := ow) (S := S) (n := "bool") h (by decide)
  have e : isI d = (isTyB d "int" && !isTyB d "bool") := by
    unfold k0B at h
    simp only [Bool.and_eq_true] at h
    cases d <;> first | rfl | (have := h.1; cases this)
  have no : isI d = false → dialB d = false := fun q => by cases d <;> first | rfl | cases q
  unfold F_law_is_int t_law_is_int
  cases b1 : isTyB d "int" with
  | false =>
    rw [b1] at h1 e
    simp [N_law_is_int, h1, no e]
  | true =>
    rw [b1] at h1 e
    cases b2 : isTyB d "bool" with
    | true =>
      rw [b2] at h2 e
      simp [N_law_is_int, h1, h2, no e]
    | false =>
      rw [b2] at h2 e
      cases d with
      | int i => by_cases q : 2 ≤ i <;> simp [N_law_is_int, h1, h2, dialB, q]
      | _ => cases e
/-- a sum with another one in the place of a name, by the law's own hand -/
theorem lput_ok {S : List O} {t q : Tb} {n m : Int} {x : Str} (fl : Flat S) (ht : Ok t) (hq : Ok q) (hl : t.length + q.length ≤ 1000) (hv : (val t x).natAbs ≤ bd) (sq : Sm bd q) (hm : m.natAbs ≤ bd) :
    F_law_put [pairD t n, .str x, pairD q m] S = .ok (pairD (normP (mergeT (val t x) (normP (left t x)) q)) (n + val t x * m)) S := by
  have hll := left_len t x
  have nd := left_nd ht.nd x
  have vl : ∀ p ∈ left t x, vn p.1 = true := fun p hp => ht.vn (left_mem hp)
  have h1 : listD false [.tup (t.map partD)] S = .ok (.lst (t.map partD)) S := list_parts (S := S) (t := t) (by omega)
  have h2 : dictLD false [.lst (t.map partD)] S = .ok (.dct (kvD t)) S := by
    rw [dict_parts false ht.nd]
    unfold mkD
    simp
  have h3 : dgt2D (.dct (kvD t)) (.str x) (.int 0) S = .ok (.int (val t x)) S := by
    unfold dgt2D val
    simp only [dctOf, TL.keyOf, getK_kv]
    cases getT t x <;> rfl
  have c1 : compL [5] (gNm 5) (tBl (eBin neD (eBin ixD (eVar 5) (eC (.int 0))) (eVar 1))) (eVar 5) (t.map partD) [] [some (pairD t n), some (.str x), some (pairD q m), some (.int (val t x)), none, none] S = .ok ((left t x).map partD) S := by
    have := compL_filt (vs := [5]) (tg := gNm 5) (tt := tBl (eBin neD (eBin ixD (eVar 5) (eC (.int 0))) (eVar 1))) (te := eVar 5) (ρ := [some (pairD t n), some (.str x), some (pairD q m), some (.int (val t x)), none, none]) (S := S) partD (fun p => !decide (p.1 = x)) partD t [] fun p hp => ⟨[some (pairD t n), some (.str x), some (pairD q m), some (.int (val t x)), none, some (partD p)], by simp [wipeD], by simp [partD], fun _ => by simp⟩
    exact this
  have l1 : t.length ≤ sizeLine := small_line (by omega)
  have l2 : ((left t x).map partD).length ≤ sizeLine := by
    rw [List.length_map]
    exact small_line (by omega)
  have hs := sum_lst (S := S) (q := left t x) (n := n) fl (by omega)
  rw [tot0_id nd nd fun _ => rfl] at hs
  have ol : Ok (normP (left t x)) := Ok.norm nd vl (by omega)
  have ht2 := ltimes_ok (S := S) (t := q) (n := m) (k := val t x) fl hq sq hv hm
  have nds : (keys (scale (val t x) q)).Nodup := by rw [keys_scale]; exact hq.nd
  have hql := hq.len
  have sl : (scale (val t x) q).length = q.length := by unfold scale; rw [List.length_map]
  have os : Ok (normP (scale (val t x) q)) := Ok.norm nds (fun p hp => by
    obtain ⟨z, hz, rfl⟩ := List.mem_map.mp hp
    exact (hq.vn hz : vn z.1 = true)) (by omega)
  have a1 := norm_len (left t x)
  have a2 := norm_len (scale (val t x) q)
  have hp := lplus_ok (S := S) (n := n) (m := val t x * m) fl ol os (by omega)
  have en : normP (mergeT 1 (normP (left t x)) (normP (scale (val t x) q))) = normP (mergeT (val t x) (normP (left t x)) q) := norm_ext (nd_merge ol.nd) (nd_merge ol.nd) fun y => by
    rw [val_merge, val_merge, tot_nd os.nd, tot_nd hq.nd, val_norm nds, val_scale]
    omega
  rw [en] at hp
  unfold F_law_put t_law_put
  simp [N_law_put, h1, h2, h3, c1, l1, mkL_false _ _ l2, hs, ht2, hp, partsD, dctOf]
theorem getK_mem : ∀ {kvs : List (Key × D)} {kv : Key × D}, (kvs.map (·.1)).Nodup → kv ∈ kvs → getK kvs kv.1 = some kv.2
  | (k, d) :: r, kv, nd, h => by
    rw [List.map_cons] at nd
    obtain ⟨n1, n2⟩ := List.nodup_cons.mp nd
    unfold getK
    rcases List.mem_cons.mp h with e | h
    · rw [e]
      exact if_pos rfl
    · have : ¬ k = kv.1 := fun e => n1 (by rw [e]; exact List.mem_map.mpr ⟨kv, h, rfl⟩)
      rw [if_neg this]
      exact getK_mem n2 h
theorem keyOf_key (k : Key) : TL.keyOf (keyD k) = some k := by cases k <;> rfl
/-- whether a value holds a sum's names, by the law's own look -/
theorem lvals_any {S : List O} {t : Tb} {n : Int} {d : D} (hd : Vl d) (hl : t.length ≤ 1000) : F_law_are_values [pairD t n, d] S = .ok (.bl (valsB t d)) S := by
  have h1 := isi_k0 (ex := ex) (ow := ow) (S := S) (n := "dict") hd.k0 (by decide)
  by_cases q : ∃ kvs, d = .dct kvs
  · obtain ⟨kvs, rfl⟩ := q
    obtain ⟨he, hk, nd⟩ := hd.ent kvs rfl
    have ht : isTyB (.dct kvs) "dict" = true := rfl
    rw [ht] at h1
    have l0 : kvs.length ≤ sizeLine := small_line (by omega)
    have lk : listKF false [.dct kvs] S = .ok (.lst (kvs.map fun kv => keyD kv.1)) S := by
      show (if kvs.length ≤ sizeLine then mkL false (kvs.map fun kv => keyD kv.1) S else .stuck) = _
      rw [if_pos l0]
      exact mkL_false _ _ (by rw [List.length_map]; exact l0)
    have c1 : compL [2] (gNm 2) tYesD (eArgs F_law_is_word (aCons (eVar 2) aNil)) (kvs.map fun kv => keyD kv.1) [] [some (pairD t n), some (.dct kvs), none, none] S = .ok (kvs.map fun kv => D.bl (nmB (keyD kv.1))) S := by
      have z : ∀ kv ∈ kvs, ∃ ρ1, gNm 2 (keyD kv.1) (wipeD [some (pairD t n), some (.dct kvs), none, none] [2]) S = .nx ρ1 S ∧ tYesD ρ1 S = .ok true S ∧ (eArgs F_law_is_word (aCons (eVar 2) aNil)) ρ1 S = .ok (D.bl (nmB (keyD kv.1))) S := fun kv hkv => by
        have w := lword_any (S := S) (ent_k0 (he kv hkv)).1
        exact ⟨[some (pairD t n), some (.dct kvs), some (keyD kv.1), none], by simp [wipeD], rfl, by simp [w]⟩
      exact compL_map (fun kv : Key × D => keyD kv.1) (fun kv => D.bl (nmB (keyD kv.1))) kvs [] z
    have c2 : compL [2] (gNm 2) tYesD (eArgs F_law_is_int (aCons (eBin dgetD (eVar 1) (eVar 2)) (aCons (eUn negD (eBin powD (eC (.int 10)) (eC (.int 12)))) (aCons (eBin powD (eC (.int 10)) (eC (.int 12))) aNil)))) (kvs.map fun kv => keyD kv.1) [] [some (pairD t n), some (.dct kvs), none, none] S = .ok (kvs.map fun kv => D.bl (isI kv.2)) S := by
      have pw : powD (.int 10) (.int 12) S = .ok (.int 1000000000000) S := pow_intD S ⟨by decide, by decide⟩
      have z : ∀ kv ∈ kvs, ∃ ρ1, gNm 2 (keyD kv.1) (wipeD [some (pairD t n), some (.dct kvs), none, none] [2]) S = .nx ρ1 S ∧ tYesD ρ1 S = .ok true S ∧ (eArgs F_law_is_int (aCons (eBin dgetD (eVar 1) (eVar 2)) (aCons (eUn negD (eBin powD (eC (.int 10)) (eC (.int 12)))) (aCons (eBin powD (eC (.int 10)) (eC (.int 12))) aNil)))) ρ1 S = .ok (D.bl (isI kv.2)) S := fun kv hkv => by
        have w := lint_any (S := S) (ent_k0 (he kv hkv)).2
        have g : dgetD (.dct kvs) (keyD kv.1) S = .ok kv.2 S := by
          unfold dgetD
          simp only [dctOf, keyOf_key, getK_mem nd hkv]
        exact ⟨[some (pairD t n), some (.dct kvs), some (keyD kv.1), none], by simp [wipeD], rfl, by simp [w, g, pw]⟩
      exact compL_map (fun kv : Key × D => keyD kv.1) (fun kv => D.bl (isI kv.2)) kvs [] z
    have c3 : compL [2, 3] (gTp 2 (gsCons (gNm 2) (gsCons (gNm 3) gsNil))) tYesD (eBin dinD (eVar 2) (eVar 1)) (t.map partD) [] [some (pairD t n), some (.dct kvs), none, none] S = .ok (t.map fun p => D.bl (hasK kvs (.inr p.1))) S :=
      compL_map partD (fun p => D.bl (hasK kvs (.inr p.1))) t [] fun p hp => ⟨[some (pairD t n), some (.dct kvs), some (.str p.1), some (.int p.2)], by simp [wipeD, partD], by simp, by
        have : dinD (.str p.1) (.dct kvs) S = .ok (.bl (hasK kvs (.inr p.1))) S := rfl
        simp [this]⟩
    have lm : ∀ f : Key × D → D, (kvs.map f).length ≤ sizeLine := fun f => by
      rw [List.length_map]
      exact l0
    have l3 : (t.map fun p => D.bl (hasK kvs (.inr p.1))).length ≤ sizeLine := by
      rw [List.length_map]
      exact small_line (by omega)
    have l4 : t.length ≤ sizeLine := small_line (by omega)
    have A1 := all_map (S := S) (fun kv : Key × D => nmB (keyD kv.1)) kvs
    have A2 := all_map (S := S) (fun kv : Key × D => isI kv.2) kvs
    have A3 := all_map (S := S) (fun p : Str × Int => hasK kvs (.inr p.1)) t
    have e : valsB t (.dct kvs) = (kvs.all (fun kv => nmB (keyD kv.1)) && (kvs.all (fun kv => isI kv.2) && t.all fun p => hasK kvs (.inr p.1))) := by
      unfold valsB
      have : ∀ r : List (Key × D), avB r = (r.all (fun kv => nmB (keyD kv.1)) && r.all (fun kv => isI kv.2)) := fun r => by
        induction r with
        | nil => rfl
        | cons a r ih =>
          unfold avB at ih ⊢
          simp only [List.all_cons, ih]
          cases nmB (keyD a.1) <;> cases isI a.2 <;> simp
      show (avB kvs && _) = _
      rw [this, Bool.and_assoc]
      rfl
    rw [e]
    unfold F_law_are_values t_law_are_values
    cases b1 : kvs.all (fun kv => nmB (keyD kv.1)) with
    | false =>
      rw [b1] at A1
      simp [N_law_are_values, h1, lk, l0, c1, mkL_false _ _ (lm _), A1]
    | true =>
      rw [b1] at A1
      cases b2 : kvs.all (fun kv => isI kv.2) with
      | false =>
        rw [b2] at A2
        simp [N_law_are_values, h1, lk, l0, c1, c2, mkL_false _ _ (lm _), A1, A2]
      | true =>
        rw [b2] at A2
        simp [N_law_are_values, h1, lk, l0, l4, c1, c2, c3, mkL_false _ _ (lm _), mkL_false _ _ l3, A1, A2, A3]
  · have e : isTyB d "dict" = false := by
      have h := hd.k0
      unfold k0B at h
      simp only [Bool.and_eq_true] at h
      cases d <;> first | rfl | exact absurd ⟨_, rfl⟩ q | (have := h.1; cases this)
    have e2 : valsB t d = false := by
      cases d <;> first | rfl | exact absurd ⟨_, rfl⟩ q
    rw [e] at h1
    unfold F_law_are_values t_law_are_values
    simp [N_law_are_values, h1, e2]

end K05
set_option Elab.async false
set_option linter.all false
set_option maxRecDepth 100000
set_option maxHeartbeats 8000000
namespace K05
open PySem PySem.Spec PyProof.Rows L2 TL TLX Pr
/-! rests, by what each call comes to -/
theorem ow_sum : ("Sum" : Str) ∈ ow := by decide +kernel
abbrev T0 : O := .tbl "_law_rests_right"
abbrev T1 : O := .tbl "_law_values_right"
abbrev T2 : O := .tbl "_law_right"
section
variable {S : List O} {ρ : Env1} {tb : TEx} {j : Nat} {x : Str}
theorem told_ok {d : D} (h0 : S[j]? = some (.tbl x)) (e : tb ρ S = .ok d S) : eTold ex j x tb ρ S = .ok (.tup [.non, d]) S := by
  unfold eTold
  simp only [h0, if_true, e]
  rfl
theorem told_exc {C : Str} {d : D} (h0 : S[j]? = some (.tbl x)) (hC : C ∈ ex) (e : tb ρ S = .exc C d S) : eTold ex j x tb ρ S = .ok (.tup [.exc C d, .non]) S := by
  unfold eTold
  simp only [h0, if_true, e]
  exact if_pos hC
end
theorem isi_err {S : List O} {v : D} {C : Str} (h : C ∈ ex) : isiA ex ow [.exc C v, .cls C] S = .ok (.bl true) S := by
  unfold isiA
  simp only [tyD, h, if_true]
  unfold isErr
  simp
theorem val_err {S : List O} {v : D} {C : Str} (h : C ∈ ex) : valE ex (.exc C v) S = .ok v S := by
  unfold valE
  simp only [h, if_true]
theorem k0_noh {d : D} (h : k0B d = true) : noh d = true := by
  unfold k0B at h
  exact (Bool.and_eq_true_iff.mp h).1
theorem k2_k0 {d : D} (h : k2B d = true) : k0B d = true := by
  unfold k2B at h
  exact (Bool.and_eq_true_iff.mp h).1
/-- loops that draw -/
theorem forL_step {tg : TGx} {tb : TSx} {M : Nat} (I : Nat → Env1 → List O → Prop) : ∀ (ds : List D) (n : Nat) (ρ : Env1) (S : List O), (∀ d ∈ ds, ∀ n ρ S, n + 1 ≤ M → I n ρ S → ∃ ρ1 ρ2 S2, tg d ρ S = .nx ρ1 S ∧ tb ρ1 S = .nx ρ2 S2 ∧ I (n + 1) ρ2 S2) → n + ds.length ≤ M → I n ρ S →
    ∃ ρ' S', forL tg tb ds ρ S = .nx ρ' S' ∧ I (n + ds.length) ρ' S'
  | [], n, ρ, S, _, _, h => ⟨ρ, S, rfl, h⟩
  | d :: ds, n, ρ, S, q, hl, h => by
    rw [List.length_cons] at hl
    obtain ⟨ρ1, ρ2, S2, e1, e2, h2⟩ := q d List.mem_cons_self n ρ S (by omega) h
    obtain ⟨ρ', S', e3, h3⟩ := forL_step I ds (n + 1) ρ2 S2 (fun x hx => q x (List.mem_cons_of_mem _ hx)) (by omega) h2
    refine ⟨ρ', S', ?_, by rw [List.length_cons, Nat.add_comm ds.length 1, ← Nat.add_assoc]; exact h3⟩
    unfold forL
    rw [e1]
    simp only [only_nx, seq_nx]
    rw [e2, turn_nx, e3]
theorem bd_ex : ("BadDial" : Str) ∈ ex := by decide +kernel
theorem bv_ex : ("BadValues" : Str) ∈ ex := by decide +kernel
theorem bn_ex : ("BadName" : Str) ∈ ex := by decide +kernel
theorem bs_ex : ("BadSum" : Str) ∈ ex := by decide +kernel
@[simp] theorem not_nn {S : List O} : notND .non .non S = .ok (.bl false) S := rfl
theorem k0_in {d : D} (h : k0B d = true) (S : List O) : tyIn S d = true := by
  unfold k0B at h
  simp only [Bool.and_eq_true] at h
  have h2 := h.2.1
  unfold tyIn
  rw [tyD_noh h.1 S]
  cases e : tyD [] d with
  | none =>
    rw [e] at h2
    cases h2
  | some a =>
    rw [e] at h2
    exact h2
abbrev rowR : TSx := (sSeq (sAsg (eTold ex 0 "_law_rests_right" (eBin (ownL "Sum" (Pr.FSum___mod__ ex ow) modD) (eVar 2) (eVar 4))) (gTp 2 (gsCons (gNm 5) (gsCons (gNm 6) gsNil))))
    (sIf (tTru (eArgs F_law_is_int (aCons (eVar 4) (aCons (eC (.int 2)) (aCons (eBin powD (eC (.int 10)) (eC (.int 6))) aNil))))) (sSeq (sSet 7 (eArgs F_law_sum (aCons (eLc false [8, 9] (iAny (eBin ixD (eVar 1) (eC (.int 0)))) (gTp 2 (gsCons (gNm 8) (gsCons (gNm 9) gsNil))) tYesD (eArgs mkT (aCons (eVar 8) (aCons (eBin modD (eArgs intD (aCons (eVar 9) aNil)) (eVar 4)) aNil)))) (aCons (eBin modD (eArgs intD (aCons (eBin ixD (eVar 1) (eC (.int 1))) aNil)) (eVar 4)) aNil))))
    (sIf (tOrT (tBl (eBin notND (eVar 5) (eC .non))) (tBl (eBin neD (eArgs reprD (aCons (eArgs F_law_pair (aCons (eVar 6) aNil)) aNil)) (eArgs reprD (aCons (eVar 7) aNil))))) (sRet (eC (.bl false))) sNext)) (sIf (tOrT (tNotT (tTru (eArgs (isiA ex ow) (aCons (eVar 5) (aCons (eC (.cls "BadDial")) aNil))))) (tBl (eBin neD (eArgs reprD (aCons (eUn (valE ex) (eVar 5)) aNil)) (eArgs reprD (aCons (eVar 4) aNil))))) (sRet (eC (.bl false))) sNext)))
abbrev tRest : TEx := (eBin (ownL "Sum" (Pr.FSum___mod__ ex ow) modD) (eVar 2) (eVar 4))
abbrev cRest : TEx := (eArgs mkT (aCons (eVar 8) (aCons (eBin modD (eArgs intD (aCons (eVar 9) aNil)) (eVar 4)) aNil)))
theorem rest_yes {S : List O} {h L r : D} {t q : Tb} {n k : Int} {x5 x6 x7 : Option D} {s : Str}
    (hT : eTold ex 0 "_law_rests_right" tRest [some h, some (pairD t n), some (sumD t n), some L, some (.int k), x5, x6, x7, none, none] S = .ok (.tup [.non, r]) S)
    (pw : powD (.int 10) (.int 6) S = .ok (.int 1000000) S) (hi : F_law_is_int [.int k, .int 2, .int 1000000] S = .ok (.bl true) S) (k0 : 0 < k)
    (c1 : compL [8, 9] (gTp 2 (gsCons (gNm 8) (gsCons (gNm 9) gsNil))) tYesD cRest (t.map partD) [] [some h, some (pairD t n), some (sumD t n), some L, some (.int k), some .non, some r, x7, none, none] S = .ok ((modT k t).map partD) S)
    (l1 : t.length ≤ sizeLine) (mL : mkL false ((modT k t).map partD) S = .ok (.lst ((modT k t).map partD)) S)
    (hs : F_law_sum [.lst ((modT k t).map partD), .int (n % k)] S = .ok (pairD q (n % k)) S) (hp : F_law_pair [r] S = .ok (pairD q (n % k)) S) (hr : reprD [pairD q (n % k)] S = .ok (.str s) S) :
    rowR [some h, some (pairD t n), some (sumD t n), some L, some (.int k), x5, x6, x7, none, none] S = .nx [some h, some (pairD t n), some (sumD t n), some L, some (.int k), some .non, some r, some (pairD q (n % k)), none, none] S := by
  have i0 : ∀ Z : List O, ixD (pairD t n) (.int 0) Z = .ok (.tup (t.map partD)) Z := fun Z => pair_0
  have i1 : ∀ Z : List O, ixD (pairD t n) (.int 1) Z = .ok (.int n) Z := fun Z => pair_1
  simp [hT, pw, hi, i0, i1, c1, l1, mL, TL.mod_int S k0, hs, hp, hr]
theorem rest_no {S : List O} {h p m L d c : D} {x5 x6 x7 : Option D} {s : Str}
    (hT : eTold ex 0 "_law_rests_right" tRest [some h, some p, some m, some L, some d, x5, x6, x7, none, none] S = .ok (.tup [c, .non]) S)
    (pw : powD (.int 10) (.int 6) S = .ok (.int 1000000) S) (hi : F_law_is_int [d, .int 2, .int 1000000] S = .ok (.bl false) S)
    (hk : isiA ex ow [c, .cls "BadDial"] S = .ok (.bl true) S) (hv : valE ex c S = .ok d S) (hr : reprD [d] S = .ok (.str s) S) :
    rowR [some h, some p, some m, some L, some d, x5, x6, x7, none, none] S = .nx [some h, some p, some m, some L, some d, some c, some .non, x7, none, none] S := by
  simp [hT, pw, hi, hk, hv, hr]
theorem rest_row {S : List O} {h L d : D} {t : Tb} {n : Int} {x5 x6 x7 : Option D} (h0 : S[0]? = some T0) (fl : Flat S) (ot : Ok t) (hd : Good d) :
    ∃ y5 y6 y7, rowR [some h, some (pairD t n), some (sumD t n), some L, some d, x5, x6, x7, none, none] S = .nx [some h, some (pairD t n), some (sumD t n), some L, some d, y5, y6, y7, none, none] S := by
  have kd := k2_k0 hd.kd
  have hi := ldial_any (S := S) kd
  have pw : powD (.int 10) (.int 6) S = .ok (.int 1000000) S := pow_intD S ⟨by decide, by decide⟩
  have ty := k0_in kd S
  have iso := isO_sum (S := S) t n
  have tr : ∀ {o : Out D}, Pr.FSum___mod__ ex ow [sumD t n, d] S = o → tRest [some h, some (pairD t n), some (sumD t n), some L, some d, x5, x6, x7, none, none] S = o := fun {o} e => by
    simp [ownL, iso, ty, e]
  cases hb : dialB d with
  | false =>
    rw [hb] at hi
    obtain ⟨s, hs⟩ := hd.sho
    exact ⟨_, _, _, rest_no (told_exc h0 bd_ex (tr (mod_no kd hb))) pw hi (isi_err bd_ex) (val_err bd_ex) (hs S)⟩
  | true =>
    rw [hb] at hi
    cases d with
    | int k =>
      have hk : (decide (2 ≤ k) && decide (k ≤ 1000000)) = true := hb
      simp only [Bool.and_eq_true, decide_eq_true_eq] at hk
      have k0 : 0 < k := by omega
      have hl := ot.len
      have hm := len_mod k t
      have nd : (keys (modT k t)).Nodup := by rw [keys_mod]; exact ot.nd
      have hs := sum_lst (S := S) (q := modT k t) (n := n % k) fl (by omega)
      rw [tot0_id nd nd fun _ => rfl] at hs
      have om : Ok (normP (modT k t)) := Ok.norm nd (fun p hp => by
        obtain ⟨z, hz, rfl⟩ := List.mem_map.mp hp
        exact (ot.vn hz : vn z.1 = true)) (by omega)
      have rb : ∀ j : Int, (j % k).natAbs ≤ 1000000 := fun j => by
        have a := Int.emod_nonneg j (by omega : k ≠ 0)
        have b := Int.emod_lt_of_pos j k0
        omega
      have sm : Sm 1000000 (normP (modT k t)) := sm_norm nd fun x => by
        rw [val_mod]
        exact rb _
      have sh : Sh (normP (modT k t)) := ⟨fun p hp => ⟨om.vn hp, by have := sm p hp; omega⟩, om.len⟩
      have hr := gd_repr (S := S) (gd_pair (n := n % k) sh (by have := rb n; omega)) (by decide) (by decide)
      have c1 : compL [8, 9] (gTp 2 (gsCons (gNm 8) (gsCons (gNm 9) gsNil))) tYesD cRest (t.map partD) [] [some h, some (pairD t n), some (sumD t n), some L, some (.int k), some .non, some (sumD (normP (modT k t)) (n % k)), x7, none, none] S = .ok ((modT k t).map partD) S := by
        have := compL_map (vs := [8, 9]) (tg := gTp 2 (gsCons (gNm 8) (gsCons (gNm 9) gsNil))) (tt := tYesD) (te := cRest) (ρ := [some h, some (pairD t n), some (sumD t n), some L, some (.int k), some .non, some (sumD (normP (modT k t)) (n % k)), x7, none, none]) (S := S) partD (fun p => partD (p.1, p.2 % k)) t [] fun p hp => ⟨[some h, some (pairD t n), some (sumD t n), some L, some (.int k), some .non, some (sumD (normP (modT k t)) (n % k)), x7, some (.str p.1), some (.int p.2)], by simp [wipeD, partD], by simp, by
          have l2 : ([D.str p.1, .int (p.2 % k)] : List D).length ≤ sizeLine := small_line (by simp)
          simp [TL.mod_int S k0, mkT_ok' _ _ l2, partD]⟩
        rw [this]
        unfold modT
        rw [List.map_map]
        rfl
      have l1 : t.length ≤ sizeLine := small_line (by omega)
      have l3 : ((modT k t).map partD).length ≤ sizeLine := by
        rw [List.length_map]
        exact small_line (by omega)
      exact ⟨_, _, _, rest_yes (told_ok h0 (tr (mod_sum ot hb kd fl))) pw hi k0 c1 l1 (mkL_false _ _ l3) hs pair_ok hr⟩
    | _ => cases hb
abbrev dials (o : D) (k : Int) : List D := [.int 2, .int 3, .int 10, .int 97, .int 1000000, .int 1000001, .int 1, .int 0, .int (-2), .bl true, .non, .str "6", .tup [.int 6], o, .int (2 + k)]
theorem rests_body {S S1 S2 : List O} {i : Nat} {p m o : D} {k : Int} {y4 y5 y6 y7 : Option D} (pw : powD (.int 10) (.int 6) S = .ok (.int 1000000) S) (mT : mkT [.int 6] S = .ok (.tup [.int 6]) S) (e1 : F_law_odd [.hnd i] S = .ok o S1) (e2 : F_law_take [.hnd i, .int 40] S1 = .ok (.int k) S2)
    (mL : mkL false (dials o k) S2 = .ok (.lst (dials o k)) S2) (fo : forL (gNm 4) rowR (dials o k) [some (.hnd i), some p, some m, some (.lst (dials o k)), none, none, none, none, none, none] S2 = .nx [some (.hnd i), some p, some m, some (.lst (dials o k)), y4, y5, y6, y7, none, none] S2) :
    F_law_rests_right [.hnd i, p, m] S = .ok (.bl true) S2 := by
  unfold F_law_rests_right t_law_rests_right
  simp [N_law_rests_right, pw, mT, e1, e2, mL, fo]
theorem rests_ok {S : List O} {i : Nat} {T : Int} {t : Tb} {n : Int} (h : Pot S i T) (fl : Flat S) (hT : T + 2 < 2 ^ 20) (hi : i ≠ 0) (h0 : S[0]? = some T0) (ot : Ok t) :
    Ret (F_law_rests_right [.hnd i, pairD t n, sumD t n] S) fun d S' => d = .bl true ∧ Step i (T + 2) S S' := by
  obtain ⟨o, S1, e1, ho, st1⟩ := odd_ok h (by omega)
  obtain ⟨_, S2, e2, ⟨k, rfl, k0, k1⟩, st2⟩ := take (u := 40) st1.pot (by omega) (by decide) (by decide)
  have st : Step i (T + 2) S S2 := (st1.tr st2).up (by omega)
  have fl2 := st.flat fl
  have h2 : S2[0]? = some T0 := by rw [st.off 0 (fun e => hi e.symm)]; exact h0
  have gs : ∀ d ∈ dials o k, Good d := fun d hd => by
    have hc : ([.int 2, .int 3, .int 10, .int 97, .int 1000000, .int 1000001, .int 1, .int 0, .int (-2), .bl true, .non, .str "6", .tup [.int 6]] : List D).all goodB = true := by decide +kernel
    have hd : d ∈ ([.int 2, .int 3, .int 10, .int 97, .int 1000000, .int 1000001, .int 1, .int 0, .int (-2), .bl true, .non, .str "6", .tup [.int 6]] : List D) ++ [o, .int (2 + k)] := hd
    rcases List.mem_append.mp hd with hd | hd
    · exact good_of (List.all_eq_true.mp hc d hd)
    · simp only [List.mem_cons, List.not_mem_nil, or_false] at hd
      rcases hd with rfl | rfl
      · exact odds_good _ ho
      · exact good_ok (show decide ((2 + k).natAbs ≤ 1000000000) = true from decide_eq_true (by omega))
  obtain ⟨ρ', e, y4, y5, y6, y7, rfl⟩ := forL_inv (tg := gNm 4) (tb := rowR) (S := S2) (fun ρ => ∃ y4 y5 y6 y7, ρ = [some (.hnd i), some (pairD t n), some (sumD t n), some (.lst (dials o k)), y4, y5, y6, y7, none, none]) (dials o k) [some (.hnd i), some (pairD t n), some (sumD t n), some (.lst (dials o k)), none, none, none, none, none, none] (fun d hd ρ hρ => by
    obtain ⟨x4, x5, x6, x7, rfl⟩ := hρ
    obtain ⟨y5, y6, y7, e⟩ := rest_row (h := .hnd i) (L := .lst (dials o k)) (n := n) (x5 := x5) (x6 := x6) (x7 := x7) h2 fl2 ot (gs d hd)
    exact ⟨_, _, rfl, .inl e, _, _, _, _, rfl⟩) ⟨_, _, _, _, rfl⟩
  exact ⟨_, S2, rests_body (pow_intD S ⟨by decide, by decide⟩) (mkT_ok' S _ (small_line (by simp))) e1 e2 (mkL_false S2 _ (small_line (by simp))) e, rfl, st⟩
end K05
set_option Elab.async false
set_option linter.all false
set_option maxRecDepth 100000
set_option maxHeartbeats 8000000
namespace K05
open PySem PySem.Spec PyProof.Rows L2 TL TLX Pr
/-! values, by what each call comes to -/
def tups (kvs : List (Key × D)) : List D := kvs.map fun kv => D.tup [keyD kv.1, kv.2]
theorem pairs_tups : ∀ kvs : List (Key × D), TL.pairsOf (tups kvs) = some kvs
  | [] => rfl
  | (k, d) :: kvs => by
    have ih := pairs_tups kvs
    unfold tups at ih ⊢
    rw [List.map_cons]
    unfold TL.pairsOf
    simp only [keyOf_key, Option.bind_some, ih, Option.map_some]
theorem dict_tups {S : List O} {kvs : List (Key × D)} (nd : (kvs.map (·.1)).Nodup) : dictLD false [.lst (tups kvs)] S = .ok (.dct kvs) S := by
  unfold dictLD lstOf
  simp only [Option.bind_some, pairs_tups]
  rw [mergeG_nodup _ [] (fun _ _ => rfl) nd]
  unfold mkD
  simp
theorem tups_len (kvs : List (Key × D)) : (tups kvs).length = kvs.length := List.length_map ..
theorem li_ok {K : List (Key × D)} {ρ : Env1} {S : List O} (h : ρ[4]? = some (some (.dct K))) : eLsI (eVar 4) ρ S = .ok (.lst (tups K)) S := by
  unfold eLsI
  rw [eVar_ap _ _ _ h]
  rfl
abbrev rowV : TSx := (sSeq (sAsg (eTold ex 1 "_law_values_right" (eCallO "Sum" (Pr.FSum___call__ ex ow) (eVar 2) (aCons (eVar 6) aNil))) (gTp 2 (gsCons (gNm 7) (gsCons (gNm 8) gsNil))))
    (sIf (tTru (eArgs F_law_are_values (aCons (eVar 1) (aCons (eVar 6) aNil)))) (sIf (tOrT (tBl (eBin notND (eVar 7) (eC .non))) (tBl (eBin neD (eArgs reprD (aCons (eVar 8) aNil)) (eArgs reprD (aCons (eArgs F_law_comes (aCons (eVar 1) (aCons (eVar 6) aNil))) aNil))))) (sRet (eC (.bl false))) sNext) (sIf (tOrT (tNotT (tTru (eArgs (isiA ex ow) (aCons (eVar 7) (aCons (eC (.cls "BadValues")) aNil))))) (tBl (eBin neD (eArgs reprD (aCons (eUn (valE ex) (eVar 7)) aNil)) (eArgs reprD (aCons (eVar 6) aNil))))) (sRet (eC (.bl false))) sNext)))
abbrev tVal : TEx := (eCallO "Sum" (Pr.FSum___call__ ex ow) (eVar 2) (aCons (eVar 6) aNil))
theorem val_yes {S : List O} {h p m NL pl VL d r c : D} {x7 x8 x9 : Option D} {s : Str}
    (hT : eTold ex 1 "_law_values_right" tVal [some h, some p, some m, some NL, some pl, some VL, some d, x7, x8, x9] S = .ok (.tup [.non, r]) S)
    (ha : F_law_are_values [p, d] S = .ok (.bl true) S) (hr : reprD [r] S = .ok (.str s) S) (hc : F_law_comes [p, d] S = .ok c S) (hr2 : reprD [c] S = .ok (.str s) S) :
    rowV [some h, some p, some m, some NL, some pl, some VL, some d, x7, x8, x9] S = .nx [some h, some p, some m, some NL, some pl, some VL, some d, some .non, some r, x9] S := by
  simp [hT, ha, hr, hc, hr2]
theorem val_no {S : List O} {h p m NL pl VL d c : D} {x7 x8 x9 : Option D} {s : Str}
    (hT : eTold ex 1 "_law_values_right" tVal [some h, some p, some m, some NL, some pl, some VL, some d, x7, x8, x9] S = .ok (.tup [c, .non]) S)
    (ha : F_law_are_values [p, d] S = .ok (.bl false) S) (hk : isiA ex ow [c, .cls "BadValues"] S = .ok (.bl true) S) (hv : valE ex c S = .ok d S) (hr : reprD [d] S = .ok (.str s) S) :
    rowV [some h, some p, some m, some NL, some pl, some VL, some d, x7, x8, x9] S = .nx [some h, some p, some m, some NL, some pl, some VL, some d, some c, some .non, x9] S := by
  simp [hT, ha, hk, hv, hr]
theorem val_row {S : List O} {h NL pl VL d : D} {t : Tb} {n : Int} {x7 x8 x9 : Option D} (h1 : S[1]? = some T1) (ot : Ok t) (st : Sm 9 t) (hl : t.length ≤ 4) (hn : n.natAbs ≤ 99) (hd : Vl d) :
    ∃ y7 y8, rowV [some h, some (pairD t n), some (sumD t n), some NL, some pl, some VL, some d, x7, x8, x9] S = .nx [some h, some (pairD t n), some (sumD t n), some NL, some pl, some VL, some d, y7, y8, x9] S := by
  have ha := lvals_any (S := S) (n := n) hd ot.len
  have iso := isO_sum (S := S) t n
  have tr : ∀ {o : Out D}, Pr.FSum___call__ ex ow [sumD t n, d] S = o → tVal [some h, some (pairD t n), some (sumD t n), some NL, some pl, some VL, some d, x7, x8, x9] S = o := fun {o} e => by
    simp [eCallO, iso, e]
  cases hb : valsB t d with
  | false =>
    rw [hb] at ha
    obtain ⟨s, hs⟩ := hd.sho
    exact ⟨_, _, val_no (told_exc h1 bv_ex (tr (call_no hd ot.len hb))) ha (isi_err bv_ex) (val_err bv_ex) (hs S)⟩
  | true =>
    rw [hb] at ha
    obtain ⟨v, rfl, vv, hv, vb⟩ := vals_yes hd hb
    have sb : Sm bd t := fun p hp => by
      have := st p hp
      unfold bd
      omega
    have e := call_sum (ex := ex) (ow := ow) (S := S) (n := n) ot sb vv hv
    have hc := lcomes_ok (S := S) (n := n) ot sb hv
    have cl := comes_len vb st
    have cb : (comes v t).natAbs ≤ 36000000000 := by
      have : t.length * (9 * 1000000000) ≤ 4 * (9 * 1000000000) := Nat.mul_le_mul_right _ hl
      omega
    have hr : reprD [.int (n + comes v t)] S = .ok (.str (PyData.int (n + comes v t)).shown) S := gd_repr (gd_int (by omega)) (by decide) (by decide)
    have ec : comes v t + n = n + comes v t := Int.add_comm ..
    rw [ec] at hc
    exact ⟨_, _, val_yes (told_ok h1 (tr e)) ha hr hc hr⟩
abbrev teP : TEx := (eArgs mkT (aCons (eVar 9) (aCons (eBin subD (eArgs F_law_take (aCons (eVar 0) (aCons (eC (.int 30)) aNil))) (eC (.int 9))) aNil)))
theorem plain_of {us : List Str} {rs : List D} (h : All2 (fun d y => ∃ (x : Str) (r : Int), d = D.str x ∧ y = partD (x, r) ∧ r.natAbs ≤ 20) (us.map D.str) rs) : ∃ q : Tb, rs = q.map partD ∧ keys q = us ∧ Sm 20 q := by
  induction us generalizing rs with
  | nil =>
    cases h
    exact ⟨[], rfl, rfl, fun _ h => absurd h List.not_mem_nil⟩
  | cons u us ih =>
    cases h with
    | cons h1 h2 =>
      obtain ⟨y, r, e1, rfl, h3⟩ := h1
      cases e1
      obtain ⟨q, rfl, rfl, h5⟩ := ih h2
      exact ⟨(u, r) :: q, rfl, rfl, fun p hp => (List.mem_cons.mp hp).elim (fun e => by rw [e]; exact h3) (h5 p)⟩
theorem plain_ok {S : List O} {i : Nat} {T : Int} {N : List Str} {p m : D} (h : Pot S i T) (hT : T + 5 < 2 ^ 20) (hN : N.length = 5) :
    ∃ v S1, compL [9] (gNm 9) tYesD teP (N.map D.str) [] [some (.hnd i), some p, some m, some (.lst (N.map D.str)), none, none, none, none, none, none] S = .ok (v.map partD) S1 ∧ keys v = N ∧ Sm 20 v ∧ Step i (T + 5) S S1 := by
  obtain ⟨rs, S1, e1, al, st⟩ := compL_rel (vs := [9]) (tg := gNm 9) (tt := tYesD) (te := teP) (ρ := [some (.hnd i), some p, some m, some (.lst (N.map D.str)), none, none, none, none, none, none])
    (P := fun d y => ∃ (x : Str) (r : Int), d = D.str x ∧ y = partD (x, r) ∧ r.natAbs ≤ 20) 5 (fun n Z => Step i (T + n) S Z) (N.map D.str) [] S 0 (by simp [hN]) (by simpa using Step.here h) (fun d hd Z k hk hZ => by
      obtain ⟨x, hx, rfl⟩ := List.mem_map.mp hd
      obtain ⟨_, Z2, e, ⟨r, rfl, r0, r1⟩, st⟩ := take (u := 30) hZ.pot (by omega) (by decide) (by decide)
      have l2 : ([D.str x, .int (r - 9)] : List D).length ≤ sizeLine := small_line (by simp)
      refine ⟨[some (.hnd i), some p, some m, some (.lst (N.map D.str)), none, none, none, none, none, some (.str x)], Z, Z2, partD (x, r - 9), by simp [wipeD], by simp, ?_, ⟨x, r - 9, rfl, rfl, by omega⟩, (hZ.tr st).up (by omega)⟩
      simp [e, mkT_ok' _ _ l2, partD])
  obtain ⟨v, rfl, rfl, sv⟩ := plain_of al
  exact ⟨v, S1, by simpa using e1, rfl, sv, st.up (by simp [hN])⟩
theorem values_body {S S1 S2 : List O} {i : Nat} {p m o : D} {NL PL : List D} {K K1 K2 K3 K4 K5 K6 : List (Key × D)} {T B : List D} {y6 y7 y8 : Option D} (l0 : NL.length ≤ sizeLine)
    (c1 : compL [9] (gNm 9) tYesD teP NL [] [some (.hnd i), some p, some m, some (.lst NL), none, none, none, none, none, none] S = .ok PL S1) (mP : mkL false PL S1 = .ok (.lst PL) S1) (dP : dictLD false [.lst PL] S1 = .ok (.dct K) S1)
    (mT : ∀ (Z : List O) (ds : List D), ds.length ≤ 40 → mkT ds Z = .ok (.tup ds) Z) (mL : ∀ (Z : List O) (ds : List D), ds.length ≤ 40 → mkL false ds Z = .ok (.lst ds) Z) (mD : ∀ Z : List O, mkD false [] Z = .ok (.dct []) Z)
    (li : ∀ (ρ : Env1) (Z : List O), ρ[4]? = some (some (.dct K)) → eLsI (eVar 4) ρ Z = .ok (.lst (tups K)) Z)
    (cq : ∀ (x : D) (Z : List O), catD false (.lst (tups K)) (.lst [x]) Z = .ok (.lst (tups K ++ [x])) Z)
    (d1 : dictLD false [.lst (tups K ++ [.tup [.str "zq", .int 3]])] S1 = .ok (.dct K1) S1) (d2 : dictLD false [.lst (tups K ++ [.tup [.str "zq", .bl true]])] S1 = .ok (.dct K2) S1)
    (d3 : dictLD false [.lst (tups K ++ [.tup [.str "A", .int 3]])] S1 = .ok (.dct K3) S1) (d4 : dictLD false [.lst (tups K ++ [.tup [.int 5, .int 3]])] S1 = .ok (.dct K4) S1)
    (od : F_law_odd [.hnd i] S1 = .ok o S2)
    (ca : catD false (.lst [.dct K, .dct K1, .dct K2, .dct [], .non, .lst [], .int 0]) (.lst [.dct K3, .dct K4, o]) S2 = .ok (.lst [.dct K, .dct K1, .dct K2, .dct [], .non, .lst [], .int 0, .dct K3, .dct K4, o]) S2)
    (sl : slD false (.lst (tups K)) (some 1) none S2 = .ok (.lst T) S2) (d5 : dictLD false [.lst T] S2 = .ok (.dct K5) S2) (bk : backLD false (.lst (tups K)) S2 = .ok (.lst B) S2) (d6 : dictLD false [.lst B] S2 = .ok (.dct K6) S2)
    (cb : catD false (.lst [.dct K, .dct K1, .dct K2, .dct [], .non, .lst [], .int 0, .dct K3, .dct K4, o]) (.lst [.dct K5, .dct K6, .lst (tups K)]) S2 = .ok (.lst [.dct K, .dct K1, .dct K2, .dct [], .non, .lst [], .int 0, .dct K3, .dct K4, o, .dct K5, .dct K6, .lst (tups K)]) S2)
    (fo : forL (gNm 6) rowV [.dct K, .dct K1, .dct K2, .dct [], .non, .lst [], .int 0, .dct K3, .dct K4, o, .dct K5, .dct K6, .lst (tups K)] [some (.hnd i), some p, some m, some (.lst NL), some (.dct K), some (.lst [.dct K, .dct K1, .dct K2, .dct [], .non, .lst [], .int 0, .dct K3, .dct K4, o, .dct K5, .dct K6, .lst (tups K)]), none, none, none, none] S2 = .nx [some (.hnd i), some p, some m, some (.lst NL), some (.dct K), some (.lst [.dct K, .dct K1, .dct K2, .dct [], .non, .lst [], .int 0, .dct K3, .dct K4, o, .dct K5, .dct K6, .lst (tups K)]), y6, y7, y8, none] S2) :
    F_law_values_right [.hnd i, p, m, .lst NL] S = .ok (.bl true) S2 := by
  unfold F_law_values_right t_law_values_right
  simp [N_law_values_right, l0, c1, mP, dP, mT, mL, mD, li, cq, d1, d2, d3, d4, od, ca, sl, d5, bk, d6, cb, fo]
theorem ents_kv {v : Tb} (hv : ∀ p ∈ v, vn p.1 = true) (sv : Sm 20 v) : ∀ kv ∈ kvD v, entB kv = true := fun kv h => by
  obtain ⟨p, hp, rfl⟩ := List.mem_map.mp h
  have a := hv p hp
  have b := vn_len a
  have c := sv p hp
  show ((PyData.strOk p.1 && decide (p.1.length ≤ 60)) && decide (p.2.natAbs ≤ 1000000000)) = true
  rw [vn_ok a, decide_eq_true (by omega), decide_eq_true (by omega)]
  rfl
theorem snoc_ent {K : List (Key × D)} {kv : Key × D} (h : ∀ kv ∈ K, entB kv = true) (e : entB kv = true) : ∀ q ∈ K ++ [kv], entB q = true := fun q hq => by
  rcases List.mem_append.mp hq with a | a
  · exact h q a
  · rw [List.mem_singleton.mp a]
    exact e
theorem snoc_nd {K : List (Key × D)} {kv : Key × D} (nd : (K.map (·.1)).Nodup) (h : kv.1 ∉ K.map (·.1)) : ((K ++ [kv]).map (·.1)).Nodup := by
  rw [List.map_append]
  refine List.nodup_append.mpr ⟨nd, by simp, fun a ha b hb e => h ?_⟩
  have : b = kv.1 := by simpa using hb
  rw [← this, ← e]
  exact ha
theorem values_ok {S : List O} {i : Nat} {T : Int} {t : Tb} {n : Int} {N : List Str} (h : Pot S i T) (fl : Flat S) (hT : T + 6 < 2 ^ 20) (hi : i ≠ 1) (h1 : S[1]? = some T1) (ot : Ok t) (st' : Sm 9 t) (hl : t.length ≤ 4) (hn : n.natAbs ≤ 99)
    (nN : N.Nodup) (vN : ∀ y ∈ N, vn y = true) (pN : ∀ y ∈ N, y ∈ poolS) (lN : N.length = 5) :
    Ret (F_law_values_right [.hnd i, pairD t n, sumD t n, .lst (N.map D.str)] S) fun d S' => d = .bl true ∧ Step i (T + 6) S S' := by
  obtain ⟨v, S1, c1, kv, sv, st1⟩ := plain_ok (p := pairD t n) (m := sumD t n) h (by omega) lN
  obtain ⟨o, S2, od, ho, st2⟩ := odd_ok st1.pot (by omega)
  have st : Step i (T + 6) S S2 := (st1.tr st2).up (by omega)
  have h2 : S2[1]? = some T1 := by rw [st.off 1 (fun e => hi e.symm)]; exact h1
  obtain ⟨K, hK⟩ : ∃ K, K = kvD v := ⟨_, rfl⟩
  have lv : v.length = 5 := by
    have : (keys v).length = v.length := by simp [keys]
    rw [← this, kv, lN]
  have lK : K.length = 5 := by rw [hK, kvD, List.length_map, lv]
  have vv : ∀ p ∈ v, vn p.1 = true := fun p hp => vN _ (by rw [← kv]; exact List.mem_map.mpr ⟨p, hp, rfl⟩)
  have eK : ∀ q ∈ K, entB q = true := by rw [hK]; exact ents_kv vv sv
  have nK : (K.map (·.1)).Nodup := by rw [hK]; exact kv_nodup (by rw [kv]; exact nN)
  have inK : ∀ {k : Key}, k ∈ K.map (·.1) → ∃ x ∈ poolS, k = .inr x := fun {k} hk => by
    rw [hK] at hk
    obtain ⟨q, hq, rfl⟩ := List.mem_map.mp hk
    obtain ⟨p, hp, rfl⟩ := List.mem_map.mp hq
    exact ⟨p.1, pN _ (by rw [← kv]; exact List.mem_map.mpr ⟨p, hp, rfl⟩), rfl⟩
  have no : ∀ {x : Str}, x ∉ poolS → (Sum.inr x : Key) ∉ K.map (·.1) := fun {x} hx e => by
    obtain ⟨y, hy, e2⟩ := inK e
    cases e2
    exact hx hy
  have zq : ("zq" : Str) ∉ poolS := by decide +kernel
  have zA : ("A" : Str) ∉ poolS := by decide +kernel
  have z5 : (Sum.inl 5 : Key) ∉ K.map (·.1) := fun e => by
    obtain ⟨y, _, e2⟩ := inK e
    cases e2
  have n1 := snoc_nd (kv := (.inr "zq", .int 3)) nK (no zq)
  have n2 := snoc_nd (kv := (.inr "zq", .bl true)) nK (no zq)
  have n3 := snoc_nd (kv := (.inr "A", .int 3)) nK (no zA)
  have n4 := snoc_nd (kv := (.inl 5, .int 3)) nK z5
  have n5 : (K.tail.map (·.1)).Nodup := by rw [List.map_tail]; exact nK.sublist (List.tail_sublist _)
  have n6 : (K.reverse.map (·.1)).Nodup := by rw [List.map_reverse]; exact (List.reverse_perm _).nodup_iff.mpr nK
  have ls : ∀ kv : Key × D, (K ++ [kv]).length ≤ 1000 := fun kv => by rw [List.length_append, lK]; simp
  have tk : ∀ kv : Key × D, tups (K ++ [kv]) = tups K ++ [.tup [keyD kv.1, kv.2]] := fun kv => by unfold tups; simp
  have d1 := dict_tups (S := S1) n1
  have d2 := dict_tups (S := S1) n2
  have d3 := dict_tups (S := S1) n3
  have d4 := dict_tups (S := S1) n4
  rw [tk] at d1 d2 d3 d4
  have lt := tups_len K
  have sl : slD false (.lst (tups K)) (some 1) none S2 = .ok (.lst (tups K.tail)) S2 := by
    show mkL false (TL.cutD (tups K) (some 1) none) S2 = _
    rw [cutD_tail, mkL_false _ _ (small_line (by rw [List.length_tail]; omega))]
    unfold tups
    rw [List.map_tail]
  have bk : backLD false (.lst (tups K)) S2 = .ok (.lst (tups K.reverse)) S2 := by
    show mkL false (tups K).reverse S2 = _
    rw [mkL_false _ _ (small_line (by rw [List.length_reverse]; omega))]
    unfold tups
    rw [List.map_reverse]
  have ev : v.map partD = tups K := by
    rw [hK]
    unfold tups kvD
    rw [List.map_map]
    rfl
  have v13 : Vl (.lst (tups K)) := by
    rw [← ev]
    refine ⟨?_, ?_, fun kvs e => by cases e⟩
    · have g := gd_lst (gds_map partD (fun p : Str × Int => PyData.tuple [.str p.1, .int p.2]) v fun p hp => gd_part (vv p hp) (by have := sv p hp; omega))
      exact ⟨_, fun Z => gd_repr g (by decide) (by rw [lv]; decide)⟩
    · have hn : noh (.lst (v.map partD)) = true := by
        simp only [noh, nohs_all, List.all_map, List.all_eq_true]
        intro p _
        rfl
      unfold k0B
      rw [hn]
      rfl
  have conc : ∀ d ∈ ([.dct [], .non, .lst [], .int 0] : List D), Vl d := fun d hd => by
    simp only [List.mem_cons, List.not_mem_nil, or_false] at hd
    rcases hd with rfl | rfl | rfl | rfl
    · exact vl_dct (fun _ h => by cases h) (by simp) List.nodup_nil
    · exact vl_good (good_of (by decide +kernel)) fun _ h => by cases h
    · exact vl_good (good_of (by decide +kernel)) fun _ h => by cases h
    · exact vl_good (good_of (by decide +kernel)) fun _ h => by cases h
  have gs : ∀ d ∈ ([.dct K, .dct (K ++ [(.inr "zq", .int 3)]), .dct (K ++ [(.inr "zq", .bl true)]), .dct [], .non, .lst [], .int 0, .dct (K ++ [(.inr "A", .int 3)]), .dct (K ++ [(.inl 5, .int 3)]), o, .dct K.tail, .dct K.reverse, .lst (tups K)] : List D), Vl d := fun d hd => by
    simp only [List.mem_cons, List.not_mem_nil, or_false] at hd
    rcases hd with rfl | rfl | rfl | rfl | rfl | rfl | rfl | rfl | rfl | rfl | rfl | rfl | rfl
    · exact vl_dct eK (by omega) nK
    · exact vl_dct (snoc_ent eK (by decide +kernel)) (ls _) n1
    · exact vl_dct (snoc_ent eK (by decide +kernel)) (ls _) n2
    · exact conc _ (by simp)
    · exact conc _ (by simp)
    · exact conc _ (by simp)
    · exact conc _ (by simp)
    · exact vl_dct (snoc_ent eK (by decide +kernel)) (ls _) n3
    · exact vl_dct (snoc_ent eK (by decide +kernel)) (ls _) n4
    · exact odds_vl _ ho
    · exact vl_dct (fun q hq => eK q (List.mem_of_mem_tail hq)) (by rw [List.length_tail]; omega) n5
    · exact vl_dct (fun q hq => eK q (List.mem_reverse.mp hq)) (by rw [List.length_reverse]; omega) n6
    · exact v13
  obtain ⟨VL, hVL⟩ : ∃ VL : List D, VL = [.dct K, .dct (K ++ [(.inr "zq", .int 3)]), .dct (K ++ [(.inr "zq", .bl true)]), .dct [], .non, .lst [], .int 0, .dct (K ++ [(.inr "A", .int 3)]), .dct (K ++ [(.inl 5, .int 3)]), o, .dct K.tail, .dct K.reverse, .lst (tups K)] := ⟨_, rfl⟩
  rw [← hVL] at gs
  obtain ⟨ρ', e, y6, y7, y8, rfl⟩ := forL_inv (tg := gNm 6) (tb := rowV) (S := S2) (fun ρ => ∃ y6 y7 y8, ρ = [some (.hnd i), some (pairD t n), some (sumD t n), some (.lst (N.map D.str)), some (.dct K), some (.lst VL), y6, y7, y8, none]) VL [some (.hnd i), some (pairD t n), some (sumD t n), some (.lst (N.map D.str)), some (.dct K), some (.lst VL), none, none, none, none] (fun d hd ρ hρ => by
    obtain ⟨x6, x7, x8, rfl⟩ := hρ
    obtain ⟨y7, y8, e⟩ := val_row (h := .hnd i) (NL := .lst (N.map D.str)) (pl := .dct K) (VL := .lst VL) (x7 := x7) (x8 := x8) (x9 := none) h2 ot st' hl hn (gs d hd)
    exact ⟨_, _, rfl, .inl e, _, _, _, rfl⟩) ⟨_, _, _, rfl⟩
  subst hVL
  have mT : ∀ (Z : List O) (ds : List D), ds.length ≤ 40 → mkT ds Z = .ok (.tup ds) Z := fun Z ds hl => mkT_ok' Z ds (small_line (by omega))
  have mL : ∀ (Z : List O) (ds : List D), ds.length ≤ 40 → mkL false ds Z = .ok (.lst ds) Z := fun Z ds hl => mkL_false Z ds (small_line (by omega))
  have dP : dictLD false [.lst (tups K)] S1 = .ok (.dct K) S1 := dict_tups nK
  rw [ev] at c1
  have cq : ∀ (x : D) (Z : List O), catD false (.lst (tups K)) (.lst [x]) Z = .ok (.lst (tups K ++ [x])) Z := fun x Z => mL Z _ (by rw [List.length_append, lt, lK]; simp)
  exact ⟨_, S2, values_body (small_line (by rw [List.length_map]; omega)) c1 (mL _ _ (by omega)) dP mT mL (fun _ => rfl) (fun ρ Z hρ => li_ok hρ) cq d1 d2 d3 d4 od (mL _ _ (by simp)) sl (dict_tups n5) bk (dict_tups n6) (mL _ _ (by simp)) e, rfl, st⟩
end K05
set_option Elab.async false
set_option linter.all false
set_option maxRecDepth 100000
set_option maxHeartbeats 8000000
namespace K05
open PySem PySem.Spec PyProof.Rows L2 TL TLX Pr
/-! what is put in, by what each call comes to; the law -/
abbrev rowP : TSx := (sSeq (sAsg (eTold ex 2 "_law_right" (eMeth "Sum" "put" (Pr.FSum_put ex ow) (eVar 4) (aCons (eVar 6) (aCons (eVar 7) aNil)))) (gTp 2 (gsCons (gNm 8) (gsCons (gNm 9) gsNil))))
    (sIf (tNotT (tTru (eArgs F_law_is_word (aCons (eVar 6) aNil)))) (sIf (tOrT (tNotT (tTru (eArgs (isiA ex ow) (aCons (eVar 8) (aCons (eC (.cls "BadName")) aNil))))) (tBl (eBin neD (eArgs reprD (aCons (eUn (valE ex) (eVar 8)) aNil)) (eArgs reprD (aCons (eVar 6) aNil))))) (sRet (eC (.bl false))) sNext) (sIf (tNotT (tTru (eArgs (isiA ex ow) (aCons (eVar 7) (aCons (eC (.cls "Sum")) aNil))))) (sIf (tOrT (tNotT (tTru (eArgs (isiA ex ow) (aCons (eVar 8) (aCons (eC (.cls "BadSum")) aNil))))) (tBl (eBin neD (eArgs reprD (aCons (eUn (valE ex) (eVar 8)) aNil)) (eArgs reprD (aCons (eVar 7) aNil))))) (sRet (eC (.bl false))) sNext) (sIf (tOrT (tBl (eBin notND (eVar 8) (eC .non))) (tBl (eBin neD (eArgs reprD (aCons (eArgs F_law_pair (aCons (eVar 9) aNil)) aNil)) (eArgs reprD (aCons (eArgs F_law_put (aCons (eVar 2) (aCons (eVar 6) (aCons (eArgs F_law_pair (aCons (eVar 7) aNil)) aNil)))) aNil))))) (sRet (eC (.bl false))) sNext))))
abbrev rowL : TSx := (sFor (iTp (eArgs mkT (aCons (eVar 5) (aCons (eVar 4) (aCons (eC .non) (aCons (eC (.int 3)) (aCons (eVar 3) (aCons (eArgs F_law_odd (aCons (eVar 0) aNil)) aNil)))))))) (gNm 7) rowP)
abbrev tPut : TEx := (eMeth "Sum" "put" (Pr.FSum_put ex ow) (eVar 4) (aCons (eVar 6) (aCons (eVar 7) aNil)))
theorem recv_put {S : List O} {t : Tb} {n : Int} {o : Out D} : recv "Sum" "put" (sumD t n) S o = o := by
  show (if ("Sum" : Str) = "Sum" ∧ List.lookup ("put" : Str) (sumF t n) = none then o else .stuck) = o
  exact if_pos ⟨rfl, rfl⟩
/-- a value that is no sum -/
structure Nf (d : D) : Prop where
  sho : ∃ s : Str, ∀ S, reprD [d] S = .ok (.str s) S
  k0 : k0B d = true
theorem Nf.of {d : D} (h : Good d) : Nf d := ⟨h.sho, k2_k0 h.kd⟩
section
variable {S : List O} {h NL p oth m its nm th c r z one q : D} {x8 x9 : Option D} {s : Str}
theorem put_a (hT : eTold ex 2 "_law_right" tPut [some h, some NL, some p, some oth, some m, some its, some nm, some th, x8, x9] S = .ok (.tup [c, .non]) S) (hw : F_law_is_word [nm] S = .ok (.bl false) S)
    (hk : isiA ex ow [c, .cls "BadName"] S = .ok (.bl true) S) (hv : valE ex c S = .ok nm S) (hr : reprD [nm] S = .ok (.str s) S) :
    rowP [some h, some NL, some p, some oth, some m, some its, some nm, some th, x8, x9] S = .nx [some h, some NL, some p, some oth, some m, some its, some nm, some th, some c, some .non] S := by
  simp [hT, hw, hk, hv, hr]
theorem put_b (hT : eTold ex 2 "_law_right" tPut [some h, some NL, some p, some oth, some m, some its, some nm, some th, x8, x9] S = .ok (.tup [c, .non]) S) (hw : F_law_is_word [nm] S = .ok (.bl true) S) (hi : isiA ex ow [th, .cls "Sum"] S = .ok (.bl false) S)
    (hk : isiA ex ow [c, .cls "BadSum"] S = .ok (.bl true) S) (hv : valE ex c S = .ok th S) (hr : reprD [th] S = .ok (.str s) S) :
    rowP [some h, some NL, some p, some oth, some m, some its, some nm, some th, x8, x9] S = .nx [some h, some NL, some p, some oth, some m, some its, some nm, some th, some c, some .non] S := by
  simp [hT, hw, hi, hk, hv, hr]
theorem put_c (hT : eTold ex 2 "_law_right" tPut [some h, some NL, some p, some oth, some m, some its, some nm, some th, x8, x9] S = .ok (.tup [.non, r]) S) (hw : F_law_is_word [nm] S = .ok (.bl true) S) (hi : isiA ex ow [th, .cls "Sum"] S = .ok (.bl true) S)
    (h1 : F_law_pair [r] S = .ok z S) (h2 : F_law_pair [th] S = .ok q S) (h3 : F_law_put [p, nm, q] S = .ok z S) (hr : reprD [z] S = .ok (.str s) S) :
    rowP [some h, some NL, some p, some oth, some m, some its, some nm, some th, x8, x9] S = .nx [some h, some NL, some p, some oth, some m, some its, some nm, some th, some .non, some r] S := by
  simp [hT, hw, hi, h1, h2, h3, hr]
end
theorem put_row {S : List O} {h NL oth its nm th : D} {t : Tb} {n : Int} {N : List Str} {x8 x9 : Option D} (h0 : S[2]? = some T2) (fl : Flat S) (it : In N 4 9 t) (hn : n.natAbs ≤ 99) (hm : Nf nm) (ht : Nf th ∨ ∃ (q : Tb) (m : Int), th = sumD q m ∧ In N 4 9 q ∧ m.natAbs ≤ 99) :
    ∃ y8 y9, rowP [some h, some NL, some (pairD t n), some oth, some (sumD t n), some its, some nm, some th, x8, x9] S = .nx [some h, some NL, some (pairD t n), some oth, some (sumD t n), some its, some nm, some th, y8, y9] S := by
  have hw := lword_any (S := S) hm.k0
  have tr : ∀ {o : Out D}, Pr.FSum_put ex ow [sumD t n, nm, th] S = o → tPut [some h, some NL, some (pairD t n), some oth, some (sumD t n), some its, some nm, some th, x8, x9] S = o := fun {o} e => by
    simp [recv_put, e]
  cases hb : nmB nm with
  | false =>
    rw [hb] at hw
    obtain ⟨s, hs⟩ := hm.sho
    exact ⟨_, _, put_a (told_exc h0 bn_ex (tr (put_name hm.k0 hb))) hw (isi_err bn_ex) (val_err bn_ex) (hs S)⟩
  | true =>
    rw [hb] at hw
    rcases ht with ht | ⟨q, m, rfl, iq, hmm⟩
    · obtain ⟨s, hs⟩ := ht.sho
      exact ⟨_, _, put_b (told_exc h0 bs_ex (tr (put_no ow_sum hm.k0 hb ht.k0))) hw (isi_k0_sum ow_sum ht.k0) (isi_err bs_ex) (val_err bs_ex) (hs S)⟩
    · cases nm with
      | str x =>
        have hx : vn x = true := hb
        have ot := it.ok
        have oq := iq.ok
        have l1 := it.len
        have l2 := iq.len
        have kb := val_sm it.sm x
        have big : bd = 2 ^ 60 := rfl
        have sq : Sm bd q := iq.big (by rw [big]; decide)
        have kv : (val t x).natAbs ≤ bd := Nat.le_trans kb (by rw [big]; decide)
        have mv : m.natAbs ≤ bd := Nat.le_trans hmm (by rw [big]; decide)
        have e := put_sum (ex := ex) (ow := ow) (S := S) (n := n) ow_sum hx ot oq (by omega) kv sq mv fl
        have e2 := lput_ok (S := S) (n := n) (x := x) fl ot oq (by omega) kv sq mv
        have vl : ∀ p ∈ left t x, vn p.1 = true := fun p hp => ot.vn (left_mem hp)
        have nl := left_nd ot.nd x
        have ol : Ok (normP (left t x)) := Ok.norm nl vl (by have := left_len t x; omega)
        have nd := nd_merge (m := val t x) (q := q) ol.nd
        have ll := norm_len (left t x)
        have ll2 := left_len t x
        have lm := len_merge (m := val t x) q (normP (left t x))
        have os : Ok (normP (mergeT (val t x) (normP (left t x)) q)) := Ok.norm nd (vn_merge (fun p hp => ol.vn hp) fun p hp => oq.vn hp) (by omega)
        have sm : Sm 100 (normP (mergeT (val t x) (normP (left t x)) q)) := sm_norm nd fun y => by
          rw [val_merge, tot_nd oq.nd, val_norm nl, val_left]
          have a := val_sm it.sm y
          have b := val_sm iq.sm y
          have c : (val t x * val q y).natAbs = (val t x).natAbs * (val q y).natAbs := Int.natAbs_mul ..
          have d : (val t x).natAbs * (val q y).natAbs ≤ 9 * 9 := Nat.mul_le_mul kb b
          split <;> omega
        have sh : Sh (normP (mergeT (val t x) (normP (left t x)) q)) := ⟨fun p hp => ⟨os.vn hp, by have := sm p hp; omega⟩, os.len⟩
        have c : (val t x * m).natAbs = (val t x).natAbs * m.natAbs := Int.natAbs_mul ..
        have d : (val t x).natAbs * m.natAbs ≤ 9 * 99 := Nat.mul_le_mul kb hmm
        have hr := gd_repr (S := S) (gd_pair (n := n + val t x * m) sh (by omega)) (by decide) (by decide)
        exact ⟨_, _, put_c (told_ok h0 (tr e)) hw (isi_sum ow_sum q m) pair_ok pair_ok e2 hr⟩
      | _ => cases hb
theorem rowL_body {S S1 : List O} {i : Nat} {p m its oth nm o NL : D} {x7 x8 x9 y7 y8 y9 : Option D} (od : F_law_odd [.hnd i] S = .ok o S1) (mT : mkT [its, m, .non, .int 3, oth, o] S1 = .ok (.tup [its, m, .non, .int 3, oth, o]) S1)
    (fo : forL (gNm 7) rowP [its, m, .non, .int 3, oth, o] [some (.hnd i), some NL, some p, some oth, some m, some its, some nm, x7, x8, x9] S1 = .nx [some (.hnd i), some NL, some p, some oth, some m, some its, some nm, y7, y8, y9] S1) :
    rowL [some (.hnd i), some NL, some p, some oth, some m, some its, some nm, x7, x8, x9] S = .nx [some (.hnd i), some NL, some p, some oth, some m, some its, some nm, y7, y8, y9] S1 := by
  simp [od, mT, fo]
theorem rowL_ok {S : List O} {i : Nat} {T : Int} {NL nm : D} {t q : Tb} {n m : Int} {N : List Str} {x7 x8 x9 : Option D} (h0 : S[2]? = some T2) (hi : i ≠ 2) (fl : Flat S) (h : Pot S i T) (hT : T + 1 < 2 ^ 20) (it : In N 4 9 t) (hn : n.natAbs ≤ 99) (iq : In N 4 9 q) (hm : m.natAbs ≤ 99) (hnm : Nf nm) :
    ∃ y7 y8 y9 S', rowL [some (.hnd i), some NL, some (pairD t n), some (pairD q m), some (sumD t n), some (sumD q m), some nm, x7, x8, x9] S = .nx [some (.hnd i), some NL, some (pairD t n), some (pairD q m), some (sumD t n), some (sumD q m), some nm, y7, y8, y9] S' ∧ Step i (T + 1) S S' := by
  obtain ⟨o, S1, od, ho, st⟩ := odd_ok h (by omega)
  have fl1 := st.flat fl
  have h1 : S1[2]? = some T2 := by rw [st.off 2 (fun e => hi e.symm)]; exact h0
  have np : Nf (pairD q m) := ⟨⟨_, fun Z => gd_repr (gd_pair (n := m) (iq.sh (by decide)) (by omega)) (by decide) (by decide)⟩, by
    have hn : noh (pairD q m) = true := by
      show noh (.tup [partsD q, .int m]) = true
      simp only [noh, nohs_all, List.all_cons, List.all_nil, noh_parts, Bool.and_self]
    unfold k0B
    rw [hn]
    rfl⟩
  have gs : ∀ d ∈ ([sumD q m, sumD t n, .non, .int 3, pairD q m, o] : List D), Nf d ∨ ∃ (q : Tb) (m : Int), d = sumD q m ∧ In N 4 9 q ∧ m.natAbs ≤ 99 := fun d hd => by
    simp only [List.mem_cons, List.not_mem_nil, or_false] at hd
    rcases hd with rfl | rfl | rfl | rfl | rfl | rfl
    · exact .inr ⟨q, m, rfl, iq, hm⟩
    · exact .inr ⟨t, n, rfl, it, hn⟩
    · exact .inl (Nf.of (good_of (by decide +kernel)))
    · exact .inl (Nf.of (good_of (by decide +kernel)))
    · exact .inl np
    · exact .inl (Nf.of (odds_good _ ho))
  obtain ⟨ρ', e, y7, y8, y9, rfl⟩ := forL_inv (tg := gNm 7) (tb := rowP) (S := S1) (fun ρ => ∃ y7 y8 y9, ρ = [some (.hnd i), some NL, some (pairD t n), some (pairD q m), some (sumD t n), some (sumD q m), some nm, y7, y8, y9]) [sumD q m, sumD t n, .non, .int 3, pairD q m, o] [some (.hnd i), some NL, some (pairD t n), some (pairD q m), some (sumD t n), some (sumD q m), some nm, x7, x8, x9] (fun d hd ρ hρ => by
    obtain ⟨x7, x8, x9, rfl⟩ := hρ
    obtain ⟨y8, y9, e⟩ := put_row (h := .hnd i) (NL := NL) (oth := pairD q m) (its := sumD q m) (x8 := x8) (x9 := x9) h1 fl1 it hn hnm (gs d hd)
    exact ⟨_, _, rfl, .inl e, _, _, _, rfl⟩) ⟨_, _, _, rfl⟩
  exact ⟨y7, y8, y9, S1, rowL_body od (mkT_ok' S1 _ (small_line (by simp))) e, st⟩
theorem right_body {S S1 S2 S3 S4 S5 S6 S7 : List O} {i : Nat} {NL : List D} {p q m its o : D} {s : Str} {y6 y7 y8 y9 : Option D}
    (e1 : F_law_names [.hnd i, .int 5] S = .ok (.lst NL) S1) (e2 : F_law_some_sum [.hnd i, .lst NL, .int 4] S1 = .ok p S2) (e3 : F_law_some_sum [.hnd i, .lst NL, .int 4] S2 = .ok q S3)
    (m4 : F_law_made [p] S3 = .ok m S3) (m5 : F_law_made [q] S3 = .ok its S3) (mT : mkT [m, its] S3 = .ok (.tup [m, its]) S3)
    (r1 : F_law_rests_right [.hnd i, p, m] S3 = .ok (.bl true) S4) (v1 : F_law_values_right [.hnd i, p, m, .lst NL] S4 = .ok (.bl true) S5) (od : F_law_odd [.hnd i] S5 = .ok o S6)
    (mL : mkL false [.str "zq", .non, .str "A", .str "", .bl true, o] S6 = .ok (.lst [.str "zq", .non, .str "A", .str "", .bl true, o]) S6)
    (ca : catD false (.lst NL) (.lst [.str "zq", .non, .str "A", .str "", .bl true, o]) S6 = .ok (.lst (NL ++ [.str "zq", .non, .str "A", .str "", .bl true, o])) S6)
    (fo : forL (gNm 6) rowL (NL ++ [.str "zq", .non, .str "A", .str "", .bl true, o]) [some (.hnd i), some (.lst NL), some p, some q, some m, some its, none, none, none, none] S6 = .nx [some (.hnd i), some (.lst NL), some p, some q, some m, some its, y6, y7, y8, y9] S7)
    (hp : F_law_pair [m] S7 = .ok p S7) (hr : reprD [p] S7 = .ok (.str s) S7) :
    bodyF 1 N_law_right t_law_right [.hnd i] S = .ok (.bl true) S7 := by
  unfold t_law_right
  simp [N_law_right, e1, e2, e3, m4, m5, mT, r1, v1, od, mL, ca, fo, hp, hr]
theorem right_ok {S : List O} {i : Nat} (h : Pot S i 0) (fl : Flat S) (hi : 3 ≤ i) (h0 : S[0]? = some T0) (h1 : S[1]? = some T1) (h2 : S[2]? = some T2) : Ret (F_law_right [.hnd i] S) fun d S' => d = .bl true ∧ Step i 300 S S' := by
  obtain ⟨_, S1, e1, ⟨N, rfl, nN, vN, pN, lN⟩, st1⟩ := names_ok (m := 5) (mi := 5) h fl (by omega) (by decide) rfl
  have fl1 := st1.flat fl
  obtain ⟨_, S2, e2, ⟨t, n, rfl, it, hn⟩, st2⟩ := some_sum_ok (mo := 4) (most := 4) st1.pot fl1 (by omega) rfl (by decide) nN (by omega) vN
  have fl2 := st2.flat fl1
  obtain ⟨_, S3, e3, ⟨q, m, rfl, iq, hm⟩, st3⟩ := some_sum_ok (mo := 4) (most := 4) st2.pot fl2 (by omega) rfl (by decide) nN (by omega) vN
  have fl3 := st3.flat fl2
  have st13 := (st1.tr st2).tr st3
  obtain ⟨_, S4, r1, rfl, st4⟩ := rests_ok (n := n) st3.pot fl3 (by omega) (by omega) (by rw [st13.off 0 (by omega)]; exact h0) it.ok
  have fl4 := st4.flat fl3
  have st14 := st13.tr st4
  obtain ⟨_, S5, v1, rfl, st5⟩ := values_ok (n := n) st4.pot fl4 (by omega) (by omega) (by rw [st14.off 1 (by omega)]; exact h1) it.ok it.sm it.len hn nN vN pN lN
  have fl5 := st5.flat fl4
  have st15 := st14.tr st5
  obtain ⟨o, S6, od, ho, st6⟩ := odd_ok st5.pot (by omega)
  have fl6 := st6.flat fl5
  have st16 := st15.tr st6
  have b2 : S6[2]? = some T2 := by rw [st16.off 2 (by omega)]; exact h2
  have gs : ∀ d ∈ N.map D.str ++ [.str "zq", .non, .str "A", .str "", .bl true, o], Nf d := fun d hd => by
    rcases List.mem_append.mp hd with hd | hd
    · obtain ⟨x, hx, rfl⟩ := List.mem_map.mp hd
      have hl := vn_len (vN x hx)
      exact Nf.of (good_ok (show (PyData.strOk x && decide (x.length ≤ 60)) = true by rw [vn_ok (vN x hx), decide_eq_true (by omega)]; rfl))
    · have hc : ([.str "zq", .non, .str "A", .str "", .bl true] : List D).all goodB = true := by decide +kernel
      have hd : d ∈ ([.str "zq", .non, .str "A", .str "", .bl true] : List D) ++ [o] := hd
      rcases List.mem_append.mp hd with hd | hd
      · exact Nf.of (good_of (List.all_eq_true.mp hc d hd))
      · rw [List.mem_singleton.mp hd]
        exact Nf.of (odds_good o ho)
  obtain ⟨VL, hVL⟩ : ∃ VL : List D, VL = N.map D.str ++ [.str "zq", .non, .str "A", .str "", .bl true, o] := ⟨_, rfl⟩
  have lV : VL.length = 11 := by rw [hVL]; simp [lN]
  rw [← hVL] at gs
  obtain ⟨ρ', S7, fo, ⟨y6, y7, y8, y9, rfl⟩, st7⟩ := forL_step (tg := gNm 6) (tb := rowL) (M := 11) (fun k ρ Z => (∃ y6 y7 y8 y9, ρ = [some (.hnd i), some (.lst (N.map D.str)), some (pairD t n), some (pairD q m), some (sumD t n), some (sumD q m), y6, y7, y8, y9]) ∧ Step i (200 + k) S6 Z) VL 0 [some (.hnd i), some (.lst (N.map D.str)), some (pairD t n), some (pairD q m), some (sumD t n), some (sumD q m), none, none, none, none] S6 (fun d hd k ρ Z hk hI => by
    obtain ⟨⟨x6, x7, x8, x9, rfl⟩, hZ⟩ := hI
    have hz : Z[2]? = some T2 := by rw [hZ.off 2 (by omega)]; exact b2
    obtain ⟨y7, y8, y9, Z', e, st⟩ := rowL_ok (NL := .lst (N.map D.str)) (nm := d) (x7 := x7) (x8 := x8) (x9 := x9) hz (by omega) (hZ.flat fl6) hZ.pot (by omega) it hn iq hm (gs d hd)
    exact ⟨_, _, Z', rfl, e, ⟨_, _, _, _, rfl⟩, (hZ.tr st).up (by omega)⟩) (by omega) ⟨⟨_, _, _, _, rfl⟩, Step.here (st6.pot.up (by omega))⟩
  have st : Step i 300 S S7 := (st16.tr st7).up (by omega)
  have fl7 := st7.flat fl6
  subst hVL
  have body := right_body e1 e2 e3 (made_ok it.ok fl3) (made_ok iq.ok fl3) (mkT_ok' S3 _ (small_line (by simp))) r1 v1 od (mkL_false S6 _ (small_line (by simp))) (mkL_false S6 _ (small_line (by omega))) fo pair_ok (gd_repr (gd_pair (n := n) (it.sh (by decide)) (by omega)) (by decide) (by decide))
  refine ⟨_, S7, ?_, rfl, st⟩
  unfold F_law_right cutF
  rw [body]
  have := cut_ok' (N := []) (d := .bl true) st.len fl7 rfl
  rwa [List.append_nil] at this
theorem law_ok (ns : List Int) (hl : ns.length ≤ 63) : ∃ S, Flaw [.scr ns] (tabS ["_law_rests_right", "_law_values_right", "_law_right"]) = .ok (.bl true) S := by
  have e0 : tabS ["_law_rests_right", "_law_values_right", "_law_right"] = [T0, T1, T2] := rfl
  rw [e0]
  have pl := places_ok (ns := ns) (m := 6) (S := [T0, T1, T2]) (by decide)
  obtain ⟨S', e, _⟩ := compL_inv (vs := [1]) (tg := gNm 1) (tt := tYesD) (te := eArgs F_law_right (aCons (eArgs F_law_pot (aCons (eVar 0) (aCons (eVar 1) aNil))) aNil)) (ρ := [some (.scr ns), none]) (fun S => Flat S ∧ S[0]? = some T0 ∧ S[1]? = some T1 ∧ S[2]? = some T2) (fun _ => .bl true) (rng 0 (max 1 (min 6 ns.length))) [] [T0, T1, T2] (fun d hd S hS => by
    unfold rng at hd
    obtain ⟨k, hk, rfl⟩ := List.mem_map.mp hd
    have hk := List.mem_range.mp hk
    have hk4 : (k : Int) < 6 := by
      rw [Int.max_def, Int.min_def] at hk
      split at hk <;> split at hk <;> omega
    obtain ⟨_, S1, e1, rfl, o, rfl, hp⟩ := pot_ok (ns := ns) (k := 0 + (k : Nat)) S (by omega) (by omega)
    have lS : 2 < S.length := (List.getElem?_eq_some_iff.mp hS.2.2.2).1
    have fl1 : Flat (S ++ [o]) := by
      obtain ⟨a, b, t, h1, _⟩ := hp.ex
      have : (S ++ [o])[S.length]? = some o := by simp
      rw [this] at h1
      cases h1
      exact hS.1.snoc rfl
    have h0 : (S ++ [o])[0]? = some T0 := by
      rw [List.getElem?_append_left (by omega)]
      exact hS.2.1
    have h1 : (S ++ [o])[1]? = some T1 := by
      rw [List.getElem?_append_left (by omega)]
      exact hS.2.2.1
    have h2 : (S ++ [o])[2]? = some T2 := by
      rw [List.getElem?_append_left lS]
      exact hS.2.2.2
    obtain ⟨_, S2, e2, rfl, st⟩ := right_ok hp fl1 (by omega) h0 h1 h2
    refine ⟨[some (.scr ns), some (.int (0 + (k : Nat)))], S, S2, ?_, rfl, ?_, st.flat fl1, by rw [st.off 0 (by omega)]; exact h0, by rw [st.off 1 (by omega)]; exact h1, by rw [st.off 2 (by omega)]; exact h2⟩
    · simp [wipeD]
    · simp at e1
      simp [e1, e2]) ⟨fun o ho => by
        simp only [List.mem_cons, List.not_mem_nil, or_false] at ho
        rcases ho with rfl | rfl | rfl <;> rfl, rfl, rfl, rfl⟩
  have hlen : (rng 0 (max 1 (min 6 ns.length))).length ≤ 6 := by
    rw [rng_len, Int.max_def, Int.min_def]
    split <;> split <;> omega
  generalize rng 0 (max 1 (min 6 (ns.length : Int))) = ds at *
  have e : compL [1] (gNm 1) tYesD (eArgs F_law_right (aCons (eArgs F_law_pot (aCons (eVar 0) (aCons (eVar 1) aNil))) aNil)) ds [] [some (.scr ns), none] [T0, T1, T2] = .ok ((List.replicate ds.length true).map D.bl) S' := by
    rw [e, List.nil_append, List.map_replicate, List.map_const']
  have ml : mkL false ((List.replicate ds.length true).map D.bl) S' = .ok (.lst ((List.replicate ds.length true).map D.bl)) S' := mkL_false S' _ (small_line (by simp; omega))
  have al : allD [.lst ((List.replicate ds.length true).map D.bl)] S' = .ok (.bl true) S' := by
    unfold allD lstOf
    simp only [Option.bind_some, blsOf_map]
    simp
  have sz : ds.length ≤ sizeLine := small_line (by omega)
  refine ⟨S', ?_⟩
  generalize (List.replicate ds.length true).map D.bl = bs at *
  unfold Flaw tlaw
  simp [Nlaw, pl, sz, e, ml, al]
end K05
set_option Elab.async false
set_option linter.all false
set_option maxRecDepth 100000
set_option maxHeartbeats 0
open PySem PySem.W PySem.Calls PyProof.Rows
theorem PySem.Challenge.cw_dialsums_k05_rests_and_what_is_put_in_holds : PySem.Challenge.rw_dialsums_k05_rests_and_what_is_put_in.Holds := by
  w_on; o_law
  refine HandSHeadRun.head_any (r := OpenLaw.row PySem.Challenge.rw_dialsums_k05_rests_and_what_is_put_in) (q := view (OpenLaw.row PySem.Challenge.rw_dialsums_k05_rests_and_what_is_put_in).prog [64]) (H := K05.hk) (ob := K05.ob) (M := 12000) (loose := K05.loose) (d := HandSHeadRun.topDef (OpenLaw.row PySem.Challenge.rw_dialsums_k05_rests_and_what_is_put_in).prog 64) (kwd := [])
    K05.ob_eq (by kernel_rfl) (fun s => by kernel_rfl) K05.run (by kernel_rfl) (by kernel_rfl) (by kernel_rfl) (by rfl) (by first | assumption | decide +kernel) (by decide +kernel) ⟨rfl, rfl, rfl, rfl, rfl, by decide +kernel⟩ ?hw ?hc
  case hw => w_witness2
  case hc =>
    refine TL.walk_TT (ms := K05.ms) (l := PySem.Challenge.rw_dialsums_k05_rests_and_what_is_put_in) (n := 63) (k := 12) (x := "_law_script") (F := K05.Flaw) rfl (by decide) (by kernel_rfl) ⟨rfl, by decide, by decide⟩ ?_ fun ns hl hb => K05.law_ok ns hl
    intro w mg fa h Y G hmg0
    obtain ⟨K, KX, c, T⟩ := Y
    have hmg : mg ("law" : PySem.Str) = some (.ref fa) := by
      have e : (HandSHeadRun.topDef (OpenLaw.row PySem.Challenge.rw_dialsums_k05_rests_and_what_is_put_in).prog 64).name = ("law" : PySem.Str) := by kernel_rfl
      rw [← e]
      exact hmg0
    obtain ⟨fd, hb, hF⟩ := K05.facts (w := w) KX G hmg c
    exact ⟨K, fd, KX, T, hb, hF⟩
