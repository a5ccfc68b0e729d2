import PyProof.Rows.All
import Wide.All
import OpenK.AllK
import Wide.FinOn
import HandS.ForMost
import HandS.Exc
import HandS.TryOnly
import HandS.ExcOwn
import HandS.WordsExc
import HandS.IsInst
import HandS.Defaults
import HandS.Style
import HandS.Head0
import HandS.Head1
import HandS.Head2
import HandS.HeadEnd
import HandS.HeadHook1
import HandS.HeadHook2
import HandS.HeadHook3
import HandS.HeadHook4
import HandS.Iter
import KE.GoesMore
import KE.GoesZip
import KE.GoesEnum
import HandS.SetKeys
import HandS.TupLen
import HandS.ListItems
import HandS.DictTup
import KE.KDictKeyed
import PySem.Challenge.RW_frameland_k96_rows_shown
import KE.KStateDown
import Lean
import HandS.HeadWalk
import HandS.EndTab
set_option Elab.async false
set_option linter.all false
set_option maxRecDepth 100000
set_option maxHeartbeats 4000000
/-! rules over the hand layer whose readings compute -/
namespace MM
open PySem PySem.Spec PyProof.Rows L2
/-! ### keys -/
def keyOf : V → Option Key
  | .int i => some (.inl i)
  | .str x => some (.inr x)
  | _ => none
def keysOf : List V → Option (List Key)
  | [] => some []
  | v :: r => match keyOf v, keysOf r with
    | some k, some ks => some (k :: ks)
    | _, _ => none
theorem keyOf_kV (k : Key) : keyOf (kV k) = some k := by cases k <;> rfl
theorem keyOf_eq {y : V} {k : Key} (h : keyOf y = some k) : y = kV k := by
  cases y <;> simp [keyOf] at h <;> subst h <;> rfl
theorem keysOf_kV : ∀ ks : List Key, keysOf (ks.map kV) = some ks
  | [] => rfl
  | k :: ks => by simp [keysOf, keyOf_kV, keysOf_kV ks]
theorem keysOf_eq : ∀ {xs : List V} {ks : List Key}, keysOf xs = some ks → xs = ks.map kV
  | [], ks, h => by simp [keysOf] at h; subst h; rfl
  | v :: r, ks, h => by
    unfold keysOf at h
    cases e1 : keyOf v with
    | none => rw [e1] at h; simp at h
    | some k =>
      cases e2 : keysOf r with
      | none => rw [e1, e2] at h; simp at h
      | some ks' =>
        rw [e1, e2] at h
        simp at h
        subst h
        rw [keyOf_eq e1, keysOf_eq e2]
        rfl
/-- what the dict at d holds at y, P of it -/
def kvLook (H : Hp) (d : Addr) (y : V) (P : Option V → Prop) : Prop :=
  match H d with
  | some (.dK kvs) => (match keyOf y with
    | some k => P (valV kvs k)
    | none => False)
  | some (.frz _ (.dK kvs)) => (match keyOf y with
    | some k => P (valV kvs k)
    | none => False)
  | some (.dT kvs) => (match y with
    | .ref b => (match H b with
      | some (.tup xs) => (match keysOf xs with
        | some ks => P (valV kvs ks)
        | none => False)
      | _ => False)
    | _ => False)
  | some (.frz _ (.dT kvs)) => (match y with
    | .ref b => (match H b with
      | some (.tup xs) => (match keysOf xs with
        | some ks => P (valV kvs ks)
        | none => False)
      | _ => False)
    | _ => False)
  | _ => False
theorem kvLook_get {H : Hp} {d : Addr} {y : V} {P : Option V → Prop} (h : kvLook H d y P) : ∃ o, DGet H d y o ∧ P o := by
  unfold kvLook at h
  split at h
  · rename_i kvs e
    split at h
    · rename_i k ek
      rw [keyOf_eq ek]
      exact ⟨_, .inl ⟨kvs, k, .inl e, rfl, rfl⟩, h⟩
    · exact h.elim
  · rename_i o kvs e
    split at h
    · rename_i k ek
      rw [keyOf_eq ek]
      exact ⟨_, .inl ⟨kvs, k, .inr ⟨o, e⟩, rfl, rfl⟩, h⟩
    · exact h.elim
  · rename_i kvs e
    split at h
    · rename_i b
      split at h
      · rename_i xs eb
        split at h
        · rename_i ks ek
          rw [keysOf_eq ek] at eb
          exact ⟨_, .inr ⟨kvs, ks, b, .inl e, rfl, eb, rfl⟩, h⟩
        · exact h.elim
      · exact h.elim
    · exact h.elim
  · rename_i o kvs e
    split at h
    · rename_i b
      split at h
      · rename_i xs eb
        split at h
        · rename_i ks ek
          rw [keysOf_eq ek] at eb
          exact ⟨_, .inr ⟨kvs, ks, b, .inr ⟨o, e⟩, rfl, eb, rfl⟩, h⟩
        · exact h.elim
      · exact h.elim
    · exact h.elim
  · exact h.elim
/-- the list, tuple that stands at a -/
def seqAt (H : Hp) (a : Addr) : Option (List V) := match H a with
  | some (.lst xs) => some xs
  | some (.tup xs) => some xs
  | some (.frz _ (.lst xs)) => some xs
  | some (.frz _ (.tup xs)) => some xs
  | _ => none
theorem seqAt_sq {K : PySem.W.Frag} {H : Hp} {a : Addr} {xs : List V} (h : seqAt H a = some xs) : SqL K H a xs ∨ SqT K H a xs := by
  unfold seqAt at h
  split at h
  · rename_i ys e; cases h; exact .inl (.inl (.inl e))
  · rename_i ys e; cases h; exact .inr (.inl (.inl e))
  · rename_i o ys e; cases h; exact .inl (.inl (.inr ⟨o, e⟩))
  · rename_i o ys e; cases h; exact .inr (.inl (.inr ⟨o, e⟩))
  · cases h
/-- a new object is laid; an object is written: the heap behind it has a name -/
def New (H : Hp) (p : Addr) (o : HO) (H' : Hp) : Prop := H p = none ∧ H' = upd H p o
def Wr (H : Hp) (p : Addr) (o : HO) (H' : Hp) : Prop := H' = upd H p o
theorem New.self {H H' : Hp} {p : Addr} {o : HO} (h : New H p o H') : H' p = some o := by rw [h.2, upd_same]
theorem New.same {H H' : Hp} {p : Addr} {o : HO} (h : New H p o H') : Same H H' := fun b u e => by rw [h.2, upd_ne (ne_of_none e h.1)]; exact e
theorem New.ne {H H' : Hp} {p b : Addr} {o : HO} (h : New H p o H') (hb : b ≠ p) : H' b = H b := by rw [h.2, upd_ne hb]
theorem Wr.self {H H' : Hp} {p : Addr} {o : HO} (h : Wr H p o H') : H' p = some o := by rw [h, upd_same]
theorem Wr.ne {H H' : Hp} {p b : Addr} {o : HO} (h : Wr H p o H') (hb : b ≠ p) : H' b = H b := by rw [h, upd_ne hb]
section
variable {X : Cx}
/-! ### x[i] -/
def mIx : R2 := fun x y H Q =>
  match x with
  | .str z => ∃ i c, y = .int i ∧ z.length ≤ sizeLine ∧ atI z.cps.toList i = some c ∧ Q (.str ⟨#[c]⟩) H
  | .ref p => (match seqAt H p with
    | some xs => ∃ i v, y = .int i ∧ atI xs i = some v ∧ Q v H
    | none => kvLook H p y fun o => ∃ v, o = some v ∧ Q v H)
  | _ => False
theorem ix_dict (hu : X.A.units + 1 < cLine) : IxR X (fun x y H Q => ∃ a v, x = .ref a ∧ DGet H a y (some v) ∧ Q v H) := by
  intro value slice pins s σ H x y v u Q I rx ry h hs
  obtain ⟨a, z, rfl, g, q⟩ := h
  obtain rfl : v = Value.ref a := rx
  exact tail_any (dict_typeIs I g) slot_dict_getitem.lookup (d_getItem hu I g ry fun w' s' I' r => ⟨z, H, I', r, q⟩) hs
theorem m_ix (hu : X.A.units + 1 < cLine) : IxR X mIx := by
  intro value slice pins s σ H x y v u Q I rx ry h hs
  unfold mIx at h
  split at h
  · rename_i z
    obtain ⟨i, c, rfl, hz, he, q⟩ := h
    exact ix_str value slice pins s σ H _ _ v u Q I rx ry ⟨z, i, c, rfl, rfl, hz, he, q⟩ hs
  · rename_i p
    split at h
    · rename_i xs e
      obtain ⟨i, z, rfl, he, q⟩ := h
      rcases seqAt_sq (K := X.K) e with g | g
      · exact ix_list value slice pins s σ H _ _ v u Q I rx ry ⟨p, xs, i, z, rfl, rfl, g, he, q⟩ hs
      · exact ix_tup value slice pins s σ H _ _ v u Q I rx ry ⟨p, xs, i, z, rfl, rfl, g, he, q⟩ hs
    · obtain ⟨o, g, z, rfl, q⟩ := kvLook_get h
      exact ix_dict hu value slice pins s σ H _ _ v u Q I rx ry ⟨p, z, rfl, g, q⟩ hs
  · exact h.elim
/-! ### x[i] = v -/
def mSet : TSet := fun o i v H Q =>
  match o with
  | .ref p => (match H p with
    | some (.lst xs) => ∃ k j, i = .int k ∧ ixN xs.length k = some j ∧ ∀ H', Wr H p (.lst (xs.set j v)) H' → Q H'
    | some (.dK kvs) => (match keyOf i with
      | some k => kvs.length < sizeLine ∧ ∀ H', Wr H p (.dK (putK kvs k v)) H' → Q H'
      | none => False)
    | some (.dT kvs) => (match i with
      | .ref b => (match H b with
        | some (.tup xs) => (match keysOf xs with
          | some ks => kvs.length < sizeLine ∧ ∀ H', Wr H p (.dT (putK kvs ks v)) H' → Q H'
          | none => False)
        | _ => False)
      | _ => False)
    | _ => False)
  | _ => False
theorem m_set (hu : X.A.units + 1 < cLine) : PSet X mSet := by
  intro pins s σ H o i v ov iv u Q I ro ri rv h
  unfold mSet at h
  split at h
  · rename_i p
    split at h
    · rename_i xs e
      obtain ⟨k, j, rfl, hj, q⟩ := h
      exact set_list pins s σ H _ _ v ov iv u Q I ro ri rv ⟨p, xs, k, j, rfl, rfl, e, hj, q _ rfl⟩
    · rename_i kvs e
      split at h
      · rename_i k ek
        obtain rfl : ov = Value.ref p := ro
        have eq := keyOf_eq ek
        subst eq
        exact d_setItem hu I (DPut.k e h.1) ri rv fun s' I' => ⟨_, I', h.2 _ rfl⟩
      · exact h.elim
    · rename_i kvs e
      split at h
      · rename_i b
        split at h
        · rename_i xs eb
          split at h
          · rename_i ks ek
            obtain rfl : ov = Value.ref p := ro
            rw [keysOf_eq ek] at eb
            exact d_setItem hu I (DPut.t e eb h.1) ri rv fun s' I' => ⟨_, I', h.2 _ rfl⟩
          · exact h.elim
        · exact h.elim
      · exact h.elim
    · exact h.elim
  · exact h.elim
end
end MM

set_option Elab.async false
set_option linter.all false
set_option maxRecDepth 100000
set_option maxHeartbeats 4000000
namespace MM
open PySem PySem.Spec PyProof.Rows L2
abbrev St := L2.St
/-! ### a callee: its function object, its binding, its promise; dvs the defaults that fill up -/
def Fk (P : Program) (w : World) (K : PySem.W.Frag) (mg : Str → Option Value) (base : Heap) (f : Addr) (ps : List Str) (dvs : List V) (k : Nat) (sp : Sp) : Prop :=
  ∃ fd ds, FnOk P w K mg base (L2.CX P w) k f fd ps sp ∧ Binds K fd ps ds ∧ Vals dvs ds
theorem Fk.imp {P : Program} {w : World} {K : PySem.W.Frag} {mg : Str → Option Value} {base : Heap} {f : Addr} {ps : List Str} {dvs : List V} {k : Nat} {sp sp' : Sp} (F : Fk P w K mg base f ps dvs k sp) (h : ∀ vs H Q E, sp' vs H Q E → sp vs H Q E) : Fk P w K mg base f ps dvs k sp' := by
  obtain ⟨fd, ds, F, b, d⟩ := F
  exact ⟨fd, ds, F.imp h, b, d⟩
theorem Fk.mono {P : Program} {w : World} {K : PySem.W.Frag} {mg : Str → Option Value} {base : Heap} {f : Addr} {ps : List Str} {dvs : List V} {j k : Nat} {sp : Sp} (F : Fk P w K mg base f ps dvs j sp) (h : j ≤ k) : Fk P w K mg base f ps dvs k sp := by
  obtain ⟨fd, ds, F, b, d⟩ := F
  exact ⟨fd, ds, F.mono h, b, d⟩
/-- what a body wants of exceptions: E at a def's own level -/
abbrev WX0 (E : XK) : WX := fun c d _ H => E c d H
def mCall (sp : Sp) (dvs : List V) (W : WX) (t : TA) : TE := fun σ H Q => t σ H fun vs H1 => sp (vs ++ dvs) H1 Q (fun c d H' => W c d σ H')
/-- o.m(..) of an instance of the class at C -/
def mMeth (C : Addr) (m : Str) (sp : Sp) (dvs : List V) (W : WX) (ta : TE) (t : TA) : TE := fun σ H Q => ta σ H fun x H1 => ∃ a dx fs, x = .ref a ∧ H1 a = some (.ins C dx fs) ∧ fs.lookup m = none ∧
  t σ H1 fun vs H2 => sp (x :: (vs ++ dvs)) H2 Q (fun c d H' => W c d σ H')
/-- .. of one of two classes -/
def mMeth2 (C C' : Addr) (m : Str) (sp sp' : Sp) (W : WX) (ta : TE) (t : TA) : TE := fun σ H Q => ta σ H fun x H1 =>
  (∃ a dx fs, x = .ref a ∧ H1 a = some (.ins C dx fs) ∧ fs.lookup m = none ∧ t σ H1 fun vs H2 => sp (x :: vs) H2 Q (fun c d H' => W c d σ H')) ∨
  (∃ a dx fs, x = .ref a ∧ H1 a = some (.ins C' dx fs) ∧ fs.lookup m = none ∧ t σ H1 fun vs H2 => sp' (x :: vs) H2 Q (fun c d H' => W c d σ H'))
def mMake (C : Addr) (sp : Sp) (dvs : List V) (W : WX) (t : TA) : TE := fun σ H Q => t σ H fun vs H1 => ∀ x dx Ha Hb, New H1 dx (.own x) Ha → New Ha x (.ins C dx []) Hb →
  sp (.ref x :: (vs ++ dvs)) Hb (fun v H2 => v = .non ∧ Q (.ref x) H2) (fun c d H' => W c d σ H')
section
variable {X : Cx} {k : Nat} {f f' C C' : Addr} {ps ps' : List Str} {sp sp' : Sp} {dvs : List V} {W : WX} {x m : Str} {p pos apos : Pos} {e o : Expr} {es : List Expr} {ta : TE} {t : TA}
theorem run_fk {pins : List (Addr × Obj)} {σ : St} {H : Hp} {s : Shared} {Q : VK} {us : List Value} {vs : List V} (F : Fk X.prog X.w X.K X.mg X.base f ps dvs k sp) (hr : Room k X.A) (tk : Takes X W)
    (I : Inv X pins σ H s) (r : Vals vs us) (h : sp (vs ++ dvs) H Q (fun c d H' => W c d σ H')) : wpAny (model X.prog X.w) X.A (call (.ref f) us) (EP X pins σ Q) X.xe s := by
  obtain ⟨fd, ds, F, hb, hd⟩ := F
  have r2 : Vals (vs ++ dvs) (us ++ ds) := r.append hd
  have hl : (us ++ ds).length = ps.length := by rw [← r2.length]; exact F.len _ _ _ _ h
  refine wpAny_call (codeAny_mono (F.run X.A X.stack s H ⟨us, []⟩ (us ++ ds) (vs ++ dvs) Q (fun c d H' => W c d σ H') hr I.env0 (hb s us I.kIn hl) r2 h) fun r s' hq => ?_)
  cases r with
  | error e => exact passAt tk σ pins H s e s' I hq
  | ok fl =>
    cases fl with
    | ret u => exact I.after hq
    | next => exact False.elim hq
    | brk => exact False.elim hq
    | cont => exact False.elim hq
theorem pm_call (F : Fk X.prog X.w X.K X.mg X.base f ps dvs k sp) (hr : Room k X.A) (tk : Takes X W) (hm : X.mg x = some (.ref f)) (hk : PySem.W.keepIn X.K (.ref f) = true)
    (ha : PA X (e :: es) t) (hg : Gl X x := by rfl) (hdb : (x == ("__debug__" : Str)) = false := by decide) (he : starEach (e :: es) X.env = (false, eval e X.env) :: starEach es X.env := by rfl) (hpl : (backTo pos (starEach es X.env)).any (·.1) = false := by rfl) :
    PE X (.Call (.Name x p) (e :: es) [] pos) (mCall sp dvs W t) := by
  refine ⟨fun pins s σ H Q I h => ?_⟩
  refine wpAny_Call_Name_kw (ld_glob I hg hm ?_ hdb)
  refine PySem.W.callWith_K (h₀ := X.base) I.ok.mod.kin hk (thn (ha.run pos pins s σ H _ I h) fun us s1 ⟨vs, H1, I1, r, q⟩ => ⟨I1.kIn, ?_⟩) he hpl
  exact run_fk F hr tk I1 r q
theorem pm_call0 (F : Fk X.prog X.w X.K X.mg X.base f ps dvs k sp) (hr : Room k X.A) (tk : Takes X W) (hm : X.mg x = some (.ref f)) (hk : PySem.W.keepIn X.K (.ref f) = true)
    (hg : Gl X x := by rfl) (hdb : (x == ("__debug__" : Str)) = false := by decide) : PE X (.Call (.Name x p) [] [] pos) (mCall sp dvs W tNil) := by
  refine ⟨fun pins s σ H Q I h => ?_⟩
  refine wpAny_Call_Name_kw (ld_glob I hg hm ?_ hdb)
  exact PySem.W.callWith_K0 I.kIn hk (run_fk (us := []) F hr tk I .nil h)
theorem pm_meth {pl : Sem Bool} (he : PE X o ta) (c : Cls X.K C) (hm : Meth X.K C m f) (F : Fk X.prog X.w X.K X.mg X.base f ps dvs k sp) (hr : Room k X.A) (tk : Takes X W) (ha : PA X (e :: es) t)
    (hst : starEach (e :: es) X.env = (false, eval e X.env) :: starEach es X.env := by rfl) (hpl : (backTo pos (starEach es X.env)).any (·.1) = false := by rfl)
    (ht : eval (.Call (.Attribute o m apos) (e :: es) [] pos) X.env = (do
      let ov ← eval o X.env
      standAt apos.atName
      let (f, first) ← holding [ov] (getMethod ov m pl)
      callWith pos f first (backTo pos (starEach (e :: es) X.env)) (backToKw pos (keywordEach [] X.env))) := by rfl) :
    PE X (.Call (.Attribute o m apos) (e :: es) [] pos) (mMeth C m sp dvs W ta t) := by
  refine ⟨fun pins s σ H Q I h => ?_⟩
  refine PySem.W.methodCall_KW (pl := pl) (thn (he.run pins s σ H _ I h) fun u s1 ⟨x, H1, I1, rx, a, dx, fs, ex, ea, l, q⟩ => ?_) ht
  subst ex
  obtain rfl : u = Value.ref a := rx
  refine getmeth_ok I1 ea c hm l ?_
  refine PySem.W.callWith_K (first := [.ref a]) (h₀ := X.base) I.ok.mod.kin hm.kp (thn (ha.run pos pins s1 σ H1 _ I1 q) fun us s2 ⟨vs, H2, I2, r, q2⟩ => ⟨I2.kIn, ?_⟩) hst hpl
  exact run_fk (us := .ref a :: us) (vs := .ref a :: vs) F hr tk I2 (.cons rfl r) q2
theorem pm_meth0 {pl : Sem Bool} (he : PE X o ta) (c : Cls X.K C) (hm : Meth X.K C m f) (F : Fk X.prog X.w X.K X.mg X.base f ps dvs k sp) (hr : Room k X.A) (tk : Takes X W)
    (ht : eval (.Call (.Attribute o m apos) [] [] pos) X.env = (do
      let ov ← eval o X.env
      standAt apos.atName
      let (f, first) ← holding [ov] (getMethod ov m pl)
      callWith pos f first (backTo pos (starEach [] X.env)) (backToKw pos (keywordEach [] X.env))) := by rfl) :
    PE X (.Call (.Attribute o m apos) [] [] pos) (mMeth C m sp dvs W ta tNil) := by
  refine ⟨fun pins s σ H Q I h => ?_⟩
  refine PySem.W.methodCall_KW (pl := pl) (thn (he.run pins s σ H _ I h) fun u s1 ⟨x, H1, I1, rx, a, dx, fs, ex, ea, l, q⟩ => ?_) ht
  subst ex
  obtain rfl : u = Value.ref a := rx
  refine getmeth_ok I1 ea c hm l ?_
  exact PySem.W.callWith_K0 (first := [.ref a]) I1.kIn hm.kp (run_fk (us := [.ref a]) (vs := [.ref a]) F hr tk I1 (.cons rfl .nil) q)
theorem pm_meth2 {pl : Sem Bool} (he : PE X o ta) (c : Cls X.K C) (hm : Meth X.K C m f) (F : Fk X.prog X.w X.K X.mg X.base f ps [] k sp) (c' : Cls X.K C') (hm' : Meth X.K C' m f') (F' : Fk X.prog X.w X.K X.mg X.base f' ps' [] k sp') (hr : Room k X.A) (tk : Takes X W) (ha : PA X (e :: es) t)
    (hst : starEach (e :: es) X.env = (false, eval e X.env) :: starEach es X.env := by rfl) (hpl : (backTo pos (starEach es X.env)).any (·.1) = false := by rfl)
    (ht : eval (.Call (.Attribute o m apos) (e :: es) [] pos) X.env = (do
      let ov ← eval o X.env
      standAt apos.atName
      let (f, first) ← holding [ov] (getMethod ov m pl)
      callWith pos f first (backTo pos (starEach (e :: es) X.env)) (backToKw pos (keywordEach [] X.env))) := by rfl) :
    PE X (.Call (.Attribute o m apos) (e :: es) [] pos) (mMeth2 C C' m sp sp' W ta t) := by
  refine ⟨fun pins s σ H Q I h => ?_⟩
  refine PySem.W.methodCall_KW (pl := pl) (thn (he.run pins s σ H _ I h) fun u s1 ⟨x, H1, I1, rx, q⟩ => ?_) ht
  rcases q with ⟨a, dx, fs, ex, ea, l, q⟩ | ⟨a, dx, fs, ex, ea, l, q⟩
  · subst ex
    obtain rfl : u = Value.ref a := rx
    refine getmeth_ok I1 ea c hm l ?_
    refine PySem.W.callWith_K (first := [.ref a]) (h₀ := X.base) I.ok.mod.kin hm.kp (thn (ha.run pos pins s1 σ H1 _ I1 q) fun us s2 ⟨vs, H2, I2, r, q2⟩ => ⟨I2.kIn, ?_⟩) hst hpl
    exact run_fk (us := .ref a :: us) (vs := .ref a :: vs) F hr tk I2 (.cons rfl r) (by simpa using q2)
  · subst ex
    obtain rfl : u = Value.ref a := rx
    refine getmeth_ok I1 ea c' hm' l ?_
    refine PySem.W.callWith_K (first := [.ref a]) (h₀ := X.base) I.ok.mod.kin hm'.kp (thn (ha.run pos pins s1 σ H1 _ I1 q) fun us s2 ⟨vs, H2, I2, r, q2⟩ => ⟨I2.kIn, ?_⟩) hst hpl
    exact run_fk (us := .ref a :: us) (vs := .ref a :: vs) F' hr tk I2 (.cons rfl r) (by simpa using q2)
theorem pm_meth20 {pl : Sem Bool} (he : PE X o ta) (c : Cls X.K C) (hm : Meth X.K C m f) (F : Fk X.prog X.w X.K X.mg X.base f ps [] k sp) (c' : Cls X.K C') (hm' : Meth X.K C' m f') (F' : Fk X.prog X.w X.K X.mg X.base f' ps' [] k sp') (hr : Room k X.A) (tk : Takes X W)
    (ht : eval (.Call (.Attribute o m apos) [] [] pos) X.env = (do
      let ov ← eval o X.env
      standAt apos.atName
      let (f, first) ← holding [ov] (getMethod ov m pl)
      callWith pos f first (backTo pos (starEach [] X.env)) (backToKw pos (keywordEach [] X.env))) := by rfl) :
    PE X (.Call (.Attribute o m apos) [] [] pos) (mMeth2 C C' m sp sp' W ta tNil) := by
  refine ⟨fun pins s σ H Q I h => ?_⟩
  refine PySem.W.methodCall_KW (pl := pl) (thn (he.run pins s σ H _ I h) fun u s1 ⟨x, H1, I1, rx, q⟩ => ?_) ht
  rcases q with ⟨a, dx, fs, ex, ea, l, q⟩ | ⟨a, dx, fs, ex, ea, l, q⟩
  · subst ex
    obtain rfl : u = Value.ref a := rx
    refine getmeth_ok I1 ea c hm l ?_
    exact PySem.W.callWith_K0 (first := [.ref a]) I1.kIn hm.kp (run_fk (us := [.ref a]) (vs := [.ref a]) F hr tk I1 (.cons rfl .nil) q)
  · subst ex
    obtain rfl : u = Value.ref a := rx
    refine getmeth_ok I1 ea c' hm' l ?_
    exact PySem.W.callWith_K0 (first := [.ref a]) I1.kIn hm'.kp (run_fk (us := [.ref a]) (vs := [.ref a]) F' hr tk I1 (.cons rfl .nil) q)
theorem run_mk {pins : List (Addr × Obj)} {σ : L2.St} {H : Hp} {s : Shared} {Q : VK} {us : List Value} {vs : List V} (M : Mk X.K C f) (F : Fk X.prog X.w X.K X.mg X.base f ps dvs k sp) (hr : Room (k + 1) X.A) (tk : Takes X W)
    (I : Inv X pins σ H s) (r : Vals vs us)
    (h : ∀ x dx, H x = none → H dx = none → dx ≠ x → sp (.ref x :: (vs ++ dvs)) (upd (upd H dx (.own x)) x (.ins C dx [])) (fun v H2 => v = .non ∧ Q (.ref x) H2) (fun c d H' => W c d σ H')) :
    wpAny (model X.prog X.w) X.A (call (.ref C) us) (EP X pins σ Q) X.xe s := by
  obtain ⟨fd, ds, F, hb, hd⟩ := F
  have hq := h (s.heap.objs.size + 1) s.heap.objs.size (I.hok.fresh (Nat.le_succ _)) (I.hok.fresh (Nat.le_refl _)) (Nat.ne_of_lt (Nat.lt_succ_self _))
  have I2 := Inv.made (C := C) I
  have r2 : Vals (V.ref (s.heap.objs.size + 1) :: (vs ++ dvs)) (Value.ref (s.heap.objs.size + 1) :: (us ++ ds)) := .cons rfl (r.append hd)
  have hl : (Value.ref (s.heap.objs.size + 1) :: us ++ ds).length = ps.length := by
    have e := r2.length
    rw [F.len _ _ _ _ hq] at e
    exact e.symm
  refine wpAny_call (make_map (f := f) I.kIn M.makes M.init (beq_iff_eq.mp M.fn) (codeAny_mono (F.run _ X.stack _ _ ⟨Value.ref (s.heap.objs.size + 1) :: us, []⟩ (Value.ref (s.heap.objs.size + 1) :: (us ++ ds)) _ _ (fun c d H' => W c d σ H') (hr.make C us [])
    (I2.env0.make C us []) (hb _ (Value.ref (s.heap.objs.size + 1) :: us) I2.kIn hl) r2 hq) fun r s' hq' => ?_))
  cases r with
  | error e => exact passAt tk σ pins _ _ e s' I2 hq'
  | ok fl =>
    cases fl with
    | ret u =>
      obtain ⟨v, H', I3, rv, ev, q3⟩ := I2.after hq'
      subst ev
      exact ⟨rv, ⟨V.ref (s.heap.objs.size + 1), H', I3, rfl, q3⟩⟩
    | next => exact False.elim hq'
    | brk => exact False.elim hq'
    | cont => exact False.elim hq'
theorem pm_make (M : Mk X.K C f) (F : Fk X.prog X.w X.K X.mg X.base f ps dvs k sp) (hr : Room (k + 1) X.A) (tk : Takes X W) (hm : X.mg x = some (.ref C))
    (ha : PA X (e :: es) t) (hg : Gl X x := by rfl) (hdb : (x == ("__debug__" : Str)) = false := by decide) (he : starEach (e :: es) X.env = (false, eval e X.env) :: starEach es X.env := by rfl) (hpl : (backTo pos (starEach es X.env)).any (·.1) = false := by rfl) :
    PE X (.Call (.Name x p) (e :: es) [] pos) (mMake C sp dvs W t) := by
  refine ⟨fun pins s σ H Q I h => ?_⟩
  refine wpAny_Call_Name_kw (ld_glob I hg hm ?_ hdb)
  refine PySem.W.callWith_K (h₀ := X.base) I.ok.mod.kin M.kp (thn (ha.run pos pins s σ H _ I h) fun us s1 ⟨vs, H1, I1, r, q⟩ => ⟨I1.kIn, ?_⟩) he hpl
  exact run_mk M F hr tk I1 r fun x dx h1 h2 h3 => q x dx _ _ ⟨h2, rfl⟩ ⟨by rw [upd_ne (Ne.symm h3)]; exact h1, rfl⟩
theorem pm_make0 (M : Mk X.K C f) (F : Fk X.prog X.w X.K X.mg X.base f ps dvs k sp) (hr : Room (k + 1) X.A) (tk : Takes X W) (hm : X.mg x = some (.ref C))
    (hg : Gl X x := by rfl) (hdb : (x == ("__debug__" : Str)) = false := by decide) : PE X (.Call (.Name x p) [] [] pos) (mMake C sp dvs W tNil) := by
  refine ⟨fun pins s σ H Q I h => ?_⟩
  refine wpAny_Call_Name_kw (ld_glob I hg hm ?_ hdb)
  exact PySem.W.callWith_K0 I.kIn M.kp (run_mk (us := []) M F hr tk I .nil fun x dx h1 h2 h3 => h x dx _ _ ⟨h2, rfl⟩ ⟨by rw [upd_ne (Ne.symm h3)]; exact h1, rfl⟩)
end
end MM

set_option Elab.async false
set_option linter.all false
set_option maxRecDepth 100000
set_option maxHeartbeats 4000000
namespace MM
open PySem PySem.Spec PyProof.Rows L2
/-! ### zip of a list and a text -/
def ItzS (K : PySem.W.Frag) (a : Addr) (x : Str) : It :=
  ⟨fun i H => ∃ (xs : List V) (v : V), SqL K H a xs ∧ xs[i]? = some v ∧ i < x.cps.size,
    fun i H v H' => ∃ T v1 c, v = .ref T ∧ H T = none ∧ H' = upd H T (.tup [v1, .str ⟨#[c]⟩]) ∧ (∀ xs, SqL K H a xs → xs[i]? = some v1) ∧ x.cps[i]? = some c,
    fun i H => ∃ xs : List V, SqL K H a xs ∧ i ≤ xs.length ∧ i ≤ x.cps.size ∧ (i = xs.length ∨ i = x.cps.size)⟩
theorem turn_zipS {P : Program} {w : World} {K : PySem.W.Frag} {elts : List Expr} {kk : Nat} {tpos : Pos} {x : Str} {t : Tok} {a z TI TO i1 i2 : Addr} (S : ZipSep2 z TI TO i1 i2 [i1, a] [i2]) (hai : a ≠ i1) :
    Turn P w K (.Tuple elts kk tpos) (ItzS K a x) [z, TI, TO, i1, i2] z (fun i h => IsZip h z TI TO .none ∧ IsTupOf2 h TI (.ref i1) (.ref i2) ∧ (∃ x y, IsTupOf2 h TO x y) ∧ h.IsListIter i1 a i ∧ h.IsStrIter i2 (strIterType x) x t i) where
  mem := by simp
  obj := fun i h st c hc => by
    obtain ⟨hz, hTI, ⟨x, y, hTO⟩, ⟨o1, e1, _, d1⟩, st2⟩ := st
    have e' : c = z ∨ c = TI ∨ c = TO ∨ c = i1 ∨ c = i2 := by simpa using hc
    rcases e' with q | q | q | q | q
    · rw [q]; exact ⟨_, hz, fun v q => nomatch q⟩
    · rw [q]; exact ⟨_, hTI, fun v q => nomatch q⟩
    · rw [q]; exact ⟨_, hTO, fun v q => nomatch q⟩
    · rw [q]; exact ⟨o1, e1, fun v q => by rw [d1] at q; cases q⟩
    · rw [q]; obtain ⟨o2, e2, _, d2⟩ := st2; exact ⟨o2, e2, fun v q => by rw [d2] at q; cases q⟩
  keep := fun i h h' st k => by
    obtain ⟨hz, hTI, ⟨x, y, hTO⟩, h1, h2⟩ := st
    exact ⟨k z (by simp) _ hz, k TI (by simp) _ hTI, ⟨x, y, k TO (by simp) _ hTO⟩, h1.at fun o q => k i1 (by simp) o q, let ⟨o, e, c, d⟩ := h2; ⟨o, k i2 (by simp) _ e, c, d⟩⟩
  item := by
    intro X hP hw hK hc i pins s σ H E I hf st hg
    subst hP hw hK
    obtain ⟨hz, hTI, ⟨x0, y0, hTO⟩, h1, h2⟩ := st
    obtain ⟨xs, v1, hqx, hx, hlt⟩ := hg
    obtain ⟨its, rv, p, _⟩ := I.list hqx
    obtain ⟨u, hu, ru⟩ := rv.get hx
    have hzl : z < s.heap.objs.size := Heap.lt_size hz
    have hh : X.A.in1.handled = none := I.ok.hd hc
    have hui : i < its.toArray.size := by
      have := (List.getElem?_eq_some_iff.mp hu).1
      simpa using this
    refine wpAny_pyNext_zipD2_item S (Draws.list hh i1 a hai its.toArray) (Draws.text hh i2 x t) hz hTI hTO ⟨h1, p.isList⟩ h2 hui hlt fun x1 x2 h' tk hp1 hp2 z' TO' h1' h2' hT hsz hk => ?_
    refine ⟨_, rfl, wpAny_letOwnedTupleGo_zip (s := { s with heap := h', toks := tk }) z' fun h'' z'' sb => ?_⟩
    obtain ⟨c, u', hc', rfl⟩ := hp2
    obtain rfl : x1 = u := by
      rw [List.getElem?_toArray] at hp1
      rw [hu] at hp1
      exact (Option.some.inj hp1).symm
    have hT2 : h''.get? s.heap.objs.size = some { cls := .type "tuple", data := .seq #[x1, .str ⟨#[c]⟩ u'] } := (sb.2 _ (Nat.ne_of_gt hzl)).trans hT
    have new : ObjOk X.prog X.w (upd H s.heap.objs.size (.tup [v1, .str ⟨#[c]⟩])) h'' s.heap.objs.size (.tup [v1, .str ⟨#[c]⟩]) :=
      ⟨by show 2 ≤ sizeLine; decide, [x1, .str ⟨#[c]⟩ u'], .cons ru (.cons ⟨_, rfl⟩ .nil), ⟨_, hT2, rfl, _, rfl⟩⟩
    have I1 : Inv X pins σ (upd H s.heap.objs.size (.tup [v1, .str ⟨#[c]⟩])) { s with heap := h'', toks := tk } :=
      I.turnedNew (t' := tk) (ch := [z, TI, TO, i1, i2]) (fun c o hb q => (sb.2 c (fun q' => hb (by simp [q']))).trans (hk c o (fun q' => hb (by simp [q'])) (fun q' => hb (by simp [q'])) (fun q' => hb (by simp [q'])) (fun q' => hb (by simp [q'])) q)) hf (Nat.le_refl _) new
    refine ⟨.ref s.heap.objs.size, _, I1, rfl, ⟨_, v1, c, rfl, I.hok.fresh (Nat.le_refl _), rfl, fun l hl => by rw [I.list_inj hl hqx]; exact hx, hc'⟩, ⟨z'', ?_, ⟨x1, .str ⟨#[c]⟩ u', ?_⟩, ?_, ?_⟩, fun b hcm => ?_⟩
    · exact (sb.2 _ S.TIz).trans (hk _ _ S.TIz S.TITO S.TIi1 S.TIi2 hTI)
    · exact (sb.2 _ S.TOz).trans TO'
    · exact h1'.1.at fun o q => (sb.2 _ (Ne.symm S.zi1)).trans q
    · obtain ⟨o, e, c', d⟩ := h2'
      exact ⟨o, (sb.2 _ (Ne.symm S.zi2)).trans e, c', d⟩
    · have hlt : b < s.heap.objs.size := by
        have e' : b = z ∨ b = TI ∨ b = TO ∨ b = i1 ∨ b = i2 := by simpa using hcm
        rcases e' with q | q | q | q | q
        · rw [q]; exact hzl
        · rw [q]; exact Heap.lt_size hTI
        · rw [q]; exact Heap.lt_size hTO
        · rw [q]; obtain ⟨_, e1, _⟩ := h1; exact Heap.lt_size e1
        · rw [q]; obtain ⟨_, e2, _⟩ := h2; exact Heap.lt_size e2
      rw [upd_ne (Nat.ne_of_lt hlt)]
      exact (hf b hcm).1
  done := by
    intro X hP hw hK hc i pins s σ H E I hf st hg
    subst hP hw hK
    obtain ⟨hz, hTI, ⟨x0, y0, hTO⟩, h1, h2⟩ := st
    obtain ⟨xs, hqx, hl1, hl2, hend⟩ := hg
    obtain ⟨its, rv, p, _⟩ := I.list hqx
    have l1 := rv.length
    have hh : X.A.in1.handled = none := I.ok.hd hc
    have e1 : its.toArray.size = xs.length := by simp [l1]
    exact wpAny_pyNext_zipD2_end S (Draws.list hh i1 a hai its.toArray) (Draws.text hh i2 x t) hz hTI hTO ⟨h1, p.isList⟩ h2 (by omega) hl2 (by omega) fun h' tk hk => ⟨rfl, I.turnedL (t' := tk) (ch := [z, TI, TO, i1, i2]) (fun c o hb q =>
      hk c o (fun q' => hb (by simp [q'])) (fun q' => hb (by simp [q'])) (fun q' => hb (by simp [q'])) (fun q' => hb (by simp [q'])) q) hf⟩
  self := fun A i s Q E st h => wpAny_pyIter_zip st.1 h
def iZipS (K : PySem.W.Frag) (ta : TA) : TI := fun σ H R => ta σ H fun vs H1 => ∃ a x xs, vs = [.ref a, .str x] ∧ SqL K H1 a xs ∧ R (ItzS K a x) H1
theorem pi_zipS {X : Cx} {e e2 : Expr} {ta : TA} {p pos tpos : Pos} {elts : List Expr} {kk : Nat} (hm : X.mg "zip" = none) (ha : PA X [e, e2] ta) (hg : Gl X "zip" := by rfl)
    (hs : starEach [e, e2] X.env = (false, eval e X.env) :: starEach [e2] X.env := by rfl) (hpl : (backTo pos (starEach [e2] X.env)).any (·.1) = false := by rfl) :
    PI X (.Tuple elts kk tpos) (.Call (.Name "zip" p) [e, e2] [] pos) (iZipS X.K ta) := by
  refine ⟨fun pins s σ H R I h => ?_⟩
  refine Call_ (ld_blt I hg hm PyProof.Rows.boot_zip (PyProof.Rows.callWith_type1 (thn (ha.run pos pins s σ H _ I h) fun us s1 ⟨vs, H1, I1, r1, q1⟩ => ?_) hs hpl))
  obtain ⟨a, x, xs, ex, hqx, q⟩ := q1
  subst ex
  cases r1 with
  | cons r rr =>
    cases rr with
    | cons r' rr =>
      cases rr
      cases r
      obtain ⟨t, rfl⟩ := r'
      obtain ⟨its, rv, p1, _⟩ := I1.list hqx
      have la : a < s1.heap.objs.size := p1.lt
      refine zip_begins2 (begins_list a its.toArray) (begins_text x t) p1.isList trivial fun h' hz hTI hTO h1 h2 hsz hk => wpAny_pyIter_zip hz ?_
      have I2 : Inv X pins σ H1 { s1 with heap := h' } := I1.kept (t' := s1.toks) hk
      refine ⟨s1.heap.objs.size + 4, [s1.heap.objs.size + 4, s1.heap.objs.size + 2, s1.heap.objs.size + 3, s1.heap.objs.size, s1.heap.objs.size + 1], _, _, H1, rfl, I2, turn_zipS (x := x) (t := t) (a := a) (zip_sep2 (N := s1.heap.objs.size) (fp1 := [a]) (fp2 := []) (by simpa using la) (by simp)) (Nat.ne_of_lt la), ⟨hz, hTI, ⟨_, _, hTO⟩, ⟨_, h1, rfl, rfl⟩, ⟨_, h2, rfl, rfl⟩⟩, fun c hcm => ?_, q⟩
      have e' : c = s1.heap.objs.size + 4 ∨ c = s1.heap.objs.size + 2 ∨ c = s1.heap.objs.size + 3 ∨ c = s1.heap.objs.size ∨ c = s1.heap.objs.size + 1 := by simpa using hcm
      have hle : s1.heap.objs.size ≤ c := by
        rcases e' with z | z | z | z | z
        · rw [z]; exact Nat.le_add_right _ _
        · rw [z]; exact Nat.le_add_right _ _
        · rw [z]; exact Nat.le_add_right _ _
        · rw [z]; exact Nat.le_refl _
        · rw [z]; exact Nat.le_add_right _ _
      exact I1.fpOk hle (I1.hok.fresh hle)
end MM

set_option Elab.async false
set_option linter.all false
set_option maxRecDepth 100000
set_option maxHeartbeats 4000000
namespace MM
open PySem PySem.Spec PyProof.Rows L2
/-! ### fields -/
def mFld (L : List Addr) (f : Str) (ta : TE) : TE := fun σ H Q => ta σ H fun x H1 => ∃ a C dx fs v, x = .ref a ∧ H1 a = some (.ins C dx fs) ∧ C ∈ L ∧ fs.lookup f = some v ∧ Q v H1
def FOk (K : PySem.W.Frag) (L : List Addr) (f : Str) : Prop := ∀ C ∈ L, Cls K C ∧ NoAttr K C f
/-- o.f = value -/
def mSetF (L : List Addr) (f : Str) (ta tv : TE) : TS := fun D σ H => tv σ H fun y H1 => ta σ H1 fun x H2 => ∃ a C dx fs, x = .ref a ∧ H2 a = some (.ins C dx fs) ∧ C ∈ L ∧ fs.length < 1000 ∧
  ∀ H', Wr H2 a (.ins C dx (putF f y fs)) H' → D.nx σ H'
/-- o.f op= value, by values -/
def mAugF (rd : V → V → Hp → VK → Prop) (L : List Addr) (f : Str) (ta tv : TE) : TS := fun D σ H => ta σ H fun x H1 => ∃ a C dx fs v, x = .ref a ∧ H1 a = some (.ins C dx fs) ∧ C ∈ L ∧ fs.lookup f = some v ∧
  tv σ H1 fun y H2 => rd v y H2 fun z H3 => ∃ dx' fs', H3 a = some (.ins C dx' fs') ∧ fs'.length < 1000 ∧ ∀ H', Wr H3 a (.ins C dx' (putF f z fs')) H' → D.nx σ H'
section
variable {X : Cx} {o e value : Expr} {f : Str} {pos pos' tpos : Pos} {ta tv : TE} {L : List Addr}
theorem pm_fld (h : FOk X.K L f) (he : PE X e ta) (hb : attributeBase e f X.env (eval e X.env) = eval e X.env := by rfl) : PE X (.Attribute e f pos) (mFld L f ta) := by
  refine ⟨fun pins s σ H Q I q => ?_⟩
  refine attr_of hb (thn (he.run pins s σ H _ I q) fun u s1 ⟨x, H1, I1, rx, a, C, dx, fs, v, ex, ea, hC, l, q⟩ => ?_)
  subst ex
  obtain rfl : u = Value.ref a := rx
  exact getattr_ok I1 ea (h C hC).1 (h C hC).2 l fun u' s2 I2 ru => ⟨v, H1, I2, ru, q⟩
theorem pm_setf (h : FOk X.K L f) (ha : PE X o ta) (hv : PE X value tv) (hs : swapsWith value (some (.Attribute o f pos')) pos.line X.env = pure false := by rfl) : PS X (.Assign [.Attribute o f pos'] value pos) (mSetF L f ta tv) := by
  refine ⟨fun pins s σ H D I q => ?_⟩
  refine plainObj_wpAny_Assign_Attribute (thn (hv.run pins s σ H _ I q) fun u s1 ⟨y, H1, I1, ry, q⟩ => thn (ha.run pins s1 σ H1 _ I1 q) fun ov s2 ⟨x, H2, I2, rx, a, C, dx, fs, ex, ea, hC, l, q2⟩ => ?_) hs
  subst ex
  obtain rfl : ov = Value.ref a := rx
  exact setattr_ok I2 ea (h C hC).1 (h C hC).2 l ry fun s3 I3 => ⟨σ, _, I3, q2 _ rfl⟩
theorem pm_augf {op : Operator} {rd : V → V → Hp → VK → Prop} (h : FOk X.K L f) (ha : PE X o ta) (hv : PE X value tv) (hop : InOp X op rd) : PS X (.AugAssign (.Attribute o f tpos) op value pos) (mAugF rd L f ta tv) := by
  refine ⟨fun pins s σ H D I q => ?_⟩
  refine wpAny_AugAssign_AttributeAny (thn (ha.run pins s σ H _ I q) fun ov s1 ⟨x, H1, I1, rx, a, C, dx, fs, v, ex, ea, hC, l, q⟩ => ?_)
  subst ex
  obtain rfl : ov = Value.ref a := rx
  refine getattr_ok I1 ea (h C hC).1 (h C hC).2 l fun u s2 I2 ru => thn (hv.run pins s2 σ H1 _ I2 q) fun w3 s3 ⟨y, H2, I3, ry, q3⟩ => thn (hop pins s3 σ H2 v y u w3 _ I3 ru ry q3) fun w4 s4 ⟨z, H3, I4, rz, dx', fs', ea', l', q4⟩ => ?_
  exact setattr_ok I4 ea' (h C hC).1 (h C hC).2 l' rz fun s5 I5 => ⟨σ, _, I5, q4 _ rfl⟩
end
/-! ### methods of built-in types -/
def tyM (T : String) (x : V) (H : Hp) : Prop :=
  match x with
  | .str _ => T = "str"
  | .int _ => T = "int"
  | .ref p => (match H p with
    | some (.lst _) => T = "list"
    | some (.dK _) => T = "dict"
    | some (.dT _) => T = "dict"
    | _ => False)
  | _ => False
theorem tyM_V {K : PySem.W.Frag} {T : String} {x : V} {H : Hp} (h : tyM T x H) : tyV K T x H := by
  unfold tyM at h
  split at h
  · exact h
  · exact h
  · split at h
    · rename_i xs e; exact .inl ⟨h, xs, .inl (.inl e)⟩
    · rename_i xs e; exact .inr (.inr (.inl ⟨h, .inl ⟨_, e⟩⟩))
    · rename_i xs e; exact .inr (.inr (.inl ⟨h, .inr ⟨_, e⟩⟩))
    · exact h.elim
  · exact h.elim
def mBM (T : String) (r : V → List V → Hp → VK → Prop) (to : TE) (t : TA) : TE := fun σ H Q => to σ H fun x H1 => tyM T x H1 ∧ t σ H1 fun xs H2 => r x xs H2 Q
section
variable {X : Cx} {o e : Expr} {es : List Expr} {to : TE} {t : TA} {name : Str} {apos cpos : Pos} {T id : String} {r : V → List V → Hp → VK → Prop}
theorem pm_bm0 (pa : PlainAttrs T) (slot : Slot T name id) (hty : typeOf (.builtin id) = pure (.type "method_descriptor")) (hm : MtR X id r) (ho : PE X o to)
    (hbase : attributeBase o name X.env (eval o X.env) = eval o X.env := by rfl) (hline : (apos.endLine == cpos.line) = true := by rfl) : PE X (.Call (.Attribute o name apos) [] [] cpos) (mBM T r to tNil) := by
  refine ⟨fun pins s σ H Q I h => ?_⟩
  refine wpAny_Call_method0_late hbase hline (thn (ho.run pins s σ H _ I h) fun v s1 ⟨x, H1, I1, r1, ty, q1⟩ => ?_)
  obtain ⟨h1, h2⟩ := tyV_is I1 r1 (tyM_V ty)
  exact ⟨T, id, pa, slot, hty, h1, h2, Calls.callWith_builtin rfl (PySem.evalArgs_none (hm pins s1 σ H1 x [] v [] Q I1 r1 .nil q1))⟩
theorem pm_bm (pa : PlainAttrs T) (slot : Slot T name id) (hty : typeOf (.builtin id) = pure (.type "method_descriptor")) (hm : MtR X id r) (ho : PE X o to) (ha : PA X (e :: es) t)
    (hbase : attributeBase o name X.env (eval o X.env) = eval o X.env := by rfl)
    (hfew : ((backTo cpos (starEach (e :: es) X.env)).all (fun x => !x.1) && (backToKw cpos (keywordEach [] X.env)).all (fun x => x.1.isSome)
      && decide ((e :: es).length + ([] : List Keyword).length + (if ([] : List Keyword).isEmpty then 0 else 1) < 30)) = true := by rfl)
    (hline : (apos.endLine == cpos.line) = true := by rfl) (hs : starEach (e :: es) X.env = (false, eval e X.env) :: starEach es X.env := by rfl) (hplain : (backTo cpos (starEach es X.env)).any (·.1) = false := by rfl) :
    PE X (.Call (.Attribute o name apos) (e :: es) [] cpos) (mBM T r to t) := by
  refine ⟨fun pins s σ H Q I h => ?_⟩
  refine wpAny_Call_method_late hbase hfew hline rfl (thn (ho.run pins s σ H _ I h) fun v s1 ⟨x, H1, I1, r1, ty, q1⟩ => ?_)
  obtain ⟨h1, h2⟩ := tyV_is I1 r1 (tyM_V ty)
  refine ⟨T, id, pa, slot, hty, h1, h2, ?_⟩
  have hA := ha.run cpos pins s1 σ H1 _ I1 q1
  rw [hs] at hA ⊢
  refine Calls.callWith_builtin (by show (false || (backTo cpos (starEach es X.env)).any (·.1)) = false; rw [hplain] <;> rfl) (Calls.evalArgs_plain ?_)
  exact thn hA fun us s2 ⟨vs, H2, I2, r2, q2⟩ => hm pins s2 σ H2 x vs v us Q I2 r1 r2 q2
/-! ### a dict's methods -/
def mGet : V → List V → Hp → VK → Prop := fun x vs H Q =>
  match x, vs with
  | .ref d, [y] => kvLook H d y fun o => Q (o.getD .non) H
  | .ref d, [y, z] => kvLook H d y fun o => Q (o.getD z) H
  | _, _ => False
theorem m_get (hu : X.A.units + 1 < cLine) : MtR X "dict.get" mGet := by
  intro pins s σ H x xs v us Q I rx rxs h
  unfold mGet at h
  split at h
  · rename_i d y
    obtain rfl : v = Value.ref d := rx
    obtain ⟨u1, rfl, r1⟩ := vals1 rxs
    obtain ⟨o, g, q⟩ := kvLook_get h
    exact d_get1 hu I g r1 fun w' s' I' rw' => ⟨_, H, I', rw', q⟩
  · rename_i d y z
    obtain rfl : v = Value.ref d := rx
    obtain ⟨u1, u2, rfl, r1, r2⟩ := vals2 rxs
    obtain ⟨o, g, q⟩ := kvLook_get h
    exact d_get2 hu I g r1 r2 fun w' s' I' rw' => ⟨_, H, I', rw', q⟩
  · exact h.elim
/-- the dict at d with the key y: v there, and the heap without it; or not there -/
def kvPop (H : Hp) (d : Addr) (y : V) (Q : VK) (N : Prop) : Prop :=
  match H d with
  | some (.dK kvs) => (match keyOf y with
    | some k => (match valV kvs k with
      | some v => ∀ H', Wr H d (.dK (dropK kvs k)) H' → Q v H'
      | none => N)
    | none => False)
  | some (.dT kvs) => (match y with
    | .ref b => (match H b with
      | some (.tup xs) => (match keysOf xs with
        | some ks => (match valV kvs ks with
          | some v => ∀ H', Wr H d (.dT (dropK kvs ks)) H' → Q v H'
          | none => N)
        | none => False)
      | _ => False)
    | _ => False)
  | _ => False
theorem kt_at {H : Hp} {kvs : List (List Key × V)} {xs : List (List Key × Addr × Value)} (rel : KT H kvs xs) (ks : List Key) :
    (valV kvs ks = none ∧ atKey xs ks = none) ∨ ∃ v p, valV kvs ks = some v ∧ atKey xs ks = some p ∧ RelV v p.2 := by
  have r := rel.val ks
  cases e1 : valV kvs ks with
  | none =>
    cases e2 : atKey xs ks with
    | none => exact .inl ⟨rfl, rfl⟩
    | some p => rw [e1, e2] at r; exact (show False from r).elim
  | some v =>
    cases e2 : atKey xs ks with
    | none => rw [e1, e2] at r; exact (show False from r).elim
    | some p => rw [e1, e2] at r; exact .inr ⟨v, p, rfl, rfl, r⟩
theorem withoutH_drop {xs : List (List Key × Addr × Value)} {k : List Key} : withoutH xs k = DT.dropH xs k := by
  unfold withoutH DT.dropH
  congr 1
theorem m_popCore (hu : X.A.units + 1 < cLine) {pins : List (Addr × Obj)} {s : Shared} {σ : L2.St} {H : Hp} {d : Addr} {y : V} {u : Value} {more : List Value} {Q : VK} {N : Prop} (I : Inv X pins σ H s) (ry : RelV y u) (hm : more = [] ∨ ∃ x, more = [x])
    (h : kvPop H d y Q N) (hN : N → (∃ z x, more = [x] ∧ RelV z x ∧ Q z H)) : wpAny (model X.prog X.w) X.A (call (.builtin "dict.pop") (.ref d :: u :: more)) (EP X pins σ Q) X.xe s := by
  unfold kvPop at h
  split at h
  · rename_i kvs e
    split at h
    · rename_i k ek
      have ey := keyOf_eq ek
      subst ey
      split at h
      · rename_i v ev
        exact d_pop I e ry ev hm fun w' s' I' rw' => ⟨v, _, I', rw', h _ rfl⟩
      · rename_i ev
        obtain ⟨z, x, rfl, rz, q⟩ := hN h
        exact d_popD I e ry ev fun s' I' => ⟨z, H, I', rz, q⟩
    · exact h.elim
  · rename_i kvs e
    split at h
    · rename_i b
      split at h
      · rename_i xs eb
        split at h
        · rename_i ks ek
          rw [keysOf_eq ek] at eb
          obtain rfl : u = Value.ref b := ry
          obtain ⟨z, hd, xs', rel, dd⟩ := dt_of I.hok e
          have hz : xs'.length ≤ sizeLine := by rw [← Paired.length rel]; exact z
          rcases kt_at rel ks with ⟨e1, e2⟩ | ⟨v, p, e1, e2, rv⟩
          · rw [e1] at h
            obtain ⟨z', x, rfl, rz, q⟩ := hN h
            exact call_pop_default_heap (tupleKind_room_in1 hu) (key_of I.hok eb) hd dd e2 (fun tk => ⟨z', H, I.tok tk, rz, q⟩) hz
          · rw [e1] at h
            refine call_pop_heap hm (by rcases hm with rfl | ⟨x, rfl⟩; exact PySem.F.args_dict_pop_2 _ _; exact PySem.F.args_dict_pop_3 _ _ _) (tupleKind_room_in1 hu) (key_of I.hok eb) hd dd e2 (fun h' dd' hs => ?_) hz
            rw [withoutH_drop] at dd'
            obtain ⟨o, es, ep, hq, h2, h3, h4, _, h5⟩ := dd'
            refine ⟨v, _, d_write (ob := .dT (dropK kvs ks)) I (by rw [e]; exact True.intro) hs ⟨o, hq⟩ ⟨Nat.le_trans (dropK_le kvs ks) z, hd, _, (DX.KT_drop ks rel).keeps (fun c ys ec => (by rw [upd_ne (ne_of ec e (fun z => nomatch z))]; exact ec)), o, es, ep, hq, h2, h3, h4, h5⟩, rv, h _ rfl⟩
        · exact h.elim
      · exact h.elim
    · exact h.elim
  · exact h.elim
def mPop : V → List V → Hp → VK → Prop := fun x vs H Q =>
  match x, vs with
  | .ref d, [y] => kvPop H d y Q False
  | .ref d, [y, z] => kvPop H d y Q (Q z H)
  | _, _ => False
theorem m_pop (hu : X.A.units + 1 < cLine) : MtR X "dict.pop" mPop := by
  intro pins s σ H x xs v us Q I rx rxs h
  unfold mPop at h
  split at h
  · rename_i d y
    obtain rfl : v = Value.ref d := rx
    obtain ⟨u1, rfl, r1⟩ := vals1 rxs
    exact m_popCore hu I r1 (.inl rfl) h fun n => n.elim
  · rename_i d y z
    obtain rfl : v = Value.ref d := rx
    obtain ⟨u1, u2, rfl, r1, r2⟩ := vals2 rxs
    exact m_popCore hu I r1 (.inr ⟨_, rfl⟩) h fun n => ⟨z, u2, rfl, r2, n⟩
  · exact h.elim
def mSetd : V → List V → Hp → VK → Prop := fun x vs H Q =>
  match x, vs with
  | .ref d, [y, z] => (match H d with
    | some (.dK kvs) => (match keyOf y with
      | some k => kvs.length < sizeLine ∧ (match valV kvs k with
        | some v => Q v H
        | none => ∀ H', Wr H d (.dK (putK kvs k z)) H' → Q z H')
      | none => False)
    | some (.dT kvs) => (match y with
      | .ref b => (match H b with
        | some (.tup xs) => (match keysOf xs with
          | some ks => kvs.length < sizeLine ∧ (match valV kvs ks with
            | some v => Q v H
            | none => ∀ H', Wr H d (.dT (putK kvs ks z)) H' → Q z H')
          | none => False)
        | _ => False)
      | _ => False)
    | _ => False)
  | _, _ => False
theorem m_setd (hu : X.A.units + 1 < cLine) : MtR X "dict.setdefault" mSetd := by
  intro pins s σ H x xs v us Q I rx rxs h
  unfold mSetd at h
  split at h
  · rename_i d y z
    obtain rfl : v = Value.ref d := rx
    obtain ⟨u1, u2, rfl, r1, r2⟩ := vals2 rxs
    split at h
    · rename_i kvs e
      split at h
      · rename_i k ek
        have ey := keyOf_eq ek
        subst ey
        obtain ⟨hl, h⟩ := h
        refine d_setd I e r1 r2 hl (fun v hv w' s' I' rw' => ⟨v, _, I', rw', ?_⟩) (fun hv w' s' I' rw' => ⟨z, _, I', rw', ?_⟩)
        · rw [hv] at h; exact h
        · rw [hv] at h; exact h _ rfl
      · exact h.elim
    · rename_i kvs e
      split at h
      · rename_i b
        split at h
        · rename_i xs eb
          split at h
          · rename_i ks ek
            rw [keysOf_eq ek] at eb
            obtain ⟨hl, h⟩ := h
            obtain rfl : u1 = Value.ref b := r1
            obtain ⟨zz, hd, xs', rel, dd⟩ := dt_of I.hok e
            have hz : xs'.length ≤ sizeLine := by rw [← Paired.length rel]; exact zz
            refine call_setdefault_heap (tupleKind_room_in1 hu) (key_of I.hok eb) hd dd (fun p hp => ?_) (fun hn h' dd' hs => ?_) hz
            · rcases kt_at rel ks with ⟨e1, e2⟩ | ⟨v, p', e1, e2, rv⟩
              · rw [hp] at e2; cases e2
              · rw [hp] at e2; cases e2
                rw [e1] at h
                exact ⟨v, H, I.tok _, rv, h⟩
            · rcases kt_at rel ks with ⟨e1, e2⟩ | ⟨v, p', e1, e2, rv⟩
              · rw [e1] at h
                obtain ⟨o, es, ep, hq, h2, h3, h4, _, h5⟩ := dd'
                refine ⟨z, _, d_write (ob := .dT (putK kvs ks z)) I (by rw [e]; exact True.intro) hs ⟨o, hq⟩ ⟨Nat.le_trans (length_putK kvs ks z) (Nat.succ_le_of_lt hl), hd, _, (rel.put ks eb r2).keeps (fun c ys ec => (by rw [upd_ne (ne_of ec e (fun z => nomatch z))]; exact ec)), o, es, ep, hq, h2, h3, h4, h5⟩, r2, h _ rfl⟩
              · rw [hn] at e2; cases e2
          · exact h.elim
        · exact h.elim
      · exact h.elim
    · exact h.elim
  · exact h.elim
/-! ### a list's methods -/
def mAppend : V → List V → Hp → VK → Prop := fun x vs H Q => match x, vs with
  | .ref l, [y] => (match H l with
    | some (.lst xs) => xs.length < sizeLine ∧ ∀ H', Wr H l (.lst (xs ++ [y])) H' → Q .non H'
    | _ => False)
  | _, _ => False
theorem m_append : MtR X "list.append" mAppend := by
  intro pins s σ H x xs v us Q I rx rxs h
  unfold mAppend at h
  split at h
  · split at h
    · rename_i e
      exact mt_append pins s σ H _ _ v us Q I rx rxs ⟨_, _, _, rfl, rfl, e, h.1, h.2 _ rfl⟩
    · exact h.elim
  · exact h.elim
def mExtend : V → List V → Hp → VK → Prop := fun x vs H Q => match x, vs with
  | .ref l, [.ref b] => (match H l, H b with
    | some (.lst xs), some (.lst zs) => xs.length + zs.length ≤ sizeLine ∧ ∀ H', Wr H l (.lst (xs ++ zs)) H' → Q .non H'
    | _, _ => False)
  | _, _ => False
theorem m_extend : MtR X "list.extend" mExtend := by
  intro pins s σ H x xs v us Q I rx rxs h
  unfold mExtend at h
  split at h
  · split at h
    · rename_i e e2
      exact mt_extend pins s σ H _ _ v us Q I rx rxs ⟨_, _, _, _, rfl, rfl, e, e2, h.1, h.2 _ rfl⟩
    · exact h.elim
  · exact h.elim
def mPopL : V → List V → Hp → VK → Prop := fun x vs H Q => match x, vs with
  | .ref l, [] => (match H l with
    | some (.lst xs) => ∃ y, xs[xs.length - 1]? = some y ∧ ∀ H', Wr H l (.lst xs.dropLast) H' → Q y H'
    | _ => False)
  | _, _ => False
theorem m_popL : MtR X "list.pop" mPopL := by
  intro pins s σ H x xs v us Q I rx rxs h
  unfold mPopL at h
  split at h
  · split at h
    · rename_i e
      obtain ⟨y, hy, q⟩ := h
      exact mt_pop pins s σ H _ _ v us Q I rx rxs ⟨_, _, y, rfl, rfl, e, hy, q _ rfl⟩
    · exact h.elim
  · exact h.elim
/-! ### displays -/
def mTup (t : TA) : TE := fun σ H Q => t σ H fun xs H1 => xs.length ≤ sizeLine ∧ ∀ p H', New H1 p (.tup xs) H' → Q (.ref p) H'
def mLst (t : TA) : TE := fun σ H Q => t σ H fun xs H1 => xs.length ≤ sizeLine ∧ ∀ p H', New H1 p (.lst xs) H' → Q (.ref p) H'
theorem pm_tupE {pos : Pos} {x1} (h : PA X es t) : PE X (.Tuple es x1 pos) (mTup t) := by
  refine ⟨fun pins s σ H Q I hq => ?_⟩
  refine wpAny_Tuple_spliced (thn (h.run pos pins s σ H _ I hq) fun us s1 ⟨xs, H1, I1, r, z, q⟩ => ⟨by rw [← r.length]; exact z, ?_⟩)
  have hf : H1 s1.heap.objs.size = none := I1.hok.fresh (Nat.le_refl _)
  refine ⟨.ref s1.heap.objs.size, upd H1 s1.heap.objs.size (.tup xs), I1.laid (t' := s1.toks) (fun b u e => Heap.get?_push_of_some _ e) (Nat.le_refl _) ?_, rfl, q _ _ ⟨hf, rfl⟩⟩
  exact ⟨z, us, r, ⟨_, Heap.get?_push_size _ rfl, rfl, _, rfl⟩⟩
theorem pm_lstE {pos : Pos} (h : PA X es t) : PE X (.List es pos) (mLst t) := by
  refine ⟨fun pins s σ H Q I hq => ?_⟩
  refine wpAny_List_spliced (thn (h.run pos pins s σ H _ I hq) fun us s1 ⟨xs, H1, I1, r, z, q⟩ => ⟨by rw [← r.length]; exact z, ?_⟩)
  have hf : H1 s1.heap.objs.size = none := I1.hok.fresh (Nat.le_refl _)
  refine ⟨.ref s1.heap.objs.size, upd H1 s1.heap.objs.size (.lst xs), I1.laid (t' := s1.toks) (fun b u e => Heap.get?_push_of_some _ e) (Nat.le_refl _) ?_, rfl, q _ _ ⟨hf, rfl⟩⟩
  exact ⟨z, us, 0, r, Heap.get?_push_size _ rfl⟩
def mDictK : TE := fun _ H Q => ∀ p H', New H p (.dK []) H' → Q (.ref p) H'
def mDictT : TE := fun _ H Q => ∀ p H', New H p (.dT []) H' → Q (.ref p) H'
theorem pm_dictK {pos : Pos} : PE X (.Dict [] [] pos) mDictK := ⟨fun pins s σ H Q I h => pe_dnewK.run pins s σ H Q I fun p hp => h p _ ⟨hp, rfl⟩⟩
theorem pm_dictT {pos : Pos} : PE X (.Dict [] [] pos) mDictT := ⟨fun pins s σ H Q I h => pe_dnewT.run pins s σ H Q I fun p hp => h p _ ⟨hp, rfl⟩⟩
end
end MM

set_option Elab.async false
set_option linter.all false
set_option maxRecDepth 100000
set_option maxHeartbeats 4000000
namespace MM
open PySem PySem.Spec PyProof.Rows L2
/-! ### len -/
def mLen : List V → Hp → VK → Prop := fun vs H Q =>
  match vs with
  | [.str z] => z.length ≤ sizeLine ∧ Q (.int z.length) H
  | [.ref p] => (match H p with
    | some (.lst xs) => Q (.int xs.length) H
    | some (.tup xs) => Q (.int xs.length) H
    | some (.dK kvs) => Q (.int kvs.length) H
    | some (.dT kvs) => Q (.int kvs.length) H
    | _ => False)
  | _ => False
section
variable {X : Cx}
theorem call_mLen : CallR X (.builtin "len") mLen := by
  intro pins s σ H xs us Q I r h
  unfold mLen at h
  split at h
  · rename_i z
    exact call_len_str pins s σ H _ us Q I r ⟨z, rfl, h.1, h.2⟩
  · rename_i p
    split at h
    · rename_i xs e
      exact call_len_seq pins s σ H _ us Q I r ⟨p, xs, rfl, .inl (.inl (.inl e)), h⟩
    · rename_i xs e
      exact call_len_seq pins s σ H _ us Q I r ⟨p, xs, rfl, .inr (.inl (.inl e)), h⟩
    · rename_i kvs e
      obtain ⟨u, rfl, rx⟩ := vals1 r
      cases rx
      exact d_len I (.inl e) fun t s' I' => ⟨.int kvs.length, H, I', ⟨t, rfl⟩, h⟩
    · rename_i kvs e
      exact call_len_dT pins s σ H _ us Q I r ⟨p, kvs, rfl, e, h⟩
    · exact h.elim
  · exact h.elim
/-- len of the script (a list that may stand in the written part) -/
def mLenS (K : PySem.W.Frag) : List V → Hp → VK → Prop := fun xs H Q => ∃ p ys, xs = [.ref p] ∧ SqL K H p ys ∧ Q (.int ys.length) H
theorem call_mLenS : CallR X (.builtin "len") (mLenS X.K) := by
  intro pins s σ H xs us Q I r ⟨p, ys, e, h, q⟩
  exact call_len_seq pins s σ H xs us Q I r ⟨p, ys, e, .inl h, q⟩
/-! ### isinstance of a built-in class -/
def tyN (x : V) (H : Hp) : Option String :=
  match x with
  | .non => some "NoneType"
  | .bl _ => some "bool"
  | .int _ => some "int"
  | .str _ => some "str"
  | .ref a => (match H a with
    | some (.lst _) => some "list"
    | some (.frz _ (.lst _)) => some "list"
    | some (.tup _) => some "tuple"
    | some (.dK _) => some "dict"
    | some (.dT _) => some "dict"
    | _ => none)
  | _ => none
theorem tyN_of {K : PySem.W.Frag} {x : V} {H : Hp} {t : String} (h : tyN x H = some t) : TyX K H x (.type t) := by
  unfold tyN at h
  split at h
  · cases h; exact .base .non
  · cases h; exact .base (.bl _)
  · cases h; exact .base (.int _)
  · cases h; exact .base (.str _)
  · split at h
    · rename_i e; cases h; exact .base (.lst e)
    · rename_i e; cases h; exact .base (.frz e)
    · rename_i e; cases h; exact .base (.tup e)
    · rename_i e; cases h; exact .base (.dK e)
    · rename_i e; cases h; exact .base (.dT e)
    · cases h
  · cases h
/-- is a value of the type a one of b's: the kinds that stand in the texts -/
def isA (a b : String) : Bool := a == b || (a == "bool" && b == "int")
def kitDom : List String := ["NoneType", "bool", "int", "str", "list", "tuple", "dict"]
theorem kit_all : (kitDom.all fun a => ["bool", "int", "str", "list", "tuple", "dict"].all fun b => kitB a b == some (isA a b)) = true := by decide +kernel
theorem kit_isA {K : PySem.W.Frag} {a b : String} (ha : a ∈ kitDom) (hb : b ∈ ["bool", "int", "str", "list", "tuple", "dict"]) : PySem.W.kitOne K (.type a) (.type b) = some (isA a b) := by
  have h := List.all_eq_true.mp (List.all_eq_true.mp kit_all a ha) b hb
  exact kit_ty (beq_iff_eq.mp h)
theorem tyN_dom {x : V} {H : Hp} {t : String} (h : tyN x H = some t) : t ∈ kitDom := by
  unfold tyN at h
  unfold kitDom
  split at h
  · cases h; decide
  · cases h; decide
  · cases h; decide
  · cases h; decide
  · split at h
    · cases h; decide
    · cases h; decide
    · cases h; decide
    · cases h; decide
    · cases h; decide
    · cases h
  · cases h
def mIsi : List V → Hp → VK → Prop := fun vs H Q =>
  match vs with
  | [x, .ty b] => (match tyN x H with
    | some a => b ∈ ["bool", "int", "str", "list", "tuple", "dict"] ∧ Q (.bl (isA a b)) H
    | none => False)
  | _ => False
theorem call_mIsi : CallR X (.builtin "isinstance") mIsi := by
  intro pins s σ H xs us Q I r h
  unfold mIsi at h
  split at h
  · rename_i x b
    split at h
    · rename_i a e
      exact call_isi pins s σ H _ us Q I r ⟨x, .ty b, .type a, .type b, _, rfl, .ty b, tyN_of e, kit_isA (tyN_dom e) h.1, h.2⟩
    · exact h.elim
  · exact h.elim
/-! ### in, not in -/
def mIn (neg : Bool) : R2 := fun x y H Q =>
  match y with
  | .str z => (match x with
    | .str ⟨⟨[c]⟩⟩ => Q (.bl (if neg then !decide (c ∈ z.cps.toList) else decide (c ∈ z.cps.toList))) H
    | _ => False)
  | .ref p => (match seqAt H p with
    | some xs => flatV x = true ∧ xs.all flatV = true ∧ Q (.bl (if neg then !inV x xs else inV x xs)) H
    | none => kvLook H p x fun o => Q (.bl (if neg then !o.isSome else o.isSome)) H)
  | _ => False
theorem m_in (hu : X.A.units + 1 < cLine) : OpR X (compareOp .In) (mIn false) := by
  intro pins s σ H x y v u Q I rx ry h
  unfold mIn at h
  split at h
  · rename_i z
    split at h
    · rename_i c
      exact op_in_sign pins s σ H _ _ v u Q I rx ry ⟨c, z, rfl, rfl, h⟩
    · exact h.elim
  · rename_i p
    split at h
    · rename_i xs e
      exact op_in_seq pins s σ H _ _ v u Q I rx ry ⟨p, xs, rfl, seqAt_sq e, h.1, h.2.1, h.2.2⟩
    · obtain ⟨o, g, q⟩ := kvLook_get h
      obtain rfl : u = Value.ref p := ry
      exact d_in hu I g rx fun s' I' => ⟨.bl o.isSome, H, I', rfl, q⟩
  · exact h.elim
theorem m_notIn (hu : X.A.units + 1 < cLine) : OpR X (compareOp .NotIn) (mIn true) := by
  intro pins s σ H x y v u Q I rx ry h
  unfold mIn at h
  split at h
  · rename_i z
    split at h
    · rename_i c
      exact op_notIn_sign pins s σ H _ _ v u Q I rx ry ⟨c, z, rfl, rfl, h⟩
    · exact h.elim
  · rename_i p
    split at h
    · rename_i xs e
      exact op_notIn_seq pins s σ H _ _ v u Q I rx ry ⟨p, xs, rfl, seqAt_sq e, h.1, h.2.1, h.2.2⟩
    · obtain ⟨o, g, q⟩ := kvLook_get h
      obtain rfl : u = Value.ref p := ry
      exact d_notIn hu I g rx fun s' I' => ⟨.bl (!o.isSome), H, I', rfl, q⟩
  · exact h.elim
/-! ### +, slices, tuple(..), list(..) -/
def mAdd : R2 := fun x y H Q =>
  match x, y with
  | .int i, .int j => Q (.int (i + j)) H
  | .str i, .str j => i.length + j.length ≤ sizeLine ∧ Q (.str (i ++ j)) H
  | .ref a, .ref b => (match H a, H b with
    | some (.lst xs), some (.lst ys) => xs.length + ys.length ≤ sizeLine ∧ ∀ p H', New H p (.lst (xs ++ ys)) H' → Q (.ref p) H'
    | some (.tup xs), some (.tup ys) => xs ≠ [] ∧ xs.length + ys.length ≤ sizeLine ∧ (ys = [] → Q (.ref a) H) ∧ (ys ≠ [] → ∀ p H', New H p (.tup (xs ++ ys)) H' → Q (.ref p) H')
    | _, _ => False)
  | _, _ => False
theorem m_add : OpR X (binaryOp .Add) mAdd := by
  intro pins s σ H x y v u Q I rx ry h
  unfold mAdd at h
  split at h
  · rename_i i j
    exact op_add pins s σ H _ _ v u Q I rx ry ⟨i, j, rfl, rfl, h⟩
  · rename_i i j
    exact op_add_str pins s σ H _ _ v u Q I rx ry ⟨i, j, rfl, rfl, h.1, h.2⟩
  · rename_i a b
    split at h
    · rename_i xs ys e1 e2
      exact op_cat pins s σ H _ _ v u Q I rx ry ⟨a, b, xs, ys, rfl, rfl, e1, e2, h.1, fun p hp => h.2 p _ ⟨hp, rfl⟩⟩
    · rename_i xs ys e1 e2
      exact op_catT pins s σ H _ _ v u Q I rx ry ⟨a, b, xs, ys, rfl, rfl, .inl (.inl e1), .inl (.inl e2), h.1, h.2.1, h.2.2.1, fun z p hp => h.2.2.2 z p _ ⟨hp, rfl⟩⟩
    · exact h.elim
  · exact h.elim
def mSl : V → Option Int → Option Int → Hp → VK → Prop := fun x lo hi H Q =>
  match x with
  | .str z => z.length ≤ sizeLine ∧ Q (.str (cutS z lo hi)) H
  | .ref a => (match H a with
    | some (.lst xs) => ∀ p H', New H p (.lst (cutV xs lo hi)) H' → Q (.ref p) H'
    | _ => False)
  | _ => False
theorem m_sl : SlR X mSl := by
  intro pins s σ H x v vl vu lo hi sl Q I rx hs pl pu h
  unfold mSl at h
  split at h
  · rename_i z
    exact sl_str pins s σ H _ v vl vu lo hi sl Q I rx hs pl pu ⟨z, rfl, h.1, h.2⟩
  · rename_i a
    split at h
    · rename_i xs e
      exact sl_list pins s σ H _ v vl vu lo hi sl Q I rx hs pl pu ⟨a, xs, rfl, .inl (.inl e), fun p hp => h p _ ⟨hp, rfl⟩⟩
    · exact h.elim
  · exact h.elim
/-- tuple(x): of a list a new one, of a tuple itself -/
def mTupOf : List V → Hp → VK → Prop := fun vs H Q =>
  match vs with
  | [.ref p] => (match H p with
    | some (.lst ys) => ∀ p H', New H p (.tup ys) H' → Q (.ref p) H'
    | some (.tup _) => Q (.ref p) H
    | _ => False)
  | _ => False
theorem call_mTupOf : CallR X (.type "tuple") mTupOf := by
  intro pins s σ H xs us Q I r h
  unfold mTupOf at h
  split at h
  · rename_i p
    split at h
    · rename_i ys e
      exact call_tuple_of pins s σ H _ us Q I r ⟨p, ys, rfl, .inl ⟨.inl (.inl e), fun p hp => h p _ ⟨hp, rfl⟩⟩⟩
    · rename_i ys e
      exact call_tuple_of pins s σ H _ us Q I r ⟨p, ys, rfl, .inr ⟨.inl (.inl e), h⟩⟩
    · exact h.elim
  · exact h.elim
/-- list(x) of a list, a tuple -/
def mListOf : List V → Hp → VK → Prop := fun vs H Q =>
  match vs with
  | [.ref p] => (match seqAt H p with
    | some ys => ∀ p H', New H p (.lst ys) H' → Q (.ref p) H'
    | none => False)
  | _ => False
theorem call_mListOf : CallR X (.type "list") mListOf := by
  intro pins s σ H xs us Q I r h
  unfold mListOf at h
  split at h
  · rename_i p
    split at h
    · rename_i ys e
      exact call_list_of pins s σ H _ us Q I r ⟨p, ys, rfl, seqAt_sq e, fun p hp => h p _ ⟨hp, rfl⟩⟩
    · exact h.elim
  · exact h.elim
/-- int(..), min and max of two, str of an int -/
def mInt : List V → Hp → VK → Prop := fun vs H Q =>
  match vs with
  | [.int i] => Q (.int i) H
  | [.bl k] => Q (.int (if k then 1 else 0)) H
  | [.str a] => a.length ≤ 640 ∧ (match PySem.intText? a with
    | some n => Q (.int n) H
    | none => False)
  | _ => False
theorem call_mInt : CallR X (.type "int") mInt := by
  intro pins s σ H xs us Q I r h
  unfold mInt at h
  split at h
  · exact call_int1 pins s σ H _ us Q I r (.inl ⟨_, rfl, h⟩)
  · exact call_int1 pins s σ H _ us Q I r (.inr ⟨_, rfl, h⟩)
  · rename_i a
    obtain ⟨hl, h⟩ := h
    split at h
    · rename_i n e
      exact call_int_str pins s σ H _ us Q I r ⟨a, n, rfl, e, hl, h⟩
    · exact h.elim
  · exact h.elim
def mMin : List V → Hp → VK → Prop := fun vs H Q =>
  match vs with
  | [.int i, .int j] => Q (.int (if j < i then j else i)) H
  | _ => False
theorem call_mMin (hc : X.calm = true) : CallR X (.builtin "min") mMin := by
  intro pins s σ H xs us Q I r h
  unfold mMin at h
  split at h
  · exact call_min2 hc pins s σ H _ us Q I r ⟨_, _, rfl, h⟩
  · exact h.elim
def mMax : List V → Hp → VK → Prop := fun vs H Q =>
  match vs with
  | [.int i, .int j] => Q (.int (if j > i then j else i)) H
  | _ => False
theorem call_mMax (hc : X.calm = true) : CallR X (.builtin "max") mMax := by
  intro pins s σ H xs us Q I r h
  unfold mMax at h
  split at h
  · exact call_max2 hc pins s σ H _ us Q I r ⟨_, _, rfl, h⟩
  · exact h.elim
def mAbs : List V → Hp → VK → Prop := fun vs H Q =>
  match vs with
  | [.int i] => Q (.int (if i < 0 then -i else i)) H
  | _ => False
theorem call_mAbs : CallR X (.builtin "abs") mAbs := by
  intro pins s σ H xs us Q I r h
  unfold mAbs at h
  split at h
  · exact call_abs pins s σ H _ us Q I r ⟨_, rfl, h⟩
  · exact h.elim
def mStr : List V → Hp → VK → Prop := fun vs H Q =>
  match vs with
  | [.int i] => i.natAbs.log2 < 1920 ∧ Q (.str (toString i)) H
  | _ => False
theorem call_mStr : CallR X (.type "str") mStr := by
  intro pins s σ H xs us Q I r h
  unfold mStr at h
  split at h
  · exact call_str_int pins s σ H _ us Q I r ⟨_, rfl, h.1, h.2⟩
  · exact h.elim
/-! ### methods of texts -/
def mSplit : V → List V → Hp → VK → Prop := fun x vs H Q =>
  match x, vs with
  | .str a, [.str b] => (b.length == 0) = false ∧ a.length + 2 ≤ sizeLine ∧ ∀ p H', New H p (.lst ((Txt.split a b).map V.str)) H' → Q (.ref p) H'
  | _, _ => False
theorem m_split : MtR X "str.split" mSplit := by
  intro pins s σ H x xs v us Q I rx rxs h
  unfold mSplit at h
  split at h
  · exact mt_split pins s σ H _ _ v us Q I rx rxs ⟨_, _, rfl, rfl, h.1, h.2.1, fun p hp => h.2.2 p _ ⟨hp, rfl⟩⟩
  · exact h.elim
def mStarts : V → List V → Hp → VK → Prop := fun x vs H Q =>
  match x, vs with
  | .str a, [.str b] => Q (.bl (Txt.startswith a b)) H
  | _, _ => False
theorem m_starts : MtR X "str.startswith" mStarts := by
  intro pins s σ H x xs v us Q I rx rxs h
  unfold mStarts at h
  split at h
  · exact mt_startswith pins s σ H _ _ v us Q I rx rxs ⟨_, _, rfl, rfl, h⟩
  · exact h.elim
def mJoin : V → List V → Hp → VK → Prop := fun x vs H Q =>
  ∃ (a : Str) (p : Addr) (ys : List Str), x = .str a ∧ vs = [.ref p] ∧ seqAt H p = some (ys.map V.str) ∧ (ys.map (·.length)).sum + ys.length * a.length ≤ 16777216 ∧ Q (.str (Txt.join a ys)) H
theorem m_join : MtR X "str.join" mJoin := by
  intro pins s σ H x xs v us Q I rx rxs ⟨a, p, ys, e1, e2, h, hl, q⟩
  exact mt_join pins s σ H _ _ v us Q I rx rxs ⟨a, p, ys, e1, e2, seqAt_sq h, hl, q⟩
end
end MM

set_option Elab.async false
set_option linter.all false
set_option maxRecDepth 100000
set_option maxHeartbeats 4000000
namespace MM
open PySem PySem.Spec PyProof.Rows L2
/-! ### operators, by cases of the values -/
def oI (g : Int → Int → V) : R2 := fun x y H Q => match x, y with
  | .int i, .int j => Q (g i j) H
  | _, _ => False
def oIc (C : Int → Int → Prop) (g : Int → Int → V) : R2 := fun x y H Q => match x, y with
  | .int i, .int j => C i j ∧ Q (g i j) H
  | _, _ => False
def oEq : R2 := fun x y H Q => scal x y = true ∧ Q (.bl (decide (x = y))) H
def oNe : R2 := fun x y H Q => scal x y = true ∧ Q (.bl (!decide (x = y))) H
def oIsN : R2 := fun x y H Q => match y with
  | .non => Q (.bl (decide (x = .non))) H
  | _ => False
def oNotN : R2 := fun x y H Q => match y with
  | .non => Q (.bl (!decide (x = .non))) H
  | _ => False
def uNeg : V → Hp → VK → Prop := fun x H Q => match x with
  | .int i => Q (.int (-i)) H
  | _ => False
section
variable {X : Cx}
theorem oI_of {f : Value → Value → Sem Value} {g : Int → Int → V} (h : OpR X f (rI0 g)) : OpR X f (oI g) := by
  intro pins s σ H x y v u Q I rx ry q
  unfold oI at q
  split at q
  · exact h pins s σ H _ _ v u Q I rx ry ⟨_, _, rfl, rfl, q⟩
  · exact q.elim
theorem oIc_of {f : Value → Value → Sem Value} {C : Int → Int → Prop} {g : Int → Int → V} (h : OpR X f (rI C g)) : OpR X f (oIc C g) := by
  intro pins s σ H x y v u Q I rx ry q
  unfold oIc at q
  split at q
  · exact h pins s σ H _ _ v u Q I rx ry ⟨_, _, rfl, rfl, q.1, q.2⟩
  · exact q.elim
theorem m_sub : OpR X (binaryOp .Sub) (oI fun i j => .int (i - j)) := oI_of op_sub
theorem m_mul : OpR X (binaryOp .Mult) (oIc CMul fun i j => .int (i * j)) := oIc_of op_mul
theorem m_fdiv : OpR X (binaryOp .FloorDiv) (oIc CDiv fun i j => .int (i / j)) := oIc_of op_fdiv
theorem m_mod : OpR X (binaryOp .Mod) (oIc (fun _ j => 0 < j) fun i j => .int (i % j)) := oIc_of op_mod
theorem m_pow : OpR X (binaryOp .Pow) (oIc CPow fun i j => .int (i ^ j.toNat)) := oIc_of op_pow
theorem m_shl : OpR X (binaryOp .LShift) (oIc CPow fun i j => .int (i * 2 ^ j.toNat)) := oIc_of op_shl
theorem m_shr : OpR X (binaryOp .RShift) (oIc (fun _ j => 0 ≤ j) fun i j => .int (i / 2 ^ j.toNat)) := oIc_of op_shr
theorem m_and : OpR X (binaryOp .BitAnd) (oI fun i j => .int (Builtin.bitAnd i j)) := oI_of op_and
theorem m_or : OpR X (binaryOp .BitOr) (oI fun i j => .int (Builtin.bitOr i j)) := oI_of op_or
theorem m_lt : OpR X (compareOp .Lt) (oI fun i j => .bl (decide (i < j))) := oI_of op_lt
theorem m_le : OpR X (compareOp .LtE) (oI fun i j => .bl (decide (i ≤ j))) := oI_of op_le
theorem m_gt : OpR X (compareOp .Gt) (oI fun i j => .bl (decide (j < i))) := oI_of op_gt
theorem m_ge : OpR X (compareOp .GtE) (oI fun i j => .bl (decide (j ≤ i))) := oI_of op_ge
theorem m_eq : OpR X (compareOp .Eq) oEq := op_eq
theorem m_ne : OpR X (compareOp .NotEq) oNe := op_ne
theorem m_isN : OpR X (compareOp .Is) oIsN := by
  intro pins s σ H x y v u Q I rx ry q
  unfold oIsN at q
  split at q
  · exact op_isN pins s σ H _ _ v u Q I rx ry ⟨rfl, q⟩
  · exact q.elim
theorem m_notN : OpR X (compareOp .IsNot) oNotN := by
  intro pins s σ H x y v u Q I rx ry q
  unfold oNotN at q
  split at q
  · exact op_notN pins s σ H _ _ v u Q I rx ry ⟨rfl, q⟩
  · exact q.elim
theorem m_neg : UnR X (unaryOp .USub) uNeg := by
  intro pins s σ H x v Q I rx q
  unfold uNeg at q
  split at q
  · exact un_neg pins s σ H _ v Q I rx ⟨_, rfl, q⟩
  · exact q.elim
/-- a list of one item and more times an int -/
def oRep : R2 := fun x y H Q => match x, y with
  | .ref l, .int k => (match H l with
    | some (.lst xs) => -(2 ^ 63) ≤ k ∧ k < 2 ^ 63 ∧ xs.length * k.toNat ≤ sizeLine ∧ ∀ p H', New H p (.lst (List.replicate k.toNat xs).flatten) H' → Q (.ref p) H'
    | _ => False)
  | _, _ => False
theorem m_rep : OpR X (binaryOp .Mult) oRep := by
  intro pins s σ H x y v u Q I rx ry q
  unfold oRep at q
  split at q
  · split at q
    · rename_i e
      exact op_rep pins s σ H _ _ v u Q I rx ry ⟨_, _, _, rfl, rfl, e, q.1, q.2.1, q.2.2.1, fun p hp => q.2.2.2 p _ ⟨hp, rfl⟩⟩
    · exact q.elim
  · exact q.elim
/-! ### statements in short -/
theorem pm_set (i : Nat) {x : Str} {e : Expr} {te : TE} {pos pos' : Pos} (hN : X.N.Nodup) (he : PE X e te) (hi : X.N[i]? = some x := by rfl) (hx : Loc X.env.scope x := by first | exact Or.inl rfl | exact Or.inr rfl) (hs : swapsWith e (some (.Name x pos')) pos.line X.env = pure false := by rfl) (hf : X.fn x = true ∨ X.env.scope.names.lookup x = some .local := by first | exact .inl rfl | exact .inr rfl | assumption) :
    PS X (.Assign [.Name x pos'] e pos) (tAsg te (gName i)) := ps_set hN hi hx he hs hf
theorem pm_name (i : Nat) {x : Str} {pos : Pos} (hN : X.N.Nodup) (hi : X.N[i]? = some x := by rfl) (hx : Loc X.env.scope x := by first | exact Or.inl rfl | exact Or.inr rfl) (hf : X.fn x = true ∨ X.env.scope.names.lookup x = some .local := by first | exact .inl rfl | exact .inr rfl | assumption) : PG X (.Name x pos) (gName i) := pg_name hN hi hx hf
/-- a, b = e, e a tracked tuple of that length -/
def gTupM (n : Nat) (t : TGs) : TG := fun v σ H Q => match v with
  | .ref a => (match H a with
    | some (.tup xs) => xs.length = n ∧ t xs σ H Q
    | _ => False)
  | _ => False
theorem pm_tup {es : List Expr} {k : Nat} {pos : Pos} {t : TGs} {n : Nat} (hc : X.calm = true) (h : PGs X es t)
    (hn : (assignEach es X.env).length = n := by rfl) (hst : (assignEach es X.env).findIdx? (·.1) = none := by rfl) : PG X (.Tuple es k pos) (gTupM n t) := by
  refine ⟨fun pins s σ H v u Q I r q => ?_⟩
  unfold gTupM at q
  split at q
  · split at q
    · rename_i e
      exact (pg_tup hc h hn hst).run pins s σ H _ u Q I r ⟨_, _, rfl, .inl (.inl e), q.1, q.2⟩
    · exact q.elim
  · exact q.elim
end
/-! ### the head's facts, as what they say -/
open He in
def facP (K : PySem.W.Frag) (mg : Str → Option Value) : He.Fa → Prop
  | .glo x => mg x = some (.ref (ga K x))
  | .free x => mg x = none
  | .int x i => ∃ t, mg x = some (.int i t)
  | .str x z => ∃ t, mg x = some (.str z t)
  | .cls x => Cls K (ga K x)
  | .noat x f => NoAttr K (ga K x) f
  | .meth x m => Meth K (ga K x) m (ma K (ga K x) m)
  | .mkr x => Mk K (ga K x) (ma K (ga K x) "__init__")
  | .exc x => PySem.W.excIn K (ga K x) veBase "ValueError.__new__" = true ∧ PySem.W.keepIn K (.ref (ga K x)) = true ∧ PySem.W.subIn K (.ref (ga K x)) (.type "BaseException") = some true ∧ PySem.W.typeIn K (.ref (ga K x)) = some (.type "type")
  | .exm x y b => PySem.W.exmOne K (.ref (ga K x)) (.ref (ga K y)) = some b
  | .keep x => PySem.W.keepIn K (.ref (ga K x)) = true
  | .code _ _ => True
theorem facP_of {K : PySem.W.Frag} {h : Heap} {mg : Str → Option Value} (X : K.In h) (G : h.Ns mainGlobals mg) : ∀ {f : He.Fa}, f.ok K = true → facP K mg f
  | .glo x, c => He.glo_ok X G c
  | .free x, c => He.free_ok X G c
  | .int x i, c => He.int_ok X G c
  | .str x z, c => He.str_ok X G c
  | .cls x, c => He.cls_ok c
  | .noat x f, c => He.noat_ok c
  | .meth x m, c => He.meth_ok c
  | .mkr x, c => He.mkr_ok c
  | .exc x, c => He.exc_ok c
  | .exm x y b, c => He.exm_ok c
  | .keep x, c => He.keep_ok c
  | .code _ _, _ => trivial
theorem mem_at {α : Type} {l : List α} {a : α} (i : Nat) (h : l[i]? = some a) : a ∈ l := List.mem_of_getElem? h
/-- what a text's defs and classes are, behind the top -/
structure Tx (fa : List (List He.Fa)) (fn : List (List He.DefD)) (K : PySem.W.Frag) (mg : Str → Option Value) : Prop where
  f : ∀ l ∈ fa, ∀ f ∈ l, facP K mg f
  d : ∀ l ∈ fn, ∀ d ∈ l, ∃ fd, FunD K d.name d.qual d.params d.body d.scope (d.dvs K) (d.kws K) (He.fAd K d.at_) fd
theorem tx_of {fa : List (List He.Fa)} {fn : List (List He.DefD)} {K : PySem.W.Frag} {h : Heap} {mg : Str → Option Value} (X : K.In h) (G : h.Ns mainGlobals mg) (c : He.SaysD fa.flatten fn.flatten K) : Tx fa fn K mg :=
  ⟨fun l hl f hf => facP_of X G (He.SaysD.facts c (List.mem_flatten.mpr ⟨l, hl, hf⟩)), fun l hl d hd => He.SaysD.defs c (List.mem_flatten.mpr ⟨l, hl, hd⟩)⟩
section
variable {fa : List (List He.Fa)} {fn : List (List He.DefD)} {K : PySem.W.Frag} {mg : Str → Option Value}
theorem Tx.at (T : Tx fa fn K mg) (i j : Nat) {f : He.Fa} {l : List He.Fa} (h1 : fa[i]? = some l) (h2 : l[j]? = some f) : facP K mg f := T.f l (mem_at i h1) f (mem_at j h2)
theorem Tx.df (T : Tx fa fn K mg) (i j : Nat) {d : He.DefD} {l : List He.DefD} (h1 : fn[i]? = some l) (h2 : l[j]? = some d) : ∃ fd, FunD K d.name d.qual d.params d.body d.scope (d.dvs K) (d.kws K) (He.fAd K d.at_) fd := T.d l (mem_at i h1) d (mem_at j h2)
end
end MM

set_option Elab.async false
set_option linter.all false
set_option maxRecDepth 100000
set_option maxHeartbeats 4000000
namespace MM
open PySem PySem.Spec PyProof.Rows L2
/-! ### facts -/
def ExcP (K : PySem.W.Frag) (x : Str) : Prop := PySem.W.excIn K (He.ga K x) He.veBase "ValueError.__new__" = true ∧ PySem.W.keepIn K (.ref (He.ga K x)) = true ∧ PySem.W.subIn K (.ref (He.ga K x)) (.type "BaseException") = some true ∧ PySem.W.typeIn K (.ref (He.ga K x)) = some (.type "type")
theorem fo_one {K : PySem.W.Frag} {C : Addr} {f : Str} (c : Cls K C) (n : NoAttr K C f) : FOk K [C] f := fun D h => by
  cases List.mem_singleton.mp h
  exact ⟨c, n⟩
theorem fo_cons {K : PySem.W.Frag} {C : Addr} {L : List Addr} {f : Str} (a : FOk K [C] f) (b : FOk K L f) : FOk K (C :: L) f := fun D h => by
  rcases List.mem_cons.mp h with e | h
  · rw [e]; exact a C (List.mem_singleton.mpr rfl)
  · exact b D h
theorem kp_of {K : PySem.W.Frag} {d : He.DefD} (h : ∃ fd, FunD K d.name d.qual d.params d.body d.scope (d.dvs K) (d.kws K) (He.fAd K d.at_) fd) : PySem.W.keepIn K (.ref (He.fAd K d.at_)) = true := by
  obtain ⟨fd, F⟩ := h
  exact F.kp
/-! ### raise -/
def mRaise (C : Addr) (W : WX) : TS := fun _ σ H => W (.ref C) none σ H
theorem pm_raise {X : Cx} {W : WX} {x m : Str} {j : Nat} {p p2 pos pos2 : Pos} (tk : Takes X W) (ex : ExcP X.K x) (g : X.mg x = some (.ref (He.ga X.K x))) (hc : X.calm = true := by rfl) (hg : Gl X x := by rfl)
    (hdb : (x == ("__debug__" : Str)) = false := by decide) : PS X (.Raise (some (.Call (.Name x p) [.Constant (.str m) j p2] [] pos)) none pos2) (mRaise (He.ga X.K x) W) :=
  ps_raise hc tk (pmk_own PySem.F.excBase_ValueError ex.1 g ex.2.1 (raises_own ex.2.2.1 ex.2.2.2) hg hdb)
/-! ### a table of the top, text keys -/
def TabOk (K : PySem.W.Frag) (w : World) (a : Addr) (tab : List (Str × V)) : Prop := ∃ es n, KDict K w a es n ∧ ∀ z, ∃ r, PySem.W.nsIn K a z = some r ∧ RelO (tab.lookup z) r
def mTabIx (a : Addr) (tab : List (Str × V)) : R2 := fun x y H Q => x = .ref a ∧ match y with
  | .str z => (match tab.lookup z with
    | some v => Q v H
    | none => False)
  | _ => False
def mInTab (neg : Bool) (a : Addr) (tab : List (Str × V)) : R2 := fun x y H Q => y = .ref a ∧ match x with
  | .str z => Q (.bl (if neg then !(tab.lookup z).isSome else (tab.lookup z).isSome)) H
  | _ => False
section
variable {X : Cx} {a : Addr} {tab : List (Str × V)}
theorem m_tabIx (T : TabOk X.K X.w a tab) : IxR X (mTabIx a tab) := by
  intro value slice pins s σ H x y v u Q I rx ry h hs
  obtain ⟨es, n, D, hz⟩ := T
  obtain ⟨rfl, h⟩ := h
  split at h
  · rename_i z
    split at h
    · rename_i v0 e
      obtain ⟨r, hr, rel⟩ := hz z
      rw [e] at rel
      cases r with
      | none => exact rel.elim
      | some u0 => exact ix_kdict value slice pins s σ H _ _ v u Q I rx ry ⟨a, z, v0, rfl, rfl, ⟨es, n, u0, D.at_, D.lit, hr, rel⟩, h⟩ hs
    · exact h.elim
  · exact h.elim
theorem relO_some {o : Option V} {r : Option Value} (h : RelO o r) : r.isSome = o.isSome := by
  cases o <;> cases r <;> first | rfl | exact (show False from h).elim
theorem m_inTab (T : TabOk X.K X.w a tab) : OpR X (compareOp .In) (mInTab false a tab) := by
  intro pins s σ H x y v u Q I rx ry h
  obtain ⟨es, n, D, hz⟩ := T
  obtain ⟨rfl, h⟩ := h
  split at h
  · rename_i z
    obtain ⟨r, hr, rel⟩ := hz z
    refine op_in_kd D pins s σ H _ _ v u Q I rx ry ⟨z, r, rfl, rfl, hr, ?_⟩
    rw [relO_some rel]
    exact h
  · exact h.elim
theorem m_notInTab (T : TabOk X.K X.w a tab) : OpR X (compareOp .NotIn) (mInTab true a tab) := by
  intro pins s σ H x y v u Q I rx ry h
  obtain ⟨es, n, D, hz⟩ := T
  obtain ⟨rfl, h⟩ := h
  split at h
  · rename_i z
    obtain ⟨r, hr, rel⟩ := hz z
    refine op_notIn_kd D pins s σ H _ _ v u Q I rx ry ⟨z, r, rfl, rfl, hr, ?_⟩
    rw [relO_some rel]
    exact h
  · exact h.elim
end
/-- from the head's looks at the table -/
theorem find_key {P : PySem.Params} {z : Str} : ∀ {l : List DictEntry} {ks : List Str}, l.map He.keyOf = He.keysIn P ks → z ∉ ks → l.find? (·.key.isStr z) = none ∧ l.any (·.refKey) = false
  | [], ks, h, hz => ⟨rfl, rfl⟩
  | e :: l, [], h, hz => by cases h
  | e :: l, k :: ks, h, hz => by
    unfold He.keysIn at h
    rw [List.map_cons, List.map_cons] at h
    injection h with h1 h2
    obtain ⟨a, b⟩ := find_key (ks := ks) h2 (fun m => hz (List.mem_cons_of_mem _ m))
    unfold He.keyOf at h1
    split at h1
    · rename_i x t ek
      obtain rfl : x = k := congrArg Prod.fst (Option.some.inj h1)
      have hne : (e.key.isStr z) = false := by
        rw [PySem.W.isStr_of, ek]
        have this : x ≠ z := fun q => hz (by rw [← q]; exact List.mem_cons_self)
        cases hh : Value.isStrOf z (.str x t) with
        | false => rfl
        | true =>
          obtain ⟨t', e'⟩ := Value.isStrOf_shape hh
          injection e' with e1 _
          exact absurd e1 this
      refine ⟨by rw [List.find?_cons, hne]; exact a, ?_⟩
      rw [List.any_cons, b]
      have : e.refKey = false := by
        unfold DictEntry.refKey
        rw [ek]
      rw [this]; rfl
    · cases h1
theorem lookup_none {β : Type} {z : Str} : ∀ {l : List (Str × β)}, z ∉ l.map (·.1) → l.lookup z = none
  | [], _ => rfl
  | (k, v) :: l, h => by
    have hne : (z == k) = false := by
      have : z ≠ k := fun q => h (by rw [q]; exact List.mem_cons_self)
      simpa using this
    rw [List.lookup_cons, hne]
    exact lookup_none fun m => h (List.mem_cons_of_mem _ m)
theorem lookup_mem {β : Type} {z : Str} {v : β} : ∀ {l : List (Str × β)}, (l.map (·.1)).Nodup → (z, v) ∈ l → l.lookup z = some v
  | (k, u) :: l, nd, h => by
    rw [List.map_cons, List.nodup_cons] at nd
    rcases List.mem_cons.mp h with e | h
    · cases e
      rw [List.lookup_cons, beq_self_eq_true]
    · have hne : (z == k) = false := by
        have : z ≠ k := fun q => nd.1 (by rw [← q]; exact List.mem_map.mpr ⟨(z, v), h, rfl⟩)
        simpa using this
      rw [List.lookup_cons, hne]
      exact lookup_mem nd.2 h
theorem tab_of {K : PySem.W.Frag} {w : World} {a : Addr} {kvs : List (Str × He.Dv)} (h : He.dicW K a = some (He.keysIn w.params (kvs.map (·.1)))) (hv : He.valsB K a kvs = true) (nd : (kvs.map (·.1)).Nodup) : TabOk K w a (kvs.map fun q => (q.1, q.2.v K)) := by
  obtain ⟨es, n, D⟩ := He.dicW_ok h
  refine ⟨es, n, D, fun z => ?_⟩
  have hm : (kvs.map fun q => (q.1, q.2.v K)).map (·.1) = kvs.map (·.1) := by rw [List.map_map]; rfl
  by_cases hz : z ∈ kvs.map (·.1)
  · obtain ⟨q, hq, rfl⟩ := List.mem_map.mp hz
    obtain ⟨u, hu, ru⟩ := He.valsB_ok hv hq
    refine ⟨some u, hu, ?_⟩
    rw [lookup_mem (v := q.2.v K) (by rw [hm]; exact nd) (List.mem_map.mpr ⟨q, hq, rfl⟩)]
    exact ru
  · refine ⟨none, ?_, ?_⟩
    · have e : es.toList.map He.keyOf = He.keysIn w.params (kvs.map (·.1)) := by
        have h' := h
        unfold He.dicW at h'
        rw [D.at_] at h'
        simp only at h'
        split at h'
        · exact Option.some.inj h'
        · cases h'
      obtain ⟨h1, h2⟩ := find_key e hz
      unfold PySem.W.nsIn
      rw [D.at_]
      simp only [h1, h2]
      rfl
    · rw [lookup_none (by rw [hm]; exact hz)]
      trivial
theorem not_dec {p : Prop} [Decidable p] : ((!decide p) = true) = ¬ p := by simp
theorem not_b {b : Bool} : ((!b) = true) = (b = false) := by simp
theorem lo62 {i : Int} (h : -1000000 ≤ i) : -2 ^ 62 ≤ i := Int.le_trans (by decide) h
theorem hi62 {i : Int} (h : i ≤ 1000000) : i < 2 ^ 62 := Int.lt_of_le_of_lt h (by decide)
theorem lo63 {i : Int} (h : -1000000 ≤ i) : -2 ^ 63 ≤ i := Int.le_trans (by decide) h
theorem hi63 {i : Int} (h : i ≤ 1000000) : i < 2 ^ 63 := Int.lt_of_le_of_lt h (by decide)
theorem sz_le {n : Nat} (h : n ≤ 1000000) : n ≤ sizeLine := Nat.le_trans h (by decide)
theorem sz_lt {n : Nat} (h : n < 1000000) : n < sizeLine := Nat.lt_of_lt_of_le h (by decide)
theorem isA_tt : isA "tuple" "tuple" = true := by decide
theorem isA_ss : isA "str" "str" = true := by decide
theorem isA_ii : isA "int" "int" = true := by decide
theorem isA_bb : isA "bool" "bool" = true := by decide
theorem isA_ll : isA "list" "list" = true := by decide
theorem isA_bi : isA "bool" "int" = true := by decide
theorem isA_dd : isA "dict" "dict" = true := by decide
theorem isA_ib : isA "int" "bool" = false := by decide
theorem isA_is : isA "int" "str" = false := by decide
theorem isA_it : isA "int" "tuple" = false := by decide
theorem isA_il : isA "int" "list" = false := by decide
theorem isA_si : isA "str" "int" = false := by decide
theorem isA_sb : isA "str" "bool" = false := by decide
theorem isA_ti : isA "tuple" "int" = false := by decide
theorem isA_tb : isA "tuple" "bool" = false := by decide
theorem isA_ts : isA "tuple" "str" = false := by decide
theorem isA_tl : isA "tuple" "list" = false := by decide
theorem isA_li : isA "list" "int" = false := by decide
theorem isA_lb : isA "list" "bool" = false := by decide
theorem isA_ls : isA "list" "str" = false := by decide
theorem isA_lt : isA "list" "tuple" = false := by decide
theorem isA_ni : isA "NoneType" "int" = false := by decide
theorem isA_nb : isA "NoneType" "bool" = false := by decide
theorem isA_ns : isA "NoneType" "str" = false := by decide
theorem isA_nl : isA "NoneType" "list" = false := by decide
theorem isA_nt : isA "NoneType" "tuple" = false := by decide
theorem isA_bs : isA "bool" "str" = false := by decide
theorem isA_bl : isA "bool" "list" = false := by decide
theorem isA_bt : isA "bool" "tuple" = false := by decide
theorem isA_st : isA "str" "tuple" = false := by decide
theorem isA_sl : isA "str" "list" = false := by decide
end MM

set_option Elab.async false
set_option linter.all false
set_option maxRecDepth 100000
set_option maxHeartbeats 4000000
namespace MM
open PySem PySem.Spec PyProof.Rows L2
section
variable {K : PySem.W.Frag} {te : TE} {ta : TA} {g : TG} {tb : TS} {D : Ends} {σ : L2.St} {H H1 : Hp}
/-! ### loops: what is walked is given by what it evaluates to -/
theorem m_rng1 {n : Int} (hta : ∀ R : List V → Hp → Prop, R [.int n] H1 → ta σ H R) (h1 : -1000000 ≤ n) (h2 : n ≤ 1000000) (Pv : Nat → L2.St → Hp → Prop) (h0 : Pv 0 σ H1)
    (hs : ∀ (i : Nat) σ' H', (i : Int) < n → Pv i σ' H' → g (.int i) σ' H' fun σ2 H2 => tb { D with nx := Pv (i + 1), ct := Pv (i + 1), bk := D.nx } σ2 H2) (hd : ∀ σ' H', Pv n.toNat σ' H' → D.nx σ' H') : tFor (iRng1 ta) g tb D σ H := by
  refine hta _ ⟨n, rfl, lo62 h1, hi62 h2, for_range (lo := 0) (n := n.toNat) Pv h0 (fun i σ' H' hi p => ?_) hd⟩
  rw [Int.zero_add]
  exact hs i σ' H' (by omega) p
theorem m_rng2 {lo n : Int} (hta : ∀ R : List V → Hp → Prop, R [.int lo, .int n] H1 → ta σ H R) (h1 : -1000000 ≤ lo ∧ lo ≤ 1000000) (h2 : -1000000 ≤ n ∧ n ≤ 1000000) (Pv : Nat → L2.St → Hp → Prop) (h0 : Pv 0 σ H1)
    (hs : ∀ (i : Nat) σ' H', lo + (i : Int) < n → Pv i σ' H' → g (.int (lo + i)) σ' H' fun σ2 H2 => tb { D with nx := Pv (i + 1), ct := Pv (i + 1), bk := D.nx } σ2 H2) (hd : ∀ σ' H', Pv (n - lo).toNat σ' H' → D.nx σ' H') : tFor (iRng2 ta) g tb D σ H := by
  refine hta _ ⟨lo, n, rfl, ⟨lo62 h1.1, hi62 h1.2, lo62 h2.1, hi62 h2.2⟩, for_range (lo := lo) (n := (n - lo).toNat) Pv h0 (fun i σ' H' hi p => ?_) hd⟩
  exact hs i σ' H' (by omega) p
theorem m_rng3 {lo n c : Int} {m : Nat} (hta : ∀ R : List V → Hp → Prop, R [.int lo, .int n, .int c] H1 → ta σ H R) (hc : RgC lo n c m) (Pv : Nat → L2.St → Hp → Prop) (h0 : Pv 0 σ H1)
    (hs : ∀ (i : Nat) σ' H', i < m → Pv i σ' H' → g (.int (lo + i * c)) σ' H' fun σ2 H2 => tb { D with nx := Pv (i + 1), ct := Pv (i + 1), bk := D.nx } σ2 H2) (hd : ∀ σ' H', Pv m σ' H' → D.nx σ' H') : tFor (iRng3 ta) g tb D σ H :=
  hta _ ⟨lo, n, c, m, rfl, hc, for_rangeC (lo := lo) (c := c) (n := m) Pv h0 hs hd⟩
theorem m_list {a : Addr} {xs : List V} (hte : ∀ R : V → Hp → Prop, R (.ref a) H1 → te σ H R) (ha : SqL K H1 a xs) (Pv : Nat → L2.St → Hp → Prop) (h0 : Pv 0 σ H1) (hl : ∀ i σ' H', i ≤ xs.length → Pv i σ' H' → SqL K H' a xs)
    (hs : ∀ (i : Nat) x σ' H', xs[i]? = some x → Pv i σ' H' → g x σ' H' fun σ2 H2 => tb { D with nx := Pv (i + 1), ct := Pv (i + 1), bk := D.nx } σ2 H2) (hd : ∀ σ' H', Pv xs.length σ' H' → D.nx σ' H') : tFor (iList K te) g tb D σ H :=
  hte _ ⟨a, rfl, ⟨xs, ha⟩, for_list Pv h0 hl hs hd⟩
theorem m_tupl {a : Addr} {xs : List V} (hte : ∀ R : V → Hp → Prop, R (.ref a) H1 → te σ H R) (ha : SqT K H1 a xs) (Pv : Nat → L2.St → Hp → Prop) (h0 : Pv 0 σ H1) (hl : ∀ i σ' H', i ≤ xs.length → Pv i σ' H' → SqT K H' a xs)
    (hs : ∀ (i : Nat) x σ' H', xs[i]? = some x → Pv i σ' H' → g x σ' H' fun σ2 H2 => tb { D with nx := Pv (i + 1), ct := Pv (i + 1), bk := D.nx } σ2 H2) (hd : ∀ σ' H', Pv xs.length σ' H' → D.nx σ' H') : tFor (iTup K te) g tb D σ H :=
  hte _ ⟨a, rfl, ⟨xs, ha⟩, for_tup Pv h0 hl hs hd⟩
/-- the turns of a loop of n turns, the i-th yielding what Y says -/
theorem for_turns {J : It} {n : Nat} (Pv : Nat → L2.St → Hp → Prop) (h0 : Pv 0 σ H) (hstop : ∀ σ' H', Pv n σ' H' → J.stop n H') (hgo : ∀ i σ' H', i < n → Pv i σ' H' → J.go i H')
    (hs : ∀ i x σ' H' H'', i < n → Pv i σ' H' → J.yld i H' x H'' → g x σ' H'' fun σ2 H2 => tb { D with nx := Pv (i + 1), ct := Pv (i + 1), bk := D.nx } σ2 H2) (hd : ∀ σ' H', Pv n σ' H' → D.nx σ' H') :
    ∃ W : Nat → Nat → L2.St → Hp → Prop, (∃ m, W 0 m σ H) ∧ ∀ i m σ H, W i m σ H →
      (J.stop i H ∧ D.nx σ H) ∨ (J.go i H ∧ ∃ N : L2.St → Hp → Prop, (∀ σ' H', N σ' H' → ∃ m', m' < m ∧ W (i + 1) m' σ' H') ∧ ∀ x H', J.yld i H x H' → g x σ H' fun σ2 H2 => tb { D with nx := N, ct := N, bk := D.nx } σ2 H2) := by
  refine ⟨fun i m σ H => i ≤ n ∧ m = n - i ∧ Pv i σ H, ⟨n, Nat.zero_le _, rfl, h0⟩, fun i m σ' H' ⟨hi, hm, p⟩ => ?_⟩
  by_cases he : i = n
  · subst he
    exact .inl ⟨hstop _ _ p, hd _ _ p⟩
  · have hlt : i < n := Nat.lt_of_le_of_ne hi he
    exact .inr ⟨hgo i _ _ hlt p, Pv (i + 1), fun σ2 H2 p2 => ⟨n - (i + 1), by omega, by omega, rfl, p2⟩, fun x H2 y => hs i x σ' H' H2 hlt p y⟩
theorem m_str {x : Str} (hte : ∀ R : V → Hp → Prop, R (.str x) H1 → te σ H R) (Pv : Nat → L2.St → Hp → Prop) (h0 : Pv 0 σ H1)
    (hs : ∀ (i : Nat) c σ' H', (TL.tl x)[i]? = some c → Pv i σ' H' → g (.str ⟨#[c]⟩) σ' H' fun σ2 H2 => tb { D with nx := Pv (i + 1), ct := Pv (i + 1), bk := D.nx } σ2 H2) (hd : ∀ σ' H', Pv (TL.tl x).length σ' H' → D.nx σ' H') : tFor (iStr te) g tb D σ H := by
  refine hte _ ⟨x, rfl, for_turns (J := Its x) (n := (TL.tl x).length) Pv h0 (fun σ' H' _ => ?_) (fun i σ' H' hi _ => ?_) (fun i v σ' H' H'' hi p y => ?_) hd⟩
  · show x.cps.size ≤ x.cps.toList.length
    simp
  · show i < x.cps.size
    simpa using hi
  · obtain ⟨rfl, c, hc, rfl⟩ := y
    exact hs i c σ' _ (by show x.cps.toList[i]? = some c; simpa using hc) p
theorem m_rev {a : Addr} {xs : List V} (hta : ∀ R : List V → Hp → Prop, R [.ref a] H1 → ta σ H R) (ha : SqL K H1 a xs) (Pv : Nat → L2.St → Hp → Prop) (h0 : Pv 0 σ H1) (hl : ∀ i σ' H', i ≤ xs.length → Pv i σ' H' → SqL K H' a xs)
    (hs : ∀ (i : Nat) x σ' H', i < xs.length → xs[xs.length - 1 - i]? = some x → Pv i σ' H' → g x σ' H' fun σ2 H2 => tb { D with nx := Pv (i + 1), ct := Pv (i + 1), bk := D.nx } σ2 H2) (hd : ∀ σ' H', Pv xs.length σ' H' → D.nx σ' H') : tFor (iRev K ta) g tb D σ H := by
  refine hta _ ⟨a, xs, rfl, ha, for_turns (J := Itv K a xs.length) (n := xs.length) Pv h0 (fun σ' H' _ => Nat.le_refl _) (fun i σ' H' hi p => ⟨hi, xs, xs[xs.length - 1 - i]'(by omega), hl i _ _ (Nat.le_of_lt hi) p, List.getElem?_eq_getElem _⟩) (fun i v σ' H' H'' hi p y => ?_) hd⟩
  obtain ⟨rfl, y⟩ := y
  exact hs i v σ' _ hi (y xs (hl i _ _ (Nat.le_of_lt hi) p)) p
theorem m_enum {a : Addr} {xs : List V} (hta : ∀ R : List V → Hp → Prop, R [.ref a] H1 → ta σ H R) (ha : SqL K H1 a xs) (Pv : Nat → L2.St → Hp → Prop) (h0 : Pv 0 σ H1) (hl : ∀ i σ' H', i ≤ xs.length → Pv i σ' H' → SqL K H' a xs)
    (hs : ∀ (i : Nat) x T σ' H' H'', xs[i]? = some x → Pv i σ' H' → New H' T (.tup [.int (i : Nat), x]) H'' → g (.ref T) σ' H'' fun σ2 H2 => tb { D with nx := Pv (i + 1), ct := Pv (i + 1), bk := D.nx } σ2 H2) (hd : ∀ σ' H', Pv xs.length σ' H' → D.nx σ' H') : tFor (iEnum K ta) g tb D σ H := by
  refine hta _ ⟨a, xs, rfl, ha, for_turns (J := Ite K a) (n := xs.length) Pv h0 (fun σ' H' p => ⟨xs, hl _ _ _ (Nat.le_refl _) p, Nat.le_refl _⟩) (fun i σ' H' hi p => ⟨xs, xs[i], hl i _ _ (Nat.le_of_lt hi) p, List.getElem?_eq_getElem hi⟩) (fun i v σ' H' H'' hi p y => ?_) hd⟩
  obtain ⟨T, x, rfl, hn, rfl, y⟩ := y
  exact hs i x T σ' H' _ (y xs (hl i _ _ (Nat.le_of_lt hi) p)) p ⟨hn, rfl⟩
theorem m_zipS {a : Addr} {x : Str} {xs : List V} (hta : ∀ R : List V → Hp → Prop, R [.ref a, .str x] H1 → ta σ H R) (ha : SqL K H1 a xs) (Pv : Nat → L2.St → Hp → Prop) (h0 : Pv 0 σ H1) (hl : ∀ i σ' H', i ≤ xs.length → Pv i σ' H' → SqL K H' a xs)
    (hs : ∀ (i : Nat) v c T σ' H' H'', xs[i]? = some v → (TL.tl x)[i]? = some c → Pv i σ' H' → New H' T (.tup [v, .str ⟨#[c]⟩]) H'' → g (.ref T) σ' H'' fun σ2 H2 => tb { D with nx := Pv (i + 1), ct := Pv (i + 1), bk := D.nx } σ2 H2) (hd : ∀ σ' H', Pv (min xs.length (TL.tl x).length) σ' H' → D.nx σ' H') : tFor (iZipS K ta) g tb D σ H := by
  have el : (TL.tl x).length = x.cps.size := by show x.cps.toList.length = _; simp
  refine hta _ ⟨a, x, xs, rfl, ha, for_turns (J := ItzS K a x) (n := min xs.length (TL.tl x).length) Pv h0 (fun σ' H' p => ⟨xs, hl _ _ _ (Nat.min_le_left _ _) p, Nat.min_le_left _ _, by rw [← el]; exact Nat.min_le_right _ _, by rw [← el]; omega⟩)
    (fun i σ' H' hi p => ⟨xs, xs[i]'(by omega), hl i _ _ (by omega) p, List.getElem?_eq_getElem (by omega), by omega⟩) (fun i v σ' H' H'' hi p y => ?_) hd⟩
  obtain ⟨T, v1, c, rfl, hn, rfl, y, hc⟩ := y
  exact hs i v1 c T σ' H' _ (y xs (hl i _ _ (by omega) p)) (by show x.cps.toList[i]? = some c; simpa using hc) p ⟨hn, rfl⟩
/-! ### the turns of an iterator, once for loops and comprehensions -/
/-- what a loop does with the iterator it got -/
def Lp (g : TG) (tb : TS) (D : Ends) (σ : L2.St) : It → Hp → Prop := fun J H1 => ∃ W : Nat → Nat → L2.St → Hp → Prop, (∃ m, W 0 m σ H1) ∧ ∀ i m σ H, W i m σ H →
  (J.stop i H ∧ D.nx σ H) ∨ (J.go i H ∧ ∃ N : L2.St → Hp → Prop, (∀ σ' H', N σ' H' → ∃ m', m' < m ∧ W (i + 1) m' σ' H') ∧ ∀ x H', J.yld i H x H' → g x σ H' fun σ2 H2 => tb { D with nx := N, ct := N, bk := D.nx } σ2 H2)
theorem tFor_Lp {wi : TI} : tFor wi g tb D σ H = wi σ H (Lp g tb D σ) := rfl
/-- what a list display by turns does with the iterator it got -/
def Lc (g : TG) (tt : TT) (te : TE) (vs : List Nat) (σ : L2.St) (Q : VK) : It → Hp → Prop := fun J H1 => ∀ D, H1 D = none → ∃ W : Nat → Nat → Hp → Prop, (∃ m, W 0 m (upd H1 D (.lst []))) ∧ ∀ i m H, W i m H →
  (J.stop i H ∧ Q (.ref D) H) ∨ (J.go i H ∧ ∃ Nx : Hp → Prop, (∀ H', Nx H' → ∃ m', m' < m ∧ W (i + 1) m' H') ∧ ∀ x H', J.yld i H x H' → g x (wipe σ vs) H' fun σ2 H2 => wipe σ2 vs = wipe σ vs ∧ tt σ2 H2 fun b H3 =>
    if b = true then te σ2 H3 fun y H4 => ∃ acc, H4 D = some (.lst acc) ∧ acc.length < sizeLine ∧ Nx (upd H4 D (.lst (acc ++ [y]))) else Nx H3)
theorem tLc_Lc {wi : TI} {tt : TT} {vs : List Nat} {Q : VK} : tLc wi g tt te vs σ H Q = wi σ H (Lc g tt te vs σ Q) := rfl
/-- J makes n turns wherever ok holds; the i-th yields as Y says -/
structure Turns (J : It) (n : Nat) (ok : Hp → Prop) (Y : Nat → Hp → V → Hp → Prop) : Prop where
  go : ∀ i H, i < n → ok H → J.go i H
  stop : ∀ H, ok H → J.stop n H
  yld : ∀ i H x H', i < n → ok H → J.yld i H x H' → Y i H x H'
theorem lp {J : It} {n : Nat} {ok : Hp → Prop} {Y : Nat → Hp → V → Hp → Prop} (T : Turns J n ok Y) (Pv : Nat → L2.St → Hp → Prop) (h0 : Pv 0 σ H) (hok : ∀ i σ' H', i ≤ n → Pv i σ' H' → ok H')
    (hs : ∀ i x σ' H' H'', i < n → Pv i σ' H' → Y i H' x H'' → g x σ' H'' fun σ2 H2 => tb { D with nx := Pv (i + 1), ct := Pv (i + 1), bk := D.nx } σ2 H2) (hd : ∀ σ' H', Pv n σ' H' → D.nx σ' H') : Lp g tb D σ J H :=
  for_turns (J := J) (n := n) Pv h0 (fun σ' H' p => T.stop _ (hok _ _ _ (Nat.le_refl _) p)) (fun i σ' H' hi p => T.go _ _ hi (hok _ _ _ (Nat.le_of_lt hi) p))
    (fun i x σ' H' H'' hi p y => hs i x σ' H' H'' hi p (T.yld _ _ _ _ hi (hok _ _ _ (Nat.le_of_lt hi) p) y)) hd
theorem lc {J : It} {n : Nat} {ok : Hp → Prop} {Y : Nat → Hp → V → Hp → Prop} {tt : TT} {vs : List Nat} {Q : VK} (T : Turns J n ok Y)
    (h : ∀ A H2, New H A (.lst []) H2 → ∃ Pv : Nat → Hp → Prop, Pv 0 H2 ∧ (∀ i H', i ≤ n → Pv i H' → ok H') ∧
      (∀ i x H' H'', i < n → Pv i H' → Y i H' x H'' → g x (wipe σ vs) H'' fun σ2 H2 => wipe σ2 vs = wipe σ vs ∧ tt σ2 H2 fun b H3 =>
        if b = true then te σ2 H3 fun y H4 => ∃ acc, H4 A = some (.lst acc) ∧ acc.length < sizeLine ∧ Pv (i + 1) (upd H4 A (.lst (acc ++ [y]))) else Pv (i + 1) H3) ∧
      ∀ H', Pv n H' → Q (.ref A) H') : Lc g tt te vs σ Q J H := by
  intro A hA
  obtain ⟨Pv, h0, hok, hs, hd⟩ := h A _ ⟨hA, rfl⟩
  refine ⟨fun i m H' => i ≤ n ∧ m = n - i ∧ Pv i H', ⟨n, Nat.zero_le _, rfl, h0⟩, fun i m H' ⟨hi, hm1, p⟩ => ?_⟩
  by_cases hin : i = n
  · subst hin
    exact .inl ⟨T.stop _ (hok _ _ (Nat.le_refl _) p), hd _ p⟩
  · have hlt : i < n := Nat.lt_of_le_of_ne hi hin
    exact .inr ⟨T.go _ _ hlt (hok _ _ hi p), Pv (i + 1), fun H5 p5 => ⟨n - (i + 1), by omega, by omega, rfl, p5⟩, fun x H'' y => hs i x H' H'' hlt p (T.yld _ _ _ _ hlt (hok _ _ hi p) y)⟩
end
theorem t_rng {lo : Int} {n : Nat} : Turns (Itr lo n) n (fun _ => True) (fun i H x H' => H' = H ∧ x = .int (lo + i)) := ⟨fun i H hi _ => hi, fun H _ => Nat.le_refl _, fun i H x H' _ _ y => y⟩
theorem t_rngC {lo c : Int} {n : Nat} : Turns (Itc lo c n) n (fun _ => True) (fun i H x H' => H' = H ∧ x = .int (lo + i * c)) := ⟨fun i H hi _ => hi, fun H _ => Nat.le_refl _, fun i H x H' _ _ y => y⟩
theorem t_list {K : PySem.W.Frag} {a : Addr} (xs : List V) : Turns (Itl K a) xs.length (fun H => SqL K H a xs) (fun i H x H' => H' = H ∧ xs[i]? = some x) :=
  ⟨fun i H hi h => ⟨xs, xs[i], h, List.getElem?_eq_getElem hi⟩, fun H h => ⟨xs, h, Nat.le_refl _⟩, fun i H x H' hi h y => ⟨y.1, y.2 xs h⟩⟩
theorem t_tup {K : PySem.W.Frag} {a : Addr} (xs : List V) : Turns (Itt K a) xs.length (fun H => SqT K H a xs) (fun i H x H' => H' = H ∧ xs[i]? = some x) :=
  ⟨fun i H hi h => ⟨xs, xs[i], h, List.getElem?_eq_getElem hi⟩, fun H h => ⟨xs, h, Nat.le_refl _⟩, fun i H x H' hi h y => ⟨y.1, y.2 xs h⟩⟩
theorem t_str {x : Str} : Turns (Its x) (TL.tl x).length (fun _ => True) (fun i H v H' => H' = H ∧ ∃ c, (TL.tl x)[i]? = some c ∧ v = .str ⟨#[c]⟩) := by
  have el : (TL.tl x).length = x.cps.size := by show x.cps.toList.length = _; simp
  exact ⟨fun i H hi _ => by show i < x.cps.size; omega, fun H _ => by show x.cps.size ≤ _; omega, fun i H v H' _ _ y => ⟨y.1, y.2.choose, by have := y.2.choose_spec.1; show x.cps.toList[i]? = _; simpa using this, y.2.choose_spec.2⟩⟩
theorem t_rev {K : PySem.W.Frag} {a : Addr} (xs : List V) : Turns (Itv K a xs.length) xs.length (fun H => SqL K H a xs) (fun i H x H' => H' = H ∧ xs[xs.length - 1 - i]? = some x) :=
  ⟨fun i H hi h => ⟨hi, xs, xs[xs.length - 1 - i]'(by omega), h, List.getElem?_eq_getElem _⟩, fun H h => Nat.le_refl _, fun i H x H' hi h y => ⟨y.1, y.2 xs h⟩⟩
theorem t_enum {K : PySem.W.Frag} {a : Addr} (xs : List V) : Turns (Ite K a) xs.length (fun H => SqL K H a xs) (fun i H v H' => ∃ T x, v = .ref T ∧ New H T (.tup [.int (i : Nat), x]) H' ∧ xs[i]? = some x) :=
  ⟨fun i H hi h => ⟨xs, xs[i], h, List.getElem?_eq_getElem hi⟩, fun H h => ⟨xs, h, Nat.le_refl _⟩, fun i H x H' hi h ⟨T, x1, e, hn, e2, y⟩ => ⟨T, x1, e, ⟨hn, e2⟩, y xs h⟩⟩
theorem t_zipS {K : PySem.W.Frag} {a : Addr} {x : Str} (xs : List V) : Turns (ItzS K a x) (min xs.length (TL.tl x).length) (fun H => SqL K H a xs) (fun i H v H' => ∃ T v1 c, v = .ref T ∧ New H T (.tup [v1, .str ⟨#[c]⟩]) H' ∧ xs[i]? = some v1 ∧ (TL.tl x)[i]? = some c) := by
  have el : (TL.tl x).length = x.cps.size := by show x.cps.toList.length = _; simp
  exact ⟨fun i H hi h => ⟨xs, xs[i]'(by omega), h, List.getElem?_eq_getElem (by omega), by omega⟩, fun H h => ⟨xs, h, Nat.min_le_left _ _, by rw [← el]; exact Nat.min_le_right _ _, by rw [← el]; omega⟩,
    fun i H v H' hi h ⟨T, v1, c, e, hn, e2, y, hc⟩ => ⟨T, v1, c, e, ⟨hn, e2⟩, y xs h, by show x.cps.toList[i]? = some c; simpa using hc⟩⟩
theorem t_zip {K : PySem.W.Frag} {a b : Addr} (xs ys : List V) : Turns (Itz K a b) (min xs.length ys.length) (fun H => SqL K H a xs ∧ SqL K H b ys) (fun i H v H' => ∃ T x y, v = .ref T ∧ New H T (.tup [x, y]) H' ∧ xs[i]? = some x ∧ ys[i]? = some y) :=
  ⟨fun i H hi h => ⟨xs, ys, xs[i]'(by omega), ys[i]'(by omega), h.1, h.2, List.getElem?_eq_getElem (by omega), List.getElem?_eq_getElem (by omega)⟩, fun H h => ⟨xs, ys, h.1, h.2, by omega⟩,
    fun i H v H' hi h ⟨T, v1, v2, e, hn, e2, y, hc⟩ => ⟨T, v1, v2, e, ⟨hn, e2⟩, y xs h.1, hc ys h.2⟩⟩
theorem sqL {K : PySem.W.Frag} {H : Hp} {a : Addr} {xs : List V} (h : H a = some (.lst xs)) : SqL K H a xs := Or.inl (Or.inl h)
theorem sqT {K : PySem.W.Frag} {H : Hp} {a : Addr} {xs : List V} (h : H a = some (.tup xs)) : SqT K H a xs := Or.inl (Or.inl h)
theorem sqL_same {K : PySem.W.Frag} {H H' : Hp} {a : Addr} {xs : List V} (s : Same H H') (h : SqL K H a xs) : SqL K H' a xs := by
  rcases h with (h | ⟨o, h⟩) | h
  · exact .inl (.inl (s _ _ h))
  · exact .inl (.inr ⟨o, s _ _ h⟩)
  · exact .inr h
theorem same_rfl {H : Hp} : Same H H := fun _ _ e => e
theorem same_trans {H H' H'' : Hp} (s : Same H H') (t : Same H' H'') : Same H H'' := fun b o e => t b o (s b o e)
/-- a list display whose turns make new things only -/
theorem lc_map {J : It} {n : Nat} {ok : Hp → Prop} {Y : Nat → Hp → V → Hp → Prop} {g : TG} {te : TE} {vs : List Nat} {σ : L2.St} {H : Hp} {Q : VK} (T : Turns J n ok Y) (f : Nat → V) (hn : n ≤ 1000000) (hok : ∀ H', Same H H' → ok H')
    (hs : ∀ i x H' H'', i < n → Same H H' → Y i H' x H'' → Same H' H'' ∧ ∀ R : VK, (∀ H4, Same H'' H4 → R (f i) H4) → g x (wipe σ vs) H'' fun σ2 H2 => wipe σ2 vs = wipe σ vs ∧ te σ2 H2 R)
    (hd : ∀ A H', Same H H' → H A = none → H' A = some (.lst ((List.range n).map f)) → Q (.ref A) H') : Lc g tYes te vs σ Q J H := by
  refine lc T fun A H2 n2 => ⟨fun i H' => Same H H' ∧ H' A = some (.lst ((List.range i).map f)), ⟨n2.same, n2.self⟩, fun i H' _ p => hok _ p.1, fun i x H' H'' hi p y => ?_, fun H' p => hd _ _ p.1 n2.1 p.2⟩
  obtain ⟨s1, hs⟩ := hs i x H' H'' hi p.1 y
  show g x (wipe σ vs) H'' fun σ2 H2 => wipe σ2 vs = wipe σ vs ∧ te σ2 H2 _
  refine hs _ fun H4 s4 => ⟨_, s4 _ _ (s1 _ _ p.2), by rw [List.length_map, List.length_range]; exact Nat.lt_of_lt_of_le hi (Nat.le_trans hn (by decide)), fun b o e => ?_, ?_⟩
  · have hbA : b ≠ A := fun z => by rw [z, n2.1] at e; cases e
    show (upd H4 A _) b = _
    rw [upd_ne hbA]
    exact s4 _ _ (s1 _ _ (p.1 _ _ e))
  · rw [upd_same, List.range_succ, List.map_append]; rfl
theorem tab_at {fa : List He.Fa} {fn : List He.DefD} {ts : List He.Tab} {w : World} {K : PySem.W.Frag} (c : He.SaysT fa fn ts w K) (i : Nat) {t : He.Tab} (h : ts[i]? = some t) : He.dicW K (t.1 K) = some (He.keysIn w.params t.2) := by
  have e : ts.map (fun t => He.dicW K (t.1 K)) = ts.map fun t => some (He.keysIn w.params t.2) := congrArg (fun z : He.AlT => z.2) c
  have e2 : (ts.map fun t => He.dicW K (t.1 K))[i]? = (ts.map fun t => some (He.keysIn w.params t.2))[i]? := by rw [e]
  rw [List.getElem?_map, List.getElem?_map, h] at e2
  exact Option.some.inj e2
end MM

set_option Elab.async false
set_option linter.all false
set_option maxRecDepth 100000
set_option maxHeartbeats 4000000
namespace MM
open PySem PySem.Spec PyProof.Rows L2
/-! ### nested data, and when two are equal -/
def pyV : V → PyData
  | .non => .none
  | .bl b => .bool b
  | .int i => .int i
  | .str x => .str x
  | _ => .none
/-- a flat value whose text may be laid -/
def flatOk : V → Bool
  | .non => true
  | .bl _ => true
  | .int _ => true
  | .str x => PyData.strOk x
  | _ => false
theorem dp_flat {K : PySem.W.Frag} {H : Hp} {v : V} (h : flatOk v = true) : Dp K H v (pyV v) := by
  cases v with
  | non => exact .non
  | bl b => exact .bl b
  | int i => exact .int i
  | str x => exact .str x
  | _ => cases h
theorem dpAll_flat {K : PySem.W.Frag} {H : Hp} : ∀ {xs : List V}, xs.all flatOk = true → DpAll K H xs (xs.map pyV)
  | [], _ => .nil
  | v :: r, h => by
    rw [List.all_cons, Bool.and_eq_true] at h
    exact .cons (dp_flat h.1) (dpAll_flat h.2)
def Nice (n : Nat) (d : PyData) : Prop := d.canLay0 = true ∧ d.depth ≤ n
theorem Nice.mono {n m : Nat} {d : PyData} (h : Nice n d) (hm : n ≤ m) : Nice m d := ⟨h.1, Nat.le_trans h.2 hm⟩
theorem nice_flat {v : V} (h : flatOk v = true) : Nice 1 (pyV v) := by
  cases v with
  | non => exact ⟨by simp [pyV, PyData.canLay0], by simp [pyV, PyData.depth]⟩
  | bl b => exact ⟨by simp [pyV, PyData.canLay0], by simp [pyV, PyData.depth]⟩
  | int i => exact ⟨by simp [pyV, PyData.canLay0], by simp [pyV, PyData.depth]⟩
  | str x => exact ⟨by simp only [pyV, PyData.canLay0]; exact h, by simp [pyV, PyData.depth]⟩
  | _ => cases h
theorem niceAll {n : Nat} : ∀ {ds : List PyData}, (∀ d ∈ ds, Nice n d) → PyData.canLayAll0 ds = true ∧ PyData.depthAll ds ≤ n
  | [], _ => ⟨by simp [PyData.canLayAll0], by simp [PyData.depthAll]⟩
  | d :: r, h => by
    have h1 := h d (List.mem_cons_self ..)
    have h2 := niceAll (fun e he => h e (List.mem_cons_of_mem _ he))
    refine ⟨by simp only [PyData.canLayAll0, Bool.and_eq_true]; exact ⟨h1.1, h2.1⟩, ?_⟩
    simp only [PyData.depthAll]
    exact Nat.max_le.mpr ⟨h1.2, h2.2⟩
theorem nice_list {n : Nat} {ds : List PyData} (h : ∀ d ∈ ds, Nice n d) : Nice (n + 1) (.list ds) := by
  have := niceAll h
  exact ⟨by simpa only [PyData.canLay0] using this.1, by simp only [PyData.depth]; omega⟩
theorem nice_tup {n : Nat} {ds : List PyData} (h : ∀ d ∈ ds, Nice n d) : Nice (n + 1) (.tuple ds) := by
  have := niceAll h
  exact ⟨by simpa only [PyData.canLay0] using this.1, by simp only [PyData.depth]; omega⟩
theorem nice_flats {xs : List V} (h : xs.all flatOk = true) : ∀ d ∈ xs.map pyV, Nice 1 d := fun d hd => by
  obtain ⟨v, hv, rfl⟩ := List.mem_map.mp hd
  exact nice_flat (List.all_eq_true.mp h v hv)
theorem Nice.shaped {n : Nat} {d : PyData} (h : Nice n d) (hn : n ≤ 64) : SeqAt.shaped d = true := by
  unfold SeqAt.shaped
  rw [Bool.and_eq_true, decide_eq_true_eq]
  exact ⟨h.1, Nat.le_trans h.2 hn⟩
theorem eqD_t {K : PySem.W.Frag} {H : Hp} {x y : V} {d : PyData} {Q : VK} {n : Nat} (hx : Dp K H x d) (hy : Dp K H y d) (hs : Nice n d) (hn : n ≤ 64) (q : Q (.bl true) H) : rEqD K x y H Q :=
  ⟨d, d, hx, hy, hs.shaped hn, hs.shaped hn, by rw [SeqAt.eqv_refl d hs.1]; exact q⟩
theorem neD_f {K : PySem.W.Frag} {H : Hp} {x y : V} {d : PyData} {Q : VK} {n : Nat} (hx : Dp K H x d) (hy : Dp K H y d) (hs : Nice n d) (hn : n ≤ 64) (q : Q (.bl false) H) : rNeD K x y H Q :=
  ⟨d, d, hx, hy, hs.shaped hn, hs.shaped hn, by rw [SeqAt.eqv_refl d hs.1]; exact q⟩
theorem sqT_same {K : PySem.W.Frag} {H H' : Hp} {a : Addr} {xs : List V} (s : Same H H') (h : SqT K H a xs) : SqT K H' a xs := by
  rcases h with (h | ⟨o, h⟩) | h
  · exact .inl (.inl (s _ _ h))
  · exact .inl (.inr ⟨o, s _ _ h⟩)
  · exact .inr h
mutual
theorem Dp.same {K : PySem.W.Frag} {H H' : Hp} (s : Same H H') : ∀ {v : V} {d : PyData}, Dp K H v d → Dp K H' v d
  | _, _, .non => .non
  | _, _, .bl b => .bl b
  | _, _, .int i => .int i
  | _, _, .str x => .str x
  | _, _, .lst h hs => .lst (sqL_same s h) (DpAll.same s hs)
  | _, _, .tup h hs => .tup (sqT_same s h) (DpAll.same s hs)
theorem DpAll.same {K : PySem.W.Frag} {H H' : Hp} (s : Same H H') : ∀ {vs : List V} {ds : List PyData}, DpAll K H vs ds → DpAll K H' vs ds
  | _, _, .nil => .nil
  | _, _, .cons h hs => .cons (Dp.same s h) (DpAll.same s hs)
end
end MM

set_option Elab.async false
set_option linter.all false
set_option maxRecDepth 100000
set_option maxHeartbeats 4000000
namespace K96
open PySem PySem.Spec PyProof.Rows L2 MM
open TL (tl)
/-! ### the mirror -/
def cellAt (ns : List Int) (k : Nat) : Int := ns.getD k 0
def forms : List (Str × Str) := [("new", ""), ("fork", "n"), ("end", "n"), ("bank", "n"), ("drop", "n"), ("lay", "nnnr"), ("lay", "nnnrnn"), ("lift", "nnn"), ("guard", "nnnr"), ("read", "nn"), ("write", "nnv"), ("fold", ""), ("see", "nn"), ("laid", "n"), ("live", "")]
def lawForm (c : Int) : Str × Str := forms.getD (c % 15).toNat ("", "")
def leastOf (c : Int) : Int := 10 ^ (c / 3 % 60).toNat
def lawNumber (c : Int) (kind : Nat) : Int :=
  if kind = 114 then c % 4 else
  if c / 180 % 7 = 6 then 0 else
  let n := if c % 3 = 0 then leastOf c else if c % 3 = 1 then leastOf c * 10 - 1 else leastOf c + c / 180 % (leastOf c * 9)
  if kind = 118 ∧ c / 180 % 2 = 1 then -n else n
def rightsTxt : List Str := ["--", "r-", "-w", "rw"]
def lawWritten (n : Int) (kind : Nat) : Str := if kind = 114 then rightsTxt.getD n.toNat "" else toString n
/-- the figures of a row's number -/
def isD (c : Nat) : Bool := decide (48 ≤ c) && decide (c ≤ 57)
def numOk (l : List Nat) : Bool := decide (1 ≤ l.length) && (decide (l.length ≤ 60) && (l.all isD && !(decide (1 < l.length) && l.head? == some 48)))
def rdNum (l : List Nat) : Option Int := if numOk l = true then some (NumText.digitsVal l : Nat) else none
def rdVal (l : List Nat) : Option Int := if l.head? = some 45 then (match rdNum l.tail with
  | some n => if n = 0 then none else some (-n)
  | none => none) else rdNum l
def rdRights (l : List Nat) : Option Int := match l with
  | [a, b] => if (a = 114 ∨ a = 45) ∧ (b = 119 ∨ b = 45) then some ((if a = 114 then 1 else 0) + 2 * (if b = 119 then 1 else 0)) else none
  | _ => none
def rdPart (kind : Nat) (w : Str) : Option Int := if kind = 110 then rdNum (tl w) else if kind = 118 then rdVal (tl w) else rdRights (tl w)
def rdParts : List Nat → List Str → Option (List Int)
  | [], _ => some []
  | _ :: _, [] => some []
  | k :: ks, w :: ws => match rdPart k w with
    | some n => (match rdParts ks ws with
      | some r => some (n :: r)
      | none => none)
    | none => none
def tab_WORDS : List (Str × V) := [("new", .str ""), ("fork", .str "n"), ("end", .str "n"), ("bank", .str "n"), ("drop", .str "n"), ("lay", .str "nnnr"), ("lift", .str "nnn"), ("guard", .str "nnnr"), ("read", .str "nn"), ("write", .str "nnv"), ("fold", .str ""), ("see", .str "nn"), ("laid", .str "n"), ("live", .str "")]
def kindsOf (w : Str) : Option Str := match tab_WORDS.lookup w with
  | some (.str k) => some k
  | _ => none
/-- the words of a row, read as a deed -/
def rdWords (ws : List Str) : Option (List V) := match ws with
  | [] => none
  | w :: r => match kindsOf w with
    | none => none
    | some k0 =>
      let k := if w = "lay" ∧ r.length = 6 then k0 ++ "nn" else k0
      if r.length = k.length then (match rdParts (tl k) r with
        | some ns => some (.str w :: ns.map V.int ++ (if w = "lay" ∧ r.length = 4 then [V.non, V.int 0] else []))
        | none => none)
      else none
def rdRow (x : Str) : Option (List V) := rdWords (Txt.split x " ")
/-! ### the promises -/
def sp__law_cell_at (K : PySem.W.Frag) : Sp := fun vs H Q _ => vs.length = 2 ∧ ∃ (a : Addr) (ns : List Int) (k : Nat), vs = [.ref a, .int k] ∧ SqL K H a (ns.map V.int) ∧ Q (.int (cellAt ns k)) H
/-- a new tuple, all that stood stands -/
def RetT (xs : List V) (H : Hp) (Q : VK) : Prop := ∀ p H', Same H H' → H' p = some (.tup xs) → Q (.ref p) H'
def sp__law_form (K : PySem.W.Frag) : Sp := fun vs H Q _ => vs.length = 1 ∧ ∃ c : Int, vs = [.int c] ∧ RetT [.str (lawForm c).1, .str (lawForm c).2] H Q
def sp__law_number (K : PySem.W.Frag) : Sp := fun vs H Q _ => vs.length = 2 ∧ ∃ (c : Int) (k : Nat), vs = [.int c, .str ⟨#[k]⟩] ∧ ∀ H', Same H H' → Q (.int (lawNumber c k)) H'
def sp_show_rights (K : PySem.W.Frag) : Sp := fun vs H Q _ => vs.length = 1 ∧ ∃ n : Int, vs = [.int n] ∧ 0 ≤ n ∧ n < 4 ∧ ∀ H', Same H H' → Q (.str (lawWritten n 114)) H'
def okN (k : Nat) (n : Int) : Prop := if k = 114 then 0 ≤ n ∧ n < 4 else if k = 118 then n.natAbs < 10 ^ 60 else 0 ≤ n ∧ n < 10 ^ 60
def lawWords (w : Str) (ks : List Nat) (ns : List Int) : List Str := w :: (ns.zip ks).map fun p => lawWritten p.1 p.2
def lawDue (w : Str) (ks : List Nat) (ns : List Int) : List V := .str w :: ns.map V.int ++ (if w = Str.ofString "lay" ∧ ks.length = 4 then [V.non, V.int 0] else [])
def rowText (w : Str) (ks : List Nat) (ns : List Int) : Str := Txt.join (Str.ofString " ") (lawWords w ks ns)
/-- a deed of the law -/
def DeedOk (w kd : Str) (ns : List Int) : Prop := (w, kd) ∈ forms ∧ (tl kd).length = ns.length ∧ ∀ p ∈ ns.zip (tl kd), okN p.2 p.1
def sp_show_row (K : PySem.W.Frag) : Sp := fun vs H Q _ => vs.length = 1 ∧ ∃ (a : Addr) (w kd : Str) (ns : List Int), vs = [.ref a] ∧ H a = some (.tup (lawDue w (tl kd) ns)) ∧ DeedOk w kd ns ∧ ∀ H', Same H H' → Q (.str (rowText w (tl kd) ns)) H'
def sp__law_figures (K : PySem.W.Frag) : Sp := fun vs H Q _ => vs.length = 1 ∧ ∃ n : Int, vs = [.int n] ∧ n.natAbs < 10 ^ 60 ∧ Q (.str (toString n)) H
def sp__law_shown (K : PySem.W.Frag) : Sp := fun vs H Q _ => vs.length = 2 ∧ ∃ (a : Addr) (w kd : Str) (ns : List Int), vs = [.ref a, .str kd] ∧ H a = some (.tup (lawDue w (tl kd) ns)) ∧ DeedOk w kd ns ∧ Q (.str (rowText w (tl kd) ns)) H
def sp_read_number (K : PySem.W.Frag) : Sp := fun vs H Q E => vs.length = 1 ∧ ∃ w : Str, vs = [.str w] ∧ w.length ≤ sizeLine ∧ (match rdNum (tl w) with
  | some n => Q (.int n) H
  | none => E (.ref (He.ga K "NoRow")) none H)
def sp_read_value (K : PySem.W.Frag) : Sp := fun vs H Q E => vs.length = 1 ∧ ∃ w : Str, vs = [.str w] ∧ w.length ≤ sizeLine ∧ (match rdVal (tl w) with
  | some n => Q (.int n) H
  | none => E (.ref (He.ga K "NoRow")) none H)
def sp_read_rights (K : PySem.W.Frag) : Sp := fun vs H Q E => vs.length = 1 ∧ ∃ w : Str, vs = [.str w] ∧ w.length ≤ sizeLine ∧ (match rdRights (tl w) with
  | some n => Q (.int n) H
  | none => E (.ref (He.ga K "NoRow")) none H)
def sp_read_row (K : PySem.W.Frag) : Sp := fun vs H Q E => vs.length = 1 ∧ ∃ x : Str, vs = [.str x] ∧ x.length + 2 ≤ 1000000 ∧ (match rdRow x with
  | some d => RetT d H Q
  | none => ∀ H', Same H H' → E (.ref (He.ga K "NoRow")) none H')
def sp_law (K : PySem.W.Frag) : Sp := fun vs H Q _ => vs.length = 1 ∧ ∃ (a : Addr) (ns : List Int), vs = [.ref a] ∧ SqL K H a (ns.map V.int) ∧ ns.length ≤ 63 ∧ ∀ H', Q (.bl true) H'
end K96

set_option Elab.async false
set_option linter.all false
set_option maxRecDepth 100000
set_option maxHeartbeats 4000000
namespace K96
open PySem PySem.Spec PyProof.Rows L2 MM
def r__law_form_3 (K : PySem.W.Frag) (W : WX) : TS := (tRet (tOp mIx (tVar 1) (tOp (oIc (fun _ j => 0 < j) fun i j => .int (i % j)) (tVar 0) (tC (.int 15)))))
def r__law_form_2 (K : PySem.W.Frag) (W : WX) : TS := tSeq (tAsg (tOp mAdd (tVar 1) (mLst (tCons (mTup (tCons (tC (.str "fold")) (tCons (tC (.str "")) tNil))) (tCons (mTup (tCons (tC (.str "see")) (tCons (tC (.str "nn")) tNil))) (tCons (mTup (tCons (tC (.str "laid")) (tCons (tC (.str "n")) tNil))) (tCons (mTup (tCons (tC (.str "live")) (tCons (tC (.str "")) tNil))) tNil)))))) (gName 1)) (r__law_form_3 K W)
def r__law_form_1 (K : PySem.W.Frag) (W : WX) : TS := tSeq (tAsg (tOp mAdd (tVar 1) (mLst (tCons (mTup (tCons (tC (.str "lay")) (tCons (tC (.str "nnnrnn")) tNil))) (tCons (mTup (tCons (tC (.str "lift")) (tCons (tC (.str "nnn")) tNil))) (tCons (mTup (tCons (tC (.str "guard")) (tCons (tC (.str "nnnr")) tNil))) (tCons (mTup (tCons (tC (.str "read")) (tCons (tC (.str "nn")) tNil))) (tCons (mTup (tCons (tC (.str "write")) (tCons (tC (.str "nnv")) tNil))) tNil))))))) (gName 1)) (r__law_form_2 K W)
def r__law_form_0 (K : PySem.W.Frag) (W : WX) : TS := tSeq (tAsg (mLst (tCons (mTup (tCons (tC (.str "new")) (tCons (tC (.str "")) tNil))) (tCons (mTup (tCons (tC (.str "fork")) (tCons (tC (.str "n")) tNil))) (tCons (mTup (tCons (tC (.str "end")) (tCons (tC (.str "n")) tNil))) (tCons (mTup (tCons (tC (.str "bank")) (tCons (tC (.str "n")) tNil))) (tCons (mTup (tCons (tC (.str "drop")) (tCons (tC (.str "n")) tNil))) (tCons (mTup (tCons (tC (.str "lay")) (tCons (tC (.str "nnnr")) tNil))) tNil))))))) (gName 1)) (r__law_form_1 K W)
abbrev r__law_form (K : PySem.W.Frag) (W : WX) : TS := r__law_form_0 K W
def r__law_cell_at_0t0 (K : PySem.W.Frag) (W : WX) : TS := (tRet (tOp (rIxL K) (tVar 0) (tVar 1)))
def r__law_cell_at_1 (K : PySem.W.Frag) (W : WX) : TS := (tRet (tC (.int 0)))
def r__law_cell_at_0 (K : PySem.W.Frag) (W : WX) : TS := tSeq (tIfS (tTest (tOp (oI fun i j => .bl (decide (i < j))) (tVar 1) (tCB (mLenS K) (tCons (tVar 0) tNil)))) (r__law_cell_at_0t0 K W) tNext) (r__law_cell_at_1 K W)
abbrev r__law_cell_at (K : PySem.W.Frag) (W : WX) : TS := r__law_cell_at_0 K W
def r__law_number_0t0 (K : PySem.W.Frag) (W : WX) : TS := (tRet (tOp (oIc (fun _ j => 0 < j) fun i j => .int (i % j)) (tVar 0) (tC (.int 4))))
def r__law_number_2f0 (K : PySem.W.Frag) (W : WX) : TS := (tAsg (tOp (oIc CMul fun i j => .int (i * j)) (tVar 2) (tC (.int 10))) (gName 2))
def g__law_number_0 (K : PySem.W.Frag) (W : WX) : TG := (gName 3)
def r__law_number_4t0 (K : PySem.W.Frag) (W : WX) : TS := (tRet (tC (.int 0)))
def r__law_number_5t0 (K : PySem.W.Frag) (W : WX) : TS := (tRet (tUn uNeg (tVar 4)))
def r__law_number_6 (K : PySem.W.Frag) (W : WX) : TS := (tRet (tVar 4))
def r__law_number_5 (K : PySem.W.Frag) (W : WX) : TS := tSeq (tIfS (tAnd (tTest (tOp oEq (tVar 1) (tC (.str "v")))) (tTest (tOp oEq (tOp (oIc (fun _ j => 0 < j) fun i j => .int (i % j)) (tOp (oIc CDiv fun i j => .int (i / j)) (tVar 0) (tC (.int 180))) (tC (.int 2))) (tC (.int 1))))) (r__law_number_5t0 K W) tNext) (r__law_number_6 K W)
def r__law_number_4 (K : PySem.W.Frag) (W : WX) : TS := tSeq (tIfS (tTest (tOp oEq (tOp (oIc (fun _ j => 0 < j) fun i j => .int (i % j)) (tOp (oIc CDiv fun i j => .int (i / j)) (tVar 0) (tC (.int 180))) (tC (.int 7))) (tC (.int 6)))) (r__law_number_4t0 K W) tNext) (r__law_number_5 K W)
def r__law_number_3 (K : PySem.W.Frag) (W : WX) : TS := tSeq (tAsg (tOp mIx (mLst (tCons (tVar 2) (tCons (tOp (oI fun i j => .int (i - j)) (tOp (oIc CMul fun i j => .int (i * j)) (tVar 2) (tC (.int 10))) (tC (.int 1))) (tCons (tOp mAdd (tVar 2) (tOp (oIc (fun _ j => 0 < j) fun i j => .int (i % j)) (tOp (oIc CDiv fun i j => .int (i / j)) (tVar 0) (tC (.int 180))) (tOp (oIc CMul fun i j => .int (i * j)) (tVar 2) (tC (.int 9))))) tNil)))) (tOp (oIc (fun _ j => 0 < j) fun i j => .int (i % j)) (tVar 0) (tC (.int 3)))) (gName 4)) (r__law_number_4 K W)
def r__law_number_2 (K : PySem.W.Frag) (W : WX) : TS := tSeq (tFor (iRng1 (tCons (tOp (oIc (fun _ j => 0 < j) fun i j => .int (i % j)) (tOp (oIc CDiv fun i j => .int (i / j)) (tVar 0) (tC (.int 3))) (tC (.int 60))) tNil)) (g__law_number_0 K W) (r__law_number_2f0 K W)) (r__law_number_3 K W)
def r__law_number_1 (K : PySem.W.Frag) (W : WX) : TS := tSeq (tAsg (tC (.int 1)) (gName 2)) (r__law_number_2 K W)
def r__law_number_0 (K : PySem.W.Frag) (W : WX) : TS := tSeq (tIfS (tTest (tOp oEq (tVar 1) (tC (.str "r")))) (r__law_number_0t0 K W) tNext) (r__law_number_1 K W)
abbrev r__law_number (K : PySem.W.Frag) (W : WX) : TS := r__law_number_0 K W
def r_show_rights_0 (K : PySem.W.Frag) (W : WX) : TS := (tRet (tOp mIx (mLst (tCons (tC (.str "--")) (tCons (tC (.str "r-")) (tCons (tC (.str "-w")) (tCons (tC (.str "rw")) tNil))))) (tVar 0)))
abbrev r_show_rights (K : PySem.W.Frag) (W : WX) : TS := r_show_rights_0 K W
def r_show_row_1t0 (K : PySem.W.Frag) (W : WX) : TS := (tAsg (tSl mSl (tVar 1) tNoPart (tPart (tC (.int 5)))) (gName 1))
def r_show_row_3f0t0 (K : PySem.W.Frag) (W : WX) : TS := (tDrop (mBM "list" mAppend (tVar 2) (tCons (tVar 4) tNil)))
def r_show_row_3f0e0t0 (K : PySem.W.Frag) (W : WX) : TS := (tDrop (mBM "list" mAppend (tVar 2) (tCons (mCall (sp_show_rights K) [] W (tCons (tVar 4) tNil)) tNil)))
def r_show_row_3f0e0e0 (K : PySem.W.Frag) (W : WX) : TS := (tDrop (mBM "list" mAppend (tVar 2) (tCons (tCB mStr (tCons (tVar 4) tNil)) tNil)))
def r_show_row_3f0e0 (K : PySem.W.Frag) (W : WX) : TS := (tIfS (tAnd (tTest (tOp oEq (tVar 3) (tC (.int 4)))) (tTest (tOp (mIn false) (tOp mIx (tVar 0) (tC (.int 0))) (mTup (tCons (tC (.str "lay")) (tCons (tC (.str "guard")) tNil)))))) (r_show_row_3f0e0t0 K W) (r_show_row_3f0e0e0 K W))
def r_show_row_3f0 (K : PySem.W.Frag) (W : WX) : TS := (tIfS (tTest (tOp oEq (tVar 3) (tC (.int 0)))) (r_show_row_3f0t0 K W) (r_show_row_3f0e0 K W))
def g_show_row_0 (K : PySem.W.Frag) (W : WX) : TG := (gTupM 2 (gCons (gName 3) (gCons (gName 4) gNil)))
def r_show_row_4 (K : PySem.W.Frag) (W : WX) : TS := (tRet (mBM "str" mJoin (tC (.str " ")) (tCons (tVar 2) tNil)))
def r_show_row_3 (K : PySem.W.Frag) (W : WX) : TS := tSeq (tFor (iEnum K (tCons (tVar 1) tNil)) (g_show_row_0 K W) (r_show_row_3f0 K W)) (r_show_row_4 K W)
def r_show_row_2 (K : PySem.W.Frag) (W : WX) : TS := tSeq (tAsg (mLst tNil) (gName 2)) (r_show_row_3 K W)
def r_show_row_1 (K : PySem.W.Frag) (W : WX) : TS := tSeq (tIfS (tAnd (tTest (tOp oEq (tOp mIx (tVar 0) (tC (.int 0))) (tC (.str "lay")))) (tTest (tOp oIsN (tOp mIx (tVar 0) (tC (.int 5))) (tC .non)))) (r_show_row_1t0 K W) tNext) (r_show_row_2 K W)
def r_show_row_0 (K : PySem.W.Frag) (W : WX) : TS := tSeq (tAsg (tCB mListOf (tCons (tVar 0) tNil)) (gName 1)) (r_show_row_1 K W)
abbrev r_show_row (K : PySem.W.Frag) (W : WX) : TS := r_show_row_0 K W
def r__law_figures_0t0 (K : PySem.W.Frag) (W : WX) : TS := (tRet (tC (.str "0")))
def r__law_figures_3w1 (K : PySem.W.Frag) (W : WX) : TS := (tAsg (tOp (oIc CDiv fun i j => .int (i / j)) (tVar 2) (tC (.int 10))) (gName 2))
def r__law_figures_3w0 (K : PySem.W.Frag) (W : WX) : TS := tSeq (tAsg (tOp mAdd (tOp mIx (tC (.str "0123456789")) (tOp (oIc (fun _ j => 0 < j) fun i j => .int (i % j)) (tVar 2) (tC (.int 10)))) (tVar 1)) (gName 1)) (r__law_figures_3w1 K W)
def r__law_figures_4t0 (K : PySem.W.Frag) (W : WX) : TS := (tRet (tOp mAdd (tC (.str "-")) (tVar 1)))
def r__law_figures_5 (K : PySem.W.Frag) (W : WX) : TS := (tRet (tVar 1))
def r__law_figures_4 (K : PySem.W.Frag) (W : WX) : TS := tSeq (tIfS (tTest (tOp (oI fun i j => .bl (decide (i < j))) (tVar 0) (tC (.int 0)))) (r__law_figures_4t0 K W) tNext) (r__law_figures_5 K W)
def r__law_figures_3 (K : PySem.W.Frag) (W : WX) : TS := tSeq (tWhile (tTest (tOp (oI fun i j => .bl (decide (j < i))) (tVar 2) (tC (.int 0)))) (r__law_figures_3w0 K W)) (r__law_figures_4 K W)
def r__law_figures_2 (K : PySem.W.Frag) (W : WX) : TS := tSeq (tAsg (tCB mAbs (tCons (tVar 0) tNil)) (gName 2)) (r__law_figures_3 K W)
def r__law_figures_1 (K : PySem.W.Frag) (W : WX) : TS := tSeq (tAsg (tC (.str "")) (gName 1)) (r__law_figures_2 K W)
def r__law_figures_0 (K : PySem.W.Frag) (W : WX) : TS := tSeq (tIfS (tTest (tOp oEq (tVar 0) (tC (.int 0)))) (r__law_figures_0t0 K W) tNext) (r__law_figures_1 K W)
abbrev r__law_figures (K : PySem.W.Frag) (W : WX) : TS := r__law_figures_0 K W
def r__law_shown_1f1t0 (K : PySem.W.Frag) (W : WX) : TS := (tAsg (tOp mAdd (tOp mAdd (tOp mAdd (tVar 2) (tC (.str " "))) (tOp mIx (tC (.str "-r")) (tOp (oIc (fun _ j => 0 < j) fun i j => .int (i % j)) (tVar 4) (tC (.int 2))))) (tOp mIx (tC (.str "-w")) (tOp (oIc CDiv fun i j => .int (i / j)) (tVar 4) (tC (.int 2))))) (gName 2))
def r__law_shown_1f1e0 (K : PySem.W.Frag) (W : WX) : TS := (tAsg (tOp mAdd (tOp mAdd (tVar 2) (tC (.str " "))) (mCall (sp__law_figures K) [] W (tCons (tVar 4) tNil))) (gName 2))
def r__law_shown_1f1 (K : PySem.W.Frag) (W : WX) : TS := (tIfS (tTest (tOp oEq (tOp mIx (tVar 1) (tVar 3)) (tC (.str "r")))) (r__law_shown_1f1t0 K W) (r__law_shown_1f1e0 K W))
def r__law_shown_1f0 (K : PySem.W.Frag) (W : WX) : TS := tSeq (tAsg (tOp mIx (tVar 0) (tOp mAdd (tC (.int 1)) (tVar 3))) (gName 4)) (r__law_shown_1f1 K W)
def g__law_shown_0 (K : PySem.W.Frag) (W : WX) : TG := (gName 3)
def r__law_shown_2 (K : PySem.W.Frag) (W : WX) : TS := (tRet (tVar 2))
def r__law_shown_1 (K : PySem.W.Frag) (W : WX) : TS := tSeq (tFor (iRng1 (tCons (tCB mLen (tCons (tVar 1) tNil)) tNil)) (g__law_shown_0 K W) (r__law_shown_1f0 K W)) (r__law_shown_2 K W)
def r__law_shown_0 (K : PySem.W.Frag) (W : WX) : TS := tSeq (tAsg (tOp mIx (tVar 0) (tC (.int 0))) (gName 2)) (r__law_shown_1 K W)
abbrev r__law_shown (K : PySem.W.Frag) (W : WX) : TS := r__law_shown_0 K W
def r_read_number_0t0 (K : PySem.W.Frag) (W : WX) : TS := (mRaise (He.ga K "NoRow") W)
def r_read_number_1f0t0 (K : PySem.W.Frag) (W : WX) : TS := (mRaise (He.ga K "NoRow") W)
def r_read_number_1f0 (K : PySem.W.Frag) (W : WX) : TS := (tIfS (tTest (tOp (mIn true) (tVar 1) (tC (.str "0123456789")))) (r_read_number_1f0t0 K W) tNext)
def g_read_number_0 (K : PySem.W.Frag) (W : WX) : TG := (gName 1)
def r_read_number_2t0 (K : PySem.W.Frag) (W : WX) : TS := (mRaise (He.ga K "NoRow") W)
def r_read_number_3 (K : PySem.W.Frag) (W : WX) : TS := (tRet (tCB mInt (tCons (tVar 0) tNil)))
def r_read_number_2 (K : PySem.W.Frag) (W : WX) : TS := tSeq (tIfS (tAnd (tTest (tOp (oI fun i j => .bl (decide (j < i))) (tCB mLen (tCons (tVar 0) tNil)) (tC (.int 1)))) (tTest (tOp oEq (tOp mIx (tVar 0) (tC (.int 0))) (tC (.str "0"))))) (r_read_number_2t0 K W) tNext) (r_read_number_3 K W)
def r_read_number_1 (K : PySem.W.Frag) (W : WX) : TS := tSeq (tFor (iStr (tVar 0)) (g_read_number_0 K W) (r_read_number_1f0 K W)) (r_read_number_2 K W)
def r_read_number_0 (K : PySem.W.Frag) (W : WX) : TS := tSeq (tIfS (tNot (tTest (tChain (oI fun i j => .bl (decide (i ≤ j))) (oI fun i j => .bl (decide (i ≤ j))) (tC (.int 1)) (tCB mLen (tCons (tVar 0) tNil)) (tC (.int 60))))) (r_read_number_0t0 K W) tNext) (r_read_number_1 K W)
abbrev r_read_number (K : PySem.W.Frag) (W : WX) : TS := r_read_number_0 K W
def r_read_value_0t0 (K : PySem.W.Frag) (W : WX) : TS := (tRet (mCall (sp_read_number K) [] W (tCons (tVar 0) tNil)))
def r_read_value_2t0 (K : PySem.W.Frag) (W : WX) : TS := (mRaise (He.ga K "NoRow") W)
def r_read_value_3 (K : PySem.W.Frag) (W : WX) : TS := (tRet (tUn uNeg (tVar 1)))
def r_read_value_2 (K : PySem.W.Frag) (W : WX) : TS := tSeq (tIfS (tTest (tOp oEq (tVar 1) (tC (.int 0)))) (r_read_value_2t0 K W) tNext) (r_read_value_3 K W)
def r_read_value_1 (K : PySem.W.Frag) (W : WX) : TS := tSeq (tAsg (mCall (sp_read_number K) [] W (tCons (tSl mSl (tVar 0) (tPart (tC (.int 1))) tNoPart) tNil)) (gName 1)) (r_read_value_2 K W)
def r_read_value_0 (K : PySem.W.Frag) (W : WX) : TS := tSeq (tIfS (tNot (tB (mBM "str" mStarts (tVar 0) (tCons (tC (.str "-")) tNil)))) (r_read_value_0t0 K W) tNext) (r_read_value_1 K W)
abbrev r_read_value (K : PySem.W.Frag) (W : WX) : TS := r_read_value_0 K W
def r_read_rights_0t0 (K : PySem.W.Frag) (W : WX) : TS := (mRaise (He.ga K "NoRow") W)
def r_read_rights_1 (K : PySem.W.Frag) (W : WX) : TS := (tRet (tOp mAdd (tCB mInt (tCons (tOp oEq (tOp mIx (tVar 0) (tC (.int 0))) (tC (.str "r"))) tNil)) (tOp (oIc CMul fun i j => .int (i * j)) (tC (.int 2)) (tCB mInt (tCons (tOp oEq (tOp mIx (tVar 0) (tC (.int 1))) (tC (.str "w"))) tNil)))))
def r_read_rights_0 (K : PySem.W.Frag) (W : WX) : TS := tSeq (tIfS (tOr (tTest (tOp oNe (tCB mLen (tCons (tVar 0) tNil)) (tC (.int 2)))) (tOr (tTest (tOp (mIn true) (tOp mIx (tVar 0) (tC (.int 0))) (tC (.str "r-")))) (tTest (tOp (mIn true) (tOp mIx (tVar 0) (tC (.int 1))) (tC (.str "w-")))))) (r_read_rights_0t0 K W) tNext) (r_read_rights_1 K W)
abbrev r_read_rights (K : PySem.W.Frag) (W : WX) : TS := r_read_rights_0 K W
def r_read_row_1t0 (K : PySem.W.Frag) (W : WX) : TS := (mRaise (He.ga K "NoRow") W)
def r_read_row_3t0 (K : PySem.W.Frag) (W : WX) : TS := (tAsg (tOp mAdd (tVar 2) (tC (.str "nn"))) (gName 2))
def r_read_row_4t0 (K : PySem.W.Frag) (W : WX) : TS := (mRaise (He.ga K "NoRow") W)
def r_read_row_6f0t0 (K : PySem.W.Frag) (W : WX) : TS := (tDrop (mBM "list" mAppend (tVar 3) (tCons (mCall (sp_read_number K) [] W (tCons (tVar 4) tNil)) tNil)))
def r_read_row_6f0e0t0 (K : PySem.W.Frag) (W : WX) : TS := (tDrop (mBM "list" mAppend (tVar 3) (tCons (mCall (sp_read_value K) [] W (tCons (tVar 4) tNil)) tNil)))
def r_read_row_6f0e0e0 (K : PySem.W.Frag) (W : WX) : TS := (tDrop (mBM "list" mAppend (tVar 3) (tCons (mCall (sp_read_rights K) [] W (tCons (tVar 4) tNil)) tNil)))
def r_read_row_6f0e0 (K : PySem.W.Frag) (W : WX) : TS := (tIfS (tTest (tOp oEq (tVar 5) (tC (.str "v")))) (r_read_row_6f0e0t0 K W) (r_read_row_6f0e0e0 K W))
def r_read_row_6f0 (K : PySem.W.Frag) (W : WX) : TS := (tIfS (tTest (tOp oEq (tVar 5) (tC (.str "n")))) (r_read_row_6f0t0 K W) (r_read_row_6f0e0 K W))
def g_read_row_0 (K : PySem.W.Frag) (W : WX) : TG := (gTupM 2 (gCons (gName 4) (gCons (gName 5) gNil)))
def r_read_row_7t0 (K : PySem.W.Frag) (W : WX) : TS := (tAsg (tOp mAdd (tVar 3) (mLst (tCons (tC .non) (tCons (tC (.int 0)) tNil)))) (gName 3))
def r_read_row_8 (K : PySem.W.Frag) (W : WX) : TS := (tRet (tCB mTupOf (tCons (tVar 3) tNil)))
def r_read_row_7 (K : PySem.W.Frag) (W : WX) : TS := tSeq (tIfS (tAnd (tTest (tOp oEq (tOp mIx (tVar 1) (tC (.int 0))) (tC (.str "lay")))) (tTest (tOp oEq (tCB mLen (tCons (tVar 1) tNil)) (tC (.int 5))))) (r_read_row_7t0 K W) tNext) (r_read_row_8 K W)
def r_read_row_6 (K : PySem.W.Frag) (W : WX) : TS := tSeq (tFor (iZipS K (tCons (tSl mSl (tVar 1) (tPart (tC (.int 1))) tNoPart) (tCons (tVar 2) tNil))) (g_read_row_0 K W) (r_read_row_6f0 K W)) (r_read_row_7 K W)
def r_read_row_5 (K : PySem.W.Frag) (W : WX) : TS := tSeq (tAsg (mLst (tCons (tOp mIx (tVar 1) (tC (.int 0))) tNil)) (gName 3)) (r_read_row_6 K W)
def r_read_row_4 (K : PySem.W.Frag) (W : WX) : TS := tSeq (tIfS (tTest (tOp oNe (tCB mLen (tCons (tVar 1) tNil)) (tOp mAdd (tCB mLen (tCons (tVar 2) tNil)) (tC (.int 1))))) (r_read_row_4t0 K W) tNext) (r_read_row_5 K W)
def r_read_row_3 (K : PySem.W.Frag) (W : WX) : TS := tSeq (tIfS (tAnd (tTest (tOp oEq (tOp mIx (tVar 1) (tC (.int 0))) (tC (.str "lay")))) (tTest (tOp oEq (tCB mLen (tCons (tVar 1) tNil)) (tC (.int 7))))) (r_read_row_3t0 K W) tNext) (r_read_row_4 K W)
def r_read_row_2 (K : PySem.W.Frag) (W : WX) : TS := tSeq (tAsg (tOp (mTabIx (He.ga K "WORDS") (tab_WORDS)) (tC (.ref (He.ga K "WORDS"))) (tOp mIx (tVar 1) (tC (.int 0)))) (gName 2)) (r_read_row_3 K W)
def r_read_row_1 (K : PySem.W.Frag) (W : WX) : TS := tSeq (tIfS (tTest (tOp (mInTab true (He.ga K "WORDS") (tab_WORDS)) (tOp mIx (tVar 1) (tC (.int 0))) (tC (.ref (He.ga K "WORDS"))))) (r_read_row_1t0 K W) tNext) (r_read_row_2 K W)
def r_read_row_0 (K : PySem.W.Frag) (W : WX) : TS := tSeq (tAsg (mBM "str" mSplit (tVar 0) (tCons (tC (.str " ")) tNil)) (gName 1)) (r_read_row_1 K W)
abbrev r_read_row (K : PySem.W.Frag) (W : WX) : TS := r_read_row_0 K W
def r_law_1f2f0 (K : PySem.W.Frag) (W : WX) : TS := (tDrop (mBM "list" mAppend (tVar 5) (tCons (mCall (sp__law_number K) [] W (tCons (mCall (sp__law_cell_at K) [] W (tCons (tVar 0) (tCons (tOp mAdd (tOp mAdd (tVar 2) (tC (.int 1))) (tVar 6)) tNil))) (tCons (tOp mIx (tVar 4) (tVar 6)) tNil))) tNil)))
def g_law_0 (K : PySem.W.Frag) (W : WX) : TG := (gName 6)
def r_law_1f3t0 (K : PySem.W.Frag) (W : WX) : TS := (tAsg (tOp mAdd (tVar 5) (mLst (tCons (tC .non) (tCons (tC (.int 0)) tNil)))) (gName 5))
def r_law_1f4 (K : PySem.W.Frag) (W : WX) : TS := (tDrop (mBM "list" mAppend (tVar 1) (tCons (mTup (tCons (tCB mTupOf (tCons (tVar 5) tNil)) (tCons (tVar 4) tNil))) tNil)))
def r_law_1f3 (K : PySem.W.Frag) (W : WX) : TS := tSeq (tIfS (tAnd (tTest (tOp oEq (tVar 3) (tC (.str "lay")))) (tTest (tOp oEq (tCB mLen (tCons (tVar 4) tNil)) (tC (.int 4))))) (r_law_1f3t0 K W) tNext) (r_law_1f4 K W)
def r_law_1f2 (K : PySem.W.Frag) (W : WX) : TS := tSeq (tFor (iRng1 (tCons (tCB mLen (tCons (tVar 4) tNil)) tNil)) (g_law_0 K W) (r_law_1f2f0 K W)) (r_law_1f3 K W)
def r_law_1f1 (K : PySem.W.Frag) (W : WX) : TS := tSeq (tAsg (mLst (tCons (tVar 3) tNil)) (gName 5)) (r_law_1f2 K W)
def r_law_1f0 (K : PySem.W.Frag) (W : WX) : TS := tSeq (tAsg (mCall (sp__law_form K) [] W (tCons (mCall (sp__law_cell_at K) [] W (tCons (tVar 0) (tCons (tVar 2) tNil))) tNil)) (gTupM 2 (gCons (gName 3) (gCons (gName 4) gNil)))) (r_law_1f1 K W)
def g_law_1 (K : PySem.W.Frag) (W : WX) : TG := (gName 2)
def r_law_2f1t0 (K : PySem.W.Frag) (W : WX) : TS := (tRet (tC (.bl false)))
def r_law_2f2t0 (K : PySem.W.Frag) (W : WX) : TS := (tRet (tC (.bl false)))
def r_law_2f2 (K : PySem.W.Frag) (W : WX) : TS := (tIfS (tTest (tOp (rNeD K) (mCall (sp_read_row K) [] W (tCons (tVar 7) tNil)) (tVar 5))) (r_law_2f2t0 K W) tNext)
def r_law_2f1 (K : PySem.W.Frag) (W : WX) : TS := tSeq (tIfS (tOr (tNot (tB (tCB mIsi (tCons (tVar 7) (tCons (tC (.ty "str")) tNil))))) (tTest (tOp oNe (tVar 7) (mCall (sp__law_shown K) [] W (tCons (tVar 5) (tCons (tVar 4) tNil)))))) (r_law_2f1t0 K W) tNext) (r_law_2f2 K W)
def r_law_2f0 (K : PySem.W.Frag) (W : WX) : TS := tSeq (tAsg (mCall (sp_show_row K) [] W (tCons (tVar 5) tNil)) (gName 7)) (r_law_2f1 K W)
def g_law_2 (K : PySem.W.Frag) (W : WX) : TG := (gTupM 2 (gCons (gName 5) (gCons (gName 4) gNil)))
def r_law_3 (K : PySem.W.Frag) (W : WX) : TS := (tRet (tC (.bl true)))
def r_law_2 (K : PySem.W.Frag) (W : WX) : TS := tSeq (tFor (iList K (tVar 1)) (g_law_2 K W) (r_law_2f0 K W)) (r_law_3 K W)
def r_law_1 (K : PySem.W.Frag) (W : WX) : TS := tSeq (tFor (iRng3 (tCons (tC (.int 0)) (tCons (tOp mAdd (tC (.int 1)) (tCB mMin (tCons (tCB (mLenS K) (tCons (tVar 0) tNil)) (tCons (tC (.int 62)) tNil)))) (tCons (tC (.int 7)) tNil)))) (g_law_1 K W) (r_law_1f0 K W)) (r_law_2 K W)
def r_law_0 (K : PySem.W.Frag) (W : WX) : TS := tSeq (tAsg (mLst tNil) (gName 1)) (r_law_1 K W)
abbrev r_law (K : PySem.W.Frag) (W : WX) : TS := r_law_0 K W
end K96

set_option Elab.async false
set_option linter.all false
set_option maxRecDepth 100000
set_option maxHeartbeats 4000000
namespace K96
open PySem PySem.Spec PyProof.Rows L2 MM
open TL (tl)
local macro_rules | `(tactic| walk_at "ev") => `(tactic| try simp only [tSeq, List.cons.injEq, decide_true, decide_false, not_true_eq_false, not_false_eq_true, not_dec, not_b, isA_tt, isA_ss, isA_ii, isA_bb, isA_ll, isA_bi, isA_dd, isA_ib, isA_is, isA_it, isA_il, isA_si, isA_sb, isA_ti, isA_tb, isA_ts, isA_tl, isA_li, isA_lb, isA_ls, isA_lt, isA_ni, isA_nb, isA_ns, isA_nl, isA_nt, isA_bs, isA_bl, isA_bt, isA_st, isA_sl, tAsg, gName, tVar, tC, tOp, tUn, tIf, tTest, tB, tAnd, tOr, tNot, tAndV, tOrV, tNotV, tChain, tRet, tRetN, tDrop, tIfS, tNext, tCont, tBreak, tCons, tNil, tCB, mTup, mLst, mDictK, mDictT, tSl, tPart, tNoPart, oI, oIc, oEq, oNe, oIsN, oNotN, uNeg, oRep, mAdd, mIx, mLen, mIsi, tyN, mInt, mMin, mMax, mAbs, mStr, mSl, mTupOf, mListOf, mSplit, mStarts, mBM, tyM, mCall, mMeth, mMeth2, mMake, mFld, mSetF, mRaise, mTabIx, mInTab, gTupM, gCons, gNil, gSub, mSet, scal, MM.keyOf, MM.keysOf, mAppend, mExtend, mPopL, mPop, mGet, mSetd, kvPop, kvLook, seqAt, L2.start, List.map_cons, List.map_nil, List.length_cons, List.length_nil, List.replicate, List.append_nil, List.nil_append, List.cons_append, List.getElem?_cons_zero, List.getElem?_cons_succ, List.getElem?_nil, List.set_cons_zero, List.set_cons_succ, Option.some.injEq, exists_eq_left, exists_eq_left', exists_eq', exists_and_left, and_true, true_and, if_true, if_false, ite_true, ite_false, decide_eq_true_eq, Bool.not_true, Bool.not_false, Bool.not_eq_true, Bool.false_eq_true, eq_self, reduceCtorEq, and_false, false_and, V.int.injEq, V.str.injEq, V.bl.injEq, V.ref.injEq, V.ty.injEq, HO.lst.injEq, HO.tup.injEq, HO.ins.injEq, Nat.reduceAdd, Nat.reduceSub, Nat.zero_add, Nat.reduceLeDiff, Int.toNat_natCast, upd_same])
local macro_rules | `(tactic| walk_at "sd") => `(tactic| first | omega | exact lo62 (by omega) | exact hi62 (by omega) | exact sz_le (by omega) | exact sz_lt (by omega) | exact lo63 (by omega) | exact hi63 (by omega) | decide | exact ⟨by decide, by decide⟩ | exact ⟨by decide, by decide, by decide⟩ | exact Or.inl ⟨by omega, by omega⟩ | exact Or.inr ⟨by omega, by omega⟩)

theorem p__law_cell_at {K : PySem.W.Frag} (vs : List V) (H : Hp) (Q : VK) (E : XK) (h : sp__law_cell_at K vs H Q E) : r__law_cell_at K (WX0 E) { nx := fun _ H' => Q .non H', rt := Q } (start ["_law_script", "_law_k"] vs) H := by
  obtain ⟨-, a, ns, k, rfl, hS, q⟩ := h
  unfold r__law_cell_at r__law_cell_at_0
  walk_at "ev"
  refine ⟨a, _, rfl, hS, ?_⟩
  walk_at "ev"
  split
  · rename_i hk
    unfold r__law_cell_at_0t0
    walk_at "ev"
    rw [List.length_map] at hk
    have hk' : k < ns.length := by omega
    refine ⟨a, _, k, _, rfl, rfl, hS, atI_nat (v := .int (cellAt ns k)) ?_, q⟩
    rw [List.getElem?_map, List.getElem?_eq_getElem hk']
    simp [cellAt, hk']
  · rename_i hk
    unfold r__law_cell_at_1
    walk_at "ev"
    rw [List.length_map] at hk
    have e : cellAt ns k = 0 := by
      unfold cellAt
      rw [List.getD_eq_getElem?_getD, List.getElem?_eq_none (by omega)]; rfl
    rw [← e]; exact q
theorem p__law_form {K : PySem.W.Frag} (vs : List V) (H : Hp) (Q : VK) (E : XK) (h : sp__law_form K vs H Q E) : r__law_form K (WX0 E) { nx := fun _ H' => Q .non H', rt := Q } (start ["_law_cell", "_law_forms"] vs) H := by
  obtain ⟨-, c, rfl, q⟩ := h
  unfold r__law_form r__law_form_0
  walk_at "ev"
  refine ⟨by decide, fun p0 H0 n0 => ⟨by decide, fun p1 H1 n1 => ⟨by decide, fun p2 H2 n2 => ⟨by decide, fun p3 H3 n3 => ⟨by decide, fun p4 H4 n4 => ⟨by decide, fun p5 H5 n5 => ⟨by decide, fun l6 L6 m6 => ?_⟩⟩⟩⟩⟩⟩⟩
  unfold r__law_form_1
  walk_at "ev"
  refine ⟨by decide, fun p6 H6 n6 => ⟨by decide, fun p7 H7 n7 => ⟨by decide, fun p8 H8 n8 => ⟨by decide, fun p9 H9 n9 => ⟨by decide, fun p10 H10 n10 => ⟨by decide, fun l11 L11 m11 => ?_⟩⟩⟩⟩⟩⟩
  simp only [m11.same _ _ (n10.same _ _ (n9.same _ _ (n8.same _ _ (n7.same _ _ (n6.same _ _ m6.self))))), m11.self]
  walk_at "ev"
  refine ⟨by decide, fun a1 A1 k1 => ?_⟩
  unfold r__law_form_2
  walk_at "ev"
  refine ⟨by decide, fun p11 H11 n11 => ⟨by decide, fun p12 H12 n12 => ⟨by decide, fun p13 H13 n13 => ⟨by decide, fun p14 H14 n14 => ⟨by decide, fun l15 L15 m15 => ?_⟩⟩⟩⟩⟩
  simp only [m15.same _ _ (n14.same _ _ (n13.same _ _ (n12.same _ _ (n11.same _ _ k1.self)))), m15.self]
  walk_at "ev"
  refine ⟨by decide, fun a2 A2 k2 => ?_⟩
  unfold r__law_form_3
  walk_at "ev"
  have hb := Int.emod_nonneg c (show (15 : Int) ≠ 0 by decide)
  have hb2 := Int.emod_lt_of_pos c (show (0 : Int) < 15 by decide)
  obtain ⟨j, hj⟩ := Int.eq_ofNat_of_zero_le hb
  refine ⟨by decide, ?_⟩
  simp only [k2.self]
  have z := k2.same
  have e0 := k2.same _ _ (m15.same _ _ (n14.same _ _ (n13.same _ _ (n12.same _ _ (n11.same _ _ (k1.same _ _ (m11.same _ _ (n10.same _ _ (n9.same _ _ (n8.same _ _ (n7.same _ _ (n6.same _ _ (m6.same _ _ (n5.same _ _ (n4.same _ _ (n3.same _ _ (n2.same _ _ (n1.same _ _ (n0.self)))))))))))))))))))
  have e1 := k2.same _ _ (m15.same _ _ (n14.same _ _ (n13.same _ _ (n12.same _ _ (n11.same _ _ (k1.same _ _ (m11.same _ _ (n10.same _ _ (n9.same _ _ (n8.same _ _ (n7.same _ _ (n6.same _ _ (m6.same _ _ (n5.same _ _ (n4.same _ _ (n3.same _ _ (n2.same _ _ (n1.self))))))))))))))))))
  have e2 := k2.same _ _ (m15.same _ _ (n14.same _ _ (n13.same _ _ (n12.same _ _ (n11.same _ _ (k1.same _ _ (m11.same _ _ (n10.same _ _ (n9.same _ _ (n8.same _ _ (n7.same _ _ (n6.same _ _ (m6.same _ _ (n5.same _ _ (n4.same _ _ (n3.same _ _ (n2.self)))))))))))))))))
  have e3 := k2.same _ _ (m15.same _ _ (n14.same _ _ (n13.same _ _ (n12.same _ _ (n11.same _ _ (k1.same _ _ (m11.same _ _ (n10.same _ _ (n9.same _ _ (n8.same _ _ (n7.same _ _ (n6.same _ _ (m6.same _ _ (n5.same _ _ (n4.same _ _ (n3.self))))))))))))))))
  have e4 := k2.same _ _ (m15.same _ _ (n14.same _ _ (n13.same _ _ (n12.same _ _ (n11.same _ _ (k1.same _ _ (m11.same _ _ (n10.same _ _ (n9.same _ _ (n8.same _ _ (n7.same _ _ (n6.same _ _ (m6.same _ _ (n5.same _ _ (n4.self)))))))))))))))
  have e5 := k2.same _ _ (m15.same _ _ (n14.same _ _ (n13.same _ _ (n12.same _ _ (n11.same _ _ (k1.same _ _ (m11.same _ _ (n10.same _ _ (n9.same _ _ (n8.same _ _ (n7.same _ _ (n6.same _ _ (m6.same _ _ (n5.self))))))))))))))
  have e6 := k2.same _ _ (m15.same _ _ (n14.same _ _ (n13.same _ _ (n12.same _ _ (n11.same _ _ (k1.same _ _ (m11.same _ _ (n10.same _ _ (n9.same _ _ (n8.same _ _ (n7.same _ _ (n6.self))))))))))))
  have e7 := k2.same _ _ (m15.same _ _ (n14.same _ _ (n13.same _ _ (n12.same _ _ (n11.same _ _ (k1.same _ _ (m11.same _ _ (n10.same _ _ (n9.same _ _ (n8.same _ _ (n7.self)))))))))))
  have e8 := k2.same _ _ (m15.same _ _ (n14.same _ _ (n13.same _ _ (n12.same _ _ (n11.same _ _ (k1.same _ _ (m11.same _ _ (n10.same _ _ (n9.same _ _ (n8.self))))))))))
  have e9 := k2.same _ _ (m15.same _ _ (n14.same _ _ (n13.same _ _ (n12.same _ _ (n11.same _ _ (k1.same _ _ (m11.same _ _ (n10.same _ _ (n9.self)))))))))
  have e10 := k2.same _ _ (m15.same _ _ (n14.same _ _ (n13.same _ _ (n12.same _ _ (n11.same _ _ (k1.same _ _ (m11.same _ _ (n10.self))))))))
  have e11 := k2.same _ _ (m15.same _ _ (n14.same _ _ (n13.same _ _ (n12.same _ _ (n11.self)))))
  have e12 := k2.same _ _ (m15.same _ _ (n14.same _ _ (n13.same _ _ (n12.self))))
  have e13 := k2.same _ _ (m15.same _ _ (n14.same _ _ (n13.self)))
  have e14 := k2.same _ _ (m15.same _ _ (n14.self))
  have hs : Same H A2 := fun b o e => k2.same _ _ (m15.same _ _ (n14.same _ _ (n13.same _ _ (n12.same _ _ (n11.same _ _ (k1.same _ _ (m11.same _ _ (n10.same _ _ (n9.same _ _ (n8.same _ _ (n7.same _ _ (n6.same _ _ (m6.same _ _ (n5.same _ _ (n4.same _ _ (n3.same _ _ (n2.same _ _ (n1.same _ _ (n0.same _ _ (e))))))))))))))))))))
  have hx : ∀ j : Nat, j < 15 → ∃ p, ([V.ref p0, V.ref p1, V.ref p2, V.ref p3, V.ref p4, V.ref p5, V.ref p6, V.ref p7, V.ref p8, V.ref p9, V.ref p10, V.ref p11, V.ref p12, V.ref p13, V.ref p14] : List V)[j]? = some (.ref p) ∧ A2 p = some (.tup [.str (forms.getD j ("", "")).1, .str (forms.getD j ("", "")).2]) := by
    intro j hj
    match j, hj with
    | 0, _ => exact ⟨p0, rfl, e0⟩
    | 1, _ => exact ⟨p1, rfl, e1⟩
    | 2, _ => exact ⟨p2, rfl, e2⟩
    | 3, _ => exact ⟨p3, rfl, e3⟩
    | 4, _ => exact ⟨p4, rfl, e4⟩
    | 5, _ => exact ⟨p5, rfl, e5⟩
    | 6, _ => exact ⟨p6, rfl, e6⟩
    | 7, _ => exact ⟨p7, rfl, e7⟩
    | 8, _ => exact ⟨p8, rfl, e8⟩
    | 9, _ => exact ⟨p9, rfl, e9⟩
    | 10, _ => exact ⟨p10, rfl, e10⟩
    | 11, _ => exact ⟨p11, rfl, e11⟩
    | 12, _ => exact ⟨p12, rfl, e12⟩
    | 13, _ => exact ⟨p13, rfl, e13⟩
    | 14, _ => exact ⟨p14, rfl, e14⟩
  have hj15 : j < 15 := by omega
  obtain ⟨p, g1, g2⟩ := hx j hj15
  refine ⟨.ref p, by rw [hj]; exact atI_nat g1, q p A2 hs ?_⟩
  rw [g2]
  unfold lawForm
  rw [hj]; rfl

theorem one_iff {k m : Nat} {s : Str} (h : s = ⟨#[m]⟩) : ((⟨#[k]⟩ : Str) = s) ↔ k = m := by
  subst h; simp
theorem one_r {k : Nat} : ((⟨#[k]⟩ : Str) = Str.ofString "r") ↔ k = 114 := one_iff (by decide +kernel)
theorem one_v {k : Nat} : ((⟨#[k]⟩ : Str) = Str.ofString "v") ↔ k = 118 := one_iff (by decide +kernel)
theorem one_n {k : Nat} : ((⟨#[k]⟩ : Str) = Str.ofString "n") ↔ k = 110 := one_iff (by decide +kernel)
end K96

set_option Elab.async false
set_option linter.all false
set_option maxRecDepth 100000
set_option maxHeartbeats 4000000
namespace K96
open PySem PySem.Spec PyProof.Rows L2 MM
open TL (tl)
local macro_rules | `(tactic| walk_at "ev") => `(tactic| try simp only [tSeq, List.cons.injEq, decide_true, decide_false, not_true_eq_false, not_false_eq_true, not_dec, not_b, isA_tt, isA_ss, isA_ii, isA_bb, isA_ll, isA_bi, isA_dd, isA_ib, isA_is, isA_it, isA_il, isA_si, isA_sb, isA_ti, isA_tb, isA_ts, isA_tl, isA_li, isA_lb, isA_ls, isA_lt, isA_ni, isA_nb, isA_ns, isA_nl, isA_nt, isA_bs, isA_bl, isA_bt, isA_st, isA_sl, tAsg, gName, tVar, tC, tOp, tUn, tIf, tTest, tB, tAnd, tOr, tNot, tAndV, tOrV, tNotV, tChain, tRet, tRetN, tDrop, tIfS, tNext, tCont, tBreak, tCons, tNil, tCB, mTup, mLst, mDictK, mDictT, tSl, tPart, tNoPart, oI, oIc, oEq, oNe, oIsN, oNotN, uNeg, oRep, mAdd, mIx, mLen, mIsi, tyN, mInt, mMin, mMax, mAbs, mStr, mSl, mTupOf, mListOf, mSplit, mStarts, mBM, tyM, mCall, mMeth, mMeth2, mMake, mFld, mSetF, mRaise, mTabIx, mInTab, gTupM, gCons, gNil, gSub, mSet, scal, MM.keyOf, MM.keysOf, mAppend, mExtend, mPopL, mPop, mGet, mSetd, kvPop, kvLook, seqAt, L2.start, List.map_cons, List.map_nil, List.length_cons, List.length_nil, List.replicate, List.append_nil, List.nil_append, List.cons_append, List.getElem?_cons_zero, List.getElem?_cons_succ, List.getElem?_nil, List.set_cons_zero, List.set_cons_succ, Option.some.injEq, exists_eq_left, exists_eq_left', exists_eq', exists_and_left, and_true, true_and, if_true, if_false, ite_true, ite_false, decide_eq_true_eq, decide_eq_false_iff_not, Bool.not_true, Bool.not_false, Bool.not_eq_true, Bool.false_eq_true, eq_self, reduceCtorEq, and_false, false_and, V.int.injEq, V.str.injEq, V.bl.injEq, V.ref.injEq, V.ty.injEq, HO.lst.injEq, HO.tup.injEq, HO.ins.injEq, Nat.reduceAdd, Nat.reduceSub, Nat.zero_add, Nat.reduceLeDiff, Int.toNat_natCast, upd_same])
local macro_rules | `(tactic| walk_at "sd") => `(tactic| first | omega | exact lo62 (by omega) | exact hi62 (by omega) | exact sz_le (by omega) | exact sz_lt (by omega) | exact lo63 (by omega) | exact hi63 (by omega) | decide | exact ⟨by decide, by decide⟩ | exact ⟨by decide, by decide, by decide⟩ | exact Or.inl ⟨by omega, by omega⟩ | exact Or.inr ⟨by omega, by omega⟩)
theorem tl_fig : tl (Str.ofString "0123456789") = [48, 49, 50, 51, 52, 53, 54, 55, 56, 57] := by decide +kernel
theorem mem_fig (c : Nat) : (c ∈ (Str.ofString "0123456789").cps.toList) ↔ isD c = true := by
  rw [show (Str.ofString "0123456789").cps.toList = tl (Str.ofString "0123456789") from rfl, tl_fig]
  unfold isD
  simp only [List.mem_cons, List.not_mem_nil, or_false, Bool.and_eq_true, decide_eq_true_eq]
  omega
theorem len_s (w : Str) : (w.length : Int) = ((tl w).length : Nat) := by rw [TL.len_tl]
theorem mIn1 {b : Bool} {c : Nat} {z : Str} {H : Hp} {Q : VK} : mIn b (.str ⟨#[c]⟩) (.str z) H Q = Q (.bl (if b then !decide (c ∈ z.cps.toList) else decide (c ∈ z.cps.toList))) H := rfl
theorem one_0 {k : Nat} : ((⟨#[k]⟩ : Str) = Str.ofString "0") ↔ k = 48 := one_iff (by decide +kernel)
theorem rdNum_none {l : List Nat} (h : numOk l = false) : rdNum l = none := by unfold rdNum; rw [h]; rfl
theorem rdNum_some {l : List Nat} (h : numOk l = true) : rdNum l = some ((NumText.digitsVal l : Nat) : Int) := by unfold rdNum; rw [h]; rfl
theorem numOk_iff {l : List Nat} : numOk l = true ↔ 1 ≤ l.length ∧ l.length ≤ 60 ∧ (∀ c ∈ l, isD c = true) ∧ ¬ (1 < l.length ∧ l.head? = some 48) := by
  unfold numOk
  simp only [Bool.and_eq_true, decide_eq_true_eq, List.all_eq_true, Bool.not_eq_true', Bool.and_eq_false_imp, beq_eq_false_iff_ne, ne_eq, not_and]
theorem numOk_no {l : List Nat} (h : ¬ (1 ≤ l.length ∧ l.length ≤ 60 ∧ (∀ c ∈ l, isD c = true) ∧ ¬ (1 < l.length ∧ l.head? = some 48))) : numOk l = false := by
  cases e : numOk l with
  | false => rfl
  | true => exact absurd (numOk_iff.mp e) h
theorem p_read_number {K : PySem.W.Frag} (vs : List V) (H : Hp) (Q : VK) (E : XK) (h : sp_read_number K vs H Q E) : r_read_number K (WX0 E) { nx := fun _ H' => Q .non H', rt := Q } (start ["text", "sign"] vs) H := by
  obtain ⟨-, w, rfl, hl, q⟩ := h
  have hl' : w.length = (tl w).length := TL.len_tl w
  unfold r_read_number r_read_number_0
  walk_at "ev"
  refine ⟨hl, ?_⟩
  split
  · rename_i h1
    split
    · rename_i h2
      unfold r_read_number_0t0
      walk_at "ev"
      rw [rdNum_none (numOk_no (fun z => by omega))] at q
      exact q
    · rename_i h2
      unfold r_read_number_1
      walk_at "ev"
      refine m_str (x := w) (H1 := H) (fun R h => by walk_at "ev"; exact h) (fun i σ H' => H' = H ∧ (∃ v, σ = [some (.str w), v]) ∧ ∀ k c, k < i → (tl w)[k]? = some c → isD c = true) ⟨rfl, ⟨none, rfl⟩, fun k c hk => by omega⟩ ?_ ?_
      · rintro i c σ H' hc ⟨rfl, ⟨v, rfl⟩, ha⟩
        unfold g_read_number_0
        walk_at "ev"
        unfold r_read_number_1f0
        walk_at "ev"
        rw [mIn1]
        walk_at "ev"
        split
        · rename_i hd
          unfold r_read_number_1f0t0
          walk_at "ev"
          rw [mem_fig] at hd
          rw [rdNum_none (numOk_no (fun z => hd (z.2.2.1 c (List.mem_of_getElem? hc))))] at q
          exact q
        · rename_i hd
          rw [mem_fig] at hd
          intro k c' hk hc'
          by_cases hki : k = i
          · subst hki
            rw [hc] at hc'; cases hc'; exact Classical.not_not.mp hd
          · exact ha k c' (by omega) hc'
      · rintro σ H' ⟨rfl, ⟨v, rfl⟩, ha⟩
        have had : ∀ c ∈ tl w, isD c = true := fun c hc => by
          obtain ⟨k, hk⟩ := List.getElem?_of_mem hc
          exact ha k c (List.getElem?_eq_some_iff.mp hk).1 hk
        walk_at "ev"
        unfold r_read_number_2
        walk_at "ev"
        refine ⟨hl, ?_⟩
        have fin : ¬ (1 < (tl w).length ∧ (tl w).head? = some 48) → ∀ v, r_read_number_3 K (WX0 E) { nx := fun x H' => Q V.non H', rt := Q } [some (V.str w), v] H' := by
          intro hh v
          unfold r_read_number_3
          walk_at "ev"
          rw [rdNum_some (numOk_iff.mpr ⟨by omega, by omega, had, hh⟩)] at q
          refine ⟨by omega, ?_⟩
          rw [PySem.intText_digits (x := w) (fun c hc => by
            have := had c hc
            unfold isD at this
            simp only [Bool.and_eq_true, decide_eq_true_eq] at this
            exact this) (fun e => by
              have : (tl w).length = 0 := by rw [show tl w = [] from e]; rfl
              omega) (by omega)]
          exact q
        split
        · rename_i h3
          refine ⟨hl, ?_⟩
          obtain ⟨x, r, er⟩ : ∃ x r, tl w = x :: r := by
            cases e : tl w with
            | nil => rw [e] at hl'; simp at hl'; omega
            | cons x r => exact ⟨x, r, rfl⟩
          have ea : atI w.cps.toList 0 = some x := by
            show atI (tl w) ((0 : Nat) : Int) = some x
            rw [er]; exact atI_nat rfl
          refine ⟨x, ea, ?_⟩
          simp only [one_0]
          split
          · rename_i h4
            unfold r_read_number_2t0
            walk_at "ev"
            rw [rdNum_none (numOk_no (fun z => z.2.2.2 ⟨by omega, by rw [er, h4]; rfl⟩))] at q
            exact q
          · rename_i h4
            exact fin (fun z => h4 (by have := z.2; rw [er] at this; simpa using this)) v
        · rename_i h3
          exact fin (fun z => by omega) v
  · rename_i h1
    unfold r_read_number_0t0
    walk_at "ev"
    rw [rdNum_none (numOk_no (fun z => by omega))] at q
    exact q
end K96

set_option Elab.async false
set_option linter.all false
set_option maxRecDepth 100000
set_option maxHeartbeats 4000000
namespace K96
open PySem PySem.Spec PyProof.Rows L2 MM
open TL (tl)
local macro_rules | `(tactic| walk_at "ev") => `(tactic| try simp only [tSeq, List.cons.injEq, decide_true, decide_false, not_true_eq_false, not_false_eq_true, not_dec, not_b, isA_tt, isA_ss, isA_ii, isA_bb, isA_ll, isA_bi, isA_dd, isA_ib, isA_is, isA_it, isA_il, isA_si, isA_sb, isA_ti, isA_tb, isA_ts, isA_tl, isA_li, isA_lb, isA_ls, isA_lt, isA_ni, isA_nb, isA_ns, isA_nl, isA_nt, isA_bs, isA_bl, isA_bt, isA_st, isA_sl, tAsg, gName, tVar, tC, tOp, tUn, tIf, tTest, tB, tAnd, tOr, tNot, tAndV, tOrV, tNotV, tChain, tRet, tRetN, tDrop, tIfS, tNext, tCont, tBreak, tCons, tNil, tCB, mTup, mLst, mDictK, mDictT, tSl, tPart, tNoPart, oI, oIc, oEq, oNe, oIsN, oNotN, uNeg, oRep, mAdd, mIx, mLen, mIsi, tyN, mInt, mMin, mMax, mAbs, mStr, mSl, mTupOf, mListOf, mSplit, mStarts, mBM, tyM, mCall, mMeth, mMeth2, mMake, mFld, mSetF, mRaise, mTabIx, mInTab, gTupM, gCons, gNil, gSub, mSet, scal, MM.keyOf, MM.keysOf, mAppend, mExtend, mPopL, mPop, mGet, mSetd, kvPop, kvLook, seqAt, L2.start, List.map_cons, List.map_nil, List.length_cons, List.length_nil, List.replicate, List.append_nil, List.nil_append, List.cons_append, List.getElem?_cons_zero, List.getElem?_cons_succ, List.getElem?_nil, List.set_cons_zero, List.set_cons_succ, Option.some.injEq, exists_eq_left, exists_eq_left', exists_eq', exists_and_left, and_true, true_and, if_true, if_false, ite_true, ite_false, decide_eq_true_eq, decide_eq_false_iff_not, Bool.not_true, Bool.not_false, Bool.not_eq_true, Bool.false_eq_true, eq_self, reduceCtorEq, and_false, false_and, V.int.injEq, V.str.injEq, V.bl.injEq, V.ref.injEq, V.ty.injEq, HO.lst.injEq, HO.tup.injEq, HO.ins.injEq, Nat.reduceAdd, Nat.reduceSub, Nat.zero_add, Nat.reduceLeDiff, Int.toNat_natCast, upd_same])
local macro_rules | `(tactic| walk_at "sd") => `(tactic| first | omega | exact lo62 (by omega) | exact hi62 (by omega) | exact sz_le (by omega) | exact sz_lt (by omega) | exact lo63 (by omega) | exact hi63 (by omega) | decide | exact ⟨by decide, by decide⟩ | exact ⟨by decide, by decide, by decide⟩ | exact Or.inl ⟨by omega, by omega⟩ | exact Or.inr ⟨by omega, by omega⟩)
theorem starts_iff {w y : Str} (hy : tl y ≠ []) : Txt.startswith w y = true ↔ TL.pre (tl y) (tl w) = true := by
  have := TL.at_iff (x := w) hy 0
  unfold PySem.StrLaws.At at this
  unfold Txt.startswith
  rw [Bool.and_eq_true, decide_eq_true_eq, this]; rfl
theorem starts_minus {w : Str} : Txt.startswith w (Str.ofString "-") = decide ((tl w).head? = some 45) := by
  have e : tl (Str.ofString "-") = [45] := by decide +kernel
  have := starts_iff (w := w) (y := Str.ofString "-") (by rw [e]; decide)
  rw [e] at this
  have h2 : TL.pre [45] (tl w) = true ↔ (tl w).head? = some 45 := by
    unfold TL.pre
    cases tl w with
    | nil => decide
    | cons a r => simp
  cases e2 : Txt.startswith w (Str.ofString "-") with
  | true => exact (decide_eq_true (h2.mp (this.mp e2))).symm
  | false => exact (decide_eq_false (fun z => by rw [this.mpr (h2.mpr z)] at e2; cases e2)).symm
theorem tl_cut1 (w : Str) : tl (cutS w (some 1) none) = (tl w).tail := by
  unfold cutS
  rw [TL.tl_mk, HT.sIx_none, show (some (1 : Int)) = some ((1 : Nat) : Int) from rfl, HT.sIx_nat, TL.len_tl]
  show List.take _ (List.drop _ (tl w)) = _
  cases tl w with
  | nil => rfl
  | cons a r =>
    have : min 1 ((a :: r).length) = 1 := by simp
    rw [this]
    simp
theorem p_read_value {K : PySem.W.Frag} (vs : List V) (H : Hp) (Q : VK) (E : XK) (h : sp_read_value K vs H Q E) : r_read_value K (WX0 E) { nx := fun _ H' => Q .non H', rt := Q } (start ["text", "value"] vs) H := by
  obtain ⟨-, w, rfl, hl, q⟩ := h
  have hl' : w.length = (tl w).length := TL.len_tl w
  unfold r_read_value r_read_value_0
  walk_at "ev"
  rw [starts_minus]
  walk_at "ev"
  split
  · rename_i h1
    unfold r_read_value_0t0
    walk_at "ev"
    refine ⟨rfl, w, rfl, hl, ?_⟩
    unfold rdVal at q
    rw [if_neg h1] at q
    cases e : rdNum (tl w) with
    | none => rw [e] at q; exact q
    | some n => rw [e] at q; exact q
  · rename_i h1
    have h1' : (tl w).head? = some 45 := Classical.not_not.mp h1
    unfold rdVal at q
    rw [if_pos h1'] at q
    unfold r_read_value_1
    walk_at "ev"
    refine ⟨hl, rfl, cutS w (some 1) none, rfl, Nat.le_trans (cutS_length _ _ _) hl, ?_⟩
    rw [tl_cut1]
    cases e : rdNum (tl w).tail with
    | none => rw [e] at q; exact q
    | some n =>
      rw [e] at q
      show _
      simp only []
      unfold r_read_value_2
      walk_at "ev"
      split
      · rename_i h2
        unfold r_read_value_2t0
        walk_at "ev"
        rw [h2] at q
        exact q
      · rename_i h2
        unfold r_read_value_3
        walk_at "ev"
        simp only [if_neg h2] at q
        exact q
theorem mem_rm (c : Nat) : (c ∈ (Str.ofString "r-").cps.toList) ↔ (c = 114 ∨ c = 45) := by
  rw [show (Str.ofString "r-").cps.toList = [114, 45] from by decide +kernel]; simp
theorem mem_wm (c : Nat) : (c ∈ (Str.ofString "w-").cps.toList) ↔ (c = 119 ∨ c = 45) := by
  rw [show (Str.ofString "w-").cps.toList = [119, 45] from by decide +kernel]; simp
theorem one_w {k : Nat} : ((⟨#[k]⟩ : Str) = Str.ofString "w") ↔ k = 119 := one_iff (by decide +kernel)
theorem p_read_rights {K : PySem.W.Frag} (vs : List V) (H : Hp) (Q : VK) (E : XK) (h : sp_read_rights K vs H Q E) : r_read_rights K (WX0 E) { nx := fun _ H' => Q .non H', rt := Q } (start ["text"] vs) H := by
  obtain ⟨-, w, rfl, hl, q⟩ := h
  have hl' : w.length = (tl w).length := TL.len_tl w
  unfold r_read_rights r_read_rights_0
  walk_at "ev"
  refine ⟨hl, ?_⟩
  unfold rdRights at q
  split
  · rename_i h1
    unfold r_read_rights_0t0
    walk_at "ev"
    cases e : tl w with
    | nil => rw [e] at q; exact q
    | cons a r =>
      rw [e] at q hl'
      match r, q, hl' with
      | [], q, _ => exact q
      | [b], _, hl' => simp at hl'; omega
      | b :: c :: r, q, _ => exact q
  · rename_i h1
    refine ⟨hl, ?_⟩
    obtain ⟨a, b, e⟩ : ∃ a b, tl w = [a, b] := by
      match e : tl w with
      | [] => rw [e] at hl'; simp at hl'; omega
      | [a] => rw [e] at hl'; simp at hl'; omega
      | [a, b] => exact ⟨a, b, rfl⟩
      | a :: b :: c :: r => rw [e] at hl'; simp at hl'; omega
    rw [e] at q
    have ea : atI w.cps.toList 0 = some a := by
      show atI (tl w) ((0 : Nat) : Int) = some a
      rw [e]; exact atI_nat rfl
    have eb : atI w.cps.toList 1 = some b := by
      show atI (tl w) ((1 : Nat) : Int) = some b
      rw [e]; exact atI_nat rfl
    simp only [] at q
    have neg : ¬ ((a = 114 ∨ a = 45) ∧ (b = 119 ∨ b = 45)) → ∀ D, r_read_rights_0t0 K (WX0 E) D [some (V.str w)] H := by
      intro hn D
      unfold r_read_rights_0t0
      walk_at "ev"
      rw [if_neg hn] at q
      exact q
    refine ⟨a, ea, ?_⟩
    rw [mIn1]
    walk_at "ev"
    simp only [mem_rm]
    split
    · rename_i h2
      exact neg (fun z => h2 z.1) _
    · rename_i h2
      refine ⟨hl, b, eb, ?_⟩
      rw [mIn1]
      walk_at "ev"
      simp only [mem_wm]
      split
      · rename_i h3
        exact neg (fun z => h3 z.2) _
      · rename_i h3
        have h2' := Classical.not_not.mp h2
        have h3' := Classical.not_not.mp h3
        rw [if_pos ⟨h2', h3'⟩] at q
        unfold r_read_rights_1
        walk_at "ev"
        refine ⟨hl, a, ea, ?_⟩
        refine ⟨hl, b, eb, ?_⟩
        simp only [one_r, one_w]
        exact ⟨by split <;> walk_at "sd", q⟩
end K96

set_option Elab.async false
set_option linter.all false
set_option maxRecDepth 100000
set_option maxHeartbeats 4000000
namespace K96
open PySem PySem.Spec PyProof.Rows L2 MM
open TL (tl)
local macro_rules | `(tactic| walk_at "ev") => `(tactic| try simp only [tSeq, tFor_Lp, tLc_Lc, iRng1, iRng2, iRng3, iStr, iZipS, iRev, iEnum, iList, iTup, List.cons.injEq, decide_true, decide_false, not_true_eq_false, not_false_eq_true, not_dec, not_b, isA_tt, isA_ss, isA_ii, isA_bb, isA_ll, isA_bi, isA_dd, isA_ib, isA_is, isA_it, isA_il, isA_si, isA_sb, isA_ti, isA_tb, isA_ts, isA_tl, isA_li, isA_lb, isA_ls, isA_lt, isA_ni, isA_nb, isA_ns, isA_nl, isA_nt, isA_bs, isA_bl, isA_bt, isA_st, isA_sl, tAsg, gName, tVar, tC, tOp, tUn, tIf, tTest, tB, tAnd, tOr, tNot, tAndV, tOrV, tNotV, tChain, tRet, tRetN, tDrop, tIfS, tNext, tCont, tBreak, tCons, tNil, tCB, mTup, mLst, mDictK, mDictT, tSl, tPart, tNoPart, oI, oIc, oEq, oNe, oIsN, oNotN, uNeg, oRep, mAdd, mIx, mLen, mIsi, tyN, mInt, mMin, mMax, mAbs, mStr, mSl, mTupOf, mListOf, mSplit, mStarts, mBM, tyM, mCall, mMeth, mMeth2, mMake, mFld, mSetF, mRaise, mTabIx, mInTab, gTupM, gCons, gNil, gSub, mSet, scal, MM.keyOf, MM.keysOf, mAppend, mExtend, mPopL, mPop, mGet, mSetd, kvPop, kvLook, seqAt, L2.start, List.map_cons, List.map_nil, List.length_cons, List.length_nil, List.replicate, List.append_nil, List.nil_append, List.cons_append, List.getElem?_cons_zero, List.getElem?_cons_succ, List.getElem?_nil, List.set_cons_zero, List.set_cons_succ, Option.some.injEq, exists_eq_left, exists_eq_left', exists_eq', exists_and_left, and_assoc, and_true, true_and, if_true, if_false, ite_true, ite_false, decide_eq_true_eq, decide_eq_false_iff_not, Bool.not_true, Bool.not_false, Bool.not_eq_true, Bool.false_eq_true, eq_self, reduceCtorEq, and_false, false_and, V.int.injEq, V.str.injEq, V.bl.injEq, V.ref.injEq, V.ty.injEq, HO.lst.injEq, HO.tup.injEq, HO.ins.injEq, Nat.reduceAdd, Nat.reduceSub, Nat.zero_add, Nat.reduceLeDiff, Int.toNat_natCast, upd_same])
local macro_rules | `(tactic| walk_at "sd") => `(tactic| first | omega | exact lo62 (by omega) | exact hi62 (by omega) | exact sz_le (by omega) | exact sz_lt (by omega) | exact lo63 (by omega) | exact hi63 (by omega) | decide | exact ⟨by decide, by decide⟩ | exact ⟨by decide, by decide, by decide⟩ | exact Or.inl ⟨by omega, by omega⟩ | exact Or.inr ⟨by omega, by omega⟩)
theorem spl_ne (S : List Nat) : ∀ (l : List Nat) (k : Nat) (acc : List Nat), TL.spl S k acc l ≠ []
  | [], k, acc => by rw [TL.spl_nil]; exact List.cons_ne_nil _ _
  | c :: r, 0, acc => by
    unfold TL.spl
    split
    · exact List.cons_ne_nil _ _
    · exact spl_ne S r 0 _
  | c :: r, k + 1, acc => by
    unfold TL.spl
    exact spl_ne S r k acc
theorem spl_len (S : List Nat) : ∀ (l : List Nat) (k : Nat) (acc : List Nat), ∀ p ∈ TL.spl S k acc l, p.length ≤ acc.length + l.length
  | [], k, acc => by rw [TL.spl_nil]; intro p hp; simp at hp; subst hp; simp
  | c :: r, 0, acc => by
    unfold TL.spl
    split
    · intro p hp
      rcases List.mem_cons.mp hp with rfl | hp
      · omega
      · have := spl_len S r _ [] p hp
        simp at this ⊢; omega
    · intro p hp
      have := spl_len S r 0 _ p hp
      simp at this ⊢; omega
  | c :: r, k + 1, acc => by
    unfold TL.spl
    intro p hp
    have := spl_len S r k acc p hp
    simp at this ⊢; omega
theorem tl_bl : tl (Str.ofString " ") = [32] := by decide +kernel
theorem split_bl (x : Str) : (Txt.split x (Str.ofString " ")).map tl = TL.spl [32] 0 [] (tl x) := by
  have := TL.split_spl x (Str.ofString " ") (by rw [tl_bl]; decide) (TL.kind_ok (by decide +kernel))
  rw [tl_bl] at this; exact this
theorem split_ne (x : Str) : Txt.split x (Str.ofString " ") ≠ [] := by
  intro e
  have := split_bl x
  rw [e] at this
  exact spl_ne _ _ _ _ this.symm
theorem split_len (x : Str) : ∀ w ∈ Txt.split x (Str.ofString " "), w.length ≤ x.length := by
  intro w hw
  have h1 : tl w ∈ TL.spl [32] 0 [] (tl x) := by rw [← split_bl]; exact List.mem_map_of_mem hw
  have := spl_len _ _ _ _ _ h1
  rw [TL.len_tl, TL.len_tl]; simpa using this
theorem cut1 (a : V) (r : List V) : cutV (a :: r) (some 1) none = r := by
  unfold cutV
  rw [HT.sIx_none, show (some (1 : Int)) = some ((1 : Nat) : Int) from rfl, HT.sIx_nat]
  have : min 1 ((a :: r).length) = 1 := by simp
  rw [this]; simp
theorem rdParts_none {c : Nat} {w : Str} {ks : List Nat} {ws : List Str} (h : rdPart c w = none) : rdParts (c :: ks) (w :: ws) = none := by unfold rdParts; rw [h]
theorem rdParts_some {c : Nat} {n : Int} {w : Str} {ks : List Nat} {ws : List Str} (h : rdPart c w = some n) : rdParts (c :: ks) (w :: ws) = (rdParts ks ws).map (n :: ·) := by
  rw [rdParts, h]
  cases rdParts ks ws <;> rfl
theorem kinds_some {w : Str} {v : V} (h : tab_WORDS.lookup w = some v) : ∃ k, v = .str k ∧ kindsOf w = some k ∧ k.length ≤ 10 := by
  have : ∀ q ∈ tab_WORDS, ∃ k, q.2 = .str k ∧ k.length ≤ 10 := by
    have h : tab_WORDS.all (fun q => match q.2 with | .str k => decide (k.length ≤ 10) | _ => false) = true := by decide +kernel
    intro q hq
    have := List.all_eq_true.mp h q hq
    cases e : q.2 with
    | str k => rw [e] at this; exact ⟨k, rfl, by simpa using this⟩
    | _ => rw [e] at this; cases this
  have gen : ∀ (t : List (Str × V)), t.lookup w = some v → ∃ z, (z, v) ∈ t := by
    intro t
    induction t with
    | nil => intro h; cases h
    | cons a r ih =>
      intro h
      obtain ⟨a1, a2⟩ := a
      rw [List.lookup_cons] at h
      split at h
      · cases h; exact ⟨_, List.mem_cons_self ..⟩
      · obtain ⟨z, hz⟩ := ih h; exact ⟨z, List.mem_cons_of_mem _ hz⟩
  obtain ⟨z, hz⟩ := gen _ h
  obtain ⟨k, rfl, hk⟩ := this _ hz
  exact ⟨k, rfl, by unfold kindsOf; rw [h], hk⟩
theorem p_read_row {K : PySem.W.Frag} (vs : List V) (H : Hp) (Q : VK) (E : XK) (h : sp_read_row K vs H Q E) : r_read_row K (WX0 E) { nx := fun _ H' => Q .non H', rt := Q } (start ["text", "words", "kinds", "parts", "word", "kind"] vs) H := by
  obtain ⟨-, x, rfl, hl, q⟩ := h
  unfold r_read_row r_read_row_0
  walk_at "ev"
  refine ⟨by decide +kernel, by walk_at "sd", fun p H1 n1 => ?_⟩
  unfold r_read_row_1
  walk_at "ev"
  unfold rdRow at q
  have hw := split_len x
  generalize e : Txt.split x (Str.ofString " ") = ws at *
  cases ws with
  | nil => exact absurd e (split_ne x)
  | cons w r =>
    simp only [n1.self, List.map_cons]
    have hat : ∀ zs : List V, atI (V.str w :: zs) 0 = some (V.str w) := fun zs => atI_nat (j := 0) rfl
    refine ⟨_, hat _, ?_⟩
    walk_at "ev"
    have qe : ∀ k0, kindsOf w = some k0 → rdWords (w :: r) = (if r.length = (if w = Str.ofString "lay" ∧ r.length = 6 then k0 ++ Str.ofString "nn" else k0).length then (match rdParts (tl (if w = Str.ofString "lay" ∧ r.length = 6 then k0 ++ Str.ofString "nn" else k0)) r with
        | some ns => some (.str w :: ns.map V.int ++ (if w = Str.ofString "lay" ∧ r.length = 4 then [V.non, V.int 0] else []))
        | none => none)
      else none) := fun k0 hk => by unfold rdWords; simp only [hk]; try rfl
    have qn : kindsOf w = none → rdWords (w :: r) = none := fun hk => by unfold rdWords; simp only [hk]
    cases ek : tab_WORDS.lookup w with
    | none =>
      rw [qn (by unfold kindsOf; rw [ek])] at q
      walk_at "ev"
      unfold r_read_row_1t0
      walk_at "ev"
      exact q _ n1.same
    | some v =>
      obtain ⟨k0, rfl, ek2, hk0⟩ := kinds_some ek
      rw [qe _ ek2] at q
      clear qe qn
      walk_at "ev"
      unfold r_read_row_2
      walk_at "ev"
      simp only [n1.self, List.map_cons]
      refine ⟨_, hat _, ?_⟩
      simp only [ek]
      have go : ∀ k : Str, k = (if w = Str.ofString "lay" ∧ r.length = 6 then k0 ++ Str.ofString "nn" else k0) → r_read_row_4 K (WX0 E) { nx := fun x H' => Q V.non H', rt := Q } [some (V.str x), some (V.ref p), some (V.str k), none, none, none] H1 := by
        intro k hk
        rw [← hk] at q
        unfold r_read_row_4
        walk_at "ev"
        simp only [n1.self, List.map_cons]
        have hkl : k.length = (tl k).length := TL.len_tl k
        have hkl2 : k.length ≤ 12 := by
          rw [hk]; split
          · rw [show (k0 ++ Str.ofString "nn").length = k0.length + 2 from by rw [TL.len_tl, TL.tl_append, List.length_append, ← TL.len_tl, show (tl (Str.ofString "nn")).length = 2 from by decide +kernel]]
            omega
          · omega
        have hne : ∀ ns : List Int, ns.length ≤ r.length → True := fun _ _ => trivial
        refine ⟨by walk_at "sd", ?_⟩
        split
        · rename_i h1
          have h1' : ¬ r.length = k.length := fun z => h1 (by rw [List.length_cons, List.length_map]; omega)
          rw [if_neg h1'] at q
          unfold r_read_row_4t0
          walk_at "ev"
          exact q _ n1.same
        · rename_i h1
          have h1' : r.length = k.length := by
            have := Classical.not_not.mp h1
            rw [List.length_cons, List.length_map] at this
            omega
          rw [if_pos h1'] at q
          unfold r_read_row_5
          walk_at "ev"
          simp only [n1.self, List.map_cons]
          refine ⟨_, hat _, by decide, fun m H2 n2 => ?_⟩
          unfold r_read_row_6
          have e1 : H2 p = some (.lst ((w :: r).map V.str)) := n2.same _ _ n1.self
          walk_at "ev"
          simp only [e1, List.map_cons]
          intro l H3 n3
          have ec : cutV (V.str w :: r.map V.str) (some 1) none = r.map V.str := cut1 _ _
          have ls : SqL K H3 l (r.map V.str) := sqL (by rw [n3.self, ec])
          have e3m : H3 m = some (.lst [.str w]) := n3.same _ _ n2.self
          refine ⟨r.map V.str, ls, ?_⟩
          obtain ⟨Pv, hP⟩ : ∃ Pv : Nat → L2.St → Hp → Prop, Pv = (fun i σ H' => ∃ v4 v5 ns, σ = [some (.str x), some (.ref p), some (.str k), some (.ref m), v4, v5] ∧ Same H1 H' ∧ H' l = some (.lst (r.map V.str)) ∧ H' m = some (.lst (.str w :: ns.map V.int)) ∧ ns.length = i ∧ rdParts (tl k) r = (rdParts ((tl k).drop i) (r.drop i)).map (ns ++ ·)) := ⟨_, rfl⟩
          have hlm : l ≠ m := fun z => by rw [z] at n3; have := n3.1; rw [n2.self] at this; cases this
          refine lp (t_zipS (r.map V.str)) Pv ?_ ?_ ?_ ?_
          · rw [hP]
            refine ⟨none, none, [], rfl, fun b o e => n3.same _ _ (n2.same _ _ e), by rw [n3.self, ec], e3m, rfl, ?_⟩
            rw [List.drop_zero, List.drop_zero]; cases rdParts (tl k) r <;> rfl
          · intro i σ' H' hi pv
            rw [hP] at pv
            obtain ⟨v4, v5, ns, -, -, hl, -⟩ := pv
            exact sqL hl
          · intro i v σ' H' H'' hi pv yv
            rw [hP] at pv
            obtain ⟨v4, v5, ns, rfl, hs, hl, hm, hn, he⟩ := pv
            obtain ⟨T, v1, c, rfl, nT, hr, hc⟩ := yv
            unfold g_read_row_0
            walk_at "ev"
            simp only [nT.self]
            walk_at "ev"
            obtain ⟨wd, hwd, rfl⟩ : ∃ wd, r[i]? = some wd ∧ v1 = .str wd := by
              rw [List.getElem?_map] at hr
              cases e9 : r[i]? with
              | none => rw [e9] at hr; cases hr
              | some wd => rw [e9] at hr; cases hr; exact ⟨wd, rfl, rfl⟩
            have hi1 : i < r.length := (List.getElem?_eq_some_iff.mp hwd).1
            have hi2 : i < (tl k).length := (List.getElem?_eq_some_iff.mp hc).1
            have d1 : (tl k).drop i = c :: (tl k).drop (i + 1) := by rw [List.drop_eq_getElem_cons hi2]; congr 1; exact Option.some.inj ((List.getElem?_eq_getElem hi2).symm.trans hc)
            have d2 : r.drop i = wd :: r.drop (i + 1) := by rw [List.drop_eq_getElem_cons hi1]; congr 1; exact Option.some.inj ((List.getElem?_eq_getElem hi1).symm.trans hwd)
            have hwl : wd.length ≤ sizeLine := Nat.le_trans (hw wd (List.mem_cons_of_mem _ (List.mem_of_getElem? hwd))) (by walk_at "sd")
            rw [d1, d2] at he
            have hsT : Same H1 H'' := fun b o e => nT.same _ _ (hs b o e)
            have hmT : H'' m = some (.lst (.str w :: ns.map V.int)) := nT.same _ _ hm
            have hlT : H'' l = some (.lst (r.map V.str)) := nT.same _ _ hl
            have fail : rdPart c wd = none → E (.ref (He.ga K "NoRow")) none H'' := by
              intro h0
              rw [rdParts_none h0] at he
              rw [he] at q
              exact q _ (fun b o e => hsT _ _ (n1.same _ _ e))
            have step : ∀ n, rdPart c wd = some n → ∀ H5, Wr H'' m (.lst (V.str w :: (ns.map V.int ++ [V.int n]))) H5 → Pv (i + 1) [some (.str x), some (.ref p), some (.str k), some (.ref m), some (V.str wd), some (V.str ⟨#[c]⟩)] H5 := by
              intro n h0 H5 w5
              rw [rdParts_some h0] at he
              rw [hP]
              have hmn : ∀ b o, H1 b = some o → b ≠ m := fun b o e z => by rw [z] at e; have := n2.1; rw [e] at this; cases this
              refine ⟨_, _, ns ++ [n], rfl, fun b o e => by rw [w5.ne (hmn b o e)]; exact hsT b o e, by rw [w5.ne hlm]; exact hlT, by rw [w5.self, List.map_append]; rfl, by rw [List.length_append, hn]; rfl, ?_⟩
              rw [he]
              cases rdParts ((tl k).drop (i + 1)) (r.drop (i + 1)) with
              | none => rfl
              | some t => simp
            have hnl : (V.str w :: ns.map V.int).length < sizeLine := by
              rw [List.length_cons, List.length_map, hn]
              have : (tl k).length ≤ 12 := by omega
              walk_at "sd"
            unfold r_read_row_6f0
            walk_at "ev"
            simp only [one_n]
            unfold rdPart at fail step
            split
            · rename_i hc1
              simp only [if_pos hc1] at fail step
              unfold r_read_row_6f0t0
              walk_at "ev"
              simp only [hmT]
              refine ⟨trivial, rfl, wd, rfl, hwl, ?_⟩
              cases e9 : rdNum (tl wd) with
              | none => exact fail e9
              | some n =>
                walk_at "ev"
                simp only [hmT]
                exact ⟨hnl, step n e9⟩
            · rename_i hc1
              simp only [if_neg hc1] at fail step
              unfold r_read_row_6f0e0
              walk_at "ev"
              simp only [one_v]
              split
              · rename_i hc2
                simp only [if_pos hc2] at fail step
                unfold r_read_row_6f0e0t0
                walk_at "ev"
                simp only [hmT]
                refine ⟨trivial, rfl, wd, rfl, hwl, ?_⟩
                cases e9 : rdVal (tl wd) with
                | none => exact fail e9
                | some n =>
                  walk_at "ev"
                  simp only [hmT]
                  exact ⟨hnl, step n e9⟩
              · rename_i hc2
                simp only [if_neg hc2] at fail step
                unfold r_read_row_6f0e0e0
                walk_at "ev"
                simp only [hmT]
                refine ⟨trivial, rfl, wd, rfl, hwl, ?_⟩
                cases e9 : rdRights (tl wd) with
                | none => exact fail e9
                | some n =>
                  walk_at "ev"
                  simp only [hmT]
                  exact ⟨hnl, step n e9⟩
          · intro σ' H' pv
            rw [hP] at pv
            obtain ⟨v4, v5, ns, rfl, hs, hl, hm, hn, he⟩ := pv
            rw [List.length_map] at hn he
            have hmin : min r.length (tl k).length = r.length := by omega
            rw [hmin] at hn he
            rw [List.drop_eq_nil_of_le (by omega), List.drop_eq_nil_of_le (Nat.le_refl _)] at he
            simp only [rdParts, Option.map_some, List.append_nil] at he
            rw [he] at q
            simp only [] at q
            have hs0 : Same H H' := fun b o e => hs _ _ (n1.same _ _ e)
            have e4 : H' p = some (.lst (V.str w :: r.map V.str)) := hs _ _ n1.self
            unfold r_read_row_7
            walk_at "ev"
            simp only [e4]
            refine ⟨_, hat _, ?_⟩
            walk_at "ev"
            simp only [List.length_map]
            have fin : ∀ H5 m5 xs, Same H' H5 → H5 m5 = some (.lst xs) → xs = (V.str w :: ns.map V.int ++ (if w = Str.ofString "lay" ∧ r.length = 4 then [V.non, V.int 0] else [])) → r_read_row_8 K (WX0 E) { nx := fun x H' => Q V.non H', rt := Q } [some (.str x), some (.ref p), some (.str k), some (.ref m5), v4, v5] H5 := by
              intro H5 m5 xs s5 e5 ex
              unfold r_read_row_8
              walk_at "ev"
              simp only [e5]
              intro pt H6 n6
              refine q pt H6 (fun b o e => n6.same _ _ (s5 _ _ (hs0 _ _ e))) ?_
              rw [n6.self, ex]
            split
            · rename_i hc1
              split
              · rename_i hc2
                unfold r_read_row_7t0
                walk_at "ev"
                refine ⟨by decide, fun m6 H6 n6 => ?_⟩
                simp only [n6.self, n6.same _ _ hm]
                refine ⟨?_, fun m7 H7 n7 => fin _ _ _ (fun b o e => n7.same _ _ (n6.same _ _ e)) n7.self (by rw [if_pos ⟨hc1, by omega⟩])⟩
                rw [List.length_cons, List.length_map, hn]
                walk_at "sd"
              · rename_i hc2
                exact fin _ _ _ (fun b o e => e) hm (by rw [if_neg (fun z => hc2 (by omega)), List.append_nil])
            · rename_i hc1
              exact fin _ _ _ (fun b o e => e) hm (by rw [if_neg (fun z => hc1 z.1), List.append_nil])
      unfold r_read_row_3
      walk_at "ev"
      simp only [n1.self, List.map_cons]
      refine ⟨_, hat _, ?_⟩
      walk_at "ev"
      simp only [List.length_map]
      split
      · rename_i h1
        split
        · rename_i h2
          unfold r_read_row_3t0
          walk_at "ev"
          refine ⟨?_, go _ (by rw [if_pos ⟨h1, by omega⟩])⟩
          rw [show (Str.ofString "nn").length = 2 from by decide +kernel]
          walk_at "sd"
        · rename_i h2
          exact go _ (by rw [if_neg (fun z => h2 (by omega))])
      · rename_i h1
        exact go _ (by rw [if_neg (fun z => h1 z.1)])
end K96

set_option Elab.async false
set_option linter.all false
set_option maxRecDepth 100000
set_option maxHeartbeats 4000000
namespace K96
open PySem PySem.Spec PyProof.Rows L2 MM
open TL (tl)
local macro_rules | `(tactic| walk_at "ev") => `(tactic| try simp only [tSeq, tFor_Lp, tLc_Lc, iRng1, iRng2, iRng3, iStr, iZipS, iRev, iEnum, iList, iTup, List.cons.injEq, decide_true, decide_false, not_true_eq_false, not_false_eq_true, not_dec, not_b, isA_tt, isA_ss, isA_ii, isA_bb, isA_ll, isA_bi, isA_dd, isA_ib, isA_is, isA_it, isA_il, isA_si, isA_sb, isA_ti, isA_tb, isA_ts, isA_tl, isA_li, isA_lb, isA_ls, isA_lt, isA_ni, isA_nb, isA_ns, isA_nl, isA_nt, isA_bs, isA_bl, isA_bt, isA_st, isA_sl, tAsg, gName, tVar, tC, tOp, tUn, tIf, tTest, tB, tAnd, tOr, tNot, tAndV, tOrV, tNotV, tChain, tRet, tRetN, tDrop, tIfS, tNext, tCont, tBreak, tCons, tNil, tCB, mTup, mLst, mDictK, mDictT, tSl, tPart, tNoPart, oI, oIc, oEq, oNe, oIsN, oNotN, uNeg, oRep, mAdd, mIx, mLen, mIsi, tyN, mInt, mMin, mMax, mAbs, mStr, mSl, mTupOf, mListOf, mSplit, mStarts, mBM, tyM, mCall, mMeth, mMeth2, mMake, mFld, mSetF, mRaise, mTabIx, mInTab, gTupM, gCons, gNil, gSub, mSet, scal, MM.keyOf, MM.keysOf, mAppend, mExtend, mPopL, mPop, mGet, mSetd, kvPop, kvLook, seqAt, L2.start, List.map_cons, List.map_nil, List.length_cons, List.length_nil, List.replicate, List.append_nil, List.nil_append, List.cons_append, List.getElem?_cons_zero, List.getElem?_cons_succ, List.getElem?_nil, List.set_cons_zero, List.set_cons_succ, Option.some.injEq, exists_eq_left, exists_eq_left', exists_eq', exists_and_left, and_assoc, and_true, true_and, if_true, if_false, ite_true, ite_false, decide_eq_true_eq, decide_eq_false_iff_not, Bool.not_true, Bool.not_false, Bool.not_eq_true, Bool.false_eq_true, eq_self, reduceCtorEq, and_false, false_and, V.int.injEq, V.str.injEq, V.bl.injEq, V.ref.injEq, V.ty.injEq, HO.lst.injEq, HO.tup.injEq, HO.ins.injEq, Nat.reduceAdd, Nat.reduceSub, Nat.zero_add, Nat.reduceLeDiff, Int.toNat_natCast, upd_same])
local macro_rules | `(tactic| walk_at "sd") => `(tactic| first | omega | exact lo62 (by omega) | exact hi62 (by omega) | exact sz_le (by omega) | exact sz_lt (by omega) | exact lo63 (by omega) | exact hi63 (by omega) | decide | exact ⟨by decide, by decide⟩ | exact ⟨by decide, by decide, by decide⟩ | exact Or.inl ⟨by omega, by omega⟩ | exact Or.inr ⟨by omega, by omega⟩)
/-! ### the plain law -/
theorem numL_head {n : Nat} : 10 ≤ n → (TL.numL n).head? ≠ some 48 := by
  induction n using Nat.strongRecOn with
  | _ n ih =>
    intro h
    rw [TL.numL_step h]
    have hne : TL.numL (n / 10) ≠ [] := TL.numL_ne _
    rw [show ((TL.numL (n / 10)) ++ [48 + n % 10]).head? = (TL.numL (n / 10)).head? from by
      cases e : TL.numL (n / 10) with
      | nil => exact absurd e hne
      | cons a r => rfl]
    by_cases h2 : 10 ≤ n / 10
    · exact ih (n / 10) (by omega) h2
    · rw [TL.numL_lt (by omega)]
      simp; omega
theorem rdNum_numL {n : Nat} (h : n < 10 ^ 60) : rdNum (TL.numL n) = some (n : Int) := by
  rw [rdNum_some, TL.numL_val]
  refine numOk_iff.mpr ⟨?_, TL.numL_len (by decide) h, ?_, ?_⟩
  · have := TL.numL_ne n
    cases e : TL.numL n with
    | nil => exact absurd e this
    | cons => simp
  · intro c hc
    have := TL.numL_digits n c hc
    unfold isD
    simp only [Bool.and_eq_true, decide_eq_true_eq]
    exact this
  · rintro ⟨h1, h2⟩
    by_cases h3 : 10 ≤ n
    · exact numL_head h3 h2
    · rw [TL.numL_lt (by omega)] at h1
      simp at h1
theorem tl_neg (n : Nat) : tl (Str.ofString (toString (-((n + 1 : Nat) : Int)))) = 45 :: TL.numL (n + 1) := by
  have e : toString (-((n + 1 : Nat) : Int)) = "-" ++ toString (n + 1) := rfl
  rw [e, TL.tl_ofString]
  have e2 := TL.tl_num (n + 1)
  rw [TL.tl_ofString] at e2
  rw [show (toString ((n + 1 : Nat) : Int)) = toString (n + 1) from rfl] at e2
  simp only [String.toList_append, List.map_append, e2]
  rfl
theorem rdPart_written {k : Nat} {n : Int} (hk : k = 110 ∨ k = 118 ∨ k = 114) (h : okN k n) : rdPart k (lawWritten n k) = some n := by
  unfold okN at h
  unfold rdPart lawWritten
  rcases hk with rfl | rfl | rfl
  · simp only [if_neg (show ¬ (110 = 114) by decide), if_neg (show ¬ (110 = 118) by decide), if_pos] at h ⊢
    obtain ⟨m, rfl⟩ := Int.eq_ofNat_of_zero_le h.1
    rw [TL.tl_num]
    exact rdNum_numL (by omega)
  · simp only [if_neg (show ¬ (118 = 114) by decide), if_neg (show ¬ (118 = 110) by decide), if_pos] at h ⊢
    unfold rdVal
    by_cases h0 : 0 ≤ n
    · obtain ⟨m, rfl⟩ := Int.eq_ofNat_of_zero_le h0
      rw [TL.tl_num]
      have : ¬ (TL.numL m).head? = some 45 := by
        intro z
        cases e : TL.numL m with
        | nil => rw [e] at z; cases z
        | cons a r =>
          rw [e] at z; cases z
          have := TL.numL_digits m 45 (by rw [e]; exact List.mem_cons_self ..)
          revert this; decide
      rw [if_neg this]
      exact rdNum_numL (by omega)
    · obtain ⟨m, rfl⟩ : ∃ m : Nat, n = -((m + 1 : Nat) : Int) := ⟨n.natAbs - 1, by omega⟩
      rw [tl_neg, if_pos (show (45 :: TL.numL (m + 1)).head? = some 45 from rfl)]
      simp only [List.tail_cons]
      rw [rdNum_numL (by omega)]
      simp only []
      rw [if_neg (by omega)]
  · simp only [if_pos, if_neg (show ¬ (114 = 118) by decide), if_neg (show ¬ (114 = 110) by decide)] at h ⊢
    obtain ⟨m, rfl⟩ := Int.eq_ofNat_of_zero_le h.1
    have hm : m < 4 := by omega
    match m, hm with
    | 0, _ => decide +kernel
    | 1, _ => decide +kernel
    | 2, _ => decide +kernel
    | 3, _ => decide +kernel
theorem written_free {k : Nat} {n : Int} (h : okN k n) : 32 ∉ tl (lawWritten n k) := by
  unfold okN at h
  unfold lawWritten
  by_cases hk : k = 114
  · rw [if_pos hk] at h ⊢
    obtain ⟨m, rfl⟩ := Int.eq_ofNat_of_zero_le h.1
    have hm : m < 4 := by omega
    match m, hm with
    | 0, _ => decide +kernel
    | 1, _ => decide +kernel
    | 2, _ => decide +kernel
    | 3, _ => decide +kernel
  · rw [if_neg hk]
    by_cases h0 : 0 ≤ n
    · obtain ⟨m, rfl⟩ := Int.eq_ofNat_of_zero_le h0
      rw [TL.tl_num]
      exact TL.numL_free (by decide)
    · obtain ⟨m, rfl⟩ : ∃ m : Nat, n = -((m + 1 : Nat) : Int) := ⟨n.natAbs - 1, by omega⟩
      rw [tl_neg]
      simp only [List.mem_cons, not_or]
      exact ⟨by decide, TL.numL_free (by decide)⟩
theorem rdParts_written : ∀ (ks : List Nat) (ns : List Int), ks.length = ns.length → (∀ k ∈ ks, k = 110 ∨ k = 118 ∨ k = 114) → (∀ p ∈ ns.zip ks, okN p.2 p.1) → rdParts ks ((ns.zip ks).map fun p => lawWritten p.1 p.2) = some ns
  | [], [], _, _, _ => rfl
  | [], _ :: _, h, _, _ => by simp at h
  | _ :: _, [], h, _, _ => by simp at h
  | k :: ks, n :: ns, h, h1, h2 => by
    simp only [List.zip_cons_cons, List.map_cons]
    rw [rdParts_some (rdPart_written (h1 k (List.mem_cons_self ..)) (h2 (n, k) (by rw [List.zip_cons_cons]; exact List.mem_cons_self ..)))]
    rw [rdParts_written ks ns (by simpa using h) (fun k hk => h1 k (List.mem_cons_of_mem _ hk)) (fun p hp => h2 p (by rw [List.zip_cons_cons]; exact List.mem_cons_of_mem _ hp))]
    rfl
/-- what is asked of a form -/
def formOk (p : Str × Str) : Bool := !(tl p.1).contains 32 && ((tl p.2).all (fun k => k == 110 || (k == 118 || k == 114)) && (match kindsOf p.1 with
  | some k0 => (if p.1 = Str.ofString "lay" ∧ p.2.length = 6 then k0 ++ Str.ofString "nn" else k0) == p.2
  | none => false) && decide (p.2.length ≤ 6) && decide (p.1.length ≤ 10))
theorem forms_ok : forms.all formOk = true := by decide +kernel
theorem rdRow_law {w kd : Str} {ns : List Int} (hf : (w, kd) ∈ forms) (hn : (tl kd).length = ns.length) (hok : ∀ p ∈ ns.zip (tl kd), okN p.2 p.1) :
    rdRow (Txt.join (Str.ofString " ") (lawWords w (tl kd) ns)) = some (lawDue w (tl kd) ns) := by
  have h := List.all_eq_true.mp forms_ok _ hf
  unfold formOk at h
  simp only [Bool.and_eq_true, Bool.not_eq_true', List.all_eq_true, Bool.or_eq_true, beq_iff_eq, decide_eq_true_eq] at h
  obtain ⟨h1, ⟨⟨⟨h2, h3⟩, h4⟩, h5⟩⟩ := h
  have hfree : ∀ p ∈ lawWords w (tl kd) ns, 32 ∉ tl p := by
    intro p hp
    rcases List.mem_cons.mp hp with rfl | hp
    · intro z
      have := List.contains_iff_mem.mpr z
      rw [this] at h1; cases h1
    · obtain ⟨q, hq, rfl⟩ := List.mem_map.mp hp
      exact written_free (hok q hq)
  unfold rdRow
  rw [show Txt.split (Txt.join (Str.ofString " ") (lawWords w (tl kd) ns)) (Str.ofString " ") = lawWords w (tl kd) ns from TL.split_join (s := 32) (S := []) tl_bl (by decide +kernel) (List.cons_ne_nil _ _) hfree]
  cases ek : kindsOf w with
  | none => rw [ek] at h3; cases h3
  | some k0 =>
    rw [ek] at h3
    simp only [beq_iff_eq] at h3
    unfold lawWords rdWords
    have hl : ((ns.zip (tl kd)).map fun p => lawWritten p.1 p.2).length = kd.length := by
      rw [List.length_map, List.length_zip, TL.len_tl]; omega
    simp only [ek, hl]
    rw [h3, if_pos rfl, rdParts_written _ _ hn h2 hok]
    simp only []
    unfold lawDue
    rw [TL.len_tl kd]
theorem okN_abs {k : Nat} {n : Int} (h : okN k n) : n.natAbs < 10 ^ 61 := by
  unfold okN at h
  split at h
  · omega
  · split at h <;> omega
theorem written_len {k : Nat} {n : Int} (h : okN k n) : (lawWritten n k).length ≤ 61 := by
  unfold okN at h
  unfold lawWritten
  by_cases hk : k = 114
  · rw [if_pos hk] at h ⊢
    obtain ⟨m, rfl⟩ := Int.eq_ofNat_of_zero_le h.1
    have hm : m < 4 := by omega
    match m, hm with
    | 0, _ => decide +kernel
    | 1, _ => decide +kernel
    | 2, _ => decide +kernel
    | 3, _ => decide +kernel
  · rw [if_neg hk] at h ⊢
    have hb : n.natAbs < 10 ^ 60 := by split at h <;> omega
    by_cases h0 : 0 ≤ n
    · obtain ⟨m, rfl⟩ := Int.eq_ofNat_of_zero_le h0
      rw [TL.len_tl, TL.tl_num]
      exact Nat.le_trans (TL.numL_len (k := 60) (by decide) (by omega)) (by decide)
    · obtain ⟨m, rfl⟩ : ∃ m : Nat, n = -((m + 1 : Nat) : Int) := ⟨n.natAbs - 1, by omega⟩
      rw [TL.len_tl, tl_neg, List.length_cons]
      have := TL.numL_len (n := m + 1) (k := 60) (by decide) (by omega)
      omega
theorem sum_le (l : List Str) (B : Nat) (h : ∀ p ∈ l, p.length ≤ B) : (l.map (·.length)).sum ≤ l.length * B := by
  induction l with
  | nil => simp
  | cons a r ih =>
    have := ih (fun p hp => h p (List.mem_cons_of_mem _ hp))
    have h1 := h a (List.mem_cons_self ..)
    rw [List.map_cons, List.sum_cons, List.length_cons, Nat.succ_mul]; omega
theorem joinL_len (S : List Nat) : ∀ l : List (List Nat), (TL.joinL S l).length ≤ (l.map (·.length)).sum + l.length * S.length
  | [] => by simp [TL.joinL]
  | [p] => by simp [TL.joinL]
  | p :: q :: r => by
    have := joinL_len S (q :: r)
    rw [TL.joinL, List.length_append, List.length_append, List.map_cons, List.sum_cons, List.length_cons, Nat.succ_mul]
    omega
theorem join_len (y : Str) (l : List Str) : (Txt.join y l).length ≤ (l.map (·.length)).sum + l.length * y.length := by
  rw [TL.len_tl, TL.join_eq, TL.tl_join]
  have := joinL_len (tl y) (l.map tl)
  rw [List.length_map, List.map_map] at this
  rw [TL.len_tl y]
  have e : (l.map (·.length)) = l.map ((·.length) ∘ tl) := List.map_congr_left fun a _ => TL.len_tl a
  rw [e]; exact this
end K96

set_option Elab.async false
set_option linter.all false
set_option maxRecDepth 100000
set_option maxHeartbeats 4000000
namespace K96
open PySem PySem.Spec PyProof.Rows L2 MM
open TL (tl)
local macro_rules | `(tactic| walk_at "ev") => `(tactic| try simp only [tSeq, wipe, tYes, tFor_Lp, tLc_Lc, iRng1, iRng2, iRng3, iStr, iZipS, iRev, iEnum, iList, iTup, List.cons.injEq, decide_true, decide_false, not_true_eq_false, not_false_eq_true, not_dec, not_b, isA_tt, isA_ss, isA_ii, isA_bb, isA_ll, isA_bi, isA_dd, isA_ib, isA_is, isA_it, isA_il, isA_si, isA_sb, isA_ti, isA_tb, isA_ts, isA_tl, isA_li, isA_lb, isA_ls, isA_lt, isA_ni, isA_nb, isA_ns, isA_nl, isA_nt, isA_bs, isA_bl, isA_bt, isA_st, isA_sl, tAsg, gName, tVar, tC, tOp, tUn, tIf, tTest, tB, tAnd, tOr, tNot, tAndV, tOrV, tNotV, tChain, tRet, tRetN, tDrop, tIfS, tNext, tCont, tBreak, tCons, tNil, tCB, mTup, mLst, mDictK, mDictT, tSl, tPart, tNoPart, oI, oIc, oEq, oNe, oIsN, oNotN, uNeg, oRep, mAdd, mIx, mLen, mIsi, tyN, mInt, mMin, mMax, mAbs, mStr, mSl, mTupOf, mListOf, mSplit, mStarts, mBM, tyM, mCall, mMeth, mMeth2, mMake, mFld, mSetF, mRaise, mTabIx, mInTab, gTupM, gCons, gNil, gSub, mSet, scal, MM.keyOf, MM.keysOf, mAppend, mExtend, mPopL, mPop, mGet, mSetd, kvPop, kvLook, seqAt, L2.start, List.map_cons, List.map_nil, List.length_cons, List.length_nil, List.replicate, List.append_nil, List.nil_append, List.cons_append, List.getElem?_cons_zero, List.getElem?_cons_succ, List.getElem?_nil, List.set_cons_zero, List.set_cons_succ, Option.some.injEq, exists_eq_left, exists_eq_left', exists_eq', exists_and_left, and_assoc, and_true, true_and, if_true, if_false, ite_true, ite_false, decide_eq_true_eq, decide_eq_false_iff_not, Bool.not_true, Bool.not_false, Bool.not_eq_true, Bool.false_eq_true, eq_self, reduceCtorEq, and_false, false_and, V.int.injEq, V.str.injEq, V.bl.injEq, V.ref.injEq, V.ty.injEq, HO.lst.injEq, HO.tup.injEq, HO.ins.injEq, Nat.reduceAdd, Nat.reduceSub, Nat.zero_add, Nat.reduceLeDiff, Int.toNat_natCast, upd_same])
local macro_rules | `(tactic| walk_at "sd") => `(tactic| first | omega | exact lo62 (by omega) | exact hi62 (by omega) | exact sz_le (by omega) | exact sz_lt (by omega) | exact lo63 (by omega) | exact hi63 (by omega) | decide | exact ⟨by decide, by decide⟩ | exact ⟨by decide, by decide, by decide⟩ | exact Or.inl ⟨by omega, by omega⟩ | exact Or.inr ⟨by omega, by omega⟩)
theorem p__law_number {K : PySem.W.Frag} (vs : List V) (H : Hp) (Q : VK) (E : XK) (h : sp__law_number K vs H Q E) : r__law_number K (WX0 E) { nx := fun _ H' => Q .non H', rt := Q } (start ["_law_cell", "_law_kind", "_law_least", "_law_k", "_law_number_here"] vs) H := by
  obtain ⟨-, c, k, rfl, q⟩ := h
  unfold r__law_number r__law_number_0
  walk_at "ev"
  simp only [one_r]
  split
  · rename_i hk
    unfold r__law_number_0t0
    walk_at "ev"
    refine ⟨by decide, ?_⟩
    have := q H same_rfl
    unfold lawNumber at this
    rw [if_pos hk] at this
    exact this
  · rename_i hk
    unfold r__law_number_1
    walk_at "ev"
    unfold r__law_number_2
    walk_at "ev"
    have b0 : 0 ≤ c / 3 % 60 := by omega
    have b1 : c / 3 % 60 < 60 := by omega
    refine ⟨by walk_at "sd", by walk_at "sd", by walk_at "sd", by walk_at "sd", ?_⟩
    obtain ⟨Pv, hP⟩ : ∃ Pv : Nat → L2.St → Hp → Prop, Pv = (fun i σ H' => H' = H ∧ ∃ v, σ = [some (.int c), some (.str ⟨#[k]⟩), some (.int (10 ^ i)), v, none]) := ⟨_, rfl⟩
    refine lp t_rng Pv ?_ (fun _ _ _ _ _ => trivial) ?_ ?_
    · rw [hP]; exact ⟨rfl, none, rfl⟩
    · intro i v σ' H' H'' hi pv yv
      rw [hP] at pv
      obtain ⟨rfl, v, rfl⟩ := pv
      obtain ⟨rfl, rfl⟩ := yv
      unfold g__law_number_0
      walk_at "ev"
      unfold r__law_number_2f0
      walk_at "ev"
      refine ⟨by walk_at "sd", ?_⟩
      rw [hP]
      exact ⟨rfl, _, by rw [Int.pow_succ]⟩
    · intro σ' H' pv
      rw [hP] at pv
      obtain ⟨rfl, v, rfl⟩ := pv
      unfold r__law_number_3
      walk_at "ev"
      generalize hL : (10 : Int) ^ (c / 3 % 60).toNat = L
      have hLp : 0 < L := by rw [← hL]; exact Int.pow_pos (by decide)
      refine ⟨by walk_at "sd", by walk_at "sd", by walk_at "sd", by omega, by decide, fun p H1 n1 => ?_⟩
      simp only [n1.self]
      refine ⟨by decide, ?_⟩
      walk_at "ev"
      have go : ∀ x : Int, x = (if c % 3 = 0 then L else if c % 3 = 1 then L * 10 - 1 else L + c / 180 % (L * 9)) → ∀ v, r__law_number_4 K (WX0 E) { nx := fun x H' => Q V.non H', rt := Q } [some (V.int c), some (V.str { cps := #[k] }), some (V.int L), v, some (.int x)] H1 := by
        intro x hx v
        have q1 := q H1 n1.same
        unfold lawNumber leastOf at q1
        rw [if_neg hk, hL] at q1
        unfold r__law_number_4
        walk_at "ev"
        refine ⟨by walk_at "sd", by decide, ?_⟩
        split
        · rename_i h6
          rw [if_pos h6] at q1
          unfold r__law_number_4t0
          walk_at "ev"
          exact q1
        · rename_i h6
          rw [if_neg h6] at q1
          simp only [← hx] at q1
          unfold r__law_number_5
          walk_at "ev"
          simp only [one_v]
          split
          · rename_i hv
            refine ⟨by walk_at "sd", by decide, ?_⟩
            split
            · rename_i h1
              rw [if_pos ⟨hv, h1⟩] at q1
              unfold r__law_number_5t0
              walk_at "ev"
              exact q1
            · rename_i h1
              rw [if_neg (fun z => h1 z.2)] at q1
              unfold r__law_number_6
              walk_at "ev"
              exact q1
          · rename_i hv
            rw [if_neg (fun z => hv z.1)] at q1
            unfold r__law_number_6
            walk_at "ev"
            exact q1
      have h3 : c % 3 = 0 ∨ c % 3 = 1 ∨ c % 3 = 2 := by omega
      rcases h3 with h3 | h3 | h3
      · exact ⟨_, by rw [h3]; exact atI_nat (j := 0) rfl, go _ (by rw [if_pos h3]) _⟩
      · exact ⟨_, by rw [h3]; exact atI_nat (j := 1) rfl, go _ (by rw [if_neg (by omega), if_pos h3]) _⟩
      · exact ⟨_, by rw [h3]; exact atI_nat (j := 2) rfl, go _ (by rw [if_neg (by omega), if_neg (by omega)]) _⟩
theorem lawNumber_ok {c : Int} {k : Nat} (hk : k = 110 ∨ k = 118 ∨ k = 114) : okN k (lawNumber c k) := by
  unfold okN lawNumber
  have hL0 : 0 < leastOf c := by unfold leastOf; exact Int.pow_pos (by decide)
  have hL1 : leastOf c ≤ 10 ^ 59 := by
    unfold leastOf
    have all : ∀ t : Fin 60, (10 : Int) ^ t.val ≤ 10 ^ 59 := by decide +kernel
    exact all ⟨(c / 3 % 60).toNat, by omega⟩
  have hm : ∀ x : Int, 0 ≤ x % (leastOf c * 9) ∧ x % (leastOf c * 9) < leastOf c * 9 := fun x => ⟨Int.emod_nonneg _ (by omega), Int.emod_lt_of_pos _ (by omega)⟩
  have hm2 := hm (c / 180)
  generalize leastOf c = L at *
  generalize c / 180 % (L * 9) = M at *
  rcases hk with rfl | rfl | rfl
  · simp only [if_neg (show ¬ (110 = 114) by decide), if_neg (show ¬ (110 = 118) by decide)]
    split
    · omega
    · rw [if_neg (fun z => by have := z.1; omega)]
      split
      · omega
      · split <;> omega
  · simp only [if_neg (show ¬ (118 = 114) by decide), if_pos]
    split
    · decide
    · split <;> split <;> (try split) <;> omega
  · simp only [if_pos]; omega
theorem p_show_rights {K : PySem.W.Frag} (vs : List V) (H : Hp) (Q : VK) (E : XK) (h : sp_show_rights K vs H Q E) : r_show_rights K (WX0 E) { nx := fun _ H' => Q .non H', rt := Q } (start ["rights"] vs) H := by
  obtain ⟨-, n, rfl, h0, h4, q⟩ := h
  unfold r_show_rights r_show_rights_0
  walk_at "ev"
  refine ⟨by decide, fun p H1 n1 => ?_⟩
  simp only [n1.self]
  walk_at "ev"
  obtain ⟨j, rfl⟩ := Int.eq_ofNat_of_zero_le h0
  refine ⟨_, atI_nat (v := .str (rightsTxt.getD j "")) ?_, q _ n1.same⟩
  have hj : j < 4 := by omega
  match j, hj with
  | 0, _ => rfl
  | 1, _ => rfl
  | 2, _ => rfl
  | 3, _ => rfl
theorem p__law_figures {K : PySem.W.Frag} (vs : List V) (H : Hp) (Q : VK) (E : XK) (h : sp__law_figures K vs H Q E) : r__law_figures K (WX0 E) { nx := fun _ H' => Q .non H', rt := Q } (start ["_law_number_here", "_law_written", "_law_rest"] vs) H := by
  obtain ⟨-, n, rfl, hn, q⟩ := h
  unfold r__law_figures r__law_figures_0
  walk_at "ev"
  split
  · rename_i h0
    unfold r__law_figures_0t0
    walk_at "ev"
    rw [h0] at q
    exact q
  · rename_i h0
    unfold r__law_figures_1
    walk_at "ev"
    unfold r__law_figures_2
    walk_at "ev"
    unfold r__law_figures_3
    walk_at "ev"
    have en : (if n < 0 then -n else n) = (n.natAbs : Int) := by split <;> omega
    rw [en]
    unfold tWhile
    refine ⟨fun m σ' H' => H' = H ∧ ∃ x : Str, σ' = [some (.int n), some (.str x), some (.int (m : Int))] ∧ x.length ≤ 60 ∧ m ≤ n.natAbs ∧ (if m = 0 then tl x = TL.numL n.natAbs else TL.numL m ++ tl x = TL.numL n.natAbs), ⟨n.natAbs, rfl, Str.ofString "", rfl, by decide +kernel, Nat.le_refl _, ?_⟩, ?_⟩
    · rw [if_neg (by omega), show tl (Str.ofString "") = [] from by decide +kernel, List.append_nil]
    · rintro m σ' H' ⟨rfl, x, rfl, hx, hmn, he⟩
      walk_at "ev"
      split
      · rename_i hm
        have hm0 : m ≠ 0 := by omega
        rw [if_neg hm0] at he
        refine ⟨fun σ2 H2 => H2 = H' ∧ ∃ x : Str, σ2 = [some (.int n), some (.str x), some (.int ((m / 10 : Nat) : Int))] ∧ x.length ≤ 60 ∧ m / 10 ≤ n.natAbs ∧ (if m / 10 = 0 then tl x = TL.numL n.natAbs else TL.numL (m / 10) ++ tl x = TL.numL n.natAbs), fun σ2 H2 p => ⟨m / 10, by omega, p⟩, ?_⟩
        unfold r__law_figures_3w0
        walk_at "ev"
        have hd : m % 10 < 10 := Nat.mod_lt _ (by decide)
        have hat : atI (Str.ofString "0123456789").cps.toList ((m : Int) % 10) = some (48 + m % 10) := by
          have e : (m : Int) % 10 = ((m % 10 : Nat) : Int) := by omega
          rw [e, show (Str.ofString "0123456789").cps.toList = [48, 49, 50, 51, 52, 53, 54, 55, 56, 57] from tl_fig]
          refine atI_nat ?_
          generalize m % 10 = d at hd
          match d, hd with
          | 0, _ => rfl
          | 1, _ => rfl
          | 2, _ => rfl
          | 3, _ => rfl
          | 4, _ => rfl
          | 5, _ => rfl
          | 6, _ => rfl
          | 7, _ => rfl
          | 8, _ => rfl
          | 9, _ => rfl
        have h1 : ({ cps := #[48 + m % 10] } : Str).length = 1 := rfl
        refine ⟨by decide, by decide +kernel, _, hat, by rw [h1]; walk_at "sd", ?_⟩
        unfold r__law_figures_3w1
        walk_at "ev"
        refine ⟨by walk_at "sd", ?_⟩
        have etl : tl (({ cps := #[48 + m % 10] } : Str) ++ x) = (48 + m % 10) :: tl x := TL.tl_append _ _
        have key : (if m / 10 = 0 then tl (({ cps := #[48 + m % 10] } : Str) ++ x) = TL.numL n.natAbs else TL.numL (m / 10) ++ tl (({ cps := #[48 + m % 10] } : Str) ++ x) = TL.numL n.natAbs) := by
          rw [etl]
          split
          · rename_i h10
            rw [TL.numL_lt (by omega)] at he
            rw [Nat.mod_eq_of_lt (by omega)]
            exact he
          · rename_i h10
            rw [TL.numL_step (by omega), List.append_assoc] at he
            exact he
        refine ⟨by omega, ?_, by omega, key⟩
        have hl := TL.numL_len (n := n.natAbs) (k := 60) (by decide) hn
        rw [TL.len_tl]
        split at key
        · rw [key]; exact hl
        · rw [← key, List.length_append] at hl; omega
      · rename_i hm
        have hm0 : m = 0 := by omega
        rw [if_pos hm0] at he
        unfold r__law_figures_4
        walk_at "ev"
        split
        · rename_i hneg
          unfold r__law_figures_4t0
          walk_at "ev"
          refine ⟨by rw [show (Str.ofString "-").length = 1 from by decide +kernel]; walk_at "sd", ?_⟩
          have e : Str.ofString "-" ++ x = Str.ofString (toString n) := by
            obtain ⟨k, rfl⟩ : ∃ k : Nat, n = -((k + 1 : Nat) : Int) := ⟨n.natAbs - 1, by omega⟩
            refine TL.ext_tl ?_
            rw [TL.tl_append, he, tl_neg, show tl (Str.ofString "-") = [45] from by decide +kernel]
            rw [show (-((k + 1 : Nat) : Int)).natAbs = k + 1 from by omega]; rfl
          rw [e]; exact q
        · rename_i hneg
          unfold r__law_figures_5
          walk_at "ev"
          have e : x = Str.ofString (toString n) := by
            obtain ⟨k, rfl⟩ := Int.eq_ofNat_of_zero_le (show 0 ≤ n by omega)
            refine TL.ext_tl ?_
            rw [he, TL.tl_num]; rfl
          rw [e]; exact q
theorem joinL_snoc (S p : List Nat) : ∀ l : List (List Nat), l ≠ [] → TL.joinL S (l ++ [p]) = TL.joinL S l ++ (S ++ p)
  | [], h => absurd rfl h
  | [a], _ => by simp [TL.joinL]
  | a :: b :: r, _ => by
    have := joinL_snoc S p (b :: r) (List.cons_ne_nil _ _)
    simp only [List.cons_append] at this ⊢
    rw [TL.joinL, this, TL.joinL]
    simp [List.append_assoc]
theorem join_snoc (y p : Str) (l : List Str) (h : l ≠ []) : Txt.join y (l ++ [p]) = Txt.join y l ++ y ++ p := by
  refine TL.ext_tl ?_
  rw [TL.tl_append, TL.tl_append, TL.join_eq, TL.join_eq, TL.tl_join, TL.tl_join, List.map_append, List.map_cons, List.map_nil, joinL_snoc _ _ _ (by simpa using h), List.append_assoc]
theorem join_one (y p : Str) : Txt.join y [p] = p := by
  refine TL.ext_tl ?_
  rw [TL.join_eq, TL.tl_join]; rfl
theorem DeedOk.kinds {w kd : Str} {ns : List Int} (h : DeedOk w kd ns) : (∀ k ∈ tl kd, k = 110 ∨ k = 118 ∨ k = 114) ∧ (tl kd).length ≤ 6 ∧ w.length ≤ 10 := by
  have hff := List.all_eq_true.mp forms_ok _ h.1
  unfold formOk at hff
  simp only [Bool.and_eq_true, Bool.not_eq_true', List.all_eq_true, Bool.or_eq_true, beq_iff_eq, decide_eq_true_eq] at hff
  obtain ⟨-, ⟨⟨⟨hkk, -⟩, hk6⟩, hw10⟩⟩ := hff
  exact ⟨hkk, by rw [← TL.len_tl]; exact hk6, hw10⟩
theorem DeedOk.at_ {w kd : Str} {ns : List Int} (h : DeedOk w kd ns) {j : Nat} (hj : j < (tl kd).length) : ∃ k n, (tl kd)[j]? = some k ∧ ns[j]? = some n ∧ okN k n ∧ (k = 110 ∨ k = 118 ∨ k = 114) := by
  have hj2 : j < ns.length := by rw [← h.2.1]; exact hj
  refine ⟨_, _, List.getElem?_eq_getElem hj, List.getElem?_eq_getElem hj2, ?_, h.kinds.1 _ (List.getElem_mem hj)⟩
  refine h.2.2 (ns[j], (tl kd)[j]) (List.mem_of_getElem? (i := j) ?_)
  rw [List.getElem?_zip_eq_some]
  exact ⟨List.getElem?_eq_getElem hj2, List.getElem?_eq_getElem hj⟩
theorem lawWords_at {w : Str} {ks : List Nat} {ns : List Int} {j k : Nat} {n : Int} (h1 : ks[j]? = some k) (h2 : ns[j]? = some n) : (lawWords w ks ns)[j + 1]? = some (lawWritten n k) := by
  unfold lawWords
  rw [List.getElem?_cons_succ, List.getElem?_map, (List.getElem?_zip_eq_some (z := (n, k))).mpr ⟨h2, h1⟩]; rfl
theorem lawDue_at {w : Str} {ks : List Nat} {ns : List Int} {j : Nat} {n : Int} (h2 : ns[j]? = some n) : (lawDue w ks ns)[j + 1]? = some (.int n) := by
  unfold lawDue
  rw [List.cons_append, List.getElem?_cons_succ, List.getElem?_append_left (by rw [List.length_map]; exact (List.getElem?_eq_some_iff.mp h2).1), List.getElem?_map, h2]; rfl
theorem DeedOk.len {w kd : Str} {ns : List Int} (h : DeedOk w kd ns) (i : Nat) : (Txt.join (Str.ofString " ") ((lawWords w (tl kd) ns).take i)).length ≤ 500 := by
  have hsz : ∀ p ∈ lawWords w (tl kd) ns, p.length ≤ 61 := by
    intro p hp
    rcases List.mem_cons.mp hp with rfl | hp
    · have := h.kinds.2.2; omega
    · obtain ⟨q, hq, rfl⟩ := List.mem_map.mp hp
      exact written_len (h.2.2 q hq)
  have hcnt : (lawWords w (tl kd) ns).length ≤ 7 := by
    unfold lawWords
    have := h.kinds.2.1
    rw [List.length_cons, List.length_map, List.length_zip]; omega
  have h1 := join_len (Str.ofString " ") ((lawWords w (tl kd) ns).take i)
  have h2 := sum_le ((lawWords w (tl kd) ns).take i) 61 (fun p hp => hsz p (List.mem_of_mem_take hp))
  have h3 : ((lawWords w (tl kd) ns).take i).length ≤ 7 := by rw [List.length_take]; omega
  have h4 : ((lawWords w (tl kd) ns).take i).length * 61 ≤ 7 * 61 := Nat.mul_le_mul_right _ h3
  rw [show (Str.ofString " ").length = 1 from by decide +kernel] at h1
  omega
theorem pair114 {n : Int} (h0 : 0 ≤ n) (h4 : n < 4) : ∃ a b, atI (Str.ofString "-r").cps.toList (n % 2) = some a ∧ atI (Str.ofString "-w").cps.toList (n / 2) = some b ∧ ∀ x : Str, x ++ Str.ofString " " ++ ⟨#[a]⟩ ++ ⟨#[b]⟩ = x ++ Str.ofString " " ++ lawWritten n 114 := by
  obtain ⟨m, rfl⟩ := Int.eq_ofNat_of_zero_le h0
  have hm : m < 4 := by omega
  have er : (Str.ofString "-r").cps.toList = [45, 114] := by decide +kernel
  have ew : (Str.ofString "-w").cps.toList = [45, 119] := by decide +kernel
  rw [er, ew]
  have fin : ∀ (a b : Nat) (m : Nat), tl (lawWritten (m : Int) 114) = [a, b] → ∀ x : Str, x ++ Str.ofString " " ++ ⟨#[a]⟩ ++ ⟨#[b]⟩ = x ++ Str.ofString " " ++ lawWritten (m : Int) 114 := by
    intro a b m h x
    refine TL.ext_tl ?_
    rw [TL.tl_append, TL.tl_append, TL.tl_append, TL.tl_append, TL.tl_append, h, List.append_assoc]
    rfl
  match m, hm with
  | 0, _ => exact ⟨45, 45, atI_nat (j := 0) rfl, atI_nat (j := 0) rfl, fin 45 45 0 (by decide +kernel)⟩
  | 1, _ => exact ⟨114, 45, atI_nat (j := 1) rfl, atI_nat (j := 0) rfl, fin 114 45 1 (by decide +kernel)⟩
  | 2, _ => exact ⟨45, 119, atI_nat (j := 0) rfl, atI_nat (j := 1) rfl, fin 45 119 2 (by decide +kernel)⟩
  | 3, _ => exact ⟨114, 119, atI_nat (j := 1) rfl, atI_nat (j := 1) rfl, fin 114 119 3 (by decide +kernel)⟩
theorem p__law_shown {K : PySem.W.Frag} (vs : List V) (H : Hp) (Q : VK) (E : XK) (h : sp__law_shown K vs H Q E) : r__law_shown K (WX0 E) { nx := fun _ H' => Q .non H', rt := Q } (start ["_law_deed", "_law_kinds", "_law_written", "_law_k", "_law_part"] vs) H := by
  obtain ⟨-, a, w, kd, ns, rfl, ha, ⟨hf, hn, hok⟩, q⟩ := h
  unfold r__law_shown r__law_shown_0
  walk_at "ev"
  simp only [ha]
  walk_at "ev"
  refine ⟨.str w, atI_nat (j := 0) rfl, ?_⟩
  have hd : DeedOk w kd ns := ⟨hf, hn, hok⟩
  have hkl : kd.length = (tl kd).length := TL.len_tl kd
  have hk6 := hd.kinds.2.1
  unfold r__law_shown_1
  walk_at "ev"
  refine ⟨by walk_at "sd", by walk_at "sd", by walk_at "sd", ?_⟩
  obtain ⟨Pv, hP⟩ : ∃ Pv : Nat → L2.St → Hp → Prop, Pv = (fun i σ H' => H' = H ∧ ∃ v3 v4, σ = [some (.ref a), some (.str kd), some (.str (Txt.join (Str.ofString " ") ((lawWords w (tl kd) ns).take (i + 1)))), v3, v4]) := ⟨_, rfl⟩
  refine lp t_rng Pv ?_ (fun _ _ _ _ _ => trivial) ?_ ?_
  · rw [hP]
    refine ⟨rfl, none, none, ?_⟩
    unfold lawWords
    rw [List.take_succ_cons, List.take_zero, join_one]
  · intro i v σ' H' H'' hi pv yv
    rw [hP] at pv
    obtain ⟨rfl, v3, v4, rfl⟩ := pv
    obtain ⟨rfl, rfl⟩ := yv
    have hij : (Int.toNat (kd.length : Int)) = kd.length := rfl
    have hi' : i < (tl kd).length := by omega
    obtain ⟨k, n, hk, hnn, hok1, hk3⟩ := hd.at_ hi'
    unfold g__law_shown_0
    walk_at "ev"
    unfold r__law_shown_1f0
    walk_at "ev"
    simp only [ha]
    have e1 : (1 : Int) + (0 + (i : Int)) = ((i + 1 : Nat) : Int) := by omega
    rw [e1]
    refine ⟨_, atI_nat (lawDue_at hnn), ?_⟩
    unfold r__law_shown_1f1
    walk_at "ev"
    refine ⟨by walk_at "sd", k, by rw [Int.zero_add]; exact atI_nat hk, ?_⟩
    simp only [one_r]
    have htake : (lawWords w (tl kd) ns).take (i + 1 + 1) = (lawWords w (tl kd) ns).take (i + 1) ++ [lawWritten n k] := by
      rw [List.take_succ, lawWords_at hk hnn]; rfl
    have hne : (lawWords w (tl kd) ns).take (i + 1) ≠ [] := by unfold lawWords; simp
    have hl := hd.len (i + 1)
    have hb1 : (Str.ofString " ").length = 1 := by decide +kernel
    have hl1 : ∀ T : Str, (T ++ Str.ofString " ").length = T.length + 1 := fun T => by rw [TL.len_tl, TL.tl_append, List.length_append, ← TL.len_tl, ← TL.len_tl, hb1]
    have hl2 : ∀ (T : Str) (c : Nat), (T ++ (⟨#[c]⟩ : Str)).length = T.length + 1 := fun T c => by rw [TL.len_tl, TL.tl_append, List.length_append, ← TL.len_tl]; rfl
    have hl3 : ∀ c : Nat, (⟨#[c]⟩ : Str).length = 1 := fun _ => rfl
    split
    · rename_i hkr
      subst hkr
      unfold okN at hok1
      rw [if_pos rfl] at hok1
      obtain ⟨c1, c2, p1, p2, p3⟩ := pair114 hok1.1 hok1.2
      unfold r__law_shown_1f1t0
      walk_at "ev"
      refine ⟨by rw [hb1]; walk_at "sd", by decide, by decide +kernel, c1, p1, by rw [hl1, hl3]; walk_at "sd", by walk_at "sd", by decide +kernel, c2, p2, by rw [hl2, hl1, hl3]; walk_at "sd", ?_⟩
      rw [hP]
      refine ⟨rfl, some (.int (0 + i)), some (.int n), ?_⟩
      rw [htake, join_snoc _ _ _ hne, p3]
    · rename_i hkr
      unfold r__law_shown_1f1e0
      walk_at "ev"
      have hab : n.natAbs < 10 ^ 60 := by
        unfold okN at hok1
        rw [if_neg hkr] at hok1
        split at hok1 <;> omega
      have hwl := written_len hok1
      have ew : lawWritten n k = Str.ofString (toString n) := by unfold lawWritten; rw [if_neg hkr]
      rw [ew] at hwl htake
      refine ⟨by rw [hb1]; walk_at "sd", rfl, n, rfl, hab, by rw [hl1]; walk_at "sd", ?_⟩
      rw [hP]
      refine ⟨rfl, some (.int (0 + i)), some (.int n), ?_⟩
      rw [htake, join_snoc _ _ _ hne]
  · intro σ' H' pv
    rw [hP] at pv
    obtain ⟨rfl, v3, v4, rfl⟩ := pv
    unfold r__law_shown_2
    walk_at "ev"
    have e : (lawWords w (tl kd) ns).take (kd.length + 1) = lawWords w (tl kd) ns := by
      refine List.take_of_length_le ?_
      unfold lawWords
      rw [List.length_cons, List.length_map, List.length_zip]; omega
    rw [e]; exact q
/-- what is asked of a form when it is shown -/
def formOk2 (p : Str × Str) : Bool := (!decide (p.1 = Str.ofString "lay") || decide ((tl p.2).length = 4) || decide ((tl p.2).length = 6)) && (List.range 6).all fun j => decide ((tl p.2)[j]? = some 114) == (decide (j = 3) && (decide (p.1 = Str.ofString "lay") || decide (p.1 = Str.ofString "guard")))
theorem forms_ok2 : forms.all formOk2 = true := by decide +kernel
theorem DeedOk.lay {w kd : Str} {ns : List Int} (h : DeedOk w kd ns) (hl : w = Str.ofString "lay") : (tl kd).length = 4 ∨ (tl kd).length = 6 := by
  have hff := List.all_eq_true.mp forms_ok2 _ h.1
  unfold formOk2 at hff
  simp only [Bool.and_eq_true, Bool.or_eq_true, Bool.not_eq_true', decide_eq_false_iff_not, decide_eq_true_eq] at hff
  rcases hff.1 with (z | z) | z
  · exact absurd hl z
  · exact .inl z
  · exact .inr z
theorem DeedOk.rights {w kd : Str} {ns : List Int} (h : DeedOk w kd ns) {j k : Nat} (hk : (tl kd)[j]? = some k) : k = 114 ↔ (j = 3 ∧ (w = Str.ofString "lay" ∨ w = Str.ofString "guard")) := by
  have hff := List.all_eq_true.mp forms_ok2 _ h.1
  unfold formOk2 at hff
  have hj : j < 6 := Nat.lt_of_lt_of_le (List.getElem?_eq_some_iff.mp hk).1 h.kinds.2.1
  simp only [Bool.and_eq_true, List.all_eq_true, List.mem_range] at hff
  have := hff.2 j hj
  rw [beq_iff_eq, hk] at this
  simp only [Option.some.injEq] at this
  constructor
  · intro z
    rw [decide_eq_true z] at this
    have := this.symm
    simpa using this
  · intro z
    have e : (decide (j = 3) && (decide (w = Str.ofString "lay") || decide (w = Str.ofString "guard"))) = true := by simpa using z
    rw [e] at this
    exact of_decide_eq_true this
theorem log_ok {n : Int} (hn : n.natAbs < 10 ^ 60) : n.natAbs.log2 < 1920 := by
  have h2 : n.natAbs < 2 ^ 1920 := Nat.lt_of_lt_of_le hn (by decide +kernel)
  by_cases hz : n.natAbs = 0
  · rw [hz]; decide
  · exact (Nat.log2_lt hz).mpr h2
theorem p_show_row {K : PySem.W.Frag} (vs : List V) (H : Hp) (Q : VK) (E : XK) (h : sp_show_row K vs H Q E) : r_show_row K (WX0 E) { nx := fun _ H' => Q .non H', rt := Q } (start ["deed", "parts", "words", "k", "part"] vs) H := by
  obtain ⟨-, a, w, kd, ns, rfl, ha, ⟨hf, hn, hok⟩, q⟩ := h
  unfold r_show_row r_show_row_0
  walk_at "ev"
  simp only [ha]
  walk_at "ev"
  intro b H1 n1
  unfold r_show_row_1
  walk_at "ev"
  simp only [n1.same _ _ ha]
  walk_at "ev"
  have hd : DeedOk w kd ns := ⟨hf, hn, hok⟩
  have hk6 := hd.kinds.2.1
  have n1b : H1 b = some (.lst (lawDue w (tl kd) ns)) := n1.self
  have go : ∀ c H2, Same H1 H2 → H2 c = some (.lst (.str w :: ns.map V.int)) → r_show_row_2 K (WX0 E) { nx := fun x H' => Q V.non H', rt := Q } [some (V.ref a), some (V.ref c), none, none, none] H2 := by
    intro c H2 s2 e2
    unfold r_show_row_2
    walk_at "ev"
    refine ⟨by decide, fun d H3 n3 => ?_⟩
    unfold r_show_row_3
    walk_at "ev"
    refine ⟨_, sqL (n3.same _ _ e2), ?_⟩
    obtain ⟨Pv, hP⟩ : ∃ Pv : Nat → L2.St → Hp → Prop, Pv = (fun i σ H' => ∃ v3 v4, σ = [some (.ref a), some (.ref c), some (.ref d), v3, v4] ∧ Same H2 H' ∧ H' c = some (.lst (.str w :: ns.map V.int)) ∧ H' d = some (.lst (((lawWords w (tl kd) ns).take i).map V.str))) := ⟨_, rfl⟩
    have hcd : c ≠ d := fun z => by rw [z] at e2; have := n3.1; rw [e2] at this; cases this
    refine lp (t_enum (.str w :: ns.map V.int)) Pv ?_ ?_ ?_ ?_
    · rw [hP]; exact ⟨none, none, rfl, n3.same, n3.same _ _ e2, n3.self⟩
    · intro i σ' H' _ pv
      rw [hP] at pv
      obtain ⟨v3, v4, -, -, h5, -⟩ := pv
      exact sqL h5
    · intro i v σ' H4 H5 hi pv yv
      rw [hP] at pv
      obtain ⟨v3, v4, rfl, s4, hc4, hd4⟩ := pv
      obtain ⟨T, x, rfl, nT, hx⟩ := yv
      unfold g_show_row_0
      walk_at "ev"
      simp only [nT.self]
      walk_at "ev"
      unfold r_show_row_3f0
      walk_at "ev"
      have h4 : Same H1 H5 := same_trans s2 (same_trans s4 nT.same)
      have ha5 : H5 a = some (.tup (lawDue w (tl kd) ns)) := h4 _ _ (n1.same _ _ ha)
      have hc5 := nT.same _ _ hc4
      have hd5 := nT.same _ _ hd4
      have hcnt : (lawWords w (tl kd) ns).length ≤ 7 := by
        unfold lawWords
        rw [List.length_cons, List.length_map, List.length_zip]; omega
      have hlt : ((((lawWords w (tl kd) ns).take i).map V.str)).length < sizeLine := by
        rw [List.length_map, List.length_take]; walk_at "sd"
      have hmn : ∀ b o, H2 b = some o → b ≠ d := fun b o e z => by rw [z] at e; have := n3.1; rw [e] at this; cases this
      have fin : ∀ (t : Str) H6 H7 v4, (lawWords w (tl kd) ns)[i]? = some t → Same H5 H6 → Wr H6 d (.lst (((lawWords w (tl kd) ns).take i).map V.str ++ [.str t])) H7 → Pv (i + 1) [some (V.ref a), some (V.ref c), some (V.ref d), some (V.int ↑i), v4] H7 := by
        intro t H6 H7 v4 ht s6 w7
        rw [hP]
        refine ⟨_, _, rfl, fun b o e => by rw [w7.ne (hmn b o e)]; exact s6 _ _ (nT.same _ _ (s4 _ _ e)), by rw [w7.ne hcd]; exact s6 _ _ hc5, ?_⟩
        rw [w7.self, List.take_succ, ht, List.map_append]; rfl
      split
      · rename_i h0
        have h0' : i = 0 := by omega
        subst h0'
        have : x = .str w := (Option.some.inj hx).symm
        subst this
        unfold r_show_row_3f0t0
        walk_at "ev"
        simp only [hd5]
        refine ⟨trivial, hlt, fun H7 w7 => fin w H5 H7 _ rfl same_rfl w7⟩
      · rename_i h0
        obtain ⟨j, rfl⟩ : ∃ j, i = j + 1 := ⟨i - 1, by omega⟩
        have hj : j < (tl kd).length := by rw [List.length_cons, List.length_map] at hi; omega
        obtain ⟨k, n, hk, hnn, hok1, hk3⟩ := hd.at_ hj
        have : x = .int n := by
          rw [List.getElem?_cons_succ, List.getElem?_map, hnn] at hx
          exact (Option.some.inj hx).symm
        subst this
        have hwt := lawWords_at (w := w) hk hnn
        have hr := hd.rights hk
        have num : k ≠ 114 → ∀ H6, Same H5 H6 → r_show_row_3f0e0e0 K (WX0 E) { nx := Pv (j + 1 + 1), rt := Q, bk := r_show_row_4 K (WX0 E) { nx := fun x H' => Q V.non H', rt := Q }, ct := Pv (j + 1 + 1) } [some (V.ref a), some (V.ref c), some (V.ref d), some (V.int ((j + 1 : Nat) : Int)), some (V.int n)] H6 := by
          intro hkr H6 s6
          have hd6 := s6 _ _ hd5
          unfold r_show_row_3f0e0e0
          walk_at "ev"
          simp only [hd6]
          have hab : n.natAbs < 10 ^ 60 := by
            unfold okN at hok1
            rw [if_neg hkr] at hok1
            split at hok1 <;> omega
          have ew : lawWritten n k = Str.ofString (toString n) := by unfold lawWritten; rw [if_neg hkr]
          refine ⟨trivial, log_ok hab, hlt, fun H7 w7 => fin _ H6 H7 _ hwt s6 (by rw [ew]; exact w7)⟩
        unfold r_show_row_3f0e0
        walk_at "ev"
        split
        · rename_i h4
          simp only [ha5]
          refine ⟨.str w, atI_nat (j := 0) rfl, by decide, fun P H6 n6 => ?_⟩
          unfold mIn
          simp only [seqAt, n6.self]
          refine ⟨rfl, rfl, ?_⟩
          walk_at "ev"
          have hj3 : j = 3 := by omega
          split
          · rename_i hin
            have hk114 : k = 114 := hr.mpr ⟨hj3, by
              unfold inV at hin
              simp only [List.any_cons, List.any_nil, Bool.or_false, Bool.or_eq_true, L2.eqV, beq_iff_eq] at hin
              rcases hin with h | h
              · exact .inl h.symm
              · exact .inr h.symm⟩
            subst hk114
            unfold okN at hok1
            rw [if_pos rfl] at hok1
            unfold r_show_row_3f0e0t0
            walk_at "ev"
            have hd6 := n6.same _ _ hd5
            simp only [hd6]
            refine ⟨trivial, rfl, n, rfl, hok1.1, hok1.2, fun H7 s7 => ?_⟩
            simp only [s7 _ _ hd6]
            exact ⟨hlt, fun H8 w8 => fin _ H7 H8 _ hwt (same_trans n6.same s7) w8⟩
          · rename_i hin
            refine num (fun z => hin ?_) H6 n6.same
            have := (hr.mp z).2
            unfold inV
            simp only [List.any_cons, List.any_nil, Bool.or_false, Bool.or_eq_true, L2.eqV, beq_iff_eq]
            rcases this with h | h
            · exact .inl h.symm
            · exact .inr h.symm
        · rename_i h4
          exact num (fun z => h4 (by have := (hr.mp z).1; omega)) H5 same_rfl
    · intro σ' H4 pv
      rw [hP] at pv
      obtain ⟨v3, v4, rfl, s4, hc4, hd4⟩ := pv
      have htk : (lawWords w (tl kd) ns).take (V.str w :: ns.map V.int).length = lawWords w (tl kd) ns := by
        refine List.take_of_length_le ?_
        unfold lawWords
        rw [List.length_cons, List.length_map, List.length_zip, List.length_cons, List.length_map]; omega
      rw [htk] at hd4
      have hsz : ∀ p ∈ lawWords w (tl kd) ns, p.length ≤ 61 := by
        intro p hp
        rcases List.mem_cons.mp hp with rfl | hp
        · have := hd.kinds.2.2; omega
        · obtain ⟨q, hq, rfl⟩ := List.mem_map.mp hp
          exact written_len (hd.2.2 q hq)
      have hcnt : (lawWords w (tl kd) ns).length ≤ 7 := by
        unfold lawWords
        rw [List.length_cons, List.length_map, List.length_zip]; omega
      have hsum := sum_le (lawWords w (tl kd) ns) 61 hsz
      have h4 : (lawWords w (tl kd) ns).length * 61 ≤ 7 * 61 := Nat.mul_le_mul_right _ hcnt
      unfold r_show_row_4
      walk_at "ev"
      refine ⟨Str.ofString " ", d, lawWords w (tl kd) ns, rfl, rfl, by unfold seqAt; rw [hd4], ?_, q _ (same_trans n1.same (same_trans s2 s4))⟩
      rw [show (Str.ofString " ").length = 1 from by decide +kernel]
      omega
  refine ⟨.str w, atI_nat (j := 0) rfl, ?_⟩
  walk_at "ev"
  split
  · rename_i hlay
    have h46 := hd.lay hlay
    have h5 : 5 < (lawDue w (tl kd) ns).length := by
      unfold lawDue
      rw [List.length_append, List.length_cons, List.length_map, ← hn]
      rcases h46 with h | h
      · rw [if_pos ⟨hlay, h⟩, h]; decide
      · omega
    refine ⟨_, atI_nat (j := 5) (List.getElem?_eq_getElem h5), ?_⟩
    rcases h46 with h | h
    · have e5 : (lawDue w (tl kd) ns)[5] = V.non := by
        have : (lawDue w (tl kd) ns)[5]? = some V.non := by
          unfold lawDue
          rw [if_pos ⟨hlay, h⟩, List.getElem?_append_right (by rw [List.length_cons, List.length_map]; omega), List.length_cons, List.length_map, ← hn, h]; rfl
        rw [List.getElem?_eq_getElem h5] at this
        exact Option.some.inj this
      rw [e5]
      walk_at "ev"
      unfold r_show_row_1t0
      walk_at "ev"
      simp only [n1b]
      intro c H2 n2
      refine go c H2 n2.same ?_
      rw [n2.self]
      unfold lawDue
      rw [if_pos ⟨hlay, h⟩, show (some (5 : Int)) = some ((5 : Nat) : Int) from rfl]
      unfold cutV
      rw [HT.sIx_none, HT.sIx_nat, List.drop_zero]
      have : min 5 (V.str w :: List.map V.int ns ++ [V.non, V.int 0]).length - 0 = (V.str w :: List.map V.int ns).length := by
        rw [List.length_append, List.length_cons, List.length_map, ← hn, h]; decide
      rw [this, List.take_left]
    · have e5 : ∃ n, (lawDue w (tl kd) ns)[5] = V.int n := by
        obtain ⟨k, n, hk, hnn, -⟩ := hd.at_ (j := 4) (by omega)
        have := lawDue_at (w := w) (ks := tl kd) hnn
        rw [List.getElem?_eq_getElem h5] at this
        exact ⟨n, Option.some.inj this⟩
      obtain ⟨n, e5⟩ := e5
      rw [e5]
      walk_at "ev"
      refine go b H1 same_rfl ?_
      rw [n1b]
      unfold lawDue
      rw [if_neg (fun z => by have := z.2; omega), List.append_nil]
  · rename_i hlay
    refine go b H1 same_rfl ?_
    rw [n1b]
    unfold lawDue
    rw [if_neg (fun z => hlay z.1), List.append_nil]
end K96

set_option Elab.async false
set_option linter.all false
set_option maxRecDepth 100000
set_option maxHeartbeats 4000000
namespace K96
open PySem PySem.Spec PyProof.Rows L2 MM
open TL (tl)
local macro_rules | `(tactic| walk_at "ev") => `(tactic| try simp only [tSeq, wipe, tYes, tFor_Lp, tLc_Lc, iRng1, iRng2, iRng3, iStr, iZipS, iRev, iEnum, iList, iTup, List.cons.injEq, decide_true, decide_false, not_true_eq_false, not_false_eq_true, not_dec, not_b, isA_tt, isA_ss, isA_ii, isA_bb, isA_ll, isA_bi, isA_dd, isA_ib, isA_is, isA_it, isA_il, isA_si, isA_sb, isA_ti, isA_tb, isA_ts, isA_tl, isA_li, isA_lb, isA_ls, isA_lt, isA_ni, isA_nb, isA_ns, isA_nl, isA_nt, isA_bs, isA_bl, isA_bt, isA_st, isA_sl, tAsg, gName, tVar, tC, tOp, tUn, tIf, tTest, tB, tAnd, tOr, tNot, tAndV, tOrV, tNotV, tChain, tRet, tRetN, tDrop, tIfS, tNext, tCont, tBreak, tCons, tNil, tCB, mTup, mLst, mDictK, mDictT, tSl, tPart, tNoPart, oI, oIc, oEq, oNe, oIsN, oNotN, uNeg, oRep, mAdd, mIx, mLen, mIsi, tyN, mInt, mMin, mMax, mAbs, mStr, mSl, mTupOf, mListOf, mSplit, mStarts, mBM, tyM, mCall, mMeth, mMeth2, mMake, mFld, mSetF, mRaise, mTabIx, mInTab, gTupM, gCons, gNil, gSub, mSet, scal, MM.keyOf, MM.keysOf, mAppend, mExtend, mPopL, mPop, mGet, mSetd, kvPop, kvLook, seqAt, L2.start, List.map_cons, List.map_nil, List.length_cons, List.length_nil, List.replicate, List.append_nil, List.nil_append, List.cons_append, List.getElem?_cons_zero, List.getElem?_cons_succ, List.getElem?_nil, List.set_cons_zero, List.set_cons_succ, Option.some.injEq, exists_eq_left, exists_eq_left', exists_eq', exists_and_left, and_assoc, and_true, true_and, if_true, if_false, ite_true, ite_false, decide_eq_true_eq, decide_eq_false_iff_not, Bool.not_true, Bool.not_false, Bool.not_eq_true, Bool.false_eq_true, eq_self, reduceCtorEq, and_false, false_and, V.int.injEq, V.str.injEq, V.bl.injEq, V.ref.injEq, V.ty.injEq, HO.lst.injEq, HO.tup.injEq, HO.ins.injEq, Nat.reduceAdd, Nat.reduceSub, Nat.zero_add, Nat.reduceLeDiff, Int.toNat_natCast, upd_same])
local macro_rules | `(tactic| walk_at "sd") => `(tactic| first | omega | exact lo62 (by omega) | exact hi62 (by omega) | exact sz_le (by omega) | exact sz_lt (by omega) | exact lo63 (by omega) | exact hi63 (by omega) | decide | exact ⟨by decide, by decide⟩ | exact ⟨by decide, by decide, by decide⟩ | exact Or.inl ⟨by omega, by omega⟩ | exact Or.inr ⟨by omega, by omega⟩)
def RowOk (H : Hp) (e : Addr) : Prop := ∃ d w kd ns, H e = some (.tup [.ref d, .str kd]) ∧ H d = some (.tup (lawDue w (tl kd) ns)) ∧ DeedOk w kd ns
theorem RowOk.mono {H H' : Hp} {e : Addr} (s : Same H H') (h : RowOk H e) : RowOk H' e := by
  obtain ⟨d, w, kd, ns, h1, h2, h3⟩ := h
  exact ⟨d, w, kd, ns, s _ _ h1, s _ _ h2, h3⟩
theorem RowOk.wr {H H' : Hp} {e m : Addr} {xs ys : List V} (hm : H m = some (.lst xs)) (w : Wr H m (.lst ys) H') (h : RowOk H e) : RowOk H' e := by
  obtain ⟨d, w1, kd, ns, h1, h2, h3⟩ := h
  refine ⟨d, w1, kd, ns, ?_, ?_, h3⟩
  · rw [w.ne (fun z => by rw [z, hm] at h1; cases h1)]; exact h1
  · rw [w.ne (fun z => by rw [z, hm] at h2; cases h2)]; exact h2
theorem rg7 {n : Nat} (h : n ≤ 63) : RgC 0 (1 + if (62 : Int) < (n : Int) then 62 else (n : Int)) 7 (min n 62 / 7 + 1) := by
  have all : ∀ t : Fin 63, Builtin.Range.small 0 (1 + ((t : Nat) : Int)) 7 = true ∧ Builtin.Range.rangeSize 0 (1 + ((t : Nat) : Int)) 7 = (((t : Nat) / 7 + 1 : Nat) : Int) := by decide +kernel
  have e : (if (62 : Int) < (n : Int) then 62 else (n : Int)) = ((min n 62 : Nat) : Int) := by split <;> omega
  rw [e]
  have := all ⟨min n 62, by omega⟩
  exact ⟨by decide, by decide, this.1, this.2⟩
theorem forms_mem (c : Int) : ((lawForm c).1, (lawForm c).2) ∈ forms := by
  unfold lawForm
  have hb := Int.emod_nonneg c (show (15 : Int) ≠ 0 by decide)
  have hb2 := Int.emod_lt_of_pos c (show (0 : Int) < 15 by decide)
  obtain ⟨j, hj⟩ := Int.eq_ofNat_of_zero_le hb
  rw [hj]
  have hj15 : j < forms.length := by show j < 15; omega
  show (forms.getD (Int.toNat (j : Int)) ("", "")) ∈ forms
  rw [Int.toNat_natCast, List.getD_eq_getElem?_getD, List.getElem?_eq_getElem hj15]
  exact List.getElem_mem hj15
theorem forms_str : (forms.all fun p => PyData.strOk p.1) = true := by decide +kernel
theorem DeedOk.flat {w kd : Str} {ns : List Int} (h : DeedOk w kd ns) : (lawDue w (tl kd) ns).all flatOk = true := by
  have := List.all_eq_true.mp forms_str _ h.1
  unfold lawDue
  rw [List.cons_append, List.all_cons, List.all_append, Bool.and_eq_true, Bool.and_eq_true]
  refine ⟨this, ?_, ?_⟩
  · rw [List.all_eq_true]
    intro v hv
    obtain ⟨i, -, rfl⟩ := List.mem_map.mp hv
    rfl
  · split <;> rfl
theorem p_law {K : PySem.W.Frag} (vs : List V) (H : Hp) (Q : VK) (E : XK) (h : sp_law K vs H Q E) : r_law K (WX0 E) { nx := fun _ H' => Q .non H', rt := Q } (start ["_law_script", "_law_deeds", "_law_at", "_law_word", "_law_kinds", "_law_deed", "_law_k", "_law_shown_here"] vs) H := by
  obtain ⟨-, a, ns, rfl, hS, hn, q⟩ := h
  unfold r_law r_law_0
  walk_at "ev"
  refine ⟨by decide, fun m H1 n1 => ?_⟩
  unfold r_law_1
  walk_at "ev"
  refine ⟨a, ns.map V.int, rfl, sqL_same n1.same hS, ?_⟩
  walk_at "ev"
  rw [List.length_map]
  refine ⟨_, rg7 hn, ?_⟩
  obtain ⟨Pv, hP⟩ : ∃ Pv : Nat → L2.St → Hp → Prop, Pv = (fun i σ H' => ∃ v2 v3 v4 v5 v6 v7, σ = [some (.ref a), some (.ref m), v2, v3, v4, v5, v6, v7] ∧ Same H H' ∧ ∃ es : List Addr, H' m = some (.lst (es.map V.ref)) ∧ es.length = i ∧ ∀ e ∈ es, RowOk H' e) := ⟨_, rfl⟩
  have hma : ∀ b o, H b = some o → b ≠ m := fun b o e z => by rw [z] at e; have := n1.1; rw [e] at this; cases this
  refine lp t_rngC Pv ?_ (fun _ _ _ _ _ => trivial) ?_ ?_
  · rw [hP]; exact ⟨_, _, _, _, _, _, rfl, n1.same, [], n1.self, rfl, fun e he => by cases he⟩
  · intro i v σ' H' H'' hi pv yv
    rw [hP] at pv
    obtain ⟨v2, v3, v4, v5, v6, v7, rfl, hs, es, hm, hl, hr⟩ := pv
    obtain ⟨rfl, rfl⟩ := yv
    have ek : (0 : Int) + (i : Int) * 7 = ((7 * i : Nat) : Int) := by omega
    rw [ek]
    unfold g_law_1
    walk_at "ev"
    unfold r_law_1f0
    walk_at "ev"
    refine ⟨rfl, a, ns, 7 * i, rfl, sqL_same hs hS, rfl, cellAt ns (7 * i), rfl, fun p H2 s2 e2 => ?_⟩
    simp only [e2]
    walk_at "ev"
    have hf := forms_mem (cellAt ns (7 * i))
    generalize (lawForm (cellAt ns (7 * i))).1 = w at *
    generalize (lawForm (cellAt ns (7 * i))).2 = kd at *
    have hff := List.all_eq_true.mp forms_ok _ hf
    unfold formOk at hff
    simp only [Bool.and_eq_true, Bool.not_eq_true', List.all_eq_true, Bool.or_eq_true, beq_iff_eq, decide_eq_true_eq] at hff
    obtain ⟨-, ⟨⟨⟨hkk, -⟩, hk6⟩, hw10⟩⟩ := hff
    have hkl : kd.length = (tl kd).length := TL.len_tl kd
    unfold r_law_1f1
    walk_at "ev"
    refine ⟨by decide, fun A H3 n3 => ?_⟩
    unfold r_law_1f2
    walk_at "ev"
    refine ⟨by walk_at "sd", by walk_at "sd", by walk_at "sd", ?_⟩
    have hkx : ∀ j, j < kd.length → ∃ k, (tl kd)[j]? = some k ∧ (k = 110 ∨ k = 118 ∨ k = 114) := fun j hj => by
      have : j < (tl kd).length := by omega
      exact ⟨_, List.getElem?_eq_getElem this, hkk _ (List.getElem_mem this)⟩
    obtain ⟨Pw, hPw⟩ : ∃ Pv : Nat → L2.St → Hp → Prop, Pv = (fun j σ H' => ∃ v6, σ = [some (.ref a), some (.ref m), some (.int ((7 * i : Nat) : Int)), some (.str w), some (.str kd), some (.ref A), v6, v7] ∧ Same H2 H' ∧ ∃ nl : List Int, H' A = some (.lst (.str w :: nl.map V.int)) ∧ nl.length = j ∧ ∀ p ∈ nl.zip (tl kd), okN p.2 p.1) := ⟨_, rfl⟩
    have hAn : ∀ b o, H2 b = some o → b ≠ A := fun b o e z => by rw [z] at e; have := n3.1; rw [e] at this; cases this
    refine lp t_rng Pw ?_ (fun _ _ _ _ _ => trivial) ?_ ?_
    · rw [hPw]; exact ⟨_, rfl, n3.same, [], n3.self, rfl, fun p hp => by cases hp⟩
    · intro j x σ' H4 H5 hj pv yv
      rw [hPw] at pv
      obtain ⟨v6, rfl, s4, nl, hA, hnl, hok⟩ := pv
      obtain ⟨rfl, rfl⟩ := yv
      obtain ⟨k, hk, hk3⟩ := hkx j hj
      unfold g_law_0
      walk_at "ev"
      unfold r_law_1f2f0
      walk_at "ev"
      simp only [hA]
      have e7 : ((7 * i : Nat) : Int) + 1 + (0 + (j : Int)) = ((7 * i + 1 + j : Nat) : Int) := by omega
      have hat : atI kd.cps.toList (0 + (j : Int)) = some k := by rw [Int.zero_add]; exact atI_nat hk
      refine ⟨trivial, rfl, a, ns, 7 * i + 1 + j, by rw [e7], sqL_same (same_trans hs (same_trans s2 s4)) hS, by walk_at "sd", k, hat, rfl, _, k, rfl, fun H6 s6 => ?_⟩
      simp only [s6 _ _ hA]
      refine ⟨by rw [List.length_cons, List.length_map, hnl]; walk_at "sd", fun H7 w7 => ?_⟩
      rw [hPw]
      refine ⟨_, rfl, fun b o e => by rw [w7.ne (hAn b o e)]; exact s6 _ _ (s4 _ _ e), nl ++ [lawNumber (cellAt ns (7 * i + 1 + j)) k], by rw [w7.self, List.map_append]; rfl, by rw [List.length_append, hnl]; rfl, ?_⟩
      intro p hp
      obtain ⟨t, ht⟩ := List.getElem?_of_mem hp
      obtain ⟨h1, h2⟩ := List.getElem?_zip_eq_some.mp ht
      by_cases htj : t < nl.length
      · rw [List.getElem?_append_left htj] at h1
        exact hok p (List.mem_of_getElem? (i := t) (List.getElem?_zip_eq_some.mpr ⟨h1, h2⟩))
      · have : t = j := by
          have := (List.getElem?_eq_some_iff.mp h1).1
          rw [List.length_append, List.length_singleton] at this; omega
        subst this
        rw [List.getElem?_append_right (by omega), hnl, Nat.sub_self] at h1
        rw [hk] at h2
        rw [← Option.some.inj h1, ← Option.some.inj h2]
        exact lawNumber_ok hk3
    · intro σ' H4 pv
      rw [hPw] at pv
      obtain ⟨v6, rfl, s4, nl, hA, hnl, hok⟩ := pv
      have hd : DeedOk w kd nl := ⟨hf, by omega, hok⟩
      have last : ∀ H5 A5, Same H4 H5 → H5 A5 = some (.lst (lawDue w (tl kd) nl)) → r_law_1f4 K (WX0 E) { nx := Pv (i + 1), rt := Q, bk := r_law_2 K (WX0 E) { nx := fun x H' => Q V.non H', rt := Q }, ct := Pv (i + 1) } [some (.ref a), some (.ref m), some (.int ((7 * i : Nat) : Int)), some (.str w), some (.str kd), some (.ref A5), v6, v7] H5 := by
        intro H5 A5 s5 e5
        have hm5 : H5 m = some (.lst (es.map V.ref)) := s5 _ _ (s4 _ _ (s2 _ _ hm))
        unfold r_law_1f4
        walk_at "ev"
        simp only [hm5, e5]
        refine ⟨trivial, fun D H6 n6 => ⟨by decide, fun Y H7 n7 => ?_⟩⟩
        have hm7 := n7.same _ _ (n6.same _ _ hm5)
        simp only [hm7]
        refine ⟨by rw [List.length_map, hl]; walk_at "sd", fun H8 w8 => ?_⟩
        have s7 : Same H'' H7 := same_trans s2 (same_trans s4 (same_trans s5 (same_trans n6.same n7.same)))
        rw [hP]
        refine ⟨_, _, _, _, _, _, rfl, fun b o e => by rw [w8.ne (hma b o e)]; exact s7 _ _ (hs _ _ e), es ++ [Y], by rw [w8.self, List.map_append]; rfl, by rw [List.length_append, hl]; rfl, fun e he => ?_⟩
        rcases List.mem_append.mp he with he | he
        · exact ((hr e he).mono s7).wr hm7 w8
        · rw [List.mem_singleton] at he
          subst he
          exact RowOk.wr hm7 w8 ⟨D, w, kd, nl, n7.self, n7.same _ _ n6.self, hd⟩
      unfold r_law_1f3
      walk_at "ev"
      split
      · rename_i h1
        refine ⟨by walk_at "sd", ?_⟩
        split
        · rename_i h2
          unfold r_law_1f3t0
          walk_at "ev"
          refine ⟨by decide, fun z H5 n5 => ?_⟩
          simp only [n5.self, n5.same _ _ hA]
          refine ⟨sz_le (by simp only [List.length_cons, List.length_nil, List.length_map]; omega), fun y H6 n6 => last H6 y (same_trans n5.same n6.same) ?_⟩
          rw [n6.self]; unfold lawDue; rw [if_pos ⟨h1, by omega⟩]
        · rename_i h2
          exact last H4 A same_rfl (by rw [hA]; unfold lawDue; rw [if_neg (fun z => h2 (by omega)), List.append_nil])
      · rename_i h1
        exact last H4 A same_rfl (by rw [hA]; unfold lawDue; rw [if_neg (fun z => h1 z.1), List.append_nil])
  · intro σ' H' pv
    rw [hP] at pv
    obtain ⟨v2, v3, v4, v5, v6, v7, rfl, -, es, hm, -, hr⟩ := pv
    clear hP Pv hma hS n1
    obtain ⟨Pw, hPw⟩ : ∃ Pv : Nat → L2.St → Hp → Prop, Pv = (fun i σ H' => ∃ v2 v3 v4 v5 v6 v7, σ = [some (.ref a), some (.ref m), v2, v3, v4, v5, v6, v7] ∧ H' m = some (.lst (es.map V.ref)) ∧ ∀ e ∈ es, RowOk H' e) := ⟨_, rfl⟩
    unfold r_law_2
    walk_at "ev"
    refine ⟨⟨_, sqL hm⟩, lp (t_list (es.map V.ref)) Pw ?_ ?_ ?_ ?_⟩
    · rw [hPw]; exact ⟨_, _, _, _, _, _, rfl, hm, hr⟩
    · intro i σ' H' _ pv
      rw [hPw] at pv
      obtain ⟨v2, v3, v4, v5, v6, v7, rfl, hm, hr⟩ := pv
      exact sqL hm
    · intro i x σ' H1 H2 hi pv yv
      rw [hPw] at pv
      obtain ⟨v2, v3, v4, v5, v6, v7, rfl, hm, hr⟩ := pv
      obtain ⟨rfl, hx⟩ := yv
      rw [List.getElem?_map] at hx
      cases ee : es[i]? with
      | none => rw [ee] at hx; cases hx
      | some e =>
        rw [ee] at hx; cases hx
        obtain ⟨d, w, kd, nl, h1, h2, hd⟩ := hr e (List.mem_of_getElem? ee)
        unfold g_law_2
        walk_at "ev"
        simp only [h1]
        walk_at "ev"
        unfold r_law_2f0
        walk_at "ev"
        refine ⟨rfl, d, w, kd, nl, rfl, h2, hd, fun H3 s3 => ?_⟩
        unfold r_law_2f1
        walk_at "ev"
        refine ⟨by decide, ?_⟩
        walk_at "ev"
        refine ⟨rfl, d, w, kd, nl, rfl, s3 _ _ h2, hd, ?_⟩
        walk_at "ev"
        unfold r_law_2f2
        walk_at "ev"
        have hlen : (rowText w (tl kd) nl).length ≤ 500 := by
          have := hd.len (lawWords w (tl kd) nl).length
          rw [List.take_length] at this
          exact this
        refine ⟨rfl, rowText w (tl kd) nl, rfl, by omega, ?_⟩
        rw [show rdRow (rowText w (tl kd) nl) = some (lawDue w (tl kd) nl) from rdRow_law hd.1 hd.2.1 hd.2.2]
        intro f H4 s4 e4
        have h24 := s4 _ _ (s3 _ _ h2)
        refine neD_f (n := 2) (.tup (sqT e4) (dpAll_flat hd.flat)) (.tup (sqT h24) (dpAll_flat hd.flat)) (nice_tup (nice_flats hd.flat)) (by decide) ?_
        walk_at "ev"
        rw [hPw]
        exact ⟨_, _, _, _, _, _, rfl, s4 _ _ (s3 _ _ hm), fun e he => (hr e he).mono (same_trans s3 s4)⟩
    · intro σ' H' pv
      unfold r_law_3
      walk_at "ev"
      exact q _
end K96

set_option Elab.async false
set_option linter.all false
set_option maxRecDepth 100000
set_option maxHeartbeats 4000000
namespace K96
open PySem PySem.Spec PyProof.Rows L2 MM
def top (i : Nat) : Stmt := PySem.Challenge.pw_frameland_k96_rows_shown.main.body.getD i (.Pass ⟨0, 0, 0, 0⟩)
abbrev s__law_form : Stmt := top 15
abbrev N__law_form : List Str := ["_law_cell", "_law_forms"]
abbrev P__law_form : List Str := ["_law_cell"]
theorem sc__law_form : FnScope N__law_form P__law_form (defScope s__law_form) := ⟨rfl, rfl, rfl, by decide +kernel, rfl, by decide +kernel, by decide +kernel⟩
abbrev s__law_cell_at : Stmt := top 14
abbrev N__law_cell_at : List Str := ["_law_script", "_law_k"]
abbrev P__law_cell_at : List Str := ["_law_script", "_law_k"]
theorem sc__law_cell_at : FnScope N__law_cell_at P__law_cell_at (defScope s__law_cell_at) := ⟨rfl, rfl, rfl, by decide +kernel, rfl, by decide +kernel, by decide +kernel⟩
abbrev s__law_number : Stmt := top 16
abbrev N__law_number : List Str := ["_law_cell", "_law_kind", "_law_least", "_law_k", "_law_number_here"]
abbrev P__law_number : List Str := ["_law_cell", "_law_kind"]
theorem sc__law_number : FnScope N__law_number P__law_number (defScope s__law_number) := ⟨rfl, rfl, rfl, by decide +kernel, rfl, by decide +kernel, by decide +kernel⟩
abbrev s_show_rights : Stmt := top 10
abbrev N_show_rights : List Str := ["rights"]
abbrev P_show_rights : List Str := ["rights"]
theorem sc_show_rights : FnScope N_show_rights P_show_rights (defScope s_show_rights) := ⟨rfl, rfl, rfl, by decide +kernel, rfl, by decide +kernel, by decide +kernel⟩
abbrev s_show_row : Stmt := top 12
abbrev N_show_row : List Str := ["deed", "parts", "words", "k", "part"]
abbrev P_show_row : List Str := ["deed"]
theorem sc_show_row : FnScope N_show_row P_show_row (defScope s_show_row) := ⟨rfl, rfl, rfl, by decide +kernel, rfl, by decide +kernel, by decide +kernel⟩
abbrev s__law_figures : Stmt := top 17
abbrev N__law_figures : List Str := ["_law_number_here", "_law_written", "_law_rest"]
abbrev P__law_figures : List Str := ["_law_number_here"]
theorem sc__law_figures : FnScope N__law_figures P__law_figures (defScope s__law_figures) := ⟨rfl, rfl, rfl, by decide +kernel, rfl, by decide +kernel, by decide +kernel⟩
abbrev s__law_shown : Stmt := top 18
abbrev N__law_shown : List Str := ["_law_deed", "_law_kinds", "_law_written", "_law_k", "_law_part"]
abbrev P__law_shown : List Str := ["_law_deed", "_law_kinds"]
theorem sc__law_shown : FnScope N__law_shown P__law_shown (defScope s__law_shown) := ⟨rfl, rfl, rfl, by decide +kernel, rfl, by decide +kernel, by decide +kernel⟩
abbrev s_read_number : Stmt := top 7
abbrev N_read_number : List Str := ["word", "sign"]
abbrev P_read_number : List Str := ["word"]
theorem sc_read_number : FnScope N_read_number P_read_number (defScope s_read_number) := ⟨rfl, rfl, rfl, by decide +kernel, rfl, by decide +kernel, by decide +kernel⟩
abbrev s_read_value : Stmt := top 8
abbrev N_read_value : List Str := ["word", "number"]
abbrev P_read_value : List Str := ["word"]
theorem sc_read_value : FnScope N_read_value P_read_value (defScope s_read_value) := ⟨rfl, rfl, rfl, by decide +kernel, rfl, by decide +kernel, by decide +kernel⟩
abbrev s_read_rights : Stmt := top 9
abbrev N_read_rights : List Str := ["word"]
abbrev P_read_rights : List Str := ["word"]
theorem sc_read_rights : FnScope N_read_rights P_read_rights (defScope s_read_rights) := ⟨rfl, rfl, rfl, by decide +kernel, rfl, by decide +kernel, by decide +kernel⟩
abbrev s_read_row : Stmt := top 11
abbrev N_read_row : List Str := ["text", "words", "kinds", "deed", "word", "kind"]
abbrev P_read_row : List Str := ["text"]
theorem sc_read_row : FnScope N_read_row P_read_row (defScope s_read_row) := ⟨rfl, rfl, rfl, by decide +kernel, rfl, by decide +kernel, by decide +kernel⟩
abbrev s_law : Stmt := top 19
abbrev N_law : List Str := ["_law_script", "_law_deeds", "_law_at", "_law_word", "_law_kinds", "_law_deed", "_law_k", "_law_shown_here"]
abbrev P_law : List Str := ["_law_script"]
theorem sc_law : FnScope N_law P_law (defScope s_law) := ⟨rfl, rfl, rfl, by decide +kernel, rfl, by decide +kernel, by decide +kernel⟩
def fa0 : List He.Fa := [.exc "NoRow", .free "abs", .free "enumerate", .free "int", .free "isinstance", .free "len", .free "list", .free "min", .free "range", .free "str", .free "tuple", .free "zip", .glo "NoRow", .glo "WORDS", .glo "_law_cell_at", .glo "_law_figures"]
def fa1 : List He.Fa := [.glo "_law_form", .glo "_law_number", .glo "_law_shown", .glo "read_number", .glo "read_rights", .glo "read_row", .glo "read_value", .glo "show_rights", .glo "show_row", .int "MOST_FIGURES" 60, .str "FIGURES" "0123456789", .glo "law"]
abbrev fa : List (List He.Fa) := [fa0, fa1]
def d__law_form : He.DefD := ⟨("_law_form", none), "_law_form", "_law_form", defArgs s__law_form, defBody s__law_form, defScope s__law_form, [], []⟩
def d__law_cell_at : He.DefD := ⟨("_law_cell_at", none), "_law_cell_at", "_law_cell_at", defArgs s__law_cell_at, defBody s__law_cell_at, defScope s__law_cell_at, [], []⟩
def d__law_number : He.DefD := ⟨("_law_number", none), "_law_number", "_law_number", defArgs s__law_number, defBody s__law_number, defScope s__law_number, [], []⟩
def d_show_rights : He.DefD := ⟨("show_rights", none), "show_rights", "show_rights", defArgs s_show_rights, defBody s_show_rights, defScope s_show_rights, [], []⟩
def d_show_row : He.DefD := ⟨("show_row", none), "show_row", "show_row", defArgs s_show_row, defBody s_show_row, defScope s_show_row, [], []⟩
def d__law_figures : He.DefD := ⟨("_law_figures", none), "_law_figures", "_law_figures", defArgs s__law_figures, defBody s__law_figures, defScope s__law_figures, [], []⟩
def d__law_shown : He.DefD := ⟨("_law_shown", none), "_law_shown", "_law_shown", defArgs s__law_shown, defBody s__law_shown, defScope s__law_shown, [], []⟩
def d_read_number : He.DefD := ⟨("read_number", none), "read_number", "read_number", defArgs s_read_number, defBody s_read_number, defScope s_read_number, [], []⟩
def d_read_value : He.DefD := ⟨("read_value", none), "read_value", "read_value", defArgs s_read_value, defBody s_read_value, defScope s_read_value, [], []⟩
def d_read_rights : He.DefD := ⟨("read_rights", none), "read_rights", "read_rights", defArgs s_read_rights, defBody s_read_rights, defScope s_read_rights, [], []⟩
def d_read_row : He.DefD := ⟨("read_row", none), "read_row", "read_row", defArgs s_read_row, defBody s_read_row, defScope s_read_row, [], []⟩
def d_law : He.DefD := ⟨("law", none), "law", "law", defArgs s_law, defBody s_law, defScope s_law, [], []⟩
def fn0 : List He.DefD := [d__law_form, d__law_cell_at, d__law_number, d_show_rights, d_show_row, d__law_figures, d__law_shown, d_read_number, d_read_value, d_read_rights, d_read_row, d_law]
abbrev fn : List (List He.DefD) := [fn0]
abbrev TX (K : PySem.W.Frag) (mg : Str → Option Value) := Tx fa fn K mg
section
variable {K : PySem.W.Frag} {mg : Str → Option Value}
theorem ex_NoRow (T : TX K mg) : ExcP K "NoRow" := T.at 0 0 rfl rfl
theorem fr_abs (T : TX K mg) : mg "abs" = none := T.at 0 1 rfl rfl
theorem fr_enumerate (T : TX K mg) : mg "enumerate" = none := T.at 0 2 rfl rfl
theorem fr_int (T : TX K mg) : mg "int" = none := T.at 0 3 rfl rfl
theorem fr_isinstance (T : TX K mg) : mg "isinstance" = none := T.at 0 4 rfl rfl
theorem fr_len (T : TX K mg) : mg "len" = none := T.at 0 5 rfl rfl
theorem fr_list (T : TX K mg) : mg "list" = none := T.at 0 6 rfl rfl
theorem fr_min (T : TX K mg) : mg "min" = none := T.at 0 7 rfl rfl
theorem fr_range (T : TX K mg) : mg "range" = none := T.at 0 8 rfl rfl
theorem fr_str (T : TX K mg) : mg "str" = none := T.at 0 9 rfl rfl
theorem fr_tuple (T : TX K mg) : mg "tuple" = none := T.at 0 10 rfl rfl
theorem fr_zip (T : TX K mg) : mg "zip" = none := T.at 0 11 rfl rfl
theorem gl_NoRow (T : TX K mg) : mg "NoRow" = some (.ref (He.ga K "NoRow")) := T.at 0 12 rfl rfl
theorem gl_WORDS (T : TX K mg) : mg "WORDS" = some (.ref (He.ga K "WORDS")) := T.at 0 13 rfl rfl
theorem gl__law_cell_at (T : TX K mg) : mg "_law_cell_at" = some (.ref (He.ga K "_law_cell_at")) := T.at 0 14 rfl rfl
theorem gl__law_figures (T : TX K mg) : mg "_law_figures" = some (.ref (He.ga K "_law_figures")) := T.at 0 15 rfl rfl
theorem gl__law_form (T : TX K mg) : mg "_law_form" = some (.ref (He.ga K "_law_form")) := T.at 1 0 rfl rfl
theorem gl__law_number (T : TX K mg) : mg "_law_number" = some (.ref (He.ga K "_law_number")) := T.at 1 1 rfl rfl
theorem gl__law_shown (T : TX K mg) : mg "_law_shown" = some (.ref (He.ga K "_law_shown")) := T.at 1 2 rfl rfl
theorem gl_read_number (T : TX K mg) : mg "read_number" = some (.ref (He.ga K "read_number")) := T.at 1 3 rfl rfl
theorem gl_read_rights (T : TX K mg) : mg "read_rights" = some (.ref (He.ga K "read_rights")) := T.at 1 4 rfl rfl
theorem gl_read_row (T : TX K mg) : mg "read_row" = some (.ref (He.ga K "read_row")) := T.at 1 5 rfl rfl
theorem gl_read_value (T : TX K mg) : mg "read_value" = some (.ref (He.ga K "read_value")) := T.at 1 6 rfl rfl
theorem gl_show_rights (T : TX K mg) : mg "show_rights" = some (.ref (He.ga K "show_rights")) := T.at 1 7 rfl rfl
theorem gl_show_row (T : TX K mg) : mg "show_row" = some (.ref (He.ga K "show_row")) := T.at 1 8 rfl rfl
theorem gi_MOST_FIGURES (T : TX K mg) : ∃ t, mg "MOST_FIGURES" = some (.int 60 t) := T.at 1 9 rfl rfl
theorem kp__law_cell_at (T : TX K mg) : PySem.W.keepIn K (.ref (He.ga K "_law_cell_at")) = true := (kp_of (T.df 0 1 rfl rfl))
theorem kp__law_figures (T : TX K mg) : PySem.W.keepIn K (.ref (He.ga K "_law_figures")) = true := (kp_of (T.df 0 5 rfl rfl))
theorem kp__law_form (T : TX K mg) : PySem.W.keepIn K (.ref (He.ga K "_law_form")) = true := (kp_of (T.df 0 0 rfl rfl))
theorem kp__law_number (T : TX K mg) : PySem.W.keepIn K (.ref (He.ga K "_law_number")) = true := (kp_of (T.df 0 2 rfl rfl))
theorem kp__law_shown (T : TX K mg) : PySem.W.keepIn K (.ref (He.ga K "_law_shown")) = true := (kp_of (T.df 0 6 rfl rfl))
theorem kp_read_number (T : TX K mg) : PySem.W.keepIn K (.ref (He.ga K "read_number")) = true := (kp_of (T.df 0 7 rfl rfl))
theorem kp_read_rights (T : TX K mg) : PySem.W.keepIn K (.ref (He.ga K "read_rights")) = true := (kp_of (T.df 0 9 rfl rfl))
theorem kp_read_row (T : TX K mg) : PySem.W.keepIn K (.ref (He.ga K "read_row")) = true := (kp_of (T.df 0 10 rfl rfl))
theorem kp_read_value (T : TX K mg) : PySem.W.keepIn K (.ref (He.ga K "read_value")) = true := (kp_of (T.df 0 8 rfl rfl))
theorem kp_show_rights (T : TX K mg) : PySem.W.keepIn K (.ref (He.ga K "show_rights")) = true := (kp_of (T.df 0 3 rfl rfl))
theorem kp_show_row (T : TX K mg) : PySem.W.keepIn K (.ref (He.ga K "show_row")) = true := (kp_of (T.df 0 4 rfl rfl))
theorem gs_FIGURES (T : TX K mg) : ∃ t, mg "FIGURES" = some (.str "0123456789" t) := T.at 1 10 rfl rfl
end
section
variable {P : Program} {w : World} {K : PySem.W.Frag} {mg : Str → Option Value} {base : Heap}
theorem dv__law_form (T : TX K mg) {f : Addr} {cdv : Value} {A : Around} {outer : List Env} {s : Shared} {H : Hp} {E : XK} (hr : Room 0 (A.deeper (envOfC "_law_form" (defScope s__law_form) s.heap.objs.size f cdv))) :
    PSs (cxOf (L2.CX P w) P w K mg base N__law_form "_law_form" (defScope s__law_form) f cdv A outer s H E) (defBody s__law_form) (r__law_form K (WX0 E)) := by
  have hu := hu_of hr
  have hu64 := hr.units
  have tk : Takes (cxOf (L2.CX P w) P w K mg base N__law_form "_law_form" (defScope s__law_form) f cdv A outer s H E) (WX0 E) := takes_of rfl rfl rfl rfl
  exact (pss_cons (pm_set 1 sc__law_form.nd (pm_lstE (pa_cons (pm_tupE (pa_cons pe_str (pa_cons pe_str pa_nil))) (pa_cons (pm_tupE (pa_cons pe_str (pa_cons pe_str pa_nil))) (pa_cons (pm_tupE (pa_cons pe_str (pa_cons pe_str pa_nil))) (pa_cons (pm_tupE (pa_cons pe_str (pa_cons pe_str pa_nil))) (pa_cons (pm_tupE (pa_cons pe_str (pa_cons pe_str pa_nil))) (pa_cons (pm_tupE (pa_cons pe_str (pa_cons pe_str pa_nil))) pa_nil))))))))
    (pss_cons (pm_set 1 sc__law_form.nd (pe_op m_add (pv 1) (pm_lstE (pa_cons (pm_tupE (pa_cons pe_str (pa_cons pe_str pa_nil))) (pa_cons (pm_tupE (pa_cons pe_str (pa_cons pe_str pa_nil))) (pa_cons (pm_tupE (pa_cons pe_str (pa_cons pe_str pa_nil))) (pa_cons (pm_tupE (pa_cons pe_str (pa_cons pe_str pa_nil))) (pa_cons (pm_tupE (pa_cons pe_str (pa_cons pe_str pa_nil))) pa_nil))))))))
    (pss_cons (pm_set 1 sc__law_form.nd (pe_op m_add (pv 1) (pm_lstE (pa_cons (pm_tupE (pa_cons pe_str (pa_cons pe_str pa_nil))) (pa_cons (pm_tupE (pa_cons pe_str (pa_cons pe_str pa_nil))) (pa_cons (pm_tupE (pa_cons pe_str (pa_cons pe_str pa_nil))) (pa_cons (pm_tupE (pa_cons pe_str (pa_cons pe_str pa_nil))) pa_nil)))))))
    (pss_one (ps_ret (pe_ix (m_ix hu) (pv 1) (pe_op m_mod (pv 0) pe_int) fun _ _ => rfl))))))
theorem dv__law_cell_at (T : TX K mg) {f : Addr} {cdv : Value} {A : Around} {outer : List Env} {s : Shared} {H : Hp} {E : XK} (hr : Room 0 (A.deeper (envOfC "_law_cell_at" (defScope s__law_cell_at) s.heap.objs.size f cdv))) :
    PSs (cxOf (L2.CX P w) P w K mg base N__law_cell_at "_law_cell_at" (defScope s__law_cell_at) f cdv A outer s H E) (defBody s__law_cell_at) (r__law_cell_at K (WX0 E)) := by
  have hu := hu_of hr
  have hu64 := hr.units
  have tk : Takes (cxOf (L2.CX P w) P w K mg base N__law_cell_at "_law_cell_at" (defScope s__law_cell_at) f cdv A outer s H E) (WX0 E) := takes_of rfl rfl rfl rfl
  exact (pss_cons (ps_if (pt_cmpR m_lt (pv 1) (pe_callB call_mLenS rfl (fr_len T) PySem.boot_len (pa_cons (pv 0) pa_nil)) (nomark _)) (pss_one (ps_ret (pe_ix ix_list (pv 0) (pv 1) fun _ _ => rfl))) pss_nil)
    (pss_one (ps_ret pe_int)))
theorem dv__law_number (T : TX K mg) {f : Addr} {cdv : Value} {A : Around} {outer : List Env} {s : Shared} {H : Hp} {E : XK} (hr : Room 0 (A.deeper (envOfC "_law_number" (defScope s__law_number) s.heap.objs.size f cdv))) :
    PSs (cxOf (L2.CX P w) P w K mg base N__law_number "_law_number" (defScope s__law_number) f cdv A outer s H E) (defBody s__law_number) (r__law_number K (WX0 E)) := by
  have hu := hu_of hr
  have hu64 := hr.units
  have tk : Takes (cxOf (L2.CX P w) P w K mg base N__law_number "_law_number" (defScope s__law_number) f cdv A outer s H E) (WX0 E) := takes_of rfl rfl rfl rfl
  exact (pss_cons (ps_if (pt_cmpR m_eq (pv 1) pe_str (nomark _)) (pss_one (ps_ret (pe_op m_mod (pv 0) pe_int))) pss_nil)
    (pss_cons (pm_set 2 sc__law_number.nd pe_int)
    (pss_cons (ps_for (passes_of rfl) rfl (pi_range1 rfl (fr_range T) (pa_cons (pe_op m_mod (pe_op m_fdiv (pv 0) pe_int) pe_int) pa_nil)) (pm_name 3 sc__law_number.nd) (pss_one (pm_set 2 sc__law_number.nd (pe_op m_mul (pv 2) pe_int))))
    (pss_cons (pm_set 4 sc__law_number.nd (pe_ix (m_ix hu) (pm_lstE (pa_cons (pv 2) (pa_cons (pe_op m_sub (pe_op m_mul (pv 2) pe_int) pe_int) (pa_cons (pe_op m_add (pv 2) (pe_op m_mod (pe_op m_fdiv (pv 0) pe_int) (pe_op m_mul (pv 2) pe_int))) pa_nil)))) (pe_op m_mod (pv 0) pe_int) fun _ _ => rfl))
    (pss_cons (ps_if (pt_cmpR m_eq (pe_op m_mod (pe_op m_fdiv (pv 0) pe_int) pe_int) pe_int (nomark _)) (pss_one (ps_ret pe_int)) pss_nil)
    (pss_cons (ps_if (PW.pt (pw_and (pt_cmpR m_eq (pv 1) pe_str (nomark _)) (pw_and1 (pt_cmpR m_eq (pe_op m_mod (pe_op m_fdiv (pv 0) pe_int) pe_int) pe_int (nomark _))))) (pss_one (ps_ret (pe_un m_neg (pv 4)))) pss_nil)
    (pss_one (ps_ret (pv 4)))))))))
theorem dv_show_rights (T : TX K mg) {f : Addr} {cdv : Value} {A : Around} {outer : List Env} {s : Shared} {H : Hp} {E : XK} (hr : Room 0 (A.deeper (envOfC "show_rights" (defScope s_show_rights) s.heap.objs.size f cdv))) :
    PSs (cxOf (L2.CX P w) P w K mg base N_show_rights "show_rights" (defScope s_show_rights) f cdv A outer s H E) (defBody s_show_rights) (r_show_rights K (WX0 E)) := by
  have hu := hu_of hr
  have hu64 := hr.units
  have tk : Takes (cxOf (L2.CX P w) P w K mg base N_show_rights "show_rights" (defScope s_show_rights) f cdv A outer s H E) (WX0 E) := takes_of rfl rfl rfl rfl
  exact (pss_one (ps_ret (pe_ix (m_ix hu) (pm_lstE (pa_cons pe_str (pa_cons pe_str (pa_cons pe_str (pa_cons pe_str pa_nil))))) (pv 0) fun _ _ => rfl)))
theorem dv_show_row (T : TX K mg) (F_show_rights : Fk P w K mg base (He.fAd K ("show_rights", none)) P_show_rights [] 1 (sp_show_rights K)) {f : Addr} {cdv : Value} {A : Around} {outer : List Env} {s : Shared} {H : Hp} {E : XK} (hr : Room 1 (A.deeper (envOfC "show_row" (defScope s_show_row) s.heap.objs.size f cdv))) :
    PSs (cxOf (L2.CX P w) P w K mg base N_show_row "show_row" (defScope s_show_row) f cdv A outer s H E) (defBody s_show_row) (r_show_row K (WX0 E)) := by
  have hu := hu_of hr
  have hu64 := hr.units
  have tk : Takes (cxOf (L2.CX P w) P w K mg base N_show_row "show_row" (defScope s_show_row) f cdv A outer s H E) (WX0 E) := takes_of rfl rfl rfl rfl
  exact (pss_cons (pm_set 1 sc_show_row.nd (pe_callTy call_mListOf rfl (fr_list T) (by decide +kernel) (pa_cons (pv 0) pa_nil)))
    (pss_cons (ps_if (PW.pt (pw_and (pt_cmpR m_eq (pe_ix (m_ix hu) (pv 0) pe_int fun _ _ => rfl) pe_str (nomark _)) (pw_and1 (pt_cmpR m_isN (pe_ix (m_ix hu) (pv 0) pe_int fun _ _ => rfl) pe_non (nomark _))))) (pss_one (pm_set 1 sc_show_row.nd (pe_slice m_sl (pv 1) po_none (po_some pe_int)))) pss_nil)
    (pss_cons (pm_set 2 sc_show_row.nd (pm_lstE pa_nil))
    (pss_cons (ps_for (passes_of rfl) rfl (pi_enum rfl (fr_enumerate T) (pa_cons (pv 1) pa_nil)) (pm_tup rfl (pgs_cons (pm_name 3 sc_show_row.nd) (pgs_cons (pm_name 4 sc_show_row.nd) pgs_nil))) (pss_one (ps_if (pt_cmpR m_eq (pv 3) pe_int (nomark _)) (pss_one (ps_expr (pm_bm PySem.F.plainAttrs_list PySem.F.slot_list_append PySem.F.type_list_append m_append (pv 2) (pa_cons (pv 4) pa_nil)))) (pss_one (ps_if (PW.pt (pw_and (pt_cmpR m_eq (pv 3) pe_int (nomark _)) (pw_and1 (pt_cmpR (m_in hu) (pe_ix (m_ix hu) (pv 0) pe_int fun _ _ => rfl) (pm_tupE (pa_cons pe_str (pa_cons pe_str pa_nil))) (by with_unfolding_all rfl))))) (pss_one (ps_expr (pm_bm PySem.F.plainAttrs_list PySem.F.slot_list_append PySem.F.type_list_append m_append (pv 2) (pa_cons (pm_call F_show_rights (hr.mono (by decide)) tk (gl_show_rights T) (kp_show_rights T) (pa_cons (pv 4) pa_nil)) pa_nil)))) (pss_one (ps_expr (pm_bm PySem.F.plainAttrs_list PySem.F.slot_list_append PySem.F.type_list_append m_append (pv 2) (pa_cons (pe_callTy call_mStr rfl (fr_str T) (by decide +kernel) (pa_cons (pv 4) pa_nil)) pa_nil)))))))))
    (pss_one (ps_ret (pm_bm PySem.F.plainAttrs_str PySem.F.slot_str_join PySem.F.type_str_join m_join pe_str (pa_cons (pv 2) pa_nil))))))))
theorem dv__law_figures (T : TX K mg) {f : Addr} {cdv : Value} {A : Around} {outer : List Env} {s : Shared} {H : Hp} {E : XK} (hr : Room 0 (A.deeper (envOfC "_law_figures" (defScope s__law_figures) s.heap.objs.size f cdv))) :
    PSs (cxOf (L2.CX P w) P w K mg base N__law_figures "_law_figures" (defScope s__law_figures) f cdv A outer s H E) (defBody s__law_figures) (r__law_figures K (WX0 E)) := by
  have hu := hu_of hr
  have hu64 := hr.units
  have tk : Takes (cxOf (L2.CX P w) P w K mg base N__law_figures "_law_figures" (defScope s__law_figures) f cdv A outer s H E) (WX0 E) := takes_of rfl rfl rfl rfl
  exact (pss_cons (ps_if (pt_cmpR m_eq (pv 0) pe_int (nomark _)) (pss_one (ps_ret pe_str)) pss_nil)
    (pss_cons (pm_set 1 sc__law_figures.nd pe_str)
    (pss_cons (pm_set 2 sc__law_figures.nd (pe_callB call_mAbs rfl (fr_abs T) (by decide +kernel) (pa_cons (pv 0) pa_nil)))
    (pss_cons (ps_while (passes_of rfl) (pt_cmpR m_gt (pv 2) pe_int (nomark _)) (pss_cons (pm_set 1 sc__law_figures.nd (pe_op m_add (pe_ix (m_ix hu) pe_str (pe_op m_mod (pv 2) pe_int) fun _ _ => rfl) (pv 1)))
    (pss_one (pm_set 2 sc__law_figures.nd (pe_op m_fdiv (pv 2) pe_int)))))
    (pss_cons (ps_if (pt_cmpR m_lt (pv 0) pe_int (nomark _)) (pss_one (ps_ret (pe_op m_add pe_str (pv 1)))) pss_nil)
    (pss_one (ps_ret (pv 1))))))))
theorem dv__law_shown (T : TX K mg) (F__law_figures : Fk P w K mg base (He.fAd K ("_law_figures", none)) P__law_figures [] 1 (sp__law_figures K)) {f : Addr} {cdv : Value} {A : Around} {outer : List Env} {s : Shared} {H : Hp} {E : XK} (hr : Room 1 (A.deeper (envOfC "_law_shown" (defScope s__law_shown) s.heap.objs.size f cdv))) :
    PSs (cxOf (L2.CX P w) P w K mg base N__law_shown "_law_shown" (defScope s__law_shown) f cdv A outer s H E) (defBody s__law_shown) (r__law_shown K (WX0 E)) := by
  have hu := hu_of hr
  have hu64 := hr.units
  have tk : Takes (cxOf (L2.CX P w) P w K mg base N__law_shown "_law_shown" (defScope s__law_shown) f cdv A outer s H E) (WX0 E) := takes_of rfl rfl rfl rfl
  exact (pss_cons (pm_set 2 sc__law_shown.nd (pe_ix (m_ix hu) (pv 0) pe_int fun _ _ => rfl))
    (pss_cons (ps_for (passes_of rfl) rfl (pi_range1 rfl (fr_range T) (pa_cons (pe_callB call_mLen rfl (fr_len T) (by decide +kernel) (pa_cons (pv 1) pa_nil)) pa_nil)) (pm_name 3 sc__law_shown.nd) (pss_cons (pm_set 4 sc__law_shown.nd (pe_ix (m_ix hu) (pv 0) (pe_op m_add pe_int (pv 3)) fun _ _ => rfl))
    (pss_one (ps_if (pt_cmpR m_eq (pe_ix (m_ix hu) (pv 1) (pv 3) fun _ _ => rfl) pe_str (nomark _)) (pss_one (pm_set 2 sc__law_shown.nd (pe_op m_add (pe_op m_add (pe_op m_add (pv 2) pe_str) (pe_ix (m_ix hu) pe_str (pe_op m_mod (pv 4) pe_int) fun _ _ => rfl)) (pe_ix (m_ix hu) pe_str (pe_op m_fdiv (pv 4) pe_int) fun _ _ => rfl)))) (pss_one (pm_set 2 sc__law_shown.nd (pe_op m_add (pe_op m_add (pv 2) pe_str) (pm_call F__law_figures (hr.mono (by decide)) tk (gl__law_figures T) (kp__law_figures T) (pa_cons (pv 4) pa_nil)))))))))
    (pss_one (ps_ret (pv 2)))))
theorem dv_read_number (T : TX K mg) {f : Addr} {cdv : Value} {A : Around} {outer : List Env} {s : Shared} {H : Hp} {E : XK} (hr : Room 0 (A.deeper (envOfC "read_number" (defScope s_read_number) s.heap.objs.size f cdv))) :
    PSs (cxOf (L2.CX P w) P w K mg base N_read_number "read_number" (defScope s_read_number) f cdv A outer s H E) (defBody s_read_number) (r_read_number K (WX0 E)) := by
  have hu := hu_of hr
  have hu64 := hr.units
  have tk : Takes (cxOf (L2.CX P w) P w K mg base N_read_number "read_number" (defScope s_read_number) f cdv A outer s H E) (WX0 E) := takes_of rfl rfl rfl rfl
  exact (pss_cons (ps_if (pt_not (pt_chain m_le m_le pe_int (pe_callB call_mLen rfl (fr_len T) (by decide +kernel) (pa_cons (pv 0) pa_nil)) (by obtain ⟨t, ht⟩ := gi_MOST_FIGURES T; exact pe_glob rfl ht ⟨t, rfl⟩))) (pss_one (pm_raise tk (ex_NoRow T) (gl_NoRow T))) pss_nil)
    (pss_cons (ps_for (passes_of rfl) rfl (pi_str (pv 0)) (pm_name 1 sc_read_number.nd) (pss_one (ps_if (pt_cmpR (m_notIn hu) (pv 1) (by obtain ⟨t, ht⟩ := gs_FIGURES T; exact pe_glob rfl ht ⟨t, rfl⟩) (by with_unfolding_all rfl)) (pss_one (pm_raise tk (ex_NoRow T) (gl_NoRow T))) pss_nil)))
    (pss_cons (ps_if (PW.pt (pw_and (pt_cmpR m_gt (pe_callB call_mLen rfl (fr_len T) (by decide +kernel) (pa_cons (pv 0) pa_nil)) pe_int (nomark _)) (pw_and1 (pt_cmpR m_eq (pe_ix (m_ix hu) (pv 0) pe_int fun _ _ => rfl) pe_str (nomark _))))) (pss_one (pm_raise tk (ex_NoRow T) (gl_NoRow T))) pss_nil)
    (pss_one (ps_ret (pe_callTy call_mInt rfl (fr_int T) (by decide +kernel) (pa_cons (pv 0) pa_nil)))))))
theorem dv_read_value (T : TX K mg) (F_read_number : Fk P w K mg base (He.fAd K ("read_number", none)) P_read_number [] 1 (sp_read_number K)) {f : Addr} {cdv : Value} {A : Around} {outer : List Env} {s : Shared} {H : Hp} {E : XK} (hr : Room 1 (A.deeper (envOfC "read_value" (defScope s_read_value) s.heap.objs.size f cdv))) :
    PSs (cxOf (L2.CX P w) P w K mg base N_read_value "read_value" (defScope s_read_value) f cdv A outer s H E) (defBody s_read_value) (r_read_value K (WX0 E)) := by
  have hu := hu_of hr
  have hu64 := hr.units
  have tk : Takes (cxOf (L2.CX P w) P w K mg base N_read_value "read_value" (defScope s_read_value) f cdv A outer s H E) (WX0 E) := takes_of rfl rfl rfl rfl
  exact (pss_cons (ps_if (pt_not (pt_val (pm_bm PySem.F.plainAttrs_str PySem.F.slot_str_startswith PySem.F.type_str_startswith m_starts (pv 0) (pa_cons pe_str pa_nil)))) (pss_one (ps_ret (pm_call F_read_number (hr.mono (by decide)) tk (gl_read_number T) (kp_read_number T) (pa_cons (pv 0) pa_nil)))) pss_nil)
    (pss_cons (pm_set 1 sc_read_value.nd (pm_call F_read_number (hr.mono (by decide)) tk (gl_read_number T) (kp_read_number T) (pa_cons (pe_slice m_sl (pv 0) (po_some pe_int) po_none) pa_nil)))
    (pss_cons (ps_if (pt_cmpR m_eq (pv 1) pe_int (nomark _)) (pss_one (pm_raise tk (ex_NoRow T) (gl_NoRow T))) pss_nil)
    (pss_one (ps_ret (pe_un m_neg (pv 1)))))))
theorem dv_read_rights (T : TX K mg) {f : Addr} {cdv : Value} {A : Around} {outer : List Env} {s : Shared} {H : Hp} {E : XK} (hr : Room 0 (A.deeper (envOfC "read_rights" (defScope s_read_rights) s.heap.objs.size f cdv))) :
    PSs (cxOf (L2.CX P w) P w K mg base N_read_rights "read_rights" (defScope s_read_rights) f cdv A outer s H E) (defBody s_read_rights) (r_read_rights K (WX0 E)) := by
  have hu := hu_of hr
  have hu64 := hr.units
  have tk : Takes (cxOf (L2.CX P w) P w K mg base N_read_rights "read_rights" (defScope s_read_rights) f cdv A outer s H E) (WX0 E) := takes_of rfl rfl rfl rfl
  exact (pss_cons (ps_if (PW.pt (pw_or (pt_cmpR m_ne (pe_callB call_mLen rfl (fr_len T) (by decide +kernel) (pa_cons (pv 0) pa_nil)) pe_int (nomark _)) (pw_or (pt_cmpR (m_notIn hu) (pe_ix (m_ix hu) (pv 0) pe_int fun _ _ => rfl) pe_str (by with_unfolding_all rfl)) (pw_or1 (pt_cmpR (m_notIn hu) (pe_ix (m_ix hu) (pv 0) pe_int fun _ _ => rfl) pe_str (by with_unfolding_all rfl)))))) (pss_one (pm_raise tk (ex_NoRow T) (gl_NoRow T))) pss_nil)
    (pss_one (ps_ret (pe_op m_add (pe_callTy call_mInt rfl (fr_int T) (by decide +kernel) (pa_cons (pe_cmpR m_eq (pe_ix (m_ix hu) (pv 0) pe_int fun _ _ => rfl) pe_str (nomark _)) pa_nil)) (pe_op m_mul pe_int (pe_callTy call_mInt rfl (fr_int T) (by decide +kernel) (pa_cons (pe_cmpR m_eq (pe_ix (m_ix hu) (pv 0) pe_int fun _ _ => rfl) pe_str (nomark _)) pa_nil)))))))
theorem dv_read_row (T : TX K mg) (Tt_WORDS : TabOk K w (He.ga K "WORDS") tab_WORDS) (F_read_number : Fk P w K mg base (He.fAd K ("read_number", none)) P_read_number [] 1 (sp_read_number K)) (F_read_value : Fk P w K mg base (He.fAd K ("read_value", none)) P_read_value [] 2 (sp_read_value K)) (F_read_rights : Fk P w K mg base (He.fAd K ("read_rights", none)) P_read_rights [] 1 (sp_read_rights K)) {f : Addr} {cdv : Value} {A : Around} {outer : List Env} {s : Shared} {H : Hp} {E : XK} (hr : Room 2 (A.deeper (envOfC "read_row" (defScope s_read_row) s.heap.objs.size f cdv))) :
    PSs (cxOf (L2.CX P w) P w K mg base N_read_row "read_row" (defScope s_read_row) f cdv A outer s H E) (defBody s_read_row) (r_read_row K (WX0 E)) := by
  have hu := hu_of hr
  have hu64 := hr.units
  have tk : Takes (cxOf (L2.CX P w) P w K mg base N_read_row "read_row" (defScope s_read_row) f cdv A outer s H E) (WX0 E) := takes_of rfl rfl rfl rfl
  exact (pss_cons (pm_set 1 sc_read_row.nd (pm_bm PySem.F.plainAttrs_str PySem.F.slot_str_split PySem.F.type_str_split m_split (pv 0) (pa_cons pe_str pa_nil)))
    (pss_cons (ps_if (pt_cmpR (m_notInTab Tt_WORDS) (pe_ix (m_ix hu) (pv 1) pe_int fun _ _ => rfl) (pe_glob rfl (gl_WORDS T) rfl) (by with_unfolding_all rfl)) (pss_one (pm_raise tk (ex_NoRow T) (gl_NoRow T))) pss_nil)
    (pss_cons (pm_set 2 sc_read_row.nd (pe_ix (m_tabIx Tt_WORDS) (pe_glob rfl (gl_WORDS T) rfl) (pe_ix (m_ix hu) (pv 1) pe_int fun _ _ => rfl) fun _ _ => rfl))
    (pss_cons (ps_if (PW.pt (pw_and (pt_cmpR m_eq (pe_ix (m_ix hu) (pv 1) pe_int fun _ _ => rfl) pe_str (nomark _)) (pw_and1 (pt_cmpR m_eq (pe_callB call_mLen rfl (fr_len T) (by decide +kernel) (pa_cons (pv 1) pa_nil)) pe_int (nomark _))))) (pss_one (pm_set 2 sc_read_row.nd (pe_op m_add (pv 2) pe_str))) pss_nil)
    (pss_cons (ps_if (pt_cmpR m_ne (pe_callB call_mLen rfl (fr_len T) (by decide +kernel) (pa_cons (pv 1) pa_nil)) (pe_op m_add (pe_callB call_mLen rfl (fr_len T) (by decide +kernel) (pa_cons (pv 2) pa_nil)) pe_int) (nomark _)) (pss_one (pm_raise tk (ex_NoRow T) (gl_NoRow T))) pss_nil)
    (pss_cons (pm_set 3 sc_read_row.nd (pm_lstE (pa_cons (pe_ix (m_ix hu) (pv 1) pe_int fun _ _ => rfl) pa_nil)))
    (pss_cons (ps_for (passes_of rfl) rfl (pi_zipS (fr_zip T) (pa_cons (pe_slice m_sl (pv 1) (po_some pe_int) po_none) (pa_cons (pv 2) pa_nil))) (pm_tup rfl (pgs_cons (pm_name 4 sc_read_row.nd) (pgs_cons (pm_name 5 sc_read_row.nd) pgs_nil))) (pss_one (ps_if (pt_cmpR m_eq (pv 5) pe_str (nomark _)) (pss_one (ps_expr (pm_bm PySem.F.plainAttrs_list PySem.F.slot_list_append PySem.F.type_list_append m_append (pv 3) (pa_cons (pm_call F_read_number (hr.mono (by decide)) tk (gl_read_number T) (kp_read_number T) (pa_cons (pv 4) pa_nil)) pa_nil)))) (pss_one (ps_if (pt_cmpR m_eq (pv 5) pe_str (nomark _)) (pss_one (ps_expr (pm_bm PySem.F.plainAttrs_list PySem.F.slot_list_append PySem.F.type_list_append m_append (pv 3) (pa_cons (pm_call F_read_value (hr.mono (by decide)) tk (gl_read_value T) (kp_read_value T) (pa_cons (pv 4) pa_nil)) pa_nil)))) (pss_one (ps_expr (pm_bm PySem.F.plainAttrs_list PySem.F.slot_list_append PySem.F.type_list_append m_append (pv 3) (pa_cons (pm_call F_read_rights (hr.mono (by decide)) tk (gl_read_rights T) (kp_read_rights T) (pa_cons (pv 4) pa_nil)) pa_nil)))))))))
    (pss_cons (ps_if (PW.pt (pw_and (pt_cmpR m_eq (pe_ix (m_ix hu) (pv 1) pe_int fun _ _ => rfl) pe_str (nomark _)) (pw_and1 (pt_cmpR m_eq (pe_callB call_mLen rfl (fr_len T) (by decide +kernel) (pa_cons (pv 1) pa_nil)) pe_int (nomark _))))) (pss_one (pm_set 3 sc_read_row.nd (pe_op m_add (pv 3) (pm_lstE (pa_cons pe_non (pa_cons pe_int pa_nil)))))) pss_nil)
    (pss_one (ps_ret (pe_callTy call_mTupOf rfl (fr_tuple T) (by decide +kernel) (pa_cons (pv 3) pa_nil))))))))))))
theorem dv_law (T : TX K mg) (F__law_form : Fk P w K mg base (He.fAd K ("_law_form", none)) P__law_form [] 1 (sp__law_form K)) (F__law_cell_at : Fk P w K mg base (He.fAd K ("_law_cell_at", none)) P__law_cell_at [] 1 (sp__law_cell_at K)) (F__law_number : Fk P w K mg base (He.fAd K ("_law_number", none)) P__law_number [] 1 (sp__law_number K)) (F_show_row : Fk P w K mg base (He.fAd K ("show_row", none)) P_show_row [] 2 (sp_show_row K)) (F__law_shown : Fk P w K mg base (He.fAd K ("_law_shown", none)) P__law_shown [] 2 (sp__law_shown K)) (F_read_row : Fk P w K mg base (He.fAd K ("read_row", none)) P_read_row [] 3 (sp_read_row K)) {f : Addr} {cdv : Value} {A : Around} {outer : List Env} {s : Shared} {H : Hp} {E : XK} (hr : Room 3 (A.deeper (envOfC "law" (defScope s_law) s.heap.objs.size f cdv))) :
    PSs (cxOf (L2.CX P w) P w K mg base N_law "law" (defScope s_law) f cdv A outer s H E) (defBody s_law) (r_law K (WX0 E)) := by
  have hu := hu_of hr
  have hu64 := hr.units
  have tk : Takes (cxOf (L2.CX P w) P w K mg base N_law "law" (defScope s_law) f cdv A outer s H E) (WX0 E) := takes_of rfl rfl rfl rfl
  exact (pss_cons (pm_set 1 sc_law.nd (pm_lstE pa_nil))
    (pss_cons (ps_for (passes_of rfl) rfl (pi_range3 rfl (fr_range T) (pa_cons pe_int (pa_cons (pe_op m_add pe_int (pe_callB (call_mMin rfl) rfl (fr_min T) (by decide +kernel) (pa_cons (pe_callB call_mLenS rfl (fr_len T) PySem.boot_len (pa_cons (pv 0) pa_nil)) (pa_cons pe_int pa_nil)))) (pa_cons pe_int pa_nil)))) (pm_name 2 sc_law.nd) (pss_cons (ps_asg (pm_call F__law_form (hr.mono (by decide)) tk (gl__law_form T) (kp__law_form T) (pa_cons (pm_call F__law_cell_at (hr.mono (by decide)) tk (gl__law_cell_at T) (kp__law_cell_at T) (pa_cons (pv 0) (pa_cons (pv 2) pa_nil))) pa_nil)) (pm_tup rfl (pgs_cons (pm_name 3 sc_law.nd) (pgs_cons (pm_name 4 sc_law.nd) pgs_nil))))
    (pss_cons (pm_set 5 sc_law.nd (pm_lstE (pa_cons (pv 3) pa_nil)))
    (pss_cons (ps_for (passes_of rfl) rfl (pi_range1 rfl (fr_range T) (pa_cons (pe_callB call_mLen rfl (fr_len T) (by decide +kernel) (pa_cons (pv 4) pa_nil)) pa_nil)) (pm_name 6 sc_law.nd) (pss_one (ps_expr (pm_bm PySem.F.plainAttrs_list PySem.F.slot_list_append PySem.F.type_list_append m_append (pv 5) (pa_cons (pm_call F__law_number (hr.mono (by decide)) tk (gl__law_number T) (kp__law_number T) (pa_cons (pm_call F__law_cell_at (hr.mono (by decide)) tk (gl__law_cell_at T) (kp__law_cell_at T) (pa_cons (pv 0) (pa_cons (pe_op m_add (pe_op m_add (pv 2) pe_int) (pv 6)) pa_nil))) (pa_cons (pe_ix (m_ix hu) (pv 4) (pv 6) fun _ _ => rfl) pa_nil))) pa_nil)))))
    (pss_cons (ps_if (PW.pt (pw_and (pt_cmpR m_eq (pv 3) pe_str (nomark _)) (pw_and1 (pt_cmpR m_eq (pe_callB call_mLen rfl (fr_len T) (by decide +kernel) (pa_cons (pv 4) pa_nil)) pe_int (nomark _))))) (pss_one (pm_set 5 sc_law.nd (pe_op m_add (pv 5) (pm_lstE (pa_cons pe_non (pa_cons pe_int pa_nil)))))) pss_nil)
    (pss_one (ps_expr (pm_bm PySem.F.plainAttrs_list PySem.F.slot_list_append PySem.F.type_list_append m_append (pv 1) (pa_cons (pm_tupE (pa_cons (pe_callTy call_mTupOf rfl (fr_tuple T) (by decide +kernel) (pa_cons (pv 5) pa_nil)) (pa_cons (pv 4) pa_nil))) pa_nil)))))))))
    (pss_cons (ps_for (passes_of rfl) rfl (pi_list (pv 1)) (pm_tup rfl (pgs_cons (pm_name 5 sc_law.nd) (pgs_cons (pm_name 4 sc_law.nd) pgs_nil))) (pss_cons (pm_set 7 sc_law.nd (pm_call F_show_row (hr.mono (by decide)) tk (gl_show_row T) (kp_show_row T) (pa_cons (pv 5) pa_nil)))
    (pss_cons (ps_if (PW.pt (pw_or (pt_not (pt_val (pe_callB call_mIsi rfl (fr_isinstance T) (by decide +kernel) (pa_cons (pv 7) (pa_cons (pe_bltn rfl (fr_str T) (by decide +kernel) rfl) pa_nil))))) (pw_or1 (pt_cmpR m_ne (pv 7) (pm_call F__law_shown (hr.mono (by decide)) tk (gl__law_shown T) (kp__law_shown T) (pa_cons (pv 5) (pa_cons (pv 4) pa_nil))) (nomark _))))) (pss_one (ps_ret pe_bl)) pss_nil)
    (pss_one (ps_if (pt_cmpR (op_neD hu64) (pm_call F_read_row (hr.mono (by decide)) tk (gl_read_row T) (kp_read_row T) (pa_cons (pv 7) pa_nil)) (pv 5) (nomark _)) (pss_one (ps_ret pe_bl)) pss_nil)))))
    (pss_one (ps_ret pe_bl)))))
end
end K96

set_option Elab.async false
set_option linter.all false
set_option maxRecDepth 100000
set_option maxHeartbeats 4000000
namespace K96
open PySem PySem.Spec PyProof.Rows L2 MM
section
variable {P : Program} {w : World} {K : PySem.W.Frag} {mg : Str → Option Value} {base : Heap}
theorem fk__law_form (T : TX K mg) : Fk P w K mg base (He.fAd K ("_law_form", none)) P__law_form [] 1 (sp__law_form K) := by
  obtain ⟨fd, F⟩ := T.df 0 0 rfl rfl
  exact ⟨fd, [], F.ok sc__law_form (fun vs H Q E h => h.1) (fun cdv A outer s H vs Q E hr h => ⟨r__law_form K (WX0 E), dv__law_form T hr, p__law_form vs H Q E h⟩), FunD.bindsN F (fun _ _ _ _ _ _ us hl => match us, hl with | [_], _ => rfl), .nil⟩
theorem fk__law_cell_at (T : TX K mg) : Fk P w K mg base (He.fAd K ("_law_cell_at", none)) P__law_cell_at [] 1 (sp__law_cell_at K) := by
  obtain ⟨fd, F⟩ := T.df 0 1 rfl rfl
  exact ⟨fd, [], F.ok sc__law_cell_at (fun vs H Q E h => h.1) (fun cdv A outer s H vs Q E hr h => ⟨r__law_cell_at K (WX0 E), dv__law_cell_at T hr, p__law_cell_at vs H Q E h⟩), FunD.bindsN F (fun _ _ _ _ _ _ us hl => match us, hl with | [_, _], _ => rfl), .nil⟩
theorem fk__law_number (T : TX K mg) : Fk P w K mg base (He.fAd K ("_law_number", none)) P__law_number [] 1 (sp__law_number K) := by
  obtain ⟨fd, F⟩ := T.df 0 2 rfl rfl
  exact ⟨fd, [], F.ok sc__law_number (fun vs H Q E h => h.1) (fun cdv A outer s H vs Q E hr h => ⟨r__law_number K (WX0 E), dv__law_number T hr, p__law_number vs H Q E h⟩), FunD.bindsN F (fun _ _ _ _ _ _ us hl => match us, hl with | [_, _], _ => rfl), .nil⟩
theorem fk_show_rights (T : TX K mg) : Fk P w K mg base (He.fAd K ("show_rights", none)) P_show_rights [] 1 (sp_show_rights K) := by
  obtain ⟨fd, F⟩ := T.df 0 3 rfl rfl
  exact ⟨fd, [], F.ok sc_show_rights (fun vs H Q E h => h.1) (fun cdv A outer s H vs Q E hr h => ⟨r_show_rights K (WX0 E), dv_show_rights T hr, p_show_rights vs H Q E h⟩), FunD.bindsN F (fun _ _ _ _ _ _ us hl => match us, hl with | [_], _ => rfl), .nil⟩
theorem fk_show_row (T : TX K mg) (F_show_rights : Fk P w K mg base (He.fAd K ("show_rights", none)) P_show_rights [] 1 (sp_show_rights K)) : Fk P w K mg base (He.fAd K ("show_row", none)) P_show_row [] 2 (sp_show_row K) := by
  obtain ⟨fd, F⟩ := T.df 0 4 rfl rfl
  exact ⟨fd, [], F.ok sc_show_row (fun vs H Q E h => h.1) (fun cdv A outer s H vs Q E hr h => ⟨r_show_row K (WX0 E), dv_show_row T F_show_rights hr, p_show_row vs H Q E h⟩), FunD.bindsN F (fun _ _ _ _ _ _ us hl => match us, hl with | [_], _ => rfl), .nil⟩
theorem fk__law_figures (T : TX K mg) : Fk P w K mg base (He.fAd K ("_law_figures", none)) P__law_figures [] 1 (sp__law_figures K) := by
  obtain ⟨fd, F⟩ := T.df 0 5 rfl rfl
  exact ⟨fd, [], F.ok sc__law_figures (fun vs H Q E h => h.1) (fun cdv A outer s H vs Q E hr h => ⟨r__law_figures K (WX0 E), dv__law_figures T hr, p__law_figures vs H Q E h⟩), FunD.bindsN F (fun _ _ _ _ _ _ us hl => match us, hl with | [_], _ => rfl), .nil⟩
theorem fk__law_shown (T : TX K mg) (F__law_figures : Fk P w K mg base (He.fAd K ("_law_figures", none)) P__law_figures [] 1 (sp__law_figures K)) : Fk P w K mg base (He.fAd K ("_law_shown", none)) P__law_shown [] 2 (sp__law_shown K) := by
  obtain ⟨fd, F⟩ := T.df 0 6 rfl rfl
  exact ⟨fd, [], F.ok sc__law_shown (fun vs H Q E h => h.1) (fun cdv A outer s H vs Q E hr h => ⟨r__law_shown K (WX0 E), dv__law_shown T F__law_figures hr, p__law_shown vs H Q E h⟩), FunD.bindsN F (fun _ _ _ _ _ _ us hl => match us, hl with | [_, _], _ => rfl), .nil⟩
theorem fk_read_number (T : TX K mg) : Fk P w K mg base (He.fAd K ("read_number", none)) P_read_number [] 1 (sp_read_number K) := by
  obtain ⟨fd, F⟩ := T.df 0 7 rfl rfl
  exact ⟨fd, [], F.ok sc_read_number (fun vs H Q E h => h.1) (fun cdv A outer s H vs Q E hr h => ⟨r_read_number K (WX0 E), dv_read_number T hr, p_read_number vs H Q E h⟩), FunD.bindsN F (fun _ _ _ _ _ _ us hl => match us, hl with | [_], _ => rfl), .nil⟩
theorem fk_read_value (T : TX K mg) (F_read_number : Fk P w K mg base (He.fAd K ("read_number", none)) P_read_number [] 1 (sp_read_number K)) : Fk P w K mg base (He.fAd K ("read_value", none)) P_read_value [] 2 (sp_read_value K) := by
  obtain ⟨fd, F⟩ := T.df 0 8 rfl rfl
  exact ⟨fd, [], F.ok sc_read_value (fun vs H Q E h => h.1) (fun cdv A outer s H vs Q E hr h => ⟨r_read_value K (WX0 E), dv_read_value T F_read_number hr, p_read_value vs H Q E h⟩), FunD.bindsN F (fun _ _ _ _ _ _ us hl => match us, hl with | [_], _ => rfl), .nil⟩
theorem fk_read_rights (T : TX K mg) : Fk P w K mg base (He.fAd K ("read_rights", none)) P_read_rights [] 1 (sp_read_rights K) := by
  obtain ⟨fd, F⟩ := T.df 0 9 rfl rfl
  exact ⟨fd, [], F.ok sc_read_rights (fun vs H Q E h => h.1) (fun cdv A outer s H vs Q E hr h => ⟨r_read_rights K (WX0 E), dv_read_rights T hr, p_read_rights vs H Q E h⟩), FunD.bindsN F (fun _ _ _ _ _ _ us hl => match us, hl with | [_], _ => rfl), .nil⟩
theorem fk_read_row (T : TX K mg) (Tt_WORDS : TabOk K w (He.ga K "WORDS") tab_WORDS) (F_read_number : Fk P w K mg base (He.fAd K ("read_number", none)) P_read_number [] 1 (sp_read_number K)) (F_read_value : Fk P w K mg base (He.fAd K ("read_value", none)) P_read_value [] 2 (sp_read_value K)) (F_read_rights : Fk P w K mg base (He.fAd K ("read_rights", none)) P_read_rights [] 1 (sp_read_rights K)) : Fk P w K mg base (He.fAd K ("read_row", none)) P_read_row [] 3 (sp_read_row K) := by
  obtain ⟨fd, F⟩ := T.df 0 10 rfl rfl
  exact ⟨fd, [], F.ok sc_read_row (fun vs H Q E h => h.1) (fun cdv A outer s H vs Q E hr h => ⟨r_read_row K (WX0 E), dv_read_row T Tt_WORDS F_read_number F_read_value F_read_rights hr, p_read_row vs H Q E h⟩), FunD.bindsN F (fun _ _ _ _ _ _ us hl => match us, hl with | [_], _ => rfl), .nil⟩
theorem fk_law (T : TX K mg) (F__law_form : Fk P w K mg base (He.fAd K ("_law_form", none)) P__law_form [] 1 (sp__law_form K)) (F__law_cell_at : Fk P w K mg base (He.fAd K ("_law_cell_at", none)) P__law_cell_at [] 1 (sp__law_cell_at K)) (F__law_number : Fk P w K mg base (He.fAd K ("_law_number", none)) P__law_number [] 1 (sp__law_number K)) (F_show_row : Fk P w K mg base (He.fAd K ("show_row", none)) P_show_row [] 2 (sp_show_row K)) (F__law_shown : Fk P w K mg base (He.fAd K ("_law_shown", none)) P__law_shown [] 2 (sp__law_shown K)) (F_read_row : Fk P w K mg base (He.fAd K ("read_row", none)) P_read_row [] 3 (sp_read_row K)) : Fk P w K mg base (He.fAd K ("law", none)) P_law [] 4 (sp_law K) := by
  obtain ⟨fd, F⟩ := T.df 0 11 rfl rfl
  exact ⟨fd, [], F.ok sc_law (fun vs H Q E h => h.1) (fun cdv A outer s H vs Q E hr h => ⟨r_law K (WX0 E), dv_law T F__law_form F__law_cell_at F__law_number F_show_row F__law_shown F_read_row hr, p_law vs H Q E h⟩), FunD.bindsN F (fun _ _ _ _ _ _ us hl => match us, hl with | [_], _ => rfl), .nil⟩
end
end K96

set_option Elab.async false
set_option linter.all false
set_option maxRecDepth 100000
set_option maxHeartbeats 0
namespace K96
open PySem PySem.Spec PyProof.Rows L2 MM
theorem ok_law {P : Program} {w : World} {K : PySem.W.Frag} {mg : Str → Option Value} {base : Heap} {f : Addr} {fd : FuncData} (T : TX K mg) (F__law_form : Fk P w K mg base (He.fAd K ("_law_form", none)) P__law_form [] 1 (sp__law_form K)) (F__law_cell_at : Fk P w K mg base (He.fAd K ("_law_cell_at", none)) P__law_cell_at [] 1 (sp__law_cell_at K)) (F__law_number : Fk P w K mg base (He.fAd K ("_law_number", none)) P__law_number [] 1 (sp__law_number K)) (F_show_row : Fk P w K mg base (He.fAd K ("show_row", none)) P_show_row [] 2 (sp_show_row K)) (F__law_shown : Fk P w K mg base (He.fAd K ("_law_shown", none)) P__law_shown [] 2 (sp__law_shown K)) (F_read_row : Fk P w K mg base (He.fAd K ("read_row", none)) P_read_row [] 3 (sp_read_row K)) (F : FunD K "law" "law" (defArgs s_law) (defBody s_law) (defScope s_law) [] [] f fd) : FnOk P w K mg base (L2.CX P w) 4 f fd P_law (sp_law K) :=
  F.ok sc_law (fun vs H Q E h => h.1) (fun cdv A outer s H vs Q E hr h => ⟨r_law K (WX0 E), dv_law T F__law_form F__law_cell_at F__law_number F_show_row F__law_shown F_read_row hr, p_law vs H Q E h⟩)
def kvs_WORDS : List (Str × He.Dv) := [("new", .str ""), ("fork", .str "n"), ("end", .str "n"), ("bank", .str "n"), ("drop", .str "n"), ("lay", .str "nnnr"), ("lift", .str "nnn"), ("guard", .str "nnnr"), ("read", .str "nn"), ("write", .str "nnv"), ("fold", .str ""), ("see", .str "nn"), ("laid", .str "n"), ("live", .str "")]
def ts : List He.Tab := [(fun K => He.ga K "WORDS", kvs_WORDS.map (·.1))]
def ex (K : PySem.W.Frag) : Bool := He.valsB K (He.ga K "WORDS") kvs_WORDS
abbrev R : PySem.W.OpenRow := PySem.W.OpenLaw.row PySem.Challenge.rw_frameland_k96_rows_shown
abbrev hk : PySem.W.Hook := He.hookX 4 fa.flatten fn.flatten ts [] ex
def ob (s : PySem.W.SharedT) : He.AlX := He.obsX 4 fa.flatten fn.flatten ts [] ex (HandSHeadRun.getT s)
theorem ob_eq (s : PySem.W.SharedT) : ob s = hk.obs s.abs := He.obsX_eq (HandSHeadRun.getT_eq s)
def nm0 : List PySem.Str := ["FrameError", "NoRow", "FIGURES", "MOST_FIGURES", "WORDS", "read_number", "read_value", "read_rights", "show_rights", "read_row", "show_row", "_law_cell_at", "_law_form", "_law_number", "_law_figures", "_law_shown"]
def names : List PySem.Str := nm0
abbrev qv : Program := PySem.W.view R.prog [19]
theorem run (w : World) : HandSHeadRun.RunEq R qv hk ob 1300 names w := by
  refine PySem.W.byRow2 "special-get-raises" (P := HandSHeadRun.RunEq R qv hk ob 1300 names) (fun w => ?_) (fun w => ?_) w
  · intro os
    kernel_rfl
  · intro os
    kernel_rfl
theorem facts {P : Program} {w : World} {K : PySem.W.Frag} {h : Heap} {mg : Str → Option Value} {f : Addr} (X : K.In h) (G : h.Ns mainGlobals mg) (hfa : mg ("law" : Str) = some (.ref f)) (c : He.SaysX fa.flatten fn.flatten ts [] ex w h K) :
    ∃ fd : FuncData, (∀ (s : Shared) (v : Value), BindsTo s fd ⟨[v], []⟩ [("_law_script", v)]) ∧ ∀ base : Heap, K.In base → base.Ns mainGlobals mg → FnOk P w K mg base (L2.CX P w) 4 f fd P_law (sp_law K) := by
  have T : TX K mg := tx_of X G (He.SaysT.d c.t)
  obtain ⟨fd, F⟩ := T.df 0 11 rfl rfl
  have gl : mg "law" = some (.ref (He.ga K "law")) := T.at 1 11 rfl rfl
  have e := hfa.symm.trans gl
  cases e
  have mr := c.more
  have ct := c.t
  have Tt_WORDS : TabOk K w (He.ga K "WORDS") tab_WORDS := tab_of (kvs := kvs_WORDS) (tab_at c.t 0 rfl) mr (by decide +kernel)
  have b := FunD.bindsA (ps := ["_law_script"]) F fun _ _ _ _ _ _ us hl => match us, hl with | [_], _ => rfl
  refine ⟨fd, fun s v => b s [v] rfl, fun base _ _ => ?_⟩
  have F__law_form := fk__law_form (P := P) (w := w) (base := base) T
  have F__law_cell_at := fk__law_cell_at (P := P) (w := w) (base := base) T
  have F__law_number := fk__law_number (P := P) (w := w) (base := base) T
  have F_show_rights := fk_show_rights (P := P) (w := w) (base := base) T
  have F_show_row := fk_show_row (P := P) (w := w) (base := base) T F_show_rights
  have F__law_figures := fk__law_figures (P := P) (w := w) (base := base) T
  have F__law_shown := fk__law_shown (P := P) (w := w) (base := base) T F__law_figures
  have F_read_number := fk_read_number (P := P) (w := w) (base := base) T
  have F_read_value := fk_read_value (P := P) (w := w) (base := base) T F_read_number
  have F_read_rights := fk_read_rights (P := P) (w := w) (base := base) T
  have F_read_row := fk_read_row (P := P) (w := w) (base := base) T Tt_WORDS F_read_number F_read_value F_read_rights
  exact ok_law T F__law_form F__law_cell_at F__law_number F_show_row F__law_shown F_read_row F
end K96
open PySem PySem.W PySem.Calls PyProof.Rows
theorem PySem.Challenge.cw_frameland_k96_rows_shown_holds : PySem.Challenge.rw_frameland_k96_rows_shown.Holds := by
  w_on; o_law
  refine HandSHeadRun.head_any (r := OpenLaw.row PySem.Challenge.rw_frameland_k96_rows_shown) (q := K96.qv) (H := K96.hk) (ob := K96.ob) (M := 1300) (loose := K96.names) (d := HandSHeadRun.topDef (OpenLaw.row PySem.Challenge.rw_frameland_k96_rows_shown).prog 19) (kwd := []) K96.ob_eq
    (by kernel_rfl) (fun s => by kernel_rfl) K96.run (by kernel_rfl) (by kernel_rfl) (by kernel_rfl) (by rfl) (by first | assumption | decide +kernel) (by decide +kernel) ⟨rfl, rfl, rfl, rfl, rfl, by decide +kernel⟩ ?hw ?hc
  case hw => w_witness2
  case hc =>
    refine LamX.walk_ofTsE (l := PySem.Challenge.rw_frameland_k96_rows_shown) (n := 63) (k := 4) (x := "_law_script") (CX := L2.CX (PySem.Challenge.rw_frameland_k96_rows_shown).prog) rfl (by decide) (by kernel_rfl) ⟨rfl, by decide, by decide⟩ ?F (fun _ _ _ _ _ z => by obtain ⟨_, _, _, _, _, _, _, _, _, _, _, _, z⟩ := z; exact z)
    intro w mg fa h Y G hmg0
    obtain ⟨K, KX, c⟩ := Y
    have hmg : mg ("law" : PySem.Str) = some (.ref fa) := by
      have e : (HandSHeadRun.topDef (OpenLaw.row PySem.Challenge.rw_frameland_k96_rows_shown).prog 19).name = ("law" : PySem.Str) := by kernel_rfl
      rw [← e]
      exact hmg0
    obtain ⟨fd, hb, hF⟩ := K96.facts (P := (PySem.Challenge.rw_frameland_k96_rows_shown).prog) (w := w) KX G hmg c
    exact ⟨K, KX, fd, [], K96.sp_law K, (fun _ hp => nomatch hp), (fun _ hp => nomatch hp), (fun _ hp => nomatch hp), hb, fun H a ns hl hbits _ hS => ⟨rfl, a, ns, rfl, hS, hl, fun _ => rfl⟩, fun base hb1 hb2 _ => hF base hb1 hb2⟩

