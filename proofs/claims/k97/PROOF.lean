import PyProof.Rows.All
import Wide.All
import OpenK.AllK
import Wide.FinOn
import HandS.ForMost
import HandS.Exc
import HandS.TryOnly
import HandS.ExcOwn
import HandS.WordsExc
import HandS.IsInst
import HandS.Defaults
import HandS.Style
import HandS.Head0
import HandS.Head1
import HandS.Head2
import HandS.HeadEnd
import HandS.HeadHook1
import HandS.HeadHook2
import HandS.HeadHook3
import HandS.HeadHook4
import HandS.Iter
import KE.GoesMore
import KE.GoesZip
import KE.GoesEnum
import HandS.SetKeys
import HandS.TupLen
import HandS.ListItems
import HandS.DictTup
import KE.KDictKeyed
import HandS.ExcIs
import PyProof.StrOps2
import PySem.Challenge.RW_frameland_k97_bad_rows
import KE.KStateDown
import Lean
import HandS.HeadWalk
import HandS.EndTab
set_option Elab.async false
set_option linter.all false
set_option maxRecDepth 100000
set_option maxHeartbeats 4000000
/-! rules over the hand layer whose readings compute -/
namespace MM
open PySem PySem.Spec PyProof.Rows L2
/-! ### keys -/
def keyOf : V → Option Key
  | .int i => some (.inl i)
  | .str x => some (.inr x)
  | _ => none
def keysOf : List V → Option (List Key)
  | [] => some []
  | v :: r => match keyOf v, keysOf r with
    | some k, some ks => some (k :: ks)
    | _, _ => none
theorem keyOf_kV (k : Key) : keyOf (kV k) = some k := by cases k <;> rfl
theorem keyOf_eq {y : V} {k : Key} (h : keyOf y = some k) : y = kV k := by
  cases y <;> simp [keyOf] at h <;> subst h <;> rfl
theorem keysOf_kV : ∀ ks : List Key, keysOf (ks.map kV) = some ks
  | [] => rfl
  | k :: ks => by simp [keysOf, keyOf_kV, keysOf_kV ks]
theorem keysOf_eq : ∀ {xs : List V} {ks : List Key}, keysOf xs = some ks → xs = ks.map kV
  | [], ks, h => by simp [keysOf] at h; subst h; rfl
  | v :: r, ks, h => by
    unfold keysOf at h
    cases e1 : keyOf v with
    | none => rw [e1] at h; simp at h
    | some k =>
      cases e2 : keysOf r with
      | none => rw [e1, e2] at h; simp at h
      | some ks' =>
        rw [e1, e2] at h
        simp at h
        subst h
        rw [keyOf_eq e1, keysOf_eq e2]
        rfl
/-- what the dict at d holds at y, P of it -/
def kvLook (H : Hp) (d : Addr) (y : V) (P : Option V → Prop) : Prop :=
  match H d with
  | some (.dK kvs) => (match keyOf y with
    | some k => P (valV kvs k)
    | none => False)
  | some (.frz _ (.dK kvs)) => (match keyOf y with
    | some k => P (valV kvs k)
    | none => False)
  | some (.dT kvs) => (match y with
    | .ref b => (match H b with
      | some (.tup xs) => (match keysOf xs with
        | some ks => P (valV kvs ks)
        | none => False)
      | _ => False)
    | _ => False)
  | some (.frz _ (.dT kvs)) => (match y with
    | .ref b => (match H b with
      | some (.tup xs) => (match keysOf xs with
        | some ks => P (valV kvs ks)
        | none => False)
      | _ => False)
    | _ => False)
  | _ => False
theorem kvLook_get {H : Hp} {d : Addr} {y : V} {P : Option V → Prop} (h : kvLook H d y P) : ∃ o, DGet H d y o ∧ P o := by
  unfold kvLook at h
  split at h
  · rename_i kvs e
    split at h
    · rename_i k ek
      rw [keyOf_eq ek]
      exact ⟨_, .inl ⟨kvs, k, .inl e, rfl, rfl⟩, h⟩
    · exact h.elim
  · rename_i o kvs e
    split at h
    · rename_i k ek
      rw [keyOf_eq ek]
      exact ⟨_, .inl ⟨kvs, k, .inr ⟨o, e⟩, rfl, rfl⟩, h⟩
    · exact h.elim
  · rename_i kvs e
    split at h
    · rename_i b
      split at h
      · rename_i xs eb
        split at h
        · rename_i ks ek
          rw [keysOf_eq ek] at eb
          exact ⟨_, .inr ⟨kvs, ks, b, .inl e, rfl, eb, rfl⟩, h⟩
        · exact h.elim
      · exact h.elim
    · exact h.elim
  · rename_i o kvs e
    split at h
    · rename_i b
      split at h
      · rename_i xs eb
        split at h
        · rename_i ks ek
          rw [keysOf_eq ek] at eb
          exact ⟨_, .inr ⟨kvs, ks, b, .inr ⟨o, e⟩, rfl, eb, rfl⟩, h⟩
        · exact h.elim
      · exact h.elim
    · exact h.elim
  · exact h.elim
/-- the list, tuple that stands at a -/
def seqAt (H : Hp) (a : Addr) : Option (List V) := match H a with
  | some (.lst xs) => some xs
  | some (.tup xs) => some xs
  | some (.frz _ (.lst xs)) => some xs
  | some (.frz _ (.tup xs)) => some xs
  | _ => none
theorem seqAt_sq {K : PySem.W.Frag} {H : Hp} {a : Addr} {xs : List V} (h : seqAt H a = some xs) : SqL K H a xs ∨ SqT K H a xs := by
  unfold seqAt at h
  split at h
  · rename_i ys e; cases h; exact .inl (.inl (.inl e))
  · rename_i ys e; cases h; exact .inr (.inl (.inl e))
  · rename_i o ys e; cases h; exact .inl (.inl (.inr ⟨o, e⟩))
  · rename_i o ys e; cases h; exact .inr (.inl (.inr ⟨o, e⟩))
  · cases h
/-- a new object is laid; an object is written: the heap behind it has a name -/
def New (H : Hp) (p : Addr) (o : HO) (H' : Hp) : Prop := H p = none ∧ H' = upd H p o
def Wr (H : Hp) (p : Addr) (o : HO) (H' : Hp) : Prop := H' = upd H p o
theorem New.self {H H' : Hp} {p : Addr} {o : HO} (h : New H p o H') : H' p = some o := by rw [h.2, upd_same]
theorem New.same {H H' : Hp} {p : Addr} {o : HO} (h : New H p o H') : Same H H' := fun b u e => by rw [h.2, upd_ne (ne_of_none e h.1)]; exact e
theorem New.ne {H H' : Hp} {p b : Addr} {o : HO} (h : New H p o H') (hb : b ≠ p) : H' b = H b := by rw [h.2, upd_ne hb]
theorem Wr.self {H H' : Hp} {p : Addr} {o : HO} (h : Wr H p o H') : H' p = some o := by rw [h, upd_same]
theorem Wr.ne {H H' : Hp} {p b : Addr} {o : HO} (h : Wr H p o H') (hb : b ≠ p) : H' b = H b := by rw [h, upd_ne hb]
section
variable {X : Cx}
/-! ### x[i] -/
def mIx : R2 := fun x y H Q =>
  match x with
  | .str z => ∃ i c, y = .int i ∧ z.length ≤ sizeLine ∧ atI z.cps.toList i = some c ∧ Q (.str ⟨#[c]⟩) H
  | .ref p => (match seqAt H p with
    | some xs => ∃ i v, y = .int i ∧ atI xs i = some v ∧ Q v H
    | none => kvLook H p y fun o => ∃ v, o = some v ∧ Q v H)
  | _ => False
theorem ix_dict (hu : X.A.units + 1 < cLine) : IxR X (fun x y H Q => ∃ a v, x = .ref a ∧ DGet H a y (some v) ∧ Q v H) := by
  intro value slice pins s σ H x y v u Q I rx ry h hs
  obtain ⟨a, z, rfl, g, q⟩ := h
  obtain rfl : v = Value.ref a := rx
  exact tail_any (dict_typeIs I g) slot_dict_getitem.lookup (d_getItem hu I g ry fun w' s' I' r => ⟨z, H, I', r, q⟩) hs
theorem m_ix (hu : X.A.units + 1 < cLine) : IxR X mIx := by
  intro value slice pins s σ H x y v u Q I rx ry h hs
  unfold mIx at h
  split at h
  · rename_i z
    obtain ⟨i, c, rfl, hz, he, q⟩ := h
    exact ix_str value slice pins s σ H _ _ v u Q I rx ry ⟨z, i, c, rfl, rfl, hz, he, q⟩ hs
  · rename_i p
    split at h
    · rename_i xs e
      obtain ⟨i, z, rfl, he, q⟩ := h
      rcases seqAt_sq (K := X.K) e with g | g
      · exact ix_list value slice pins s σ H _ _ v u Q I rx ry ⟨p, xs, i, z, rfl, rfl, g, he, q⟩ hs
      · exact ix_tup value slice pins s σ H _ _ v u Q I rx ry ⟨p, xs, i, z, rfl, rfl, g, he, q⟩ hs
    · obtain ⟨o, g, z, rfl, q⟩ := kvLook_get h
      exact ix_dict hu value slice pins s σ H _ _ v u Q I rx ry ⟨p, z, rfl, g, q⟩ hs
  · exact h.elim
/-! ### x[i] = v -/
def mSet : TSet := fun o i v H Q =>
  match o with
  | .ref p => (match H p with
    | some (.lst xs) => ∃ k j, i = .int k ∧ ixN xs.length k = some j ∧ ∀ H', Wr H p (.lst (xs.set j v)) H' → Q H'
    | some (.dK kvs) => (match keyOf i with
      | some k => kvs.length < sizeLine ∧ ∀ H', Wr H p (.dK (putK kvs k v)) H' → Q H'
      | none => False)
    | some (.dT kvs) => (match i with
      | .ref b => (match H b with
        | some (.tup xs) => (match keysOf xs with
          | some ks => kvs.length < sizeLine ∧ ∀ H', Wr H p (.dT (putK kvs ks v)) H' → Q H'
          | none => False)
        | _ => False)
      | _ => False)
    | _ => False)
  | _ => False
theorem m_set (hu : X.A.units + 1 < cLine) : PSet X mSet := by
  intro pins s σ H o i v ov iv u Q I ro ri rv h
  unfold mSet at h
  split at h
  · rename_i p
    split at h
    · rename_i xs e
      obtain ⟨k, j, rfl, hj, q⟩ := h
      exact set_list pins s σ H _ _ v ov iv u Q I ro ri rv ⟨p, xs, k, j, rfl, rfl, e, hj, q _ rfl⟩
    · rename_i kvs e
      split at h
      · rename_i k ek
        obtain rfl : ov = Value.ref p := ro
        have eq := keyOf_eq ek
        subst eq
        exact d_setItem hu I (DPut.k e h.1) ri rv fun s' I' => ⟨_, I', h.2 _ rfl⟩
      · exact h.elim
    · rename_i kvs e
      split at h
      · rename_i b
        split at h
        · rename_i xs eb
          split at h
          · rename_i ks ek
            obtain rfl : ov = Value.ref p := ro
            rw [keysOf_eq ek] at eb
            exact d_setItem hu I (DPut.t e eb h.1) ri rv fun s' I' => ⟨_, I', h.2 _ rfl⟩
          · exact h.elim
        · exact h.elim
      · exact h.elim
    · exact h.elim
  · exact h.elim
end
end MM

set_option Elab.async false
set_option linter.all false
set_option maxRecDepth 100000
set_option maxHeartbeats 4000000
namespace MM
open PySem PySem.Spec PyProof.Rows L2
abbrev St := L2.St
/-! ### a callee: its function object, its binding, its promise; dvs the defaults that fill up -/
def Fk (P : Program) (w : World) (K : PySem.W.Frag) (mg : Str → Option Value) (base : Heap) (f : Addr) (ps : List Str) (dvs : List V) (k : Nat) (sp : Sp) : Prop :=
  ∃ fd ds, FnOk P w K mg base (L2.CX P w) k f fd ps sp ∧ Binds K fd ps ds ∧ Vals dvs ds
theorem Fk.imp {P : Program} {w : World} {K : PySem.W.Frag} {mg : Str → Option Value} {base : Heap} {f : Addr} {ps : List Str} {dvs : List V} {k : Nat} {sp sp' : Sp} (F : Fk P w K mg base f ps dvs k sp) (h : ∀ vs H Q E, sp' vs H Q E → sp vs H Q E) : Fk P w K mg base f ps dvs k sp' := by
  obtain ⟨fd, ds, F, b, d⟩ := F
  exact ⟨fd, ds, F.imp h, b, d⟩
theorem Fk.mono {P : Program} {w : World} {K : PySem.W.Frag} {mg : Str → Option Value} {base : Heap} {f : Addr} {ps : List Str} {dvs : List V} {j k : Nat} {sp : Sp} (F : Fk P w K mg base f ps dvs j sp) (h : j ≤ k) : Fk P w K mg base f ps dvs k sp := by
  obtain ⟨fd, ds, F, b, d⟩ := F
  exact ⟨fd, ds, F.mono h, b, d⟩
/-- what a body wants of exceptions: E at a def's own level -/
abbrev WX0 (E : XK) : WX := fun c d _ H => E c d H
def mCall (sp : Sp) (dvs : List V) (W : WX) (t : TA) : TE := fun σ H Q => t σ H fun vs H1 => sp (vs ++ dvs) H1 Q (fun c d H' => W c d σ H')
/-- o.m(..) of an instance of the class at C -/
def mMeth (C : Addr) (m : Str) (sp : Sp) (dvs : List V) (W : WX) (ta : TE) (t : TA) : TE := fun σ H Q => ta σ H fun x H1 => ∃ a dx fs, x = .ref a ∧ H1 a = some (.ins C dx fs) ∧ fs.lookup m = none ∧
  t σ H1 fun vs H2 => sp (x :: (vs ++ dvs)) H2 Q (fun c d H' => W c d σ H')
/-- .. of one of two classes -/
def mMeth2 (C C' : Addr) (m : Str) (sp sp' : Sp) (W : WX) (ta : TE) (t : TA) : TE := fun σ H Q => ta σ H fun x H1 =>
  (∃ a dx fs, x = .ref a ∧ H1 a = some (.ins C dx fs) ∧ fs.lookup m = none ∧ t σ H1 fun vs H2 => sp (x :: vs) H2 Q (fun c d H' => W c d σ H')) ∨
  (∃ a dx fs, x = .ref a ∧ H1 a = some (.ins C' dx fs) ∧ fs.lookup m = none ∧ t σ H1 fun vs H2 => sp' (x :: vs) H2 Q (fun c d H' => W c d σ H'))
def mMake (C : Addr) (sp : Sp) (dvs : List V) (W : WX) (t : TA) : TE := fun σ H Q => t σ H fun vs H1 => ∀ x dx Ha Hb, New H1 dx (.own x) Ha → New Ha x (.ins C dx []) Hb →
  sp (.ref x :: (vs ++ dvs)) Hb (fun v H2 => v = .non ∧ Q (.ref x) H2) (fun c d H' => W c d σ H')
section
variable {X : Cx} {k : Nat} {f f' C C' : Addr} {ps ps' : List Str} {sp sp' : Sp} {dvs : List V} {W : WX} {x m : Str} {p pos apos : Pos} {e o : Expr} {es : List Expr} {ta : TE} {t : TA}
theorem run_fk {pins : List (Addr × Obj)} {σ : St} {H : Hp} {s : Shared} {Q : VK} {us : List Value} {vs : List V} (F : Fk X.prog X.w X.K X.mg X.base f ps dvs k sp) (hr : Room k X.A) (tk : Takes X W)
    (I : Inv X pins σ H s) (r : Vals vs us) (h : sp (vs ++ dvs) H Q (fun c d H' => W c d σ H')) : wpAny (model X.prog X.w) X.A (call (.ref f) us) (EP X pins σ Q) X.xe s := by
  obtain ⟨fd, ds, F, hb, hd⟩ := F
  have r2 : Vals (vs ++ dvs) (us ++ ds) := r.append hd
  have hl : (us ++ ds).length = ps.length := by rw [← r2.length]; exact F.len _ _ _ _ h
  refine wpAny_call (codeAny_mono (F.run X.A X.stack s H ⟨us, []⟩ (us ++ ds) (vs ++ dvs) Q (fun c d H' => W c d σ H') hr I.env0 (hb s us I.kIn hl) r2 h) fun r s' hq => ?_)
  cases r with
  | error e => exact passAt tk σ pins H s e s' I hq
  | ok fl =>
    cases fl with
    | ret u => exact I.after hq
    | next => exact False.elim hq
    | brk => exact False.elim hq
    | cont => exact False.elim hq
theorem pm_call (F : Fk X.prog X.w X.K X.mg X.base f ps dvs k sp) (hr : Room k X.A) (tk : Takes X W) (hm : X.mg x = some (.ref f)) (hk : PySem.W.keepIn X.K (.ref f) = true)
    (ha : PA X (e :: es) t) (hg : Gl X x := by rfl) (hdb : (x == ("__debug__" : Str)) = false := by decide) (he : starEach (e :: es) X.env = (false, eval e X.env) :: starEach es X.env := by rfl) (hpl : (backTo pos (starEach es X.env)).any (·.1) = false := by rfl) :
    PE X (.Call (.Name x p) (e :: es) [] pos) (mCall sp dvs W t) := by
  refine ⟨fun pins s σ H Q I h => ?_⟩
  refine wpAny_Call_Name_kw (ld_glob I hg hm ?_ hdb)
  refine PySem.W.callWith_K (h₀ := X.base) I.ok.mod.kin hk (thn (ha.run pos pins s σ H _ I h) fun us s1 ⟨vs, H1, I1, r, q⟩ => ⟨I1.kIn, ?_⟩) he hpl
  exact run_fk F hr tk I1 r q
theorem pm_call0 (F : Fk X.prog X.w X.K X.mg X.base f ps dvs k sp) (hr : Room k X.A) (tk : Takes X W) (hm : X.mg x = some (.ref f)) (hk : PySem.W.keepIn X.K (.ref f) = true)
    (hg : Gl X x := by rfl) (hdb : (x == ("__debug__" : Str)) = false := by decide) : PE X (.Call (.Name x p) [] [] pos) (mCall sp dvs W tNil) := by
  refine ⟨fun pins s σ H Q I h => ?_⟩
  refine wpAny_Call_Name_kw (ld_glob I hg hm ?_ hdb)
  exact PySem.W.callWith_K0 I.kIn hk (run_fk (us := []) F hr tk I .nil h)
theorem pm_meth {pl : Sem Bool} (he : PE X o ta) (c : Cls X.K C) (hm : Meth X.K C m f) (F : Fk X.prog X.w X.K X.mg X.base f ps dvs k sp) (hr : Room k X.A) (tk : Takes X W) (ha : PA X (e :: es) t)
    (hst : starEach (e :: es) X.env = (false, eval e X.env) :: starEach es X.env := by rfl) (hpl : (backTo pos (starEach es X.env)).any (·.1) = false := by rfl)
    (ht : eval (.Call (.Attribute o m apos) (e :: es) [] pos) X.env = (do
      let ov ← eval o X.env
      standAt apos.atName
      let (f, first) ← holding [ov] (getMethod ov m pl)
      callWith pos f first (backTo pos (starEach (e :: es) X.env)) (backToKw pos (keywordEach [] X.env))) := by rfl) :
    PE X (.Call (.Attribute o m apos) (e :: es) [] pos) (mMeth C m sp dvs W ta t) := by
  refine ⟨fun pins s σ H Q I h => ?_⟩
  refine PySem.W.methodCall_KW (pl := pl) (thn (he.run pins s σ H _ I h) fun u s1 ⟨x, H1, I1, rx, a, dx, fs, ex, ea, l, q⟩ => ?_) ht
  subst ex
  obtain rfl : u = Value.ref a := rx
  refine getmeth_ok I1 ea c hm l ?_
  refine PySem.W.callWith_K (first := [.ref a]) (h₀ := X.base) I.ok.mod.kin hm.kp (thn (ha.run pos pins s1 σ H1 _ I1 q) fun us s2 ⟨vs, H2, I2, r, q2⟩ => ⟨I2.kIn, ?_⟩) hst hpl
  exact run_fk (us := .ref a :: us) (vs := .ref a :: vs) F hr tk I2 (.cons rfl r) q2
theorem pm_meth0 {pl : Sem Bool} (he : PE X o ta) (c : Cls X.K C) (hm : Meth X.K C m f) (F : Fk X.prog X.w X.K X.mg X.base f ps dvs k sp) (hr : Room k X.A) (tk : Takes X W)
    (ht : eval (.Call (.Attribute o m apos) [] [] pos) X.env = (do
      let ov ← eval o X.env
      standAt apos.atName
      let (f, first) ← holding [ov] (getMethod ov m pl)
      callWith pos f first (backTo pos (starEach [] X.env)) (backToKw pos (keywordEach [] X.env))) := by rfl) :
    PE X (.Call (.Attribute o m apos) [] [] pos) (mMeth C m sp dvs W ta tNil) := by
  refine ⟨fun pins s σ H Q I h => ?_⟩
  refine PySem.W.methodCall_KW (pl := pl) (thn (he.run pins s σ H _ I h) fun u s1 ⟨x, H1, I1, rx, a, dx, fs, ex, ea, l, q⟩ => ?_) ht
  subst ex
  obtain rfl : u = Value.ref a := rx
  refine getmeth_ok I1 ea c hm l ?_
  exact PySem.W.callWith_K0 (first := [.ref a]) I1.kIn hm.kp (run_fk (us := [.ref a]) (vs := [.ref a]) F hr tk I1 (.cons rfl .nil) q)
theorem pm_meth2 {pl : Sem Bool} (he : PE X o ta) (c : Cls X.K C) (hm : Meth X.K C m f) (F : Fk X.prog X.w X.K X.mg X.base f ps [] k sp) (c' : Cls X.K C') (hm' : Meth X.K C' m f') (F' : Fk X.prog X.w X.K X.mg X.base f' ps' [] k sp') (hr : Room k X.A) (tk : Takes X W) (ha : PA X (e :: es) t)
    (hst : starEach (e :: es) X.env = (false, eval e X.env) :: starEach es X.env := by rfl) (hpl : (backTo pos (starEach es X.env)).any (·.1) = false := by rfl)
    (ht : eval (.Call (.Attribute o m apos) (e :: es) [] pos) X.env = (do
      let ov ← eval o X.env
      standAt apos.atName
      let (f, first) ← holding [ov] (getMethod ov m pl)
      callWith pos f first (backTo pos (starEach (e :: es) X.env)) (backToKw pos (keywordEach [] X.env))) := by rfl) :
    PE X (.Call (.Attribute o m apos) (e :: es) [] pos) (mMeth2 C C' m sp sp' W ta t) := by
  refine ⟨fun pins s σ H Q I h => ?_⟩
  refine PySem.W.methodCall_KW (pl := pl) (thn (he.run pins s σ H _ I h) fun u s1 ⟨x, H1, I1, rx, q⟩ => ?_) ht
  rcases q with ⟨a, dx, fs, ex, ea, l, q⟩ | ⟨a, dx, fs, ex, ea, l, q⟩
  · subst ex
    obtain rfl : u = Value.ref a := rx
    refine getmeth_ok I1 ea c hm l ?_
    refine PySem.W.callWith_K (first := [.ref a]) (h₀ := X.base) I.ok.mod.kin hm.kp (thn (ha.run pos pins s1 σ H1 _ I1 q) fun us s2 ⟨vs, H2, I2, r, q2⟩ => ⟨I2.kIn, ?_⟩) hst hpl
    exact run_fk (us := .ref a :: us) (vs := .ref a :: vs) F hr tk I2 (.cons rfl r) (by simpa using q2)
  · subst ex
    obtain rfl : u = Value.ref a := rx
    refine getmeth_ok I1 ea c' hm' l ?_
    refine PySem.W.callWith_K (first := [.ref a]) (h₀ := X.base) I.ok.mod.kin hm'.kp (thn (ha.run pos pins s1 σ H1 _ I1 q) fun us s2 ⟨vs, H2, I2, r, q2⟩ => ⟨I2.kIn, ?_⟩) hst hpl
    exact run_fk (us := .ref a :: us) (vs := .ref a :: vs) F' hr tk I2 (.cons rfl r) (by simpa using q2)
theorem pm_meth20 {pl : Sem Bool} (he : PE X o ta) (c : Cls X.K C) (hm : Meth X.K C m f) (F : Fk X.prog X.w X.K X.mg X.base f ps [] k sp) (c' : Cls X.K C') (hm' : Meth X.K C' m f') (F' : Fk X.prog X.w X.K X.mg X.base f' ps' [] k sp') (hr : Room k X.A) (tk : Takes X W)
    (ht : eval (.Call (.Attribute o m apos) [] [] pos) X.env = (do
      let ov ← eval o X.env
      standAt apos.atName
      let (f, first) ← holding [ov] (getMethod ov m pl)
      callWith pos f first (backTo pos (starEach [] X.env)) (backToKw pos (keywordEach [] X.env))) := by rfl) :
    PE X (.Call (.Attribute o m apos) [] [] pos) (mMeth2 C C' m sp sp' W ta tNil) := by
  refine ⟨fun pins s σ H Q I h => ?_⟩
  refine PySem.W.methodCall_KW (pl := pl) (thn (he.run pins s σ H _ I h) fun u s1 ⟨x, H1, I1, rx, q⟩ => ?_) ht
  rcases q with ⟨a, dx, fs, ex, ea, l, q⟩ | ⟨a, dx, fs, ex, ea, l, q⟩
  · subst ex
    obtain rfl : u = Value.ref a := rx
    refine getmeth_ok I1 ea c hm l ?_
    exact PySem.W.callWith_K0 (first := [.ref a]) I1.kIn hm.kp (run_fk (us := [.ref a]) (vs := [.ref a]) F hr tk I1 (.cons rfl .nil) q)
  · subst ex
    obtain rfl : u = Value.ref a := rx
    refine getmeth_ok I1 ea c' hm' l ?_
    exact PySem.W.callWith_K0 (first := [.ref a]) I1.kIn hm'.kp (run_fk (us := [.ref a]) (vs := [.ref a]) F' hr tk I1 (.cons rfl .nil) q)
theorem run_mk {pins : List (Addr × Obj)} {σ : L2.St} {H : Hp} {s : Shared} {Q : VK} {us : List Value} {vs : List V} (M : Mk X.K C f) (F : Fk X.prog X.w X.K X.mg X.base f ps dvs k sp) (hr : Room (k + 1) X.A) (tk : Takes X W)
    (I : Inv X pins σ H s) (r : Vals vs us)
    (h : ∀ x dx, H x = none → H dx = none → dx ≠ x → sp (.ref x :: (vs ++ dvs)) (upd (upd H dx (.own x)) x (.ins C dx [])) (fun v H2 => v = .non ∧ Q (.ref x) H2) (fun c d H' => W c d σ H')) :
    wpAny (model X.prog X.w) X.A (call (.ref C) us) (EP X pins σ Q) X.xe s := by
  obtain ⟨fd, ds, F, hb, hd⟩ := F
  have hq := h (s.heap.objs.size + 1) s.heap.objs.size (I.hok.fresh (Nat.le_succ _)) (I.hok.fresh (Nat.le_refl _)) (Nat.ne_of_lt (Nat.lt_succ_self _))
  have I2 := Inv.made (C := C) I
  have r2 : Vals (V.ref (s.heap.objs.size + 1) :: (vs ++ dvs)) (Value.ref (s.heap.objs.size + 1) :: (us ++ ds)) := .cons rfl (r.append hd)
  have hl : (Value.ref (s.heap.objs.size + 1) :: us ++ ds).length = ps.length := by
    have e := r2.length
    rw [F.len _ _ _ _ hq] at e
    exact e.symm
  refine wpAny_call (make_map (f := f) I.kIn M.makes M.init (beq_iff_eq.mp M.fn) (codeAny_mono (F.run _ X.stack _ _ ⟨Value.ref (s.heap.objs.size + 1) :: us, []⟩ (Value.ref (s.heap.objs.size + 1) :: (us ++ ds)) _ _ (fun c d H' => W c d σ H') (hr.make C us [])
    (I2.env0.make C us []) (hb _ (Value.ref (s.heap.objs.size + 1) :: us) I2.kIn hl) r2 hq) fun r s' hq' => ?_))
  cases r with
  | error e => exact passAt tk σ pins _ _ e s' I2 hq'
  | ok fl =>
    cases fl with
    | ret u =>
      obtain ⟨v, H', I3, rv, ev, q3⟩ := I2.after hq'
      subst ev
      exact ⟨rv, ⟨V.ref (s.heap.objs.size + 1), H', I3, rfl, q3⟩⟩
    | next => exact False.elim hq'
    | brk => exact False.elim hq'
    | cont => exact False.elim hq'
theorem pm_make (M : Mk X.K C f) (F : Fk X.prog X.w X.K X.mg X.base f ps dvs k sp) (hr : Room (k + 1) X.A) (tk : Takes X W) (hm : X.mg x = some (.ref C))
    (ha : PA X (e :: es) t) (hg : Gl X x := by rfl) (hdb : (x == ("__debug__" : Str)) = false := by decide) (he : starEach (e :: es) X.env = (false, eval e X.env) :: starEach es X.env := by rfl) (hpl : (backTo pos (starEach es X.env)).any (·.1) = false := by rfl) :
    PE X (.Call (.Name x p) (e :: es) [] pos) (mMake C sp dvs W t) := by
  refine ⟨fun pins s σ H Q I h => ?_⟩
  refine wpAny_Call_Name_kw (ld_glob I hg hm ?_ hdb)
  refine PySem.W.callWith_K (h₀ := X.base) I.ok.mod.kin M.kp (thn (ha.run pos pins s σ H _ I h) fun us s1 ⟨vs, H1, I1, r, q⟩ => ⟨I1.kIn, ?_⟩) he hpl
  exact run_mk M F hr tk I1 r fun x dx h1 h2 h3 => q x dx _ _ ⟨h2, rfl⟩ ⟨by rw [upd_ne (Ne.symm h3)]; exact h1, rfl⟩
theorem pm_make0 (M : Mk X.K C f) (F : Fk X.prog X.w X.K X.mg X.base f ps dvs k sp) (hr : Room (k + 1) X.A) (tk : Takes X W) (hm : X.mg x = some (.ref C))
    (hg : Gl X x := by rfl) (hdb : (x == ("__debug__" : Str)) = false := by decide) : PE X (.Call (.Name x p) [] [] pos) (mMake C sp dvs W tNil) := by
  refine ⟨fun pins s σ H Q I h => ?_⟩
  refine wpAny_Call_Name_kw (ld_glob I hg hm ?_ hdb)
  exact PySem.W.callWith_K0 I.kIn M.kp (run_mk (us := []) M F hr tk I .nil fun x dx h1 h2 h3 => h x dx _ _ ⟨h2, rfl⟩ ⟨by rw [upd_ne (Ne.symm h3)]; exact h1, rfl⟩)
end
end MM

set_option Elab.async false
set_option linter.all false
set_option maxRecDepth 100000
set_option maxHeartbeats 4000000
namespace MM
open PySem PySem.Spec PyProof.Rows L2
/-! ### zip of a list and a text -/
def ItzS (K : PySem.W.Frag) (a : Addr) (x : Str) : It :=
  ⟨fun i H => ∃ (xs : List V) (v : V), SqL K H a xs ∧ xs[i]? = some v ∧ i < x.cps.size,
    fun i H v H' => ∃ T v1 c, v = .ref T ∧ H T = none ∧ H' = upd H T (.tup [v1, .str ⟨#[c]⟩]) ∧ (∀ xs, SqL K H a xs → xs[i]? = some v1) ∧ x.cps[i]? = some c,
    fun i H => ∃ xs : List V, SqL K H a xs ∧ i ≤ xs.length ∧ i ≤ x.cps.size ∧ (i = xs.length ∨ i = x.cps.size)⟩
theorem turn_zipS {P : Program} {w : World} {K : PySem.W.Frag} {elts : List Expr} {kk : Nat} {tpos : Pos} {x : Str} {t : Tok} {a z TI TO i1 i2 : Addr} (S : ZipSep2 z TI TO i1 i2 [i1, a] [i2]) (hai : a ≠ i1) :
    Turn P w K (.Tuple elts kk tpos) (ItzS K a x) [z, TI, TO, i1, i2] z (fun i h => IsZip h z TI TO .none ∧ IsTupOf2 h TI (.ref i1) (.ref i2) ∧ (∃ x y, IsTupOf2 h TO x y) ∧ h.IsListIter i1 a i ∧ h.IsStrIter i2 (strIterType x) x t i) where
  mem := by simp
  obj := fun i h st c hc => by
    obtain ⟨hz, hTI, ⟨x, y, hTO⟩, ⟨o1, e1, _, d1⟩, st2⟩ := st
    have e' : c = z ∨ c = TI ∨ c = TO ∨ c = i1 ∨ c = i2 := by simpa using hc
    rcases e' with q | q | q | q | q
    · rw [q]; exact ⟨_, hz, fun v q => nomatch q⟩
    · rw [q]; exact ⟨_, hTI, fun v q => nomatch q⟩
    · rw [q]; exact ⟨_, hTO, fun v q => nomatch q⟩
    · rw [q]; exact ⟨o1, e1, fun v q => by rw [d1] at q; cases q⟩
    · rw [q]; obtain ⟨o2, e2, _, d2⟩ := st2; exact ⟨o2, e2, fun v q => by rw [d2] at q; cases q⟩
  keep := fun i h h' st k => by
    obtain ⟨hz, hTI, ⟨x, y, hTO⟩, h1, h2⟩ := st
    exact ⟨k z (by simp) _ hz, k TI (by simp) _ hTI, ⟨x, y, k TO (by simp) _ hTO⟩, h1.at fun o q => k i1 (by simp) o q, let ⟨o, e, c, d⟩ := h2; ⟨o, k i2 (by simp) _ e, c, d⟩⟩
  item := by
    intro X hP hw hK hc i pins s σ H E I hf st hg
    subst hP hw hK
    obtain ⟨hz, hTI, ⟨x0, y0, hTO⟩, h1, h2⟩ := st
    obtain ⟨xs, v1, hqx, hx, hlt⟩ := hg
    obtain ⟨its, rv, p, _⟩ := I.list hqx
    obtain ⟨u, hu, ru⟩ := rv.get hx
    have hzl : z < s.heap.objs.size := Heap.lt_size hz
    have hh : X.A.in1.handled = none := I.ok.hd hc
    have hui : i < its.toArray.size := by
      have := (List.getElem?_eq_some_iff.mp hu).1
      simpa using this
    refine wpAny_pyNext_zipD2_item S (Draws.list hh i1 a hai its.toArray) (Draws.text hh i2 x t) hz hTI hTO ⟨h1, p.isList⟩ h2 hui hlt fun x1 x2 h' tk hp1 hp2 z' TO' h1' h2' hT hsz hk => ?_
    refine ⟨_, rfl, wpAny_letOwnedTupleGo_zip (s := { s with heap := h', toks := tk }) z' fun h'' z'' sb => ?_⟩
    obtain ⟨c, u', hc', rfl⟩ := hp2
    obtain rfl : x1 = u := by
      rw [List.getElem?_toArray] at hp1
      rw [hu] at hp1
      exact (Option.some.inj hp1).symm
    have hT2 : h''.get? s.heap.objs.size = some { cls := .type "tuple", data := .seq #[x1, .str ⟨#[c]⟩ u'] } := (sb.2 _ (Nat.ne_of_gt hzl)).trans hT
    have new : ObjOk X.prog X.w (upd H s.heap.objs.size (.tup [v1, .str ⟨#[c]⟩])) h'' s.heap.objs.size (.tup [v1, .str ⟨#[c]⟩]) :=
      ⟨by show 2 ≤ sizeLine; decide, [x1, .str ⟨#[c]⟩ u'], .cons ru (.cons ⟨_, rfl⟩ .nil), ⟨_, hT2, rfl, _, rfl⟩⟩
    have I1 : Inv X pins σ (upd H s.heap.objs.size (.tup [v1, .str ⟨#[c]⟩])) { s with heap := h'', toks := tk } :=
      I.turnedNew (t' := tk) (ch := [z, TI, TO, i1, i2]) (fun c o hb q => (sb.2 c (fun q' => hb (by simp [q']))).trans (hk c o (fun q' => hb (by simp [q'])) (fun q' => hb (by simp [q'])) (fun q' => hb (by simp [q'])) (fun q' => hb (by simp [q'])) q)) hf (Nat.le_refl _) new
    refine ⟨.ref s.heap.objs.size, _, I1, rfl, ⟨_, v1, c, rfl, I.hok.fresh (Nat.le_refl _), rfl, fun l hl => by rw [I.list_inj hl hqx]; exact hx, hc'⟩, ⟨z'', ?_, ⟨x1, .str ⟨#[c]⟩ u', ?_⟩, ?_, ?_⟩, fun b hcm => ?_⟩
    · exact (sb.2 _ S.TIz).trans (hk _ _ S.TIz S.TITO S.TIi1 S.TIi2 hTI)
    · exact (sb.2 _ S.TOz).trans TO'
    · exact h1'.1.at fun o q => (sb.2 _ (Ne.symm S.zi1)).trans q
    · obtain ⟨o, e, c', d⟩ := h2'
      exact ⟨o, (sb.2 _ (Ne.symm S.zi2)).trans e, c', d⟩
    · have hlt : b < s.heap.objs.size := by
        have e' : b = z ∨ b = TI ∨ b = TO ∨ b = i1 ∨ b = i2 := by simpa using hcm
        rcases e' with q | q | q | q | q
        · rw [q]; exact hzl
        · rw [q]; exact Heap.lt_size hTI
        · rw [q]; exact Heap.lt_size hTO
        · rw [q]; obtain ⟨_, e1, _⟩ := h1; exact Heap.lt_size e1
        · rw [q]; obtain ⟨_, e2, _⟩ := h2; exact Heap.lt_size e2
      rw [upd_ne (Nat.ne_of_lt hlt)]
      exact (hf b hcm).1
  done := by
    intro X hP hw hK hc i pins s σ H E I hf st hg
    subst hP hw hK
    obtain ⟨hz, hTI, ⟨x0, y0, hTO⟩, h1, h2⟩ := st
    obtain ⟨xs, hqx, hl1, hl2, hend⟩ := hg
    obtain ⟨its, rv, p, _⟩ := I.list hqx
    have l1 := rv.length
    have hh : X.A.in1.handled = none := I.ok.hd hc
    have e1 : its.toArray.size = xs.length := by simp [l1]
    exact wpAny_pyNext_zipD2_end S (Draws.list hh i1 a hai its.toArray) (Draws.text hh i2 x t) hz hTI hTO ⟨h1, p.isList⟩ h2 (by omega) hl2 (by omega) fun h' tk hk => ⟨rfl, I.turnedL (t' := tk) (ch := [z, TI, TO, i1, i2]) (fun c o hb q =>
      hk c o (fun q' => hb (by simp [q'])) (fun q' => hb (by simp [q'])) (fun q' => hb (by simp [q'])) (fun q' => hb (by simp [q'])) q) hf⟩
  self := fun A i s Q E st h => wpAny_pyIter_zip st.1 h
def iZipS (K : PySem.W.Frag) (ta : TA) : TI := fun σ H R => ta σ H fun vs H1 => ∃ a x xs, vs = [.ref a, .str x] ∧ SqL K H1 a xs ∧ R (ItzS K a x) H1
theorem pi_zipS {X : Cx} {e e2 : Expr} {ta : TA} {p pos tpos : Pos} {elts : List Expr} {kk : Nat} (hm : X.mg "zip" = none) (ha : PA X [e, e2] ta) (hg : Gl X "zip" := by rfl)
    (hs : starEach [e, e2] X.env = (false, eval e X.env) :: starEach [e2] X.env := by rfl) (hpl : (backTo pos (starEach [e2] X.env)).any (·.1) = false := by rfl) :
    PI X (.Tuple elts kk tpos) (.Call (.Name "zip" p) [e, e2] [] pos) (iZipS X.K ta) := by
  refine ⟨fun pins s σ H R I h => ?_⟩
  refine Call_ (ld_blt I hg hm PyProof.Rows.boot_zip (PyProof.Rows.callWith_type1 (thn (ha.run pos pins s σ H _ I h) fun us s1 ⟨vs, H1, I1, r1, q1⟩ => ?_) hs hpl))
  obtain ⟨a, x, xs, ex, hqx, q⟩ := q1
  subst ex
  cases r1 with
  | cons r rr =>
    cases rr with
    | cons r' rr =>
      cases rr
      cases r
      obtain ⟨t, rfl⟩ := r'
      obtain ⟨its, rv, p1, _⟩ := I1.list hqx
      have la : a < s1.heap.objs.size := p1.lt
      refine zip_begins2 (begins_list a its.toArray) (begins_text x t) p1.isList trivial fun h' hz hTI hTO h1 h2 hsz hk => wpAny_pyIter_zip hz ?_
      have I2 : Inv X pins σ H1 { s1 with heap := h' } := I1.kept (t' := s1.toks) hk
      refine ⟨s1.heap.objs.size + 4, [s1.heap.objs.size + 4, s1.heap.objs.size + 2, s1.heap.objs.size + 3, s1.heap.objs.size, s1.heap.objs.size + 1], _, _, H1, rfl, I2, turn_zipS (x := x) (t := t) (a := a) (zip_sep2 (N := s1.heap.objs.size) (fp1 := [a]) (fp2 := []) (by simpa using la) (by simp)) (Nat.ne_of_lt la), ⟨hz, hTI, ⟨_, _, hTO⟩, ⟨_, h1, rfl, rfl⟩, ⟨_, h2, rfl, rfl⟩⟩, fun c hcm => ?_, q⟩
      have e' : c = s1.heap.objs.size + 4 ∨ c = s1.heap.objs.size + 2 ∨ c = s1.heap.objs.size + 3 ∨ c = s1.heap.objs.size ∨ c = s1.heap.objs.size + 1 := by simpa using hcm
      have hle : s1.heap.objs.size ≤ c := by
        rcases e' with z | z | z | z | z
        · rw [z]; exact Nat.le_add_right _ _
        · rw [z]; exact Nat.le_add_right _ _
        · rw [z]; exact Nat.le_add_right _ _
        · rw [z]; exact Nat.le_refl _
        · rw [z]; exact Nat.le_add_right _ _
      exact I1.fpOk hle (I1.hok.fresh hle)
end MM

set_option Elab.async false
set_option linter.all false
set_option maxRecDepth 100000
set_option maxHeartbeats 4000000
namespace MM
open PySem PySem.Spec PyProof.Rows L2
/-! ### fields -/
def mFld (L : List Addr) (f : Str) (ta : TE) : TE := fun σ H Q => ta σ H fun x H1 => ∃ a C dx fs v, x = .ref a ∧ H1 a = some (.ins C dx fs) ∧ C ∈ L ∧ fs.lookup f = some v ∧ Q v H1
def FOk (K : PySem.W.Frag) (L : List Addr) (f : Str) : Prop := ∀ C ∈ L, Cls K C ∧ NoAttr K C f
/-- o.f = value -/
def mSetF (L : List Addr) (f : Str) (ta tv : TE) : TS := fun D σ H => tv σ H fun y H1 => ta σ H1 fun x H2 => ∃ a C dx fs, x = .ref a ∧ H2 a = some (.ins C dx fs) ∧ C ∈ L ∧ fs.length < 1000 ∧
  ∀ H', Wr H2 a (.ins C dx (putF f y fs)) H' → D.nx σ H'
/-- o.f op= value, by values -/
def mAugF (rd : V → V → Hp → VK → Prop) (L : List Addr) (f : Str) (ta tv : TE) : TS := fun D σ H => ta σ H fun x H1 => ∃ a C dx fs v, x = .ref a ∧ H1 a = some (.ins C dx fs) ∧ C ∈ L ∧ fs.lookup f = some v ∧
  tv σ H1 fun y H2 => rd v y H2 fun z H3 => ∃ dx' fs', H3 a = some (.ins C dx' fs') ∧ fs'.length < 1000 ∧ ∀ H', Wr H3 a (.ins C dx' (putF f z fs')) H' → D.nx σ H'
section
variable {X : Cx} {o e value : Expr} {f : Str} {pos pos' tpos : Pos} {ta tv : TE} {L : List Addr}
theorem pm_fld (h : FOk X.K L f) (he : PE X e ta) (hb : attributeBase e f X.env (eval e X.env) = eval e X.env := by rfl) : PE X (.Attribute e f pos) (mFld L f ta) := by
  refine ⟨fun pins s σ H Q I q => ?_⟩
  refine attr_of hb (thn (he.run pins s σ H _ I q) fun u s1 ⟨x, H1, I1, rx, a, C, dx, fs, v, ex, ea, hC, l, q⟩ => ?_)
  subst ex
  obtain rfl : u = Value.ref a := rx
  exact getattr_ok I1 ea (h C hC).1 (h C hC).2 l fun u' s2 I2 ru => ⟨v, H1, I2, ru, q⟩
theorem pm_setf (h : FOk X.K L f) (ha : PE X o ta) (hv : PE X value tv) (hs : swapsWith value (some (.Attribute o f pos')) pos.line X.env = pure false := by rfl) : PS X (.Assign [.Attribute o f pos'] value pos) (mSetF L f ta tv) := by
  refine ⟨fun pins s σ H D I q => ?_⟩
  refine plainObj_wpAny_Assign_Attribute (thn (hv.run pins s σ H _ I q) fun u s1 ⟨y, H1, I1, ry, q⟩ => thn (ha.run pins s1 σ H1 _ I1 q) fun ov s2 ⟨x, H2, I2, rx, a, C, dx, fs, ex, ea, hC, l, q2⟩ => ?_) hs
  subst ex
  obtain rfl : ov = Value.ref a := rx
  exact setattr_ok I2 ea (h C hC).1 (h C hC).2 l ry fun s3 I3 => ⟨σ, _, I3, q2 _ rfl⟩
theorem pm_augf {op : Operator} {rd : V → V → Hp → VK → Prop} (h : FOk X.K L f) (ha : PE X o ta) (hv : PE X value tv) (hop : InOp X op rd) : PS X (.AugAssign (.Attribute o f tpos) op value pos) (mAugF rd L f ta tv) := by
  refine ⟨fun pins s σ H D I q => ?_⟩
  refine wpAny_AugAssign_AttributeAny (thn (ha.run pins s σ H _ I q) fun ov s1 ⟨x, H1, I1, rx, a, C, dx, fs, v, ex, ea, hC, l, q⟩ => ?_)
  subst ex
  obtain rfl : ov = Value.ref a := rx
  refine getattr_ok I1 ea (h C hC).1 (h C hC).2 l fun u s2 I2 ru => thn (hv.run pins s2 σ H1 _ I2 q) fun w3 s3 ⟨y, H2, I3, ry, q3⟩ => thn (hop pins s3 σ H2 v y u w3 _ I3 ru ry q3) fun w4 s4 ⟨z, H3, I4, rz, dx', fs', ea', l', q4⟩ => ?_
  exact setattr_ok I4 ea' (h C hC).1 (h C hC).2 l' rz fun s5 I5 => ⟨σ, _, I5, q4 _ rfl⟩
end
/-! ### methods of built-in types -/
def tyM (T : String) (x : V) (H : Hp) : Prop :=
  match x with
  | .str _ => T = "str"
  | .int _ => T = "int"
  | .ref p => (match H p with
    | some (.lst _) => T = "list"
    | some (.dK _) => T = "dict"
    | some (.dT _) => T = "dict"
    | _ => False)
  | _ => False
theorem tyM_V {K : PySem.W.Frag} {T : String} {x : V} {H : Hp} (h : tyM T x H) : tyV K T x H := by
  unfold tyM at h
  split at h
  · exact h
  · exact h
  · split at h
    · rename_i xs e; exact .inl ⟨h, xs, .inl (.inl e)⟩
    · rename_i xs e; exact .inr (.inr (.inl ⟨h, .inl ⟨_, e⟩⟩))
    · rename_i xs e; exact .inr (.inr (.inl ⟨h, .inr ⟨_, e⟩⟩))
    · exact h.elim
  · exact h.elim
def mBM (T : String) (r : V → List V → Hp → VK → Prop) (to : TE) (t : TA) : TE := fun σ H Q => to σ H fun x H1 => tyM T x H1 ∧ t σ H1 fun xs H2 => r x xs H2 Q
section
variable {X : Cx} {o e : Expr} {es : List Expr} {to : TE} {t : TA} {name : Str} {apos cpos : Pos} {T id : String} {r : V → List V → Hp → VK → Prop}
theorem pm_bm0 (pa : PlainAttrs T) (slot : Slot T name id) (hty : typeOf (.builtin id) = pure (.type "method_descriptor")) (hm : MtR X id r) (ho : PE X o to)
    (hbase : attributeBase o name X.env (eval o X.env) = eval o X.env := by rfl) (hline : (apos.endLine == cpos.line) = true := by rfl) : PE X (.Call (.Attribute o name apos) [] [] cpos) (mBM T r to tNil) := by
  refine ⟨fun pins s σ H Q I h => ?_⟩
  refine wpAny_Call_method0_late hbase hline (thn (ho.run pins s σ H _ I h) fun v s1 ⟨x, H1, I1, r1, ty, q1⟩ => ?_)
  obtain ⟨h1, h2⟩ := tyV_is I1 r1 (tyM_V ty)
  exact ⟨T, id, pa, slot, hty, h1, h2, Calls.callWith_builtin rfl (PySem.evalArgs_none (hm pins s1 σ H1 x [] v [] Q I1 r1 .nil q1))⟩
theorem pm_bm (pa : PlainAttrs T) (slot : Slot T name id) (hty : typeOf (.builtin id) = pure (.type "method_descriptor")) (hm : MtR X id r) (ho : PE X o to) (ha : PA X (e :: es) t)
    (hbase : attributeBase o name X.env (eval o X.env) = eval o X.env := by rfl)
    (hfew : ((backTo cpos (starEach (e :: es) X.env)).all (fun x => !x.1) && (backToKw cpos (keywordEach [] X.env)).all (fun x => x.1.isSome)
      && decide ((e :: es).length + ([] : List Keyword).length + (if ([] : List Keyword).isEmpty then 0 else 1) < 30)) = true := by rfl)
    (hline : (apos.endLine == cpos.line) = true := by rfl) (hs : starEach (e :: es) X.env = (false, eval e X.env) :: starEach es X.env := by rfl) (hplain : (backTo cpos (starEach es X.env)).any (·.1) = false := by rfl) :
    PE X (.Call (.Attribute o name apos) (e :: es) [] cpos) (mBM T r to t) := by
  refine ⟨fun pins s σ H Q I h => ?_⟩
  refine wpAny_Call_method_late hbase hfew hline rfl (thn (ho.run pins s σ H _ I h) fun v s1 ⟨x, H1, I1, r1, ty, q1⟩ => ?_)
  obtain ⟨h1, h2⟩ := tyV_is I1 r1 (tyM_V ty)
  refine ⟨T, id, pa, slot, hty, h1, h2, ?_⟩
  have hA := ha.run cpos pins s1 σ H1 _ I1 q1
  rw [hs] at hA ⊢
  refine Calls.callWith_builtin (by show (false || (backTo cpos (starEach es X.env)).any (·.1)) = false; rw [hplain] <;> rfl) (Calls.evalArgs_plain ?_)
  exact thn hA fun us s2 ⟨vs, H2, I2, r2, q2⟩ => hm pins s2 σ H2 x vs v us Q I2 r1 r2 q2
/-! ### a dict's methods -/
def mGet : V → List V → Hp → VK → Prop := fun x vs H Q =>
  match x, vs with
  | .ref d, [y] => kvLook H d y fun o => Q (o.getD .non) H
  | .ref d, [y, z] => kvLook H d y fun o => Q (o.getD z) H
  | _, _ => False
theorem m_get (hu : X.A.units + 1 < cLine) : MtR X "dict.get" mGet := by
  intro pins s σ H x xs v us Q I rx rxs h
  unfold mGet at h
  split at h
  · rename_i d y
    obtain rfl : v = Value.ref d := rx
    obtain ⟨u1, rfl, r1⟩ := vals1 rxs
    obtain ⟨o, g, q⟩ := kvLook_get h
    exact d_get1 hu I g r1 fun w' s' I' rw' => ⟨_, H, I', rw', q⟩
  · rename_i d y z
    obtain rfl : v = Value.ref d := rx
    obtain ⟨u1, u2, rfl, r1, r2⟩ := vals2 rxs
    obtain ⟨o, g, q⟩ := kvLook_get h
    exact d_get2 hu I g r1 r2 fun w' s' I' rw' => ⟨_, H, I', rw', q⟩
  · exact h.elim
/-- the dict at d with the key y: v there, and the heap without it; or not there -/
def kvPop (H : Hp) (d : Addr) (y : V) (Q : VK) (N : Prop) : Prop :=
  match H d with
  | some (.dK kvs) => (match keyOf y with
    | some k => (match valV kvs k with
      | some v => ∀ H', Wr H d (.dK (dropK kvs k)) H' → Q v H'
      | none => N)
    | none => False)
  | some (.dT kvs) => (match y with
    | .ref b => (match H b with
      | some (.tup xs) => (match keysOf xs with
        | some ks => (match valV kvs ks with
          | some v => ∀ H', Wr H d (.dT (dropK kvs ks)) H' → Q v H'
          | none => N)
        | none => False)
      | _ => False)
    | _ => False)
  | _ => False
theorem kt_at {H : Hp} {kvs : List (List Key × V)} {xs : List (List Key × Addr × Value)} (rel : KT H kvs xs) (ks : List Key) :
    (valV kvs ks = none ∧ atKey xs ks = none) ∨ ∃ v p, valV kvs ks = some v ∧ atKey xs ks = some p ∧ RelV v p.2 := by
  have r := rel.val ks
  cases e1 : valV kvs ks with
  | none =>
    cases e2 : atKey xs ks with
    | none => exact .inl ⟨rfl, rfl⟩
    | some p => rw [e1, e2] at r; exact (show False from r).elim
  | some v =>
    cases e2 : atKey xs ks with
    | none => rw [e1, e2] at r; exact (show False from r).elim
    | some p => rw [e1, e2] at r; exact .inr ⟨v, p, rfl, rfl, r⟩
theorem withoutH_drop {xs : List (List Key × Addr × Value)} {k : List Key} : withoutH xs k = DT.dropH xs k := by
  unfold withoutH DT.dropH
  congr 1
theorem m_popCore (hu : X.A.units + 1 < cLine) {pins : List (Addr × Obj)} {s : Shared} {σ : L2.St} {H : Hp} {d : Addr} {y : V} {u : Value} {more : List Value} {Q : VK} {N : Prop} (I : Inv X pins σ H s) (ry : RelV y u) (hm : more = [] ∨ ∃ x, more = [x])
    (h : kvPop H d y Q N) (hN : N → (∃ z x, more = [x] ∧ RelV z x ∧ Q z H)) : wpAny (model X.prog X.w) X.A (call (.builtin "dict.pop") (.ref d :: u :: more)) (EP X pins σ Q) X.xe s := by
  unfold kvPop at h
  split at h
  · rename_i kvs e
    split at h
    · rename_i k ek
      have ey := keyOf_eq ek
      subst ey
      split at h
      · rename_i v ev
        exact d_pop I e ry ev hm fun w' s' I' rw' => ⟨v, _, I', rw', h _ rfl⟩
      · rename_i ev
        obtain ⟨z, x, rfl, rz, q⟩ := hN h
        exact d_popD I e ry ev fun s' I' => ⟨z, H, I', rz, q⟩
    · exact h.elim
  · rename_i kvs e
    split at h
    · rename_i b
      split at h
      · rename_i xs eb
        split at h
        · rename_i ks ek
          rw [keysOf_eq ek] at eb
          obtain rfl : u = Value.ref b := ry
          obtain ⟨z, hd, xs', rel, dd⟩ := dt_of I.hok e
          have hz : xs'.length ≤ sizeLine := by rw [← Paired.length rel]; exact z
          rcases kt_at rel ks with ⟨e1, e2⟩ | ⟨v, p, e1, e2, rv⟩
          · rw [e1] at h
            obtain ⟨z', x, rfl, rz, q⟩ := hN h
            exact call_pop_default_heap (tupleKind_room_in1 hu) (key_of I.hok eb) hd dd e2 (fun tk => ⟨z', H, I.tok tk, rz, q⟩) hz
          · rw [e1] at h
            refine call_pop_heap hm (by rcases hm with rfl | ⟨x, rfl⟩; exact PySem.F.args_dict_pop_2 _ _; exact PySem.F.args_dict_pop_3 _ _ _) (tupleKind_room_in1 hu) (key_of I.hok eb) hd dd e2 (fun h' dd' hs => ?_) hz
            rw [withoutH_drop] at dd'
            obtain ⟨o, es, ep, hq, h2, h3, h4, _, h5⟩ := dd'
            refine ⟨v, _, d_write (ob := .dT (dropK kvs ks)) I (by rw [e]; exact True.intro) hs ⟨o, hq⟩ ⟨Nat.le_trans (dropK_le kvs ks) z, hd, _, (DX.KT_drop ks rel).keeps (fun c ys ec => (by rw [upd_ne (ne_of ec e (fun z => nomatch z))]; exact ec)), o, es, ep, hq, h2, h3, h4, h5⟩, rv, h _ rfl⟩
        · exact h.elim
      · exact h.elim
    · exact h.elim
  · exact h.elim
def mPop : V → List V → Hp → VK → Prop := fun x vs H Q =>
  match x, vs with
  | .ref d, [y] => kvPop H d y Q False
  | .ref d, [y, z] => kvPop H d y Q (Q z H)
  | _, _ => False
theorem m_pop (hu : X.A.units + 1 < cLine) : MtR X "dict.pop" mPop := by
  intro pins s σ H x xs v us Q I rx rxs h
  unfold mPop at h
  split at h
  · rename_i d y
    obtain rfl : v = Value.ref d := rx
    obtain ⟨u1, rfl, r1⟩ := vals1 rxs
    exact m_popCore hu I r1 (.inl rfl) h fun n => n.elim
  · rename_i d y z
    obtain rfl : v = Value.ref d := rx
    obtain ⟨u1, u2, rfl, r1, r2⟩ := vals2 rxs
    exact m_popCore hu I r1 (.inr ⟨_, rfl⟩) h fun n => ⟨z, u2, rfl, r2, n⟩
  · exact h.elim
def mSetd : V → List V → Hp → VK → Prop := fun x vs H Q =>
  match x, vs with
  | .ref d, [y, z] => (match H d with
    | some (.dK kvs) => (match keyOf y with
      | some k => kvs.length < sizeLine ∧ (match valV kvs k with
        | some v => Q v H
        | none => ∀ H', Wr H d (.dK (putK kvs k z)) H' → Q z H')
      | none => False)
    | some (.dT kvs) => (match y with
      | .ref b => (match H b with
        | some (.tup xs) => (match keysOf xs with
          | some ks => kvs.length < sizeLine ∧ (match valV kvs ks with
            | some v => Q v H
            | none => ∀ H', Wr H d (.dT (putK kvs ks z)) H' → Q z H')
          | none => False)
        | _ => False)
      | _ => False)
    | _ => False)
  | _, _ => False
theorem m_setd (hu : X.A.units + 1 < cLine) : MtR X "dict.setdefault" mSetd := by
  intro pins s σ H x xs v us Q I rx rxs h
  unfold mSetd at h
  split at h
  · rename_i d y z
    obtain rfl : v = Value.ref d := rx
    obtain ⟨u1, u2, rfl, r1, r2⟩ := vals2 rxs
    split at h
    · rename_i kvs e
      split at h
      · rename_i k ek
        have ey := keyOf_eq ek
        subst ey
        obtain ⟨hl, h⟩ := h
        refine d_setd I e r1 r2 hl (fun v hv w' s' I' rw' => ⟨v, _, I', rw', ?_⟩) (fun hv w' s' I' rw' => ⟨z, _, I', rw', ?_⟩)
        · rw [hv] at h; exact h
        · rw [hv] at h; exact h _ rfl
      · exact h.elim
    · rename_i kvs e
      split at h
      · rename_i b
        split at h
        · rename_i xs eb
          split at h
          · rename_i ks ek
            rw [keysOf_eq ek] at eb
            obtain ⟨hl, h⟩ := h
            obtain rfl : u1 = Value.ref b := r1
            obtain ⟨zz, hd, xs', rel, dd⟩ := dt_of I.hok e
            have hz : xs'.length ≤ sizeLine := by rw [← Paired.length rel]; exact zz
            refine call_setdefault_heap (tupleKind_room_in1 hu) (key_of I.hok eb) hd dd (fun p hp => ?_) (fun hn h' dd' hs => ?_) hz
            · rcases kt_at rel ks with ⟨e1, e2⟩ | ⟨v, p', e1, e2, rv⟩
              · rw [hp] at e2; cases e2
              · rw [hp] at e2; cases e2
                rw [e1] at h
                exact ⟨v, H, I.tok _, rv, h⟩
            · rcases kt_at rel ks with ⟨e1, e2⟩ | ⟨v, p', e1, e2, rv⟩
              · rw [e1] at h
                obtain ⟨o, es, ep, hq, h2, h3, h4, _, h5⟩ := dd'
                refine ⟨z, _, d_write (ob := .dT (putK kvs ks z)) I (by rw [e]; exact True.intro) hs ⟨o, hq⟩ ⟨Nat.le_trans (length_putK kvs ks z) (Nat.succ_le_of_lt hl), hd, _, (rel.put ks eb r2).keeps (fun c ys ec => (by rw [upd_ne (ne_of ec e (fun z => nomatch z))]; exact ec)), o, es, ep, hq, h2, h3, h4, h5⟩, r2, h _ rfl⟩
              · rw [hn] at e2; cases e2
          · exact h.elim
        · exact h.elim
      · exact h.elim
    · exact h.elim
  · exact h.elim
/-! ### a list's methods -/
def mAppend : V → List V → Hp → VK → Prop := fun x vs H Q => match x, vs with
  | .ref l, [y] => (match H l with
    | some (.lst xs) => xs.length < sizeLine ∧ ∀ H', Wr H l (.lst (xs ++ [y])) H' → Q .non H'
    | _ => False)
  | _, _ => False
theorem m_append : MtR X "list.append" mAppend := by
  intro pins s σ H x xs v us Q I rx rxs h
  unfold mAppend at h
  split at h
  · split at h
    · rename_i e
      exact mt_append pins s σ H _ _ v us Q I rx rxs ⟨_, _, _, rfl, rfl, e, h.1, h.2 _ rfl⟩
    · exact h.elim
  · exact h.elim
def mExtend : V → List V → Hp → VK → Prop := fun x vs H Q => match x, vs with
  | .ref l, [.ref b] => (match H l, H b with
    | some (.lst xs), some (.lst zs) => xs.length + zs.length ≤ sizeLine ∧ ∀ H', Wr H l (.lst (xs ++ zs)) H' → Q .non H'
    | _, _ => False)
  | _, _ => False
theorem m_extend : MtR X "list.extend" mExtend := by
  intro pins s σ H x xs v us Q I rx rxs h
  unfold mExtend at h
  split at h
  · split at h
    · rename_i e e2
      exact mt_extend pins s σ H _ _ v us Q I rx rxs ⟨_, _, _, _, rfl, rfl, e, e2, h.1, h.2 _ rfl⟩
    · exact h.elim
  · exact h.elim
def mPopL : V → List V → Hp → VK → Prop := fun x vs H Q => match x, vs with
  | .ref l, [] => (match H l with
    | some (.lst xs) => ∃ y, xs[xs.length - 1]? = some y ∧ ∀ H', Wr H l (.lst xs.dropLast) H' → Q y H'
    | _ => False)
  | _, _ => False
theorem m_popL : MtR X "list.pop" mPopL := by
  intro pins s σ H x xs v us Q I rx rxs h
  unfold mPopL at h
  split at h
  · split at h
    · rename_i e
      obtain ⟨y, hy, q⟩ := h
      exact mt_pop pins s σ H _ _ v us Q I rx rxs ⟨_, _, y, rfl, rfl, e, hy, q _ rfl⟩
    · exact h.elim
  · exact h.elim
/-! ### displays -/
def mTup (t : TA) : TE := fun σ H Q => t σ H fun xs H1 => xs.length ≤ sizeLine ∧ ∀ p H', New H1 p (.tup xs) H' → Q (.ref p) H'
def mLst (t : TA) : TE := fun σ H Q => t σ H fun xs H1 => xs.length ≤ sizeLine ∧ ∀ p H', New H1 p (.lst xs) H' → Q (.ref p) H'
theorem pm_tupE {pos : Pos} {x1} (h : PA X es t) : PE X (.Tuple es x1 pos) (mTup t) := by
  refine ⟨fun pins s σ H Q I hq => ?_⟩
  refine wpAny_Tuple_spliced (thn (h.run pos pins s σ H _ I hq) fun us s1 ⟨xs, H1, I1, r, z, q⟩ => ⟨by rw [← r.length]; exact z, ?_⟩)
  have hf : H1 s1.heap.objs.size = none := I1.hok.fresh (Nat.le_refl _)
  refine ⟨.ref s1.heap.objs.size, upd H1 s1.heap.objs.size (.tup xs), I1.laid (t' := s1.toks) (fun b u e => Heap.get?_push_of_some _ e) (Nat.le_refl _) ?_, rfl, q _ _ ⟨hf, rfl⟩⟩
  exact ⟨z, us, r, ⟨_, Heap.get?_push_size _ rfl, rfl, _, rfl⟩⟩
theorem pm_lstE {pos : Pos} (h : PA X es t) : PE X (.List es pos) (mLst t) := by
  refine ⟨fun pins s σ H Q I hq => ?_⟩
  refine wpAny_List_spliced (thn (h.run pos pins s σ H _ I hq) fun us s1 ⟨xs, H1, I1, r, z, q⟩ => ⟨by rw [← r.length]; exact z, ?_⟩)
  have hf : H1 s1.heap.objs.size = none := I1.hok.fresh (Nat.le_refl _)
  refine ⟨.ref s1.heap.objs.size, upd H1 s1.heap.objs.size (.lst xs), I1.laid (t' := s1.toks) (fun b u e => Heap.get?_push_of_some _ e) (Nat.le_refl _) ?_, rfl, q _ _ ⟨hf, rfl⟩⟩
  exact ⟨z, us, 0, r, Heap.get?_push_size _ rfl⟩
def mDictK : TE := fun _ H Q => ∀ p H', New H p (.dK []) H' → Q (.ref p) H'
def mDictT : TE := fun _ H Q => ∀ p H', New H p (.dT []) H' → Q (.ref p) H'
theorem pm_dictK {pos : Pos} : PE X (.Dict [] [] pos) mDictK := ⟨fun pins s σ H Q I h => pe_dnewK.run pins s σ H Q I fun p hp => h p _ ⟨hp, rfl⟩⟩
theorem pm_dictT {pos : Pos} : PE X (.Dict [] [] pos) mDictT := ⟨fun pins s σ H Q I h => pe_dnewT.run pins s σ H Q I fun p hp => h p _ ⟨hp, rfl⟩⟩
end
end MM

set_option Elab.async false
set_option linter.all false
set_option maxRecDepth 100000
set_option maxHeartbeats 4000000
namespace MM
open PySem PySem.Spec PyProof.Rows L2
/-! ### len -/
def mLen : List V → Hp → VK → Prop := fun vs H Q =>
  match vs with
  | [.str z] => z.length ≤ sizeLine ∧ Q (.int z.length) H
  | [.ref p] => (match H p with
    | some (.lst xs) => Q (.int xs.length) H
    | some (.tup xs) => Q (.int xs.length) H
    | some (.dK kvs) => Q (.int kvs.length) H
    | some (.dT kvs) => Q (.int kvs.length) H
    | _ => False)
  | _ => False
section
variable {X : Cx}
theorem call_mLen : CallR X (.builtin "len") mLen := by
  intro pins s σ H xs us Q I r h
  unfold mLen at h
  split at h
  · rename_i z
    exact call_len_str pins s σ H _ us Q I r ⟨z, rfl, h.1, h.2⟩
  · rename_i p
    split at h
    · rename_i xs e
      exact call_len_seq pins s σ H _ us Q I r ⟨p, xs, rfl, .inl (.inl (.inl e)), h⟩
    · rename_i xs e
      exact call_len_seq pins s σ H _ us Q I r ⟨p, xs, rfl, .inr (.inl (.inl e)), h⟩
    · rename_i kvs e
      obtain ⟨u, rfl, rx⟩ := vals1 r
      cases rx
      exact d_len I (.inl e) fun t s' I' => ⟨.int kvs.length, H, I', ⟨t, rfl⟩, h⟩
    · rename_i kvs e
      exact call_len_dT pins s σ H _ us Q I r ⟨p, kvs, rfl, e, h⟩
    · exact h.elim
  · exact h.elim
/-- len of the script (a list that may stand in the written part) -/
def mLenS (K : PySem.W.Frag) : List V → Hp → VK → Prop := fun xs H Q => ∃ p ys, xs = [.ref p] ∧ SqL K H p ys ∧ Q (.int ys.length) H
theorem call_mLenS : CallR X (.builtin "len") (mLenS X.K) := by
  intro pins s σ H xs us Q I r ⟨p, ys, e, h, q⟩
  exact call_len_seq pins s σ H xs us Q I r ⟨p, ys, e, .inl h, q⟩
/-! ### isinstance of a built-in class -/
def tyN (x : V) (H : Hp) : Option String :=
  match x with
  | .non => some "NoneType"
  | .bl _ => some "bool"
  | .int _ => some "int"
  | .str _ => some "str"
  | .ref a => (match H a with
    | some (.lst _) => some "list"
    | some (.frz _ (.lst _)) => some "list"
    | some (.tup _) => some "tuple"
    | some (.dK _) => some "dict"
    | some (.dT _) => some "dict"
    | _ => none)
  | _ => none
theorem tyN_of {K : PySem.W.Frag} {x : V} {H : Hp} {t : String} (h : tyN x H = some t) : TyX K H x (.type t) := by
  unfold tyN at h
  split at h
  · cases h; exact .base .non
  · cases h; exact .base (.bl _)
  · cases h; exact .base (.int _)
  · cases h; exact .base (.str _)
  · split at h
    · rename_i e; cases h; exact .base (.lst e)
    · rename_i e; cases h; exact .base (.frz e)
    · rename_i e; cases h; exact .base (.tup e)
    · rename_i e; cases h; exact .base (.dK e)
    · rename_i e; cases h; exact .base (.dT e)
    · cases h
  · cases h
/-- is a value of the type a one of b's: the kinds that stand in the texts -/
def isA (a b : String) : Bool := a == b || (a == "bool" && b == "int")
def kitDom : List String := ["NoneType", "bool", "int", "str", "list", "tuple", "dict"]
theorem kit_all : (kitDom.all fun a => ["bool", "int", "str", "list", "tuple", "dict"].all fun b => kitB a b == some (isA a b)) = true := by decide +kernel
theorem kit_isA {K : PySem.W.Frag} {a b : String} (ha : a ∈ kitDom) (hb : b ∈ ["bool", "int", "str", "list", "tuple", "dict"]) : PySem.W.kitOne K (.type a) (.type b) = some (isA a b) := by
  have h := List.all_eq_true.mp (List.all_eq_true.mp kit_all a ha) b hb
  exact kit_ty (beq_iff_eq.mp h)
theorem tyN_dom {x : V} {H : Hp} {t : String} (h : tyN x H = some t) : t ∈ kitDom := by
  unfold tyN at h
  unfold kitDom
  split at h
  · cases h; decide
  · cases h; decide
  · cases h; decide
  · cases h; decide
  · split at h
    · cases h; decide
    · cases h; decide
    · cases h; decide
    · cases h; decide
    · cases h; decide
    · cases h
  · cases h
def mIsi : List V → Hp → VK → Prop := fun vs H Q =>
  match vs with
  | [x, .ty b] => (match tyN x H with
    | some a => b ∈ ["bool", "int", "str", "list", "tuple", "dict"] ∧ Q (.bl (isA a b)) H
    | none => False)
  | _ => False
theorem call_mIsi : CallR X (.builtin "isinstance") mIsi := by
  intro pins s σ H xs us Q I r h
  unfold mIsi at h
  split at h
  · rename_i x b
    split at h
    · rename_i a e
      exact call_isi pins s σ H _ us Q I r ⟨x, .ty b, .type a, .type b, _, rfl, .ty b, tyN_of e, kit_isA (tyN_dom e) h.1, h.2⟩
    · exact h.elim
  · exact h.elim
/-! ### in, not in -/
def mIn (neg : Bool) : R2 := fun x y H Q =>
  match y with
  | .str z => (match x with
    | .str ⟨⟨[c]⟩⟩ => Q (.bl (if neg then !decide (c ∈ z.cps.toList) else decide (c ∈ z.cps.toList))) H
    | _ => False)
  | .ref p => (match seqAt H p with
    | some xs => flatV x = true ∧ xs.all flatV = true ∧ Q (.bl (if neg then !inV x xs else inV x xs)) H
    | none => kvLook H p x fun o => Q (.bl (if neg then !o.isSome else o.isSome)) H)
  | _ => False
theorem m_in (hu : X.A.units + 1 < cLine) : OpR X (compareOp .In) (mIn false) := by
  intro pins s σ H x y v u Q I rx ry h
  unfold mIn at h
  split at h
  · rename_i z
    split at h
    · rename_i c
      exact op_in_sign pins s σ H _ _ v u Q I rx ry ⟨c, z, rfl, rfl, h⟩
    · exact h.elim
  · rename_i p
    split at h
    · rename_i xs e
      exact op_in_seq pins s σ H _ _ v u Q I rx ry ⟨p, xs, rfl, seqAt_sq e, h.1, h.2.1, h.2.2⟩
    · obtain ⟨o, g, q⟩ := kvLook_get h
      obtain rfl : u = Value.ref p := ry
      exact d_in hu I g rx fun s' I' => ⟨.bl o.isSome, H, I', rfl, q⟩
  · exact h.elim
theorem m_notIn (hu : X.A.units + 1 < cLine) : OpR X (compareOp .NotIn) (mIn true) := by
  intro pins s σ H x y v u Q I rx ry h
  unfold mIn at h
  split at h
  · rename_i z
    split at h
    · rename_i c
      exact op_notIn_sign pins s σ H _ _ v u Q I rx ry ⟨c, z, rfl, rfl, h⟩
    · exact h.elim
  · rename_i p
    split at h
    · rename_i xs e
      exact op_notIn_seq pins s σ H _ _ v u Q I rx ry ⟨p, xs, rfl, seqAt_sq e, h.1, h.2.1, h.2.2⟩
    · obtain ⟨o, g, q⟩ := kvLook_get h
      obtain rfl : u = Value.ref p := ry
      exact d_notIn hu I g rx fun s' I' => ⟨.bl (!o.isSome), H, I', rfl, q⟩
  · exact h.elim
/-! ### +, slices, tuple(..), list(..) -/
def mAdd : R2 := fun x y H Q =>
  match x, y with
  | .int i, .int j => Q (.int (i + j)) H
  | .str i, .str j => i.length + j.length ≤ sizeLine ∧ Q (.str (i ++ j)) H
  | .ref a, .ref b => (match H a, H b with
    | some (.lst xs), some (.lst ys) => xs.length + ys.length ≤ sizeLine ∧ ∀ p H', New H p (.lst (xs ++ ys)) H' → Q (.ref p) H'
    | some (.tup xs), some (.tup ys) => xs ≠ [] ∧ xs.length + ys.length ≤ sizeLine ∧ (ys = [] → Q (.ref a) H) ∧ (ys ≠ [] → ∀ p H', New H p (.tup (xs ++ ys)) H' → Q (.ref p) H')
    | _, _ => False)
  | _, _ => False
theorem m_add : OpR X (binaryOp .Add) mAdd := by
  intro pins s σ H x y v u Q I rx ry h
  unfold mAdd at h
  split at h
  · rename_i i j
    exact op_add pins s σ H _ _ v u Q I rx ry ⟨i, j, rfl, rfl, h⟩
  · rename_i i j
    exact op_add_str pins s σ H _ _ v u Q I rx ry ⟨i, j, rfl, rfl, h.1, h.2⟩
  · rename_i a b
    split at h
    · rename_i xs ys e1 e2
      exact op_cat pins s σ H _ _ v u Q I rx ry ⟨a, b, xs, ys, rfl, rfl, e1, e2, h.1, fun p hp => h.2 p _ ⟨hp, rfl⟩⟩
    · rename_i xs ys e1 e2
      exact op_catT pins s σ H _ _ v u Q I rx ry ⟨a, b, xs, ys, rfl, rfl, .inl (.inl e1), .inl (.inl e2), h.1, h.2.1, h.2.2.1, fun z p hp => h.2.2.2 z p _ ⟨hp, rfl⟩⟩
    · exact h.elim
  · exact h.elim
def mSl : V → Option Int → Option Int → Hp → VK → Prop := fun x lo hi H Q =>
  match x with
  | .str z => z.length ≤ sizeLine ∧ Q (.str (cutS z lo hi)) H
  | .ref a => (match H a with
    | some (.lst xs) => ∀ p H', New H p (.lst (cutV xs lo hi)) H' → Q (.ref p) H'
    | _ => False)
  | _ => False
theorem m_sl : SlR X mSl := by
  intro pins s σ H x v vl vu lo hi sl Q I rx hs pl pu h
  unfold mSl at h
  split at h
  · rename_i z
    exact sl_str pins s σ H _ v vl vu lo hi sl Q I rx hs pl pu ⟨z, rfl, h.1, h.2⟩
  · rename_i a
    split at h
    · rename_i xs e
      exact sl_list pins s σ H _ v vl vu lo hi sl Q I rx hs pl pu ⟨a, xs, rfl, .inl (.inl e), fun p hp => h p _ ⟨hp, rfl⟩⟩
    · exact h.elim
  · exact h.elim
/-- tuple(x): of a list a new one, of a tuple itself -/
def mTupOf : List V → Hp → VK → Prop := fun vs H Q =>
  match vs with
  | [.ref p] => (match H p with
    | some (.lst ys) => ∀ p H', New H p (.tup ys) H' → Q (.ref p) H'
    | some (.tup _) => Q (.ref p) H
    | _ => False)
  | _ => False
theorem call_mTupOf : CallR X (.type "tuple") mTupOf := by
  intro pins s σ H xs us Q I r h
  unfold mTupOf at h
  split at h
  · rename_i p
    split at h
    · rename_i ys e
      exact call_tuple_of pins s σ H _ us Q I r ⟨p, ys, rfl, .inl ⟨.inl (.inl e), fun p hp => h p _ ⟨hp, rfl⟩⟩⟩
    · rename_i ys e
      exact call_tuple_of pins s σ H _ us Q I r ⟨p, ys, rfl, .inr ⟨.inl (.inl e), h⟩⟩
    · exact h.elim
  · exact h.elim
/-- list(x) of a list, a tuple -/
def mListOf : List V → Hp → VK → Prop := fun vs H Q =>
  match vs with
  | [.ref p] => (match seqAt H p with
    | some ys => ∀ p H', New H p (.lst ys) H' → Q (.ref p) H'
    | none => False)
  | _ => False
theorem call_mListOf : CallR X (.type "list") mListOf := by
  intro pins s σ H xs us Q I r h
  unfold mListOf at h
  split at h
  · rename_i p
    split at h
    · rename_i ys e
      exact call_list_of pins s σ H _ us Q I r ⟨p, ys, rfl, seqAt_sq e, fun p hp => h p _ ⟨hp, rfl⟩⟩
    · exact h.elim
  · exact h.elim
/-- int(..), min and max of two, str of an int -/
def mInt : List V → Hp → VK → Prop := fun vs H Q =>
  match vs with
  | [.int i] => Q (.int i) H
  | [.bl k] => Q (.int (if k then 1 else 0)) H
  | [.str a] => a.length ≤ 640 ∧ (match PySem.intText? a with
    | some n => Q (.int n) H
    | none => False)
  | _ => False
theorem call_mInt : CallR X (.type "int") mInt := by
  intro pins s σ H xs us Q I r h
  unfold mInt at h
  split at h
  · exact call_int1 pins s σ H _ us Q I r (.inl ⟨_, rfl, h⟩)
  · exact call_int1 pins s σ H _ us Q I r (.inr ⟨_, rfl, h⟩)
  · rename_i a
    obtain ⟨hl, h⟩ := h
    split at h
    · rename_i n e
      exact call_int_str pins s σ H _ us Q I r ⟨a, n, rfl, e, hl, h⟩
    · exact h.elim
  · exact h.elim
def mMin : List V → Hp → VK → Prop := fun vs H Q =>
  match vs with
  | [.int i, .int j] => Q (.int (if j < i then j else i)) H
  | _ => False
theorem call_mMin (hc : X.calm = true) : CallR X (.builtin "min") mMin := by
  intro pins s σ H xs us Q I r h
  unfold mMin at h
  split at h
  · exact call_min2 hc pins s σ H _ us Q I r ⟨_, _, rfl, h⟩
  · exact h.elim
def mMax : List V → Hp → VK → Prop := fun vs H Q =>
  match vs with
  | [.int i, .int j] => Q (.int (if j > i then j else i)) H
  | _ => False
theorem call_mMax (hc : X.calm = true) : CallR X (.builtin "max") mMax := by
  intro pins s σ H xs us Q I r h
  unfold mMax at h
  split at h
  · exact call_max2 hc pins s σ H _ us Q I r ⟨_, _, rfl, h⟩
  · exact h.elim
def mAbs : List V → Hp → VK → Prop := fun vs H Q =>
  match vs with
  | [.int i] => Q (.int (if i < 0 then -i else i)) H
  | _ => False
theorem call_mAbs : CallR X (.builtin "abs") mAbs := by
  intro pins s σ H xs us Q I r h
  unfold mAbs at h
  split at h
  · exact call_abs pins s σ H _ us Q I r ⟨_, rfl, h⟩
  · exact h.elim
def mStr : List V → Hp → VK → Prop := fun vs H Q =>
  match vs with
  | [.int i] => i.natAbs.log2 < 1920 ∧ Q (.str (toString i)) H
  | _ => False
theorem call_mStr : CallR X (.type "str") mStr := by
  intro pins s σ H xs us Q I r h
  unfold mStr at h
  split at h
  · exact call_str_int pins s σ H _ us Q I r ⟨_, rfl, h.1, h.2⟩
  · exact h.elim
/-! ### methods of texts -/
def mSplit : V → List V → Hp → VK → Prop := fun x vs H Q =>
  match x, vs with
  | .str a, [.str b] => (b.length == 0) = false ∧ a.length + 2 ≤ sizeLine ∧ ∀ p H', New H p (.lst ((Txt.split a b).map V.str)) H' → Q (.ref p) H'
  | _, _ => False
theorem m_split : MtR X "str.split" mSplit := by
  intro pins s σ H x xs v us Q I rx rxs h
  unfold mSplit at h
  split at h
  · exact mt_split pins s σ H _ _ v us Q I rx rxs ⟨_, _, rfl, rfl, h.1, h.2.1, fun p hp => h.2.2 p _ ⟨hp, rfl⟩⟩
  · exact h.elim
def mStarts : V → List V → Hp → VK → Prop := fun x vs H Q =>
  match x, vs with
  | .str a, [.str b] => Q (.bl (Txt.startswith a b)) H
  | _, _ => False
theorem m_starts : MtR X "str.startswith" mStarts := by
  intro pins s σ H x xs v us Q I rx rxs h
  unfold mStarts at h
  split at h
  · exact mt_startswith pins s σ H _ _ v us Q I rx rxs ⟨_, _, rfl, rfl, h⟩
  · exact h.elim
def mJoin : V → List V → Hp → VK → Prop := fun x vs H Q =>
  ∃ (a : Str) (p : Addr) (ys : List Str), x = .str a ∧ vs = [.ref p] ∧ seqAt H p = some (ys.map V.str) ∧ (ys.map (·.length)).sum + ys.length * a.length ≤ 16777216 ∧ Q (.str (Txt.join a ys)) H
theorem m_join : MtR X "str.join" mJoin := by
  intro pins s σ H x xs v us Q I rx rxs ⟨a, p, ys, e1, e2, h, hl, q⟩
  exact mt_join pins s σ H _ _ v us Q I rx rxs ⟨a, p, ys, e1, e2, seqAt_sq h, hl, q⟩
end
end MM

set_option Elab.async false
set_option linter.all false
set_option maxRecDepth 100000
set_option maxHeartbeats 4000000
namespace MM
open PySem PySem.Spec PyProof.Rows L2
/-! ### operators, by cases of the values -/
def oI (g : Int → Int → V) : R2 := fun x y H Q => match x, y with
  | .int i, .int j => Q (g i j) H
  | _, _ => False
def oIc (C : Int → Int → Prop) (g : Int → Int → V) : R2 := fun x y H Q => match x, y with
  | .int i, .int j => C i j ∧ Q (g i j) H
  | _, _ => False
def oEq : R2 := fun x y H Q => scal x y = true ∧ Q (.bl (decide (x = y))) H
def oNe : R2 := fun x y H Q => scal x y = true ∧ Q (.bl (!decide (x = y))) H
def oIsN : R2 := fun x y H Q => match y with
  | .non => Q (.bl (decide (x = .non))) H
  | _ => False
def oNotN : R2 := fun x y H Q => match y with
  | .non => Q (.bl (!decide (x = .non))) H
  | _ => False
def uNeg : V → Hp → VK → Prop := fun x H Q => match x with
  | .int i => Q (.int (-i)) H
  | _ => False
section
variable {X : Cx}
theorem oI_of {f : Value → Value → Sem Value} {g : Int → Int → V} (h : OpR X f (rI0 g)) : OpR X f (oI g) := by
  intro pins s σ H x y v u Q I rx ry q
  unfold oI at q
  split at q
  · exact h pins s σ H _ _ v u Q I rx ry ⟨_, _, rfl, rfl, q⟩
  · exact q.elim
theorem oIc_of {f : Value → Value → Sem Value} {C : Int → Int → Prop} {g : Int → Int → V} (h : OpR X f (rI C g)) : OpR X f (oIc C g) := by
  intro pins s σ H x y v u Q I rx ry q
  unfold oIc at q
  split at q
  · exact h pins s σ H _ _ v u Q I rx ry ⟨_, _, rfl, rfl, q.1, q.2⟩
  · exact q.elim
theorem m_sub : OpR X (binaryOp .Sub) (oI fun i j => .int (i - j)) := oI_of op_sub
theorem m_mul : OpR X (binaryOp .Mult) (oIc CMul fun i j => .int (i * j)) := oIc_of op_mul
theorem m_fdiv : OpR X (binaryOp .FloorDiv) (oIc CDiv fun i j => .int (i / j)) := oIc_of op_fdiv
theorem m_mod : OpR X (binaryOp .Mod) (oIc (fun _ j => 0 < j) fun i j => .int (i % j)) := oIc_of op_mod
theorem m_pow : OpR X (binaryOp .Pow) (oIc CPow fun i j => .int (i ^ j.toNat)) := oIc_of op_pow
theorem m_shl : OpR X (binaryOp .LShift) (oIc CPow fun i j => .int (i * 2 ^ j.toNat)) := oIc_of op_shl
theorem m_shr : OpR X (binaryOp .RShift) (oIc (fun _ j => 0 ≤ j) fun i j => .int (i / 2 ^ j.toNat)) := oIc_of op_shr
theorem m_and : OpR X (binaryOp .BitAnd) (oI fun i j => .int (Builtin.bitAnd i j)) := oI_of op_and
theorem m_or : OpR X (binaryOp .BitOr) (oI fun i j => .int (Builtin.bitOr i j)) := oI_of op_or
theorem m_lt : OpR X (compareOp .Lt) (oI fun i j => .bl (decide (i < j))) := oI_of op_lt
theorem m_le : OpR X (compareOp .LtE) (oI fun i j => .bl (decide (i ≤ j))) := oI_of op_le
theorem m_gt : OpR X (compareOp .Gt) (oI fun i j => .bl (decide (j < i))) := oI_of op_gt
theorem m_ge : OpR X (compareOp .GtE) (oI fun i j => .bl (decide (j ≤ i))) := oI_of op_ge
theorem m_eq : OpR X (compareOp .Eq) oEq := op_eq
theorem m_ne : OpR X (compareOp .NotEq) oNe := op_ne
theorem m_isN : OpR X (compareOp .Is) oIsN := by
  intro pins s σ H x y v u Q I rx ry q
  unfold oIsN at q
  split at q
  · exact op_isN pins s σ H _ _ v u Q I rx ry ⟨rfl, q⟩
  · exact q.elim
theorem m_notN : OpR X (compareOp .IsNot) oNotN := by
  intro pins s σ H x y v u Q I rx ry q
  unfold oNotN at q
  split at q
  · exact op_notN pins s σ H _ _ v u Q I rx ry ⟨rfl, q⟩
  · exact q.elim
theorem m_neg : UnR X (unaryOp .USub) uNeg := by
  intro pins s σ H x v Q I rx q
  unfold uNeg at q
  split at q
  · exact un_neg pins s σ H _ v Q I rx ⟨_, rfl, q⟩
  · exact q.elim
/-- a list of one item and more times an int -/
def oRep : R2 := fun x y H Q => match x, y with
  | .ref l, .int k => (match H l with
    | some (.lst xs) => -(2 ^ 63) ≤ k ∧ k < 2 ^ 63 ∧ xs.length * k.toNat ≤ sizeLine ∧ ∀ p H', New H p (.lst (List.replicate k.toNat xs).flatten) H' → Q (.ref p) H'
    | _ => False)
  | _, _ => False
theorem m_rep : OpR X (binaryOp .Mult) oRep := by
  intro pins s σ H x y v u Q I rx ry q
  unfold oRep at q
  split at q
  · split at q
    · rename_i e
      exact op_rep pins s σ H _ _ v u Q I rx ry ⟨_, _, _, rfl, rfl, e, q.1, q.2.1, q.2.2.1, fun p hp => q.2.2.2 p _ ⟨hp, rfl⟩⟩
    · exact q.elim
  · exact q.elim
/-! ### statements in short -/
theorem pm_set (i : Nat) {x : Str} {e : Expr} {te : TE} {pos pos' : Pos} (hN : X.N.Nodup) (he : PE X e te) (hi : X.N[i]? = some x := by rfl) (hx : Loc X.env.scope x := by first | exact Or.inl rfl | exact Or.inr rfl) (hs : swapsWith e (some (.Name x pos')) pos.line X.env = pure false := by rfl) (hf : X.fn x = true ∨ X.env.scope.names.lookup x = some .local := by first | exact .inl rfl | exact .inr rfl | assumption) :
    PS X (.Assign [.Name x pos'] e pos) (tAsg te (gName i)) := ps_set hN hi hx he hs hf
theorem pm_name (i : Nat) {x : Str} {pos : Pos} (hN : X.N.Nodup) (hi : X.N[i]? = some x := by rfl) (hx : Loc X.env.scope x := by first | exact Or.inl rfl | exact Or.inr rfl) (hf : X.fn x = true ∨ X.env.scope.names.lookup x = some .local := by first | exact .inl rfl | exact .inr rfl | assumption) : PG X (.Name x pos) (gName i) := pg_name hN hi hx hf
/-- a, b = e, e a tracked tuple of that length -/
def gTupM (n : Nat) (t : TGs) : TG := fun v σ H Q => match v with
  | .ref a => (match H a with
    | some (.tup xs) => xs.length = n ∧ t xs σ H Q
    | _ => False)
  | _ => False
theorem pm_tup {es : List Expr} {k : Nat} {pos : Pos} {t : TGs} {n : Nat} (hc : X.calm = true) (h : PGs X es t)
    (hn : (assignEach es X.env).length = n := by rfl) (hst : (assignEach es X.env).findIdx? (·.1) = none := by rfl) : PG X (.Tuple es k pos) (gTupM n t) := by
  refine ⟨fun pins s σ H v u Q I r q => ?_⟩
  unfold gTupM at q
  split at q
  · split at q
    · rename_i e
      exact (pg_tup hc h hn hst).run pins s σ H _ u Q I r ⟨_, _, rfl, .inl (.inl e), q.1, q.2⟩
    · exact q.elim
  · exact q.elim
end
/-! ### the head's facts, as what they say -/
open He in
def facP (K : PySem.W.Frag) (mg : Str → Option Value) : He.Fa → Prop
  | .glo x => mg x = some (.ref (ga K x))
  | .free x => mg x = none
  | .int x i => ∃ t, mg x = some (.int i t)
  | .str x z => ∃ t, mg x = some (.str z t)
  | .cls x => Cls K (ga K x)
  | .noat x f => NoAttr K (ga K x) f
  | .meth x m => Meth K (ga K x) m (ma K (ga K x) m)
  | .mkr x => Mk K (ga K x) (ma K (ga K x) "__init__")
  | .exc x => PySem.W.excIn K (ga K x) veBase "ValueError.__new__" = true ∧ PySem.W.keepIn K (.ref (ga K x)) = true ∧ PySem.W.subIn K (.ref (ga K x)) (.type "BaseException") = some true ∧ PySem.W.typeIn K (.ref (ga K x)) = some (.type "type")
  | .exm x y b => PySem.W.exmOne K (.ref (ga K x)) (.ref (ga K y)) = some b
  | .keep x => PySem.W.keepIn K (.ref (ga K x)) = true
  | .code _ _ => True
theorem facP_of {K : PySem.W.Frag} {h : Heap} {mg : Str → Option Value} (X : K.In h) (G : h.Ns mainGlobals mg) : ∀ {f : He.Fa}, f.ok K = true → facP K mg f
  | .glo x, c => He.glo_ok X G c
  | .free x, c => He.free_ok X G c
  | .int x i, c => He.int_ok X G c
  | .str x z, c => He.str_ok X G c
  | .cls x, c => He.cls_ok c
  | .noat x f, c => He.noat_ok c
  | .meth x m, c => He.meth_ok c
  | .mkr x, c => He.mkr_ok c
  | .exc x, c => He.exc_ok c
  | .exm x y b, c => He.exm_ok c
  | .keep x, c => He.keep_ok c
  | .code _ _, _ => trivial
theorem mem_at {α : Type} {l : List α} {a : α} (i : Nat) (h : l[i]? = some a) : a ∈ l := List.mem_of_getElem? h
/-- what a text's defs and classes are, behind the top -/
structure Tx (fa : List (List He.Fa)) (fn : List (List He.DefD)) (K : PySem.W.Frag) (mg : Str → Option Value) : Prop where
  f : ∀ l ∈ fa, ∀ f ∈ l, facP K mg f
  d : ∀ l ∈ fn, ∀ d ∈ l, ∃ fd, FunD K d.name d.qual d.params d.body d.scope (d.dvs K) (d.kws K) (He.fAd K d.at_) fd
theorem tx_of {fa : List (List He.Fa)} {fn : List (List He.DefD)} {K : PySem.W.Frag} {h : Heap} {mg : Str → Option Value} (X : K.In h) (G : h.Ns mainGlobals mg) (c : He.SaysD fa.flatten fn.flatten K) : Tx fa fn K mg :=
  ⟨fun l hl f hf => facP_of X G (He.SaysD.facts c (List.mem_flatten.mpr ⟨l, hl, hf⟩)), fun l hl d hd => He.SaysD.defs c (List.mem_flatten.mpr ⟨l, hl, hd⟩)⟩
section
variable {fa : List (List He.Fa)} {fn : List (List He.DefD)} {K : PySem.W.Frag} {mg : Str → Option Value}
theorem Tx.at (T : Tx fa fn K mg) (i j : Nat) {f : He.Fa} {l : List He.Fa} (h1 : fa[i]? = some l) (h2 : l[j]? = some f) : facP K mg f := T.f l (mem_at i h1) f (mem_at j h2)
theorem Tx.df (T : Tx fa fn K mg) (i j : Nat) {d : He.DefD} {l : List He.DefD} (h1 : fn[i]? = some l) (h2 : l[j]? = some d) : ∃ fd, FunD K d.name d.qual d.params d.body d.scope (d.dvs K) (d.kws K) (He.fAd K d.at_) fd := T.d l (mem_at i h1) d (mem_at j h2)
end
end MM

set_option Elab.async false
set_option linter.all false
set_option maxRecDepth 100000
set_option maxHeartbeats 4000000
namespace MM
open PySem PySem.Spec PyProof.Rows L2
/-! ### facts -/
def ExcP (K : PySem.W.Frag) (x : Str) : Prop := PySem.W.excIn K (He.ga K x) He.veBase "ValueError.__new__" = true ∧ PySem.W.keepIn K (.ref (He.ga K x)) = true ∧ PySem.W.subIn K (.ref (He.ga K x)) (.type "BaseException") = some true ∧ PySem.W.typeIn K (.ref (He.ga K x)) = some (.type "type")
theorem fo_one {K : PySem.W.Frag} {C : Addr} {f : Str} (c : Cls K C) (n : NoAttr K C f) : FOk K [C] f := fun D h => by
  cases List.mem_singleton.mp h
  exact ⟨c, n⟩
theorem fo_cons {K : PySem.W.Frag} {C : Addr} {L : List Addr} {f : Str} (a : FOk K [C] f) (b : FOk K L f) : FOk K (C :: L) f := fun D h => by
  rcases List.mem_cons.mp h with e | h
  · rw [e]; exact a C (List.mem_singleton.mpr rfl)
  · exact b D h
theorem kp_of {K : PySem.W.Frag} {d : He.DefD} (h : ∃ fd, FunD K d.name d.qual d.params d.body d.scope (d.dvs K) (d.kws K) (He.fAd K d.at_) fd) : PySem.W.keepIn K (.ref (He.fAd K d.at_)) = true := by
  obtain ⟨fd, F⟩ := h
  exact F.kp
/-! ### raise -/
def mRaise (C : Addr) (W : WX) : TS := fun _ σ H => W (.ref C) none σ H
theorem pm_raise {X : Cx} {W : WX} {x m : Str} {j : Nat} {p p2 pos pos2 : Pos} (tk : Takes X W) (ex : ExcP X.K x) (g : X.mg x = some (.ref (He.ga X.K x))) (hc : X.calm = true := by rfl) (hg : Gl X x := by rfl)
    (hdb : (x == ("__debug__" : Str)) = false := by decide) : PS X (.Raise (some (.Call (.Name x p) [.Constant (.str m) j p2] [] pos)) none pos2) (mRaise (He.ga X.K x) W) :=
  ps_raise hc tk (pmk_own PySem.F.excBase_ValueError ex.1 g ex.2.1 (raises_own ex.2.2.1 ex.2.2.2) hg hdb)
/-! ### a table of the top, text keys -/
def TabOk (K : PySem.W.Frag) (w : World) (a : Addr) (tab : List (Str × V)) : Prop := ∃ es n, KDict K w a es n ∧ ∀ z, ∃ r, PySem.W.nsIn K a z = some r ∧ RelO (tab.lookup z) r
def mTabIx (a : Addr) (tab : List (Str × V)) : R2 := fun x y H Q => x = .ref a ∧ match y with
  | .str z => (match tab.lookup z with
    | some v => Q v H
    | none => False)
  | _ => False
def mInTab (neg : Bool) (a : Addr) (tab : List (Str × V)) : R2 := fun x y H Q => y = .ref a ∧ match x with
  | .str z => Q (.bl (if neg then !(tab.lookup z).isSome else (tab.lookup z).isSome)) H
  | _ => False
section
variable {X : Cx} {a : Addr} {tab : List (Str × V)}
theorem m_tabIx (T : TabOk X.K X.w a tab) : IxR X (mTabIx a tab) := by
  intro value slice pins s σ H x y v u Q I rx ry h hs
  obtain ⟨es, n, D, hz⟩ := T
  obtain ⟨rfl, h⟩ := h
  split at h
  · rename_i z
    split at h
    · rename_i v0 e
      obtain ⟨r, hr, rel⟩ := hz z
      rw [e] at rel
      cases r with
      | none => exact rel.elim
      | some u0 => exact ix_kdict value slice pins s σ H _ _ v u Q I rx ry ⟨a, z, v0, rfl, rfl, ⟨es, n, u0, D.at_, D.lit, hr, rel⟩, h⟩ hs
    · exact h.elim
  · exact h.elim
theorem relO_some {o : Option V} {r : Option Value} (h : RelO o r) : r.isSome = o.isSome := by
  cases o <;> cases r <;> first | rfl | exact (show False from h).elim
theorem m_inTab (T : TabOk X.K X.w a tab) : OpR X (compareOp .In) (mInTab false a tab) := by
  intro pins s σ H x y v u Q I rx ry h
  obtain ⟨es, n, D, hz⟩ := T
  obtain ⟨rfl, h⟩ := h
  split at h
  · rename_i z
    obtain ⟨r, hr, rel⟩ := hz z
    refine op_in_kd D pins s σ H _ _ v u Q I rx ry ⟨z, r, rfl, rfl, hr, ?_⟩
    rw [relO_some rel]
    exact h
  · exact h.elim
theorem m_notInTab (T : TabOk X.K X.w a tab) : OpR X (compareOp .NotIn) (mInTab true a tab) := by
  intro pins s σ H x y v u Q I rx ry h
  obtain ⟨es, n, D, hz⟩ := T
  obtain ⟨rfl, h⟩ := h
  split at h
  · rename_i z
    obtain ⟨r, hr, rel⟩ := hz z
    refine op_notIn_kd D pins s σ H _ _ v u Q I rx ry ⟨z, r, rfl, rfl, hr, ?_⟩
    rw [relO_some rel]
    exact h
  · exact h.elim
end
/-- from the head's looks at the table -/
theorem find_key {P : PySem.Params} {z : Str} : ∀ {l : List DictEntry} {ks : List Str}, l.map He.keyOf = He.keysIn P ks → z ∉ ks → l.find? (·.key.isStr z) = none ∧ l.any (·.refKey) = false
  | [], ks, h, hz => ⟨rfl, rfl⟩
  | e :: l, [], h, hz => by cases h
  | e :: l, k :: ks, h, hz => by
    unfold He.keysIn at h
    rw [List.map_cons, List.map_cons] at h
    injection h with h1 h2
    obtain ⟨a, b⟩ := find_key (ks := ks) h2 (fun m => hz (List.mem_cons_of_mem _ m))
    unfold He.keyOf at h1
    split at h1
    · rename_i x t ek
      obtain rfl : x = k := congrArg Prod.fst (Option.some.inj h1)
      have hne : (e.key.isStr z) = false := by
        rw [PySem.W.isStr_of, ek]
        have this : x ≠ z := fun q => hz (by rw [← q]; exact List.mem_cons_self)
        cases hh : Value.isStrOf z (.str x t) with
        | false => rfl
        | true =>
          obtain ⟨t', e'⟩ := Value.isStrOf_shape hh
          injection e' with e1 _
          exact absurd e1 this
      refine ⟨by rw [List.find?_cons, hne]; exact a, ?_⟩
      rw [List.any_cons, b]
      have : e.refKey = false := by
        unfold DictEntry.refKey
        rw [ek]
      rw [this]; rfl
    · cases h1
theorem lookup_none {β : Type} {z : Str} : ∀ {l : List (Str × β)}, z ∉ l.map (·.1) → l.lookup z = none
  | [], _ => rfl
  | (k, v) :: l, h => by
    have hne : (z == k) = false := by
      have : z ≠ k := fun q => h (by rw [q]; exact List.mem_cons_self)
      simpa using this
    rw [List.lookup_cons, hne]
    exact lookup_none fun m => h (List.mem_cons_of_mem _ m)
theorem lookup_mem {β : Type} {z : Str} {v : β} : ∀ {l : List (Str × β)}, (l.map (·.1)).Nodup → (z, v) ∈ l → l.lookup z = some v
  | (k, u) :: l, nd, h => by
    rw [List.map_cons, List.nodup_cons] at nd
    rcases List.mem_cons.mp h with e | h
    · cases e
      rw [List.lookup_cons, beq_self_eq_true]
    · have hne : (z == k) = false := by
        have : z ≠ k := fun q => nd.1 (by rw [← q]; exact List.mem_map.mpr ⟨(z, v), h, rfl⟩)
        simpa using this
      rw [List.lookup_cons, hne]
      exact lookup_mem nd.2 h
theorem tab_of {K : PySem.W.Frag} {w : World} {a : Addr} {kvs : List (Str × He.Dv)} (h : He.dicW K a = some (He.keysIn w.params (kvs.map (·.1)))) (hv : He.valsB K a kvs = true) (nd : (kvs.map (·.1)).Nodup) : TabOk K w a (kvs.map fun q => (q.1, q.2.v K)) := by
  obtain ⟨es, n, D⟩ := He.dicW_ok h
  refine ⟨es, n, D, fun z => ?_⟩
  have hm : (kvs.map fun q => (q.1, q.2.v K)).map (·.1) = kvs.map (·.1) := by rw [List.map_map]; rfl
  by_cases hz : z ∈ kvs.map (·.1)
  · obtain ⟨q, hq, rfl⟩ := List.mem_map.mp hz
    obtain ⟨u, hu, ru⟩ := He.valsB_ok hv hq
    refine ⟨some u, hu, ?_⟩
    rw [lookup_mem (v := q.2.v K) (by rw [hm]; exact nd) (List.mem_map.mpr ⟨q, hq, rfl⟩)]
    exact ru
  · refine ⟨none, ?_, ?_⟩
    · have e : es.toList.map He.keyOf = He.keysIn w.params (kvs.map (·.1)) := by
        have h' := h
        unfold He.dicW at h'
        rw [D.at_] at h'
        simp only at h'
        split at h'
        · exact Option.some.inj h'
        · cases h'
      obtain ⟨h1, h2⟩ := find_key e hz
      unfold PySem.W.nsIn
      rw [D.at_]
      simp only [h1, h2]
      rfl
    · rw [lookup_none (by rw [hm]; exact hz)]
      trivial
theorem not_dec {p : Prop} [Decidable p] : ((!decide p) = true) = ¬ p := by simp
theorem not_b {b : Bool} : ((!b) = true) = (b = false) := by simp
theorem lo62 {i : Int} (h : -1000000 ≤ i) : -2 ^ 62 ≤ i := Int.le_trans (by decide) h
theorem hi62 {i : Int} (h : i ≤ 1000000) : i < 2 ^ 62 := Int.lt_of_le_of_lt h (by decide)
theorem lo63 {i : Int} (h : -1000000 ≤ i) : -2 ^ 63 ≤ i := Int.le_trans (by decide) h
theorem hi63 {i : Int} (h : i ≤ 1000000) : i < 2 ^ 63 := Int.lt_of_le_of_lt h (by decide)
theorem sz_le {n : Nat} (h : n ≤ 1000000) : n ≤ sizeLine := Nat.le_trans h (by decide)
theorem sz_lt {n : Nat} (h : n < 1000000) : n < sizeLine := Nat.lt_of_lt_of_le h (by decide)
theorem isA_tt : isA "tuple" "tuple" = true := by decide
theorem isA_ss : isA "str" "str" = true := by decide
theorem isA_ii : isA "int" "int" = true := by decide
theorem isA_bb : isA "bool" "bool" = true := by decide
theorem isA_ll : isA "list" "list" = true := by decide
theorem isA_bi : isA "bool" "int" = true := by decide
theorem isA_dd : isA "dict" "dict" = true := by decide
theorem isA_ib : isA "int" "bool" = false := by decide
theorem isA_is : isA "int" "str" = false := by decide
theorem isA_it : isA "int" "tuple" = false := by decide
theorem isA_il : isA "int" "list" = false := by decide
theorem isA_si : isA "str" "int" = false := by decide
theorem isA_sb : isA "str" "bool" = false := by decide
theorem isA_ti : isA "tuple" "int" = false := by decide
theorem isA_tb : isA "tuple" "bool" = false := by decide
theorem isA_ts : isA "tuple" "str" = false := by decide
theorem isA_tl : isA "tuple" "list" = false := by decide
theorem isA_li : isA "list" "int" = false := by decide
theorem isA_lb : isA "list" "bool" = false := by decide
theorem isA_ls : isA "list" "str" = false := by decide
theorem isA_lt : isA "list" "tuple" = false := by decide
theorem isA_ni : isA "NoneType" "int" = false := by decide
theorem isA_nb : isA "NoneType" "bool" = false := by decide
theorem isA_ns : isA "NoneType" "str" = false := by decide
theorem isA_nl : isA "NoneType" "list" = false := by decide
theorem isA_nt : isA "NoneType" "tuple" = false := by decide
theorem isA_bs : isA "bool" "str" = false := by decide
theorem isA_bl : isA "bool" "list" = false := by decide
theorem isA_bt : isA "bool" "tuple" = false := by decide
theorem isA_st : isA "str" "tuple" = false := by decide
theorem isA_sl : isA "str" "list" = false := by decide
end MM

set_option Elab.async false
set_option linter.all false
set_option maxRecDepth 100000
set_option maxHeartbeats 4000000
namespace MM
open PySem PySem.Spec PyProof.Rows L2
section
variable {K : PySem.W.Frag} {te : TE} {ta : TA} {g : TG} {tb : TS} {D : Ends} {σ : L2.St} {H H1 : Hp}
/-! ### loops: what is walked is given by what it evaluates to -/
theorem m_rng1 {n : Int} (hta : ∀ R : List V → Hp → Prop, R [.int n] H1 → ta σ H R) (h1 : -1000000 ≤ n) (h2 : n ≤ 1000000) (Pv : Nat → L2.St → Hp → Prop) (h0 : Pv 0 σ H1)
    (hs : ∀ (i : Nat) σ' H', (i : Int) < n → Pv i σ' H' → g (.int i) σ' H' fun σ2 H2 => tb { D with nx := Pv (i + 1), ct := Pv (i + 1), bk := D.nx } σ2 H2) (hd : ∀ σ' H', Pv n.toNat σ' H' → D.nx σ' H') : tFor (iRng1 ta) g tb D σ H := by
  refine hta _ ⟨n, rfl, lo62 h1, hi62 h2, for_range (lo := 0) (n := n.toNat) Pv h0 (fun i σ' H' hi p => ?_) hd⟩
  rw [Int.zero_add]
  exact hs i σ' H' (by omega) p
theorem m_rng2 {lo n : Int} (hta : ∀ R : List V → Hp → Prop, R [.int lo, .int n] H1 → ta σ H R) (h1 : -1000000 ≤ lo ∧ lo ≤ 1000000) (h2 : -1000000 ≤ n ∧ n ≤ 1000000) (Pv : Nat → L2.St → Hp → Prop) (h0 : Pv 0 σ H1)
    (hs : ∀ (i : Nat) σ' H', lo + (i : Int) < n → Pv i σ' H' → g (.int (lo + i)) σ' H' fun σ2 H2 => tb { D with nx := Pv (i + 1), ct := Pv (i + 1), bk := D.nx } σ2 H2) (hd : ∀ σ' H', Pv (n - lo).toNat σ' H' → D.nx σ' H') : tFor (iRng2 ta) g tb D σ H := by
  refine hta _ ⟨lo, n, rfl, ⟨lo62 h1.1, hi62 h1.2, lo62 h2.1, hi62 h2.2⟩, for_range (lo := lo) (n := (n - lo).toNat) Pv h0 (fun i σ' H' hi p => ?_) hd⟩
  exact hs i σ' H' (by omega) p
theorem m_rng3 {lo n c : Int} {m : Nat} (hta : ∀ R : List V → Hp → Prop, R [.int lo, .int n, .int c] H1 → ta σ H R) (hc : RgC lo n c m) (Pv : Nat → L2.St → Hp → Prop) (h0 : Pv 0 σ H1)
    (hs : ∀ (i : Nat) σ' H', i < m → Pv i σ' H' → g (.int (lo + i * c)) σ' H' fun σ2 H2 => tb { D with nx := Pv (i + 1), ct := Pv (i + 1), bk := D.nx } σ2 H2) (hd : ∀ σ' H', Pv m σ' H' → D.nx σ' H') : tFor (iRng3 ta) g tb D σ H :=
  hta _ ⟨lo, n, c, m, rfl, hc, for_rangeC (lo := lo) (c := c) (n := m) Pv h0 hs hd⟩
theorem m_list {a : Addr} {xs : List V} (hte : ∀ R : V → Hp → Prop, R (.ref a) H1 → te σ H R) (ha : SqL K H1 a xs) (Pv : Nat → L2.St → Hp → Prop) (h0 : Pv 0 σ H1) (hl : ∀ i σ' H', i ≤ xs.length → Pv i σ' H' → SqL K H' a xs)
    (hs : ∀ (i : Nat) x σ' H', xs[i]? = some x → Pv i σ' H' → g x σ' H' fun σ2 H2 => tb { D with nx := Pv (i + 1), ct := Pv (i + 1), bk := D.nx } σ2 H2) (hd : ∀ σ' H', Pv xs.length σ' H' → D.nx σ' H') : tFor (iList K te) g tb D σ H :=
  hte _ ⟨a, rfl, ⟨xs, ha⟩, for_list Pv h0 hl hs hd⟩
theorem m_tupl {a : Addr} {xs : List V} (hte : ∀ R : V → Hp → Prop, R (.ref a) H1 → te σ H R) (ha : SqT K H1 a xs) (Pv : Nat → L2.St → Hp → Prop) (h0 : Pv 0 σ H1) (hl : ∀ i σ' H', i ≤ xs.length → Pv i σ' H' → SqT K H' a xs)
    (hs : ∀ (i : Nat) x σ' H', xs[i]? = some x → Pv i σ' H' → g x σ' H' fun σ2 H2 => tb { D with nx := Pv (i + 1), ct := Pv (i + 1), bk := D.nx } σ2 H2) (hd : ∀ σ' H', Pv xs.length σ' H' → D.nx σ' H') : tFor (iTup K te) g tb D σ H :=
  hte _ ⟨a, rfl, ⟨xs, ha⟩, for_tup Pv h0 hl hs hd⟩
/-- the turns of a loop of n turns, the i-th yielding what Y says -/
theorem for_turns {J : It} {n : Nat} (Pv : Nat → L2.St → Hp → Prop) (h0 : Pv 0 σ H) (hstop : ∀ σ' H', Pv n σ' H' → J.stop n H') (hgo : ∀ i σ' H', i < n → Pv i σ' H' → J.go i H')
    (hs : ∀ i x σ' H' H'', i < n → Pv i σ' H' → J.yld i H' x H'' → g x σ' H'' fun σ2 H2 => tb { D with nx := Pv (i + 1), ct := Pv (i + 1), bk := D.nx } σ2 H2) (hd : ∀ σ' H', Pv n σ' H' → D.nx σ' H') :
    ∃ W : Nat → Nat → L2.St → Hp → Prop, (∃ m, W 0 m σ H) ∧ ∀ i m σ H, W i m σ H →
      (J.stop i H ∧ D.nx σ H) ∨ (J.go i H ∧ ∃ N : L2.St → Hp → Prop, (∀ σ' H', N σ' H' → ∃ m', m' < m ∧ W (i + 1) m' σ' H') ∧ ∀ x H', J.yld i H x H' → g x σ H' fun σ2 H2 => tb { D with nx := N, ct := N, bk := D.nx } σ2 H2) := by
  refine ⟨fun i m σ H => i ≤ n ∧ m = n - i ∧ Pv i σ H, ⟨n, Nat.zero_le _, rfl, h0⟩, fun i m σ' H' ⟨hi, hm, p⟩ => ?_⟩
  by_cases he : i = n
  · subst he
    exact .inl ⟨hstop _ _ p, hd _ _ p⟩
  · have hlt : i < n := Nat.lt_of_le_of_ne hi he
    exact .inr ⟨hgo i _ _ hlt p, Pv (i + 1), fun σ2 H2 p2 => ⟨n - (i + 1), by omega, by omega, rfl, p2⟩, fun x H2 y => hs i x σ' H' H2 hlt p y⟩
theorem m_str {x : Str} (hte : ∀ R : V → Hp → Prop, R (.str x) H1 → te σ H R) (Pv : Nat → L2.St → Hp → Prop) (h0 : Pv 0 σ H1)
    (hs : ∀ (i : Nat) c σ' H', (TL.tl x)[i]? = some c → Pv i σ' H' → g (.str ⟨#[c]⟩) σ' H' fun σ2 H2 => tb { D with nx := Pv (i + 1), ct := Pv (i + 1), bk := D.nx } σ2 H2) (hd : ∀ σ' H', Pv (TL.tl x).length σ' H' → D.nx σ' H') : tFor (iStr te) g tb D σ H := by
  refine hte _ ⟨x, rfl, for_turns (J := Its x) (n := (TL.tl x).length) Pv h0 (fun σ' H' _ => ?_) (fun i σ' H' hi _ => ?_) (fun i v σ' H' H'' hi p y => ?_) hd⟩
  · show x.cps.size ≤ x.cps.toList.length
    simp
  · show i < x.cps.size
    simpa using hi
  · obtain ⟨rfl, c, hc, rfl⟩ := y
    exact hs i c σ' _ (by show x.cps.toList[i]? = some c; simpa using hc) p
theorem m_rev {a : Addr} {xs : List V} (hta : ∀ R : List V → Hp → Prop, R [.ref a] H1 → ta σ H R) (ha : SqL K H1 a xs) (Pv : Nat → L2.St → Hp → Prop) (h0 : Pv 0 σ H1) (hl : ∀ i σ' H', i ≤ xs.length → Pv i σ' H' → SqL K H' a xs)
    (hs : ∀ (i : Nat) x σ' H', i < xs.length → xs[xs.length - 1 - i]? = some x → Pv i σ' H' → g x σ' H' fun σ2 H2 => tb { D with nx := Pv (i + 1), ct := Pv (i + 1), bk := D.nx } σ2 H2) (hd : ∀ σ' H', Pv xs.length σ' H' → D.nx σ' H') : tFor (iRev K ta) g tb D σ H := by
  refine hta _ ⟨a, xs, rfl, ha, for_turns (J := Itv K a xs.length) (n := xs.length) Pv h0 (fun σ' H' _ => Nat.le_refl _) (fun i σ' H' hi p => ⟨hi, xs, xs[xs.length - 1 - i]'(by omega), hl i _ _ (Nat.le_of_lt hi) p, List.getElem?_eq_getElem _⟩) (fun i v σ' H' H'' hi p y => ?_) hd⟩
  obtain ⟨rfl, y⟩ := y
  exact hs i v σ' _ hi (y xs (hl i _ _ (Nat.le_of_lt hi) p)) p
theorem m_enum {a : Addr} {xs : List V} (hta : ∀ R : List V → Hp → Prop, R [.ref a] H1 → ta σ H R) (ha : SqL K H1 a xs) (Pv : Nat → L2.St → Hp → Prop) (h0 : Pv 0 σ H1) (hl : ∀ i σ' H', i ≤ xs.length → Pv i σ' H' → SqL K H' a xs)
    (hs : ∀ (i : Nat) x T σ' H' H'', xs[i]? = some x → Pv i σ' H' → New H' T (.tup [.int (i : Nat), x]) H'' → g (.ref T) σ' H'' fun σ2 H2 => tb { D with nx := Pv (i + 1), ct := Pv (i + 1), bk := D.nx } σ2 H2) (hd : ∀ σ' H', Pv xs.length σ' H' → D.nx σ' H') : tFor (iEnum K ta) g tb D σ H := by
  refine hta _ ⟨a, xs, rfl, ha, for_turns (J := Ite K a) (n := xs.length) Pv h0 (fun σ' H' p => ⟨xs, hl _ _ _ (Nat.le_refl _) p, Nat.le_refl _⟩) (fun i σ' H' hi p => ⟨xs, xs[i], hl i _ _ (Nat.le_of_lt hi) p, List.getElem?_eq_getElem hi⟩) (fun i v σ' H' H'' hi p y => ?_) hd⟩
  obtain ⟨T, x, rfl, hn, rfl, y⟩ := y
  exact hs i x T σ' H' _ (y xs (hl i _ _ (Nat.le_of_lt hi) p)) p ⟨hn, rfl⟩
theorem m_zipS {a : Addr} {x : Str} {xs : List V} (hta : ∀ R : List V → Hp → Prop, R [.ref a, .str x] H1 → ta σ H R) (ha : SqL K H1 a xs) (Pv : Nat → L2.St → Hp → Prop) (h0 : Pv 0 σ H1) (hl : ∀ i σ' H', i ≤ xs.length → Pv i σ' H' → SqL K H' a xs)
    (hs : ∀ (i : Nat) v c T σ' H' H'', xs[i]? = some v → (TL.tl x)[i]? = some c → Pv i σ' H' → New H' T (.tup [v, .str ⟨#[c]⟩]) H'' → g (.ref T) σ' H'' fun σ2 H2 => tb { D with nx := Pv (i + 1), ct := Pv (i + 1), bk := D.nx } σ2 H2) (hd : ∀ σ' H', Pv (min xs.length (TL.tl x).length) σ' H' → D.nx σ' H') : tFor (iZipS K ta) g tb D σ H := by
  have el : (TL.tl x).length = x.cps.size := by show x.cps.toList.length = _; simp
  refine hta _ ⟨a, x, xs, rfl, ha, for_turns (J := ItzS K a x) (n := min xs.length (TL.tl x).length) Pv h0 (fun σ' H' p => ⟨xs, hl _ _ _ (Nat.min_le_left _ _) p, Nat.min_le_left _ _, by rw [← el]; exact Nat.min_le_right _ _, by rw [← el]; omega⟩)
    (fun i σ' H' hi p => ⟨xs, xs[i]'(by omega), hl i _ _ (by omega) p, List.getElem?_eq_getElem (by omega), by omega⟩) (fun i v σ' H' H'' hi p y => ?_) hd⟩
  obtain ⟨T, v1, c, rfl, hn, rfl, y, hc⟩ := y
  exact hs i v1 c T σ' H' _ (y xs (hl i _ _ (by omega) p)) (by show x.cps.toList[i]? = some c; simpa using hc) p ⟨hn, rfl⟩
/-! ### the turns of an iterator, once for loops and comprehensions -/
/-- what a loop does with the iterator it got -/
def Lp (g : TG) (tb : TS) (D : Ends) (σ : L2.St) : It → Hp → Prop := fun J H1 => ∃ W : Nat → Nat → L2.St → Hp → Prop, (∃ m, W 0 m σ H1) ∧ ∀ i m σ H, W i m σ H →
  (J.stop i H ∧ D.nx σ H) ∨ (J.go i H ∧ ∃ N : L2.St → Hp → Prop, (∀ σ' H', N σ' H' → ∃ m', m' < m ∧ W (i + 1) m' σ' H') ∧ ∀ x H', J.yld i H x H' → g x σ H' fun σ2 H2 => tb { D with nx := N, ct := N, bk := D.nx } σ2 H2)
theorem tFor_Lp {wi : TI} : tFor wi g tb D σ H = wi σ H (Lp g tb D σ) := rfl
/-- what a list display by turns does with the iterator it got -/
def Lc (g : TG) (tt : TT) (te : TE) (vs : List Nat) (σ : L2.St) (Q : VK) : It → Hp → Prop := fun J H1 => ∀ D, H1 D = none → ∃ W : Nat → Nat → Hp → Prop, (∃ m, W 0 m (upd H1 D (.lst []))) ∧ ∀ i m H, W i m H →
  (J.stop i H ∧ Q (.ref D) H) ∨ (J.go i H ∧ ∃ Nx : Hp → Prop, (∀ H', Nx H' → ∃ m', m' < m ∧ W (i + 1) m' H') ∧ ∀ x H', J.yld i H x H' → g x (wipe σ vs) H' fun σ2 H2 => wipe σ2 vs = wipe σ vs ∧ tt σ2 H2 fun b H3 =>
    if b = true then te σ2 H3 fun y H4 => ∃ acc, H4 D = some (.lst acc) ∧ acc.length < sizeLine ∧ Nx (upd H4 D (.lst (acc ++ [y]))) else Nx H3)
theorem tLc_Lc {wi : TI} {tt : TT} {vs : List Nat} {Q : VK} : tLc wi g tt te vs σ H Q = wi σ H (Lc g tt te vs σ Q) := rfl
/-- J makes n turns wherever ok holds; the i-th yields as Y says -/
structure Turns (J : It) (n : Nat) (ok : Hp → Prop) (Y : Nat → Hp → V → Hp → Prop) : Prop where
  go : ∀ i H, i < n → ok H → J.go i H
  stop : ∀ H, ok H → J.stop n H
  yld : ∀ i H x H', i < n → ok H → J.yld i H x H' → Y i H x H'
theorem lp {J : It} {n : Nat} {ok : Hp → Prop} {Y : Nat → Hp → V → Hp → Prop} (T : Turns J n ok Y) (Pv : Nat → L2.St → Hp → Prop) (h0 : Pv 0 σ H) (hok : ∀ i σ' H', i ≤ n → Pv i σ' H' → ok H')
    (hs : ∀ i x σ' H' H'', i < n → Pv i σ' H' → Y i H' x H'' → g x σ' H'' fun σ2 H2 => tb { D with nx := Pv (i + 1), ct := Pv (i + 1), bk := D.nx } σ2 H2) (hd : ∀ σ' H', Pv n σ' H' → D.nx σ' H') : Lp g tb D σ J H :=
  for_turns (J := J) (n := n) Pv h0 (fun σ' H' p => T.stop _ (hok _ _ _ (Nat.le_refl _) p)) (fun i σ' H' hi p => T.go _ _ hi (hok _ _ _ (Nat.le_of_lt hi) p))
    (fun i x σ' H' H'' hi p y => hs i x σ' H' H'' hi p (T.yld _ _ _ _ hi (hok _ _ _ (Nat.le_of_lt hi) p) y)) hd
theorem lc {J : It} {n : Nat} {ok : Hp → Prop} {Y : Nat → Hp → V → Hp → Prop} {tt : TT} {vs : List Nat} {Q : VK} (T : Turns J n ok Y)
    (h : ∀ A H2, New H A (.lst []) H2 → ∃ Pv : Nat → Hp → Prop, Pv 0 H2 ∧ (∀ i H', i ≤ n → Pv i H' → ok H') ∧
      (∀ i x H' H'', i < n → Pv i H' → Y i H' x H'' → g x (wipe σ vs) H'' fun σ2 H2 => wipe σ2 vs = wipe σ vs ∧ tt σ2 H2 fun b H3 =>
        if b = true then te σ2 H3 fun y H4 => ∃ acc, H4 A = some (.lst acc) ∧ acc.length < sizeLine ∧ Pv (i + 1) (upd H4 A (.lst (acc ++ [y]))) else Pv (i + 1) H3) ∧
      ∀ H', Pv n H' → Q (.ref A) H') : Lc g tt te vs σ Q J H := by
  intro A hA
  obtain ⟨Pv, h0, hok, hs, hd⟩ := h A _ ⟨hA, rfl⟩
  refine ⟨fun i m H' => i ≤ n ∧ m = n - i ∧ Pv i H', ⟨n, Nat.zero_le _, rfl, h0⟩, fun i m H' ⟨hi, hm1, p⟩ => ?_⟩
  by_cases hin : i = n
  · subst hin
    exact .inl ⟨T.stop _ (hok _ _ (Nat.le_refl _) p), hd _ p⟩
  · have hlt : i < n := Nat.lt_of_le_of_ne hi hin
    exact .inr ⟨T.go _ _ hlt (hok _ _ hi p), Pv (i + 1), fun H5 p5 => ⟨n - (i + 1), by omega, by omega, rfl, p5⟩, fun x H'' y => hs i x H' H'' hlt p (T.yld _ _ _ _ hlt (hok _ _ hi p) y)⟩
end
theorem t_rng {lo : Int} {n : Nat} : Turns (Itr lo n) n (fun _ => True) (fun i H x H' => H' = H ∧ x = .int (lo + i)) := ⟨fun i H hi _ => hi, fun H _ => Nat.le_refl _, fun i H x H' _ _ y => y⟩
theorem t_rngC {lo c : Int} {n : Nat} : Turns (Itc lo c n) n (fun _ => True) (fun i H x H' => H' = H ∧ x = .int (lo + i * c)) := ⟨fun i H hi _ => hi, fun H _ => Nat.le_refl _, fun i H x H' _ _ y => y⟩
theorem t_list {K : PySem.W.Frag} {a : Addr} (xs : List V) : Turns (Itl K a) xs.length (fun H => SqL K H a xs) (fun i H x H' => H' = H ∧ xs[i]? = some x) :=
  ⟨fun i H hi h => ⟨xs, xs[i], h, List.getElem?_eq_getElem hi⟩, fun H h => ⟨xs, h, Nat.le_refl _⟩, fun i H x H' hi h y => ⟨y.1, y.2 xs h⟩⟩
theorem t_tup {K : PySem.W.Frag} {a : Addr} (xs : List V) : Turns (Itt K a) xs.length (fun H => SqT K H a xs) (fun i H x H' => H' = H ∧ xs[i]? = some x) :=
  ⟨fun i H hi h => ⟨xs, xs[i], h, List.getElem?_eq_getElem hi⟩, fun H h => ⟨xs, h, Nat.le_refl _⟩, fun i H x H' hi h y => ⟨y.1, y.2 xs h⟩⟩
theorem t_str {x : Str} : Turns (Its x) (TL.tl x).length (fun _ => True) (fun i H v H' => H' = H ∧ ∃ c, (TL.tl x)[i]? = some c ∧ v = .str ⟨#[c]⟩) := by
  have el : (TL.tl x).length = x.cps.size := by show x.cps.toList.length = _; simp
  exact ⟨fun i H hi _ => by show i < x.cps.size; omega, fun H _ => by show x.cps.size ≤ _; omega, fun i H v H' _ _ y => ⟨y.1, y.2.choose, by have := y.2.choose_spec.1; show x.cps.toList[i]? = _; simpa using this, y.2.choose_spec.2⟩⟩
theorem t_rev {K : PySem.W.Frag} {a : Addr} (xs : List V) : Turns (Itv K a xs.length) xs.length (fun H => SqL K H a xs) (fun i H x H' => H' = H ∧ xs[xs.length - 1 - i]? = some x) :=
  ⟨fun i H hi h => ⟨hi, xs, xs[xs.length - 1 - i]'(by omega), h, List.getElem?_eq_getElem _⟩, fun H h => Nat.le_refl _, fun i H x H' hi h y => ⟨y.1, y.2 xs h⟩⟩
theorem t_enum {K : PySem.W.Frag} {a : Addr} (xs : List V) : Turns (Ite K a) xs.length (fun H => SqL K H a xs) (fun i H v H' => ∃ T x, v = .ref T ∧ New H T (.tup [.int (i : Nat), x]) H' ∧ xs[i]? = some x) :=
  ⟨fun i H hi h => ⟨xs, xs[i], h, List.getElem?_eq_getElem hi⟩, fun H h => ⟨xs, h, Nat.le_refl _⟩, fun i H x H' hi h ⟨T, x1, e, hn, e2, y⟩ => ⟨T, x1, e, ⟨hn, e2⟩, y xs h⟩⟩
theorem t_zipS {K : PySem.W.Frag} {a : Addr} {x : Str} (xs : List V) : Turns (ItzS K a x) (min xs.length (TL.tl x).length) (fun H => SqL K H a xs) (fun i H v H' => ∃ T v1 c, v = .ref T ∧ New H T (.tup [v1, .str ⟨#[c]⟩]) H' ∧ xs[i]? = some v1 ∧ (TL.tl x)[i]? = some c) := by
  have el : (TL.tl x).length = x.cps.size := by show x.cps.toList.length = _; simp
  exact ⟨fun i H hi h => ⟨xs, xs[i]'(by omega), h, List.getElem?_eq_getElem (by omega), by omega⟩, fun H h => ⟨xs, h, Nat.min_le_left _ _, by rw [← el]; exact Nat.min_le_right _ _, by rw [← el]; omega⟩,
    fun i H v H' hi h ⟨T, v1, c, e, hn, e2, y, hc⟩ => ⟨T, v1, c, e, ⟨hn, e2⟩, y xs h, by show x.cps.toList[i]? = some c; simpa using hc⟩⟩
theorem t_zip {K : PySem.W.Frag} {a b : Addr} (xs ys : List V) : Turns (Itz K a b) (min xs.length ys.length) (fun H => SqL K H a xs ∧ SqL K H b ys) (fun i H v H' => ∃ T x y, v = .ref T ∧ New H T (.tup [x, y]) H' ∧ xs[i]? = some x ∧ ys[i]? = some y) :=
  ⟨fun i H hi h => ⟨xs, ys, xs[i]'(by omega), ys[i]'(by omega), h.1, h.2, List.getElem?_eq_getElem (by omega), List.getElem?_eq_getElem (by omega)⟩, fun H h => ⟨xs, ys, h.1, h.2, by omega⟩,
    fun i H v H' hi h ⟨T, v1, v2, e, hn, e2, y, hc⟩ => ⟨T, v1, v2, e, ⟨hn, e2⟩, y xs h.1, hc ys h.2⟩⟩
theorem sqL {K : PySem.W.Frag} {H : Hp} {a : Addr} {xs : List V} (h : H a = some (.lst xs)) : SqL K H a xs := Or.inl (Or.inl h)
theorem sqT {K : PySem.W.Frag} {H : Hp} {a : Addr} {xs : List V} (h : H a = some (.tup xs)) : SqT K H a xs := Or.inl (Or.inl h)
theorem sqL_same {K : PySem.W.Frag} {H H' : Hp} {a : Addr} {xs : List V} (s : Same H H') (h : SqL K H a xs) : SqL K H' a xs := by
  rcases h with (h | ⟨o, h⟩) | h
  · exact .inl (.inl (s _ _ h))
  · exact .inl (.inr ⟨o, s _ _ h⟩)
  · exact .inr h
theorem same_rfl {H : Hp} : Same H H := fun _ _ e => e
theorem same_trans {H H' H'' : Hp} (s : Same H H') (t : Same H' H'') : Same H H'' := fun b o e => t b o (s b o e)
/-- a list display whose turns make new things only -/
theorem lc_map {J : It} {n : Nat} {ok : Hp → Prop} {Y : Nat → Hp → V → Hp → Prop} {g : TG} {te : TE} {vs : List Nat} {σ : L2.St} {H : Hp} {Q : VK} (T : Turns J n ok Y) (f : Nat → V) (hn : n ≤ 1000000) (hok : ∀ H', Same H H' → ok H')
    (hs : ∀ i x H' H'', i < n → Same H H' → Y i H' x H'' → Same H' H'' ∧ ∀ R : VK, (∀ H4, Same H'' H4 → R (f i) H4) → g x (wipe σ vs) H'' fun σ2 H2 => wipe σ2 vs = wipe σ vs ∧ te σ2 H2 R)
    (hd : ∀ A H', Same H H' → H A = none → H' A = some (.lst ((List.range n).map f)) → Q (.ref A) H') : Lc g tYes te vs σ Q J H := by
  refine lc T fun A H2 n2 => ⟨fun i H' => Same H H' ∧ H' A = some (.lst ((List.range i).map f)), ⟨n2.same, n2.self⟩, fun i H' _ p => hok _ p.1, fun i x H' H'' hi p y => ?_, fun H' p => hd _ _ p.1 n2.1 p.2⟩
  obtain ⟨s1, hs⟩ := hs i x H' H'' hi p.1 y
  show g x (wipe σ vs) H'' fun σ2 H2 => wipe σ2 vs = wipe σ vs ∧ te σ2 H2 _
  refine hs _ fun H4 s4 => ⟨_, s4 _ _ (s1 _ _ p.2), by rw [List.length_map, List.length_range]; exact Nat.lt_of_lt_of_le hi (Nat.le_trans hn (by decide)), fun b o e => ?_, ?_⟩
  · have hbA : b ≠ A := fun z => by rw [z, n2.1] at e; cases e
    show (upd H4 A _) b = _
    rw [upd_ne hbA]
    exact s4 _ _ (s1 _ _ (p.1 _ _ e))
  · rw [upd_same, List.range_succ, List.map_append]; rfl
theorem tab_at {fa : List He.Fa} {fn : List He.DefD} {ts : List He.Tab} {w : World} {K : PySem.W.Frag} (c : He.SaysT fa fn ts w K) (i : Nat) {t : He.Tab} (h : ts[i]? = some t) : He.dicW K (t.1 K) = some (He.keysIn w.params t.2) := by
  have e : ts.map (fun t => He.dicW K (t.1 K)) = ts.map fun t => some (He.keysIn w.params t.2) := congrArg (fun z : He.AlT => z.2) c
  have e2 : (ts.map fun t => He.dicW K (t.1 K))[i]? = (ts.map fun t => some (He.keysIn w.params t.2))[i]? := by rw [e]
  rw [List.getElem?_map, List.getElem?_map, h] at e2
  exact Option.some.inj e2
end MM

set_option Elab.async false
set_option linter.all false
set_option maxRecDepth 100000
set_option maxHeartbeats 4000000
namespace MM
open PySem PySem.Spec PyProof.Rows L2
/-! ### nested data, and when two are equal -/
def pyV : V → PyData
  | .non => .none
  | .bl b => .bool b
  | .int i => .int i
  | .str x => .str x
  | _ => .none
/-- a flat value whose text may be laid -/
def flatOk : V → Bool
  | .non => true
  | .bl _ => true
  | .int _ => true
  | .str x => PyData.strOk x
  | _ => false
theorem dp_flat {K : PySem.W.Frag} {H : Hp} {v : V} (h : flatOk v = true) : Dp K H v (pyV v) := by
  cases v with
  | non => exact .non
  | bl b => exact .bl b
  | int i => exact .int i
  | str x => exact .str x
  | _ => cases h
theorem dpAll_flat {K : PySem.W.Frag} {H : Hp} : ∀ {xs : List V}, xs.all flatOk = true → DpAll K H xs (xs.map pyV)
  | [], _ => .nil
  | v :: r, h => by
    rw [List.all_cons, Bool.and_eq_true] at h
    exact .cons (dp_flat h.1) (dpAll_flat h.2)
def Nice (n : Nat) (d : PyData) : Prop := d.canLay0 = true ∧ d.depth ≤ n
theorem Nice.mono {n m : Nat} {d : PyData} (h : Nice n d) (hm : n ≤ m) : Nice m d := ⟨h.1, Nat.le_trans h.2 hm⟩
theorem nice_flat {v : V} (h : flatOk v = true) : Nice 1 (pyV v) := by
  cases v with
  | non => exact ⟨by simp [pyV, PyData.canLay0], by simp [pyV, PyData.depth]⟩
  | bl b => exact ⟨by simp [pyV, PyData.canLay0], by simp [pyV, PyData.depth]⟩
  | int i => exact ⟨by simp [pyV, PyData.canLay0], by simp [pyV, PyData.depth]⟩
  | str x => exact ⟨by simp only [pyV, PyData.canLay0]; exact h, by simp [pyV, PyData.depth]⟩
  | _ => cases h
theorem niceAll {n : Nat} : ∀ {ds : List PyData}, (∀ d ∈ ds, Nice n d) → PyData.canLayAll0 ds = true ∧ PyData.depthAll ds ≤ n
  | [], _ => ⟨by simp [PyData.canLayAll0], by simp [PyData.depthAll]⟩
  | d :: r, h => by
    have h1 := h d (List.mem_cons_self ..)
    have h2 := niceAll (fun e he => h e (List.mem_cons_of_mem _ he))
    refine ⟨by simp only [PyData.canLayAll0, Bool.and_eq_true]; exact ⟨h1.1, h2.1⟩, ?_⟩
    simp only [PyData.depthAll]
    exact Nat.max_le.mpr ⟨h1.2, h2.2⟩
theorem nice_list {n : Nat} {ds : List PyData} (h : ∀ d ∈ ds, Nice n d) : Nice (n + 1) (.list ds) := by
  have := niceAll h
  exact ⟨by simpa only [PyData.canLay0] using this.1, by simp only [PyData.depth]; omega⟩
theorem nice_tup {n : Nat} {ds : List PyData} (h : ∀ d ∈ ds, Nice n d) : Nice (n + 1) (.tuple ds) := by
  have := niceAll h
  exact ⟨by simpa only [PyData.canLay0] using this.1, by simp only [PyData.depth]; omega⟩
theorem nice_flats {xs : List V} (h : xs.all flatOk = true) : ∀ d ∈ xs.map pyV, Nice 1 d := fun d hd => by
  obtain ⟨v, hv, rfl⟩ := List.mem_map.mp hd
  exact nice_flat (List.all_eq_true.mp h v hv)
theorem Nice.shaped {n : Nat} {d : PyData} (h : Nice n d) (hn : n ≤ 64) : SeqAt.shaped d = true := by
  unfold SeqAt.shaped
  rw [Bool.and_eq_true, decide_eq_true_eq]
  exact ⟨h.1, Nat.le_trans h.2 hn⟩
theorem eqD_t {K : PySem.W.Frag} {H : Hp} {x y : V} {d : PyData} {Q : VK} {n : Nat} (hx : Dp K H x d) (hy : Dp K H y d) (hs : Nice n d) (hn : n ≤ 64) (q : Q (.bl true) H) : rEqD K x y H Q :=
  ⟨d, d, hx, hy, hs.shaped hn, hs.shaped hn, by rw [SeqAt.eqv_refl d hs.1]; exact q⟩
theorem neD_f {K : PySem.W.Frag} {H : Hp} {x y : V} {d : PyData} {Q : VK} {n : Nat} (hx : Dp K H x d) (hy : Dp K H y d) (hs : Nice n d) (hn : n ≤ 64) (q : Q (.bl false) H) : rNeD K x y H Q :=
  ⟨d, d, hx, hy, hs.shaped hn, hs.shaped hn, by rw [SeqAt.eqv_refl d hs.1]; exact q⟩
theorem sqT_same {K : PySem.W.Frag} {H H' : Hp} {a : Addr} {xs : List V} (s : Same H H') (h : SqT K H a xs) : SqT K H' a xs := by
  rcases h with (h | ⟨o, h⟩) | h
  · exact .inl (.inl (s _ _ h))
  · exact .inl (.inr ⟨o, s _ _ h⟩)
  · exact .inr h
mutual
theorem Dp.same {K : PySem.W.Frag} {H H' : Hp} (s : Same H H') : ∀ {v : V} {d : PyData}, Dp K H v d → Dp K H' v d
  | _, _, .non => .non
  | _, _, .bl b => .bl b
  | _, _, .int i => .int i
  | _, _, .str x => .str x
  | _, _, .lst h hs => .lst (sqL_same s h) (DpAll.same s hs)
  | _, _, .tup h hs => .tup (sqT_same s h) (DpAll.same s hs)
theorem DpAll.same {K : PySem.W.Frag} {H H' : Hp} (s : Same H H') : ∀ {vs : List V} {ds : List PyData}, DpAll K H vs ds → DpAll K H' vs ds
  | _, _, .nil => .nil
  | _, _, .cons h hs => .cons (Dp.same s h) (DpAll.same s hs)
end
end MM

set_option Elab.async false
set_option linter.all false
set_option maxRecDepth 100000
set_option maxHeartbeats 4000000
namespace MM
open PySem PySem.Spec PyProof.Rows L2
/-! ### own exceptions by name: all of them stand right under FrameError, which stands under ValueError -/
def isX (n m : Str) : Bool := n == m || m == Str.ofString "FrameError"
abbrev ec (K : PySem.W.Frag) (n : Str) : Value := .ref (He.ga K n)
structure XN (K : PySem.W.Frag) (ns : List Str) : Prop where
  c : ∀ n ∈ ns, ExcC K (He.ga K n)
  o : ∀ n ∈ ns, ∀ m ∈ ns, PySem.W.kitOne K (ec K n) (ec K m) = some (isX n m)
  v : ∀ n ∈ ns, PySem.W.kitOne K (ec K n) (.type "ValueError") = some true
  e : ∀ n ∈ ns, ∀ m ∈ ns, PySem.W.exmOne K (ec K n) (ec K m) = some (isX n m)
def excCB (K : PySem.W.Frag) (D : Addr) : Bool :=
  He.eqO (PySem.W.findIn K (.ref D) "__getattribute__") (some (some (.builtin "BaseException.__getattribute__"))) && (He.eqO (PySem.W.findIn K (.ref D) "__getattr__") (some none) && (decide (PySem.W.subIn K (.ref D) (.type "BaseException") = some true) && (PySem.W.hasDictIn K D &&
  (He.eqO (PySem.W.findIn K (.ref D) "__class__") (some (some (.builtin "object.__class__"))) && (He.eqO (PySem.W.specialIn K (.builtin "object.__class__") "__get__") (some (some (.builtin "getset_descriptor.__get__"))) && (decide (PySem.W.takesIn K (.builtin "object.__class__") = some true) && decide (PySem.W.mroIn K D (.type "object") = some true)))))))
theorem excCB_ok {K : PySem.W.Frag} {D : Addr} (h : excCB K D = true) : ExcC K D := by
  unfold excCB at h
  simp only [Bool.and_eq_true, decide_eq_true_eq] at h
  obtain ⟨h1, h2, h3, h4, h5, h6, h7, h8⟩ := h
  exact ⟨He.eqO_ok h1, He.eqO_ok h2, h3, h4, He.eqO_ok h5, He.eqO_ok h6, h7, h8⟩
def xnB (K : PySem.W.Frag) (ns : List Str) : Bool := ns.all fun n => excCB K (He.ga K n) && (decide (PySem.W.kitOne K (ec K n) (.type "ValueError") = some true) && ns.all fun m => decide (PySem.W.kitOne K (ec K n) (ec K m) = some (isX n m)) && decide (PySem.W.exmOne K (ec K n) (ec K m) = some (isX n m)))
theorem xn_of {K : PySem.W.Frag} {ns : List Str} (h : xnB K ns = true) : XN K ns := by
  unfold xnB at h
  simp only [List.all_eq_true, Bool.and_eq_true, decide_eq_true_eq] at h
  exact ⟨fun n hn => excCB_ok (h n hn).1, fun n hn m hm => ((h n hn).2.2 m hm).1, fun n hn => (h n hn).2.1, fun n hn m hm => ((h n hn).2.2 m hm).2⟩
/-- isinstance of the exception n, held at a -/
def mIsE (K : PySem.W.Frag) (ns : List Str) (a : Addr) (n : Str) : List V → Hp → VK → Prop := fun vs H Q => ∃ c, vs = [.ref a, c] ∧ n ∈ ns ∧
  ((∃ m, c = .ref (He.ga K m) ∧ m ∈ ns ∧ Q (.bl (isX n m)) H) ∨ (∃ (tp : Addr) (ms : List Str), c = .ref tp ∧ H tp = some (.tup (ms.map fun m => .ref (He.ga K m))) ∧ (∀ m ∈ ms, m ∈ ns) ∧ Q (.bl (ms.any (isX n))) H) ∨ (c = .ty "ValueError" ∧ Q (.bl true) H))
theorem kitAny_names {K : PySem.W.Frag} {ns : List Str} (T : XN K ns) {n : Str} (hn : n ∈ ns) : ∀ {ms : List Str}, (∀ m ∈ ms, m ∈ ns) → PySem.W.kitAny K (ec K n) (ms.map (ec K)) = some (ms.any (isX n))
  | [], _ => kitAny_nil
  | m :: r, h => by
    refine kitAny_cons (T.o n hn m (h m (List.mem_cons_self ..))) (fun hb => ?_) (fun hb => ?_)
    · rw [kitAny_names T hn (fun m hm => h m (List.mem_cons_of_mem _ hm)), List.any_cons, hb, Bool.false_or]
    · rw [List.any_cons, hb, Bool.true_or]
theorem cls_names {K : PySem.W.Frag} : ∀ (ms : List Str), Paired ClsV (ms.map fun m => V.ref (He.ga K m)) (ms.map (ec K))
  | [] => .nil
  | m :: r => .cons (.own _) (cls_names r)
theorem call_mIsE {Y : Cx} {ns : List Str} {a : Addr} {n : Str} {oe : Obj} (T : XN Y.K ns) (hm : (a, oe) ∈ Y.pn) (hz : Zc (ec Y.K n) none oe) (hf : ∃ vs, oe.data = .fields vs) : CallR Y (.builtin "isinstance") (mIsE Y.K ns a n) := by
  intro pins s σ H xs us Q I r h
  obtain ⟨c, rfl, hn, h⟩ := h
  obtain ⟨u1, u2, rfl, r1, r2⟩ := vals2 r
  cases (show u1 = Value.ref a from r1)
  have C := T.c n hn
  have hget := (I.pin (a, oe) (List.mem_append.mpr (.inl hm))).1
  obtain ⟨vs, hv⟩ := hf
  have J : PySem.W.InstAt s.heap a oe (He.ga Y.K n) none := by
    obtain ⟨oc, od, oda, osl⟩ := oe
    obtain ⟨z1, z2⟩ := hz
    dsimp only at z1 z2 hv
    subst z1 z2 hv
    exact ⟨hget, rfl, rfl, trivial⟩
  have Z := PySem.W.handS_kitx_exc (x := a) (ox := oe) C.hg C.hk C.hs C.hd C.ha C.hn C.ht C.hm
  rcases h with ⟨m, rfl, hmn, q⟩ | ⟨tp, ms, rfl, hT, hms, q⟩ | ⟨rfl, q⟩
  · cases (show u2 = Value.ref (He.ga Y.K m) from r2)
    exact PySem.W.kia_one Z I.kIn J (T.o n hn m hmn) (fun z => nomatch z) fun tk => ⟨.bl _, H, I.tok tk, rfl, q⟩
  · cases (show u2 = Value.ref tp from r2)
    obtain ⟨_, its, rv, o, h1, h2, k, h3⟩ := (show ObjOk Y.prog Y.w H s.heap tp (.tup _) from I.hok tp _ hT)
    have e3 := ClsV.all (cls_names ms) rv
    subst e3
    obtain ⟨oc, od, dt, sl⟩ := o
    simp only at h2 h3
    subst h2 h3
    exact PySem.W.kia_tup Z I.kIn J h1 (kitAny_names T hn hms) (fun z => nomatch z) fun tk => ⟨.bl _, H, I.tok tk, rfl, q⟩
  · cases (show u2 = Value.type "ValueError" from r2)
    exact PySem.W.kia_one Z I.kIn J (T.v n hn) (fun z => nomatch z) fun tk => ⟨.bl _, H, I.tok tk, rfl, q⟩
/-! ### try: body, except C as e: suite; the exception by its name -/
def wAsN (K : PySem.W.Frag) (ns : List Str) (c : Str) (i : Nat) (ts : Addr → Str → TS) (Wout : WX) (D : Ends) : WX := fun cls d σ H => ∃ n, n ∈ ns ∧ c ∈ ns ∧ cls = ec K n ∧ d = none ∧
  (if isX n c = true then ∀ a, H a = none → ts a n { nx := fun σ' H' => D.nx (σ'.set i none) H', rt := D.rt, bk := fun σ' H' => D.bk (σ'.set i none) H', ct := fun σ' H' => D.ct (σ'.set i none) H' } (σ.set i (some (.ref a))) H else Wout cls d σ H)
def wOnN (K : PySem.W.Frag) (ns : List Str) (c : Str) (ts : Str → TS) (Wout : WX) (D : Ends) : WX := fun cls d σ H => ∃ n, n ∈ ns ∧ c ∈ ns ∧ cls = ec K n ∧ d = none ∧ (if isX n c = true then ts n D σ H else Wout cls d σ H)
section
variable {X : Cx} {x n : Str} {i : Nat} {ns : List Str} {body suite : List Stmt} {b₀ : Stmt} {np pos pos' : Pos} {tb : WX → TS} {Wout : WX}
/-- the reading of a suite, for the named exceptions -/
theorem pss_given {Y : Cx} {b : List Stmt} {P : Str → Prop} {ts : Str → TS} (h : ∀ n, P n → PSs Y b (ts n)) : PSs Y b (fun D σ H => ∃ n, P n ∧ ts n D σ H) :=
  ⟨fun pins s σ H D I ⟨n, p, t⟩ => (h n p).run pins s σ H D I t⟩
theorem pm_tryAs {ts : Addr → Str → TS} (hs : X.stack = X.env :: X.outer) (hf : X.env.frame = some X.env.locals) (hN : X.N.Nodup) (hi : X.N[i]? = some n) (hln : X.env.kindOf n = some .local) (T : XN X.K ns) (hc : Names X x (ec X.K x)) (tk : Takes X Wout)
    (hb : ∀ (W : WX) (pn : List (Addr × Obj)) (xe : Value → Shared → Prop), Takes (X.tr pn xe) W → PassesOwn (model X.prog X.w) X.A X.env xe → PSs (X.tr pn xe) body (tb W))
    (hsu : ∀ (a : Addr) (oe : Obj) (m : Str) (pn : List (Addr × Obj)), m ∈ ns → Zc (ec X.K m) none oe → (∃ vs, oe.data = .fields vs) → PSs (X.suite a ((a, oe) :: pn)) (b₀ :: suite) (ts a m)) :
    PS X (.Try body [.ExceptHandler (some (.Name x np)) (some n) (b₀ :: suite) pos'] [] [] pos) (fun D σ H => tb (wAsN X.K ns x i ts Wout D) D σ H) := by
  have base := ps_try_as (X := X) (c := ec X.K x) (ts := fun a cls d D σ H => ∃ m, (m ∈ ns ∧ cls = ec X.K m ∧ d = none) ∧ ts a m D σ H) (Wout := Wout) (tb := fun W D σ H => ∃ W' : WX, (∀ c d σ H, W' c d σ H → W c d σ H) ∧ tb W' D σ H) (pos := pos) (pos' := pos') (np := np) (x := x) (n := n) (i := i) (body := body) (suite := suite) (b₀ := b₀) hs hf hN hi hln hc tk
    (fun W pn xe tk1 po => ⟨fun pins s σ H D I ⟨W', hW, t⟩ => (hb W' pn xe (tk1.imp hW) po).run pins s σ H D I t⟩) (fun a oe cls d pn hz hfl => pss_given fun m ⟨h1, h2, h3⟩ => hsu a oe m pn h1 (by rw [← h2, ← h3]; exact hz) hfl)
  refine ⟨fun pins s σ H D I h => base.run pins s σ H D I ⟨_, fun c d σ1 H1 w => ?_, h⟩⟩
  obtain ⟨m, hm, hcn, rfl, rfl, w⟩ := w
  refine ⟨_, T.e m hm x hcn, fun hb1 a ha => ⟨m, ⟨hm, rfl, rfl⟩, ?_⟩, fun hb0 => ?_⟩
  · rw [if_pos hb1] at w; exact w a ha
  · rw [if_neg (by rw [hb0]; decide)] at w; exact w
theorem pm_tryOn {ts : Str → TS} (hs : X.stack = X.env :: X.outer) (hf : X.env.frame = some X.env.locals) (T : XN X.K ns) (hc : Names X x (ec X.K x)) (tk : Takes X Wout)
    (hb : ∀ (W : WX) (pn : List (Addr × Obj)) (xe : Value → Shared → Prop), Takes (X.tr pn xe) W → PassesOwn (model X.prog X.w) X.A X.env xe → PSs (X.tr pn xe) body (tb W))
    (hsu : ∀ (a : Addr) (oe : Obj) (m : Str) (pn : List (Addr × Obj)), m ∈ ns → Zc (ec X.K m) none oe → (∃ vs, oe.data = .fields vs) → PSs (X.suite a ((a, oe) :: pn)) (b₀ :: suite) (ts m)) :
    PS X (.Try body [.ExceptHandler (some (.Name x np)) none (b₀ :: suite) pos'] [] [] pos) (fun D σ H => tb (wOnN X.K ns x ts Wout D) D σ H) := by
  have base := ps_try_only (X := X) (c := ec X.K x) (ts := fun a cls d D σ H => ∃ m, (m ∈ ns ∧ cls = ec X.K m ∧ d = none) ∧ ts m D σ H) (Wout := Wout) (tb := fun W D σ H => ∃ W' : WX, (∀ c d σ H, W' c d σ H → W c d σ H) ∧ tb W' D σ H) (pos := pos) (pos' := pos') (np := np) (x := x) (body := body) (suite := suite) (b₀ := b₀) hs hf hc tk
    (fun W pn xe tk1 po => ⟨fun pins s σ H D I ⟨W', hW, t⟩ => (hb W' pn xe (tk1.imp hW) po).run pins s σ H D I t⟩) (fun a oe cls d pn hz hfl => pss_given fun m ⟨h1, h2, h3⟩ => hsu a oe m pn h1 (by rw [← h2, ← h3]; exact hz) hfl)
  refine ⟨fun pins s σ H D I h => base.run pins s σ H D I ⟨_, fun c d σ1 H1 w => ?_, h⟩⟩
  obtain ⟨m, hm, hcn, rfl, rfl, w⟩ := w
  refine ⟨_, T.e m hm x hcn, fun hb1 a ha => ⟨m, ⟨hm, rfl, rfl⟩, ?_⟩, fun hb0 => ?_⟩
  · rw [if_pos hb1] at w; exact w
  · rw [if_neg (by rw [hb0]; decide)] at w; exact w
end
end MM

set_option Elab.async false
set_option linter.all false
set_option maxRecDepth 100000
set_option maxHeartbeats 4000000
namespace MM
open PySem PySem.Spec PyProof.Rows L2
/-! ### a text times an int from two on -/
def repS (a : Str) (n : Nat) : Str := ⟨(List.replicate n a.cps).foldl (· ++ ·) #[]⟩
theorem fold_app (l : List (Array Nat)) : ∀ z : Array Nat, (l.foldl (· ++ ·) z).toList = z.toList ++ (l.map (·.toList)).flatten := by
  induction l with
  | nil => intro z; simp
  | cons a r ih => intro z; rw [List.foldl_cons, ih]; simp
theorem tl_repS (a : Str) (n : Nat) : TL.tl (repS a n) = (List.replicate n (TL.tl a)).flatten := by
  show ((List.replicate n a.cps).foldl (· ++ ·) #[]).toList = _
  rw [fold_app, List.map_replicate]; rfl
def oRepS : R2 := fun x y H Q => match x, y with
  | .str a, .int k => 2 ≤ k ∧ k ≤ 1000 ∧ 1 ≤ a.length ∧ a.length ≤ 1000 ∧ Q (.str (repS a k.toNat)) H
  | _, _ => False
section
variable {X : Cx}
theorem m_repS : OpR X (binaryOp .Mult) oRepS := by
  intro pins s σ H x y v u Q I rx ry q
  unfold oRepS at q
  split at q
  · rename_i a k
    obtain ⟨h1, h2, h3, h4, q⟩ := q
    obtain ⟨t, rfl⟩ := rx
    obtain ⟨t2, rfl⟩ := ry
    have hl : a.length * k.toNat ≤ 1000 * 1000 := Nat.mul_le_mul h4 (by omega)
    refine PySem.P.mul_str (by rw [decide_eq_false (by omega), decide_eq_false (by omega)]; rfl) (fun _ _ => ?_) (fun _ _ => ?_) ?_
    · have : (1000 : Int) ≤ (2 ^ 63 - 1) / k := by
        rw [Int.le_ediv_iff_mul_le (by omega)]; omega
      omega
    · exact decide_eq_false (by have : sizeLine = 16777216 ∨ True := .inr trivial; exact Nat.not_lt.mpr (Nat.le_trans hl (by decide)))
    · rw [if_neg (by omega), if_neg (by
        rw [Bool.or_eq_true, beq_iff_eq, beq_iff_eq]; omega)]
      refine ⟨?_, .str (repS a k.toNat), H, I.tok _, ⟨_, rfl⟩, q⟩
      show (repS a k.toNat).length ≤ sizeLine
      rw [TL.len_tl, tl_repS]
      have e : ((List.replicate k.toNat (TL.tl a)).flatten).length = k.toNat * (TL.tl a).length := by simp
      rw [e, ← TL.len_tl, Nat.mul_comm]
      exact Nat.le_trans hl (by decide)
  · exact q.elim
end
end MM

set_option Elab.async false
set_option linter.all false
set_option maxRecDepth 100000
set_option maxHeartbeats 4000000
namespace K97
open PySem PySem.Spec PyProof.Rows L2 MM
open TL (tl)
/-! ### the mirror -/
def cellAt (ns : List Int) (k : Nat) : Int := ns.getD k 0
def forms : List (Str × Str) := [("new", ""), ("fork", "n"), ("end", "n"), ("bank", "n"), ("drop", "n"), ("lay", "nnnr"), ("lay", "nnnrnn"), ("lift", "nnn"), ("guard", "nnnr"), ("read", "nn"), ("write", "nnv"), ("fold", ""), ("see", "nn"), ("laid", "n"), ("live", "")]
def lawForm (c : Int) : Str × Str := forms.getD (c % 15).toNat ("", "")
def rightsTxt : List Str := ["--", "r-", "-w", "rw"]
def lawWritten (n : Int) (kind : Nat) : Str := if kind = 114 then rightsTxt.getD n.toNat "" else toString n
/-- the figures of a row's number -/
def isD (c : Nat) : Bool := decide (48 ≤ c) && decide (c ≤ 57)
def numOk (l : List Nat) : Bool := decide (1 ≤ l.length) && (decide (l.length ≤ 60) && (l.all isD && !(decide (1 < l.length) && l.head? == some 48)))
def rdNum (l : List Nat) : Option Int := if numOk l = true then some (NumText.digitsVal l : Nat) else none
def rdVal (l : List Nat) : Option Int := if l.head? = some 45 then (match rdNum l.tail with
  | some n => if n = 0 then none else some (-n)
  | none => none) else rdNum l
def rdRights (l : List Nat) : Option Int := match l with
  | [a, b] => if (a = 114 ∨ a = 45) ∧ (b = 119 ∨ b = 45) then some ((if a = 114 then 1 else 0) + 2 * (if b = 119 then 1 else 0)) else none
  | _ => none
def rdPart (kind : Nat) (w : Str) : Option Int := if kind = 110 then rdNum (tl w) else if kind = 118 then rdVal (tl w) else rdRights (tl w)
def rdParts : List Nat → List Str → Option (List Int)
  | [], _ => some []
  | _ :: _, [] => some []
  | k :: ks, w :: ws => match rdPart k w with
    | some n => (match rdParts ks ws with
      | some r => some (n :: r)
      | none => none)
    | none => none
def tab_WORDS : List (Str × V) := [("new", .str ""), ("fork", .str "n"), ("end", .str "n"), ("bank", .str "n"), ("drop", .str "n"), ("lay", .str "nnnr"), ("lift", .str "nnn"), ("guard", .str "nnnr"), ("read", .str "nn"), ("write", .str "nnv"), ("fold", .str ""), ("see", .str "nn"), ("laid", .str "n"), ("live", .str "")]
def kindsOf (w : Str) : Option Str := match tab_WORDS.lookup w with
  | some (.str k) => some k
  | _ => none
/-- the words of a row, read as a deed -/
def rdWords (ws : List Str) : Option (List V) := match ws with
  | [] => none
  | w :: r => match kindsOf w with
    | none => none
    | some k0 =>
      let k := if w = "lay" ∧ r.length = 6 then k0 ++ "nn" else k0
      if r.length = k.length then (match rdParts (tl k) r with
        | some ns => some (.str w :: ns.map V.int ++ (if w = "lay" ∧ r.length = 4 then [V.non, V.int 0] else []))
        | none => none)
      else none
def rdRow (x : Str) : Option (List V) := rdWords (Txt.split x " ")
/-! ### the promises -/
def sp__law_cell_at (K : PySem.W.Frag) : Sp := fun vs H Q _ => vs.length = 2 ∧ ∃ (a : Addr) (ns : List Int) (k : Nat), vs = [.ref a, .int k] ∧ SqL K H a (ns.map V.int) ∧ Q (.int (cellAt ns k)) H
/-- a new tuple, all that stood stands -/
def RetT (xs : List V) (H : Hp) (Q : VK) : Prop := ∀ p H', Same H H' → H' p = some (.tup xs) → Q (.ref p) H'
def sp__law_form (K : PySem.W.Frag) : Sp := fun vs H Q _ => vs.length = 1 ∧ ∃ c : Int, vs = [.int c] ∧ RetT [.str (lawForm c).1, .str (lawForm c).2] H Q
def okN (k : Nat) (n : Int) : Prop := if k = 114 then 0 ≤ n ∧ n < 4 else if k = 118 then n.natAbs < 10 ^ 60 else 0 ≤ n ∧ n < 10 ^ 60
def lawWords (w : Str) (ks : List Nat) (ns : List Int) : List Str := w :: (ns.zip ks).map fun p => lawWritten p.1 p.2
def lawDue (w : Str) (ks : List Nat) (ns : List Int) : List V := .str w :: ns.map V.int ++ (if w = Str.ofString "lay" ∧ ks.length = 4 then [V.non, V.int 0] else [])
def rowText (w : Str) (ks : List Nat) (ns : List Int) : Str := Txt.join (Str.ofString " ") (lawWords w ks ns)
/-- a deed of the law -/
def DeedOk (w kd : Str) (ns : List Int) : Prop := (w, kd) ∈ forms ∧ (tl kd).length = ns.length ∧ ∀ p ∈ ns.zip (tl kd), okN p.2 p.1
def sp_read_number (K : PySem.W.Frag) : Sp := fun vs H Q E => vs.length = 1 ∧ ∃ w : Str, vs = [.str w] ∧ w.length ≤ sizeLine ∧ (match rdNum (tl w) with
  | some n => Q (.int n) H
  | none => E (.ref (He.ga K "NoRow")) none H)
def sp_read_value (K : PySem.W.Frag) : Sp := fun vs H Q E => vs.length = 1 ∧ ∃ w : Str, vs = [.str w] ∧ w.length ≤ sizeLine ∧ (match rdVal (tl w) with
  | some n => Q (.int n) H
  | none => E (.ref (He.ga K "NoRow")) none H)
def sp_read_rights (K : PySem.W.Frag) : Sp := fun vs H Q E => vs.length = 1 ∧ ∃ w : Str, vs = [.str w] ∧ w.length ≤ sizeLine ∧ (match rdRights (tl w) with
  | some n => Q (.int n) H
  | none => E (.ref (He.ga K "NoRow")) none H)
def sp_read_row (K : PySem.W.Frag) : Sp := fun vs H Q E => vs.length = 1 ∧ ∃ x : Str, vs = [.str x] ∧ x.length + 2 ≤ 1000000 ∧ (match rdRow x with
  | some d => RetT d H Q
  | none => ∀ H', Same H H' → E (.ref (He.ga K "NoRow")) none H')
def exN : List Str := ["FrameError", "NoShape", "OutOfRoom", "BadRights", "NoTask", "NoBank", "OutOfBank", "Taken", "NotMapped", "NoRight", "NoRoom", "Busy", "NoRow"]
def isSign (k : Nat) : Prop := 32 ≤ k ∧ k ≤ 126
def sp__law_sign (K : PySem.W.Frag) : Sp := fun vs H Q _ => vs.length = 1 ∧ ∃ c : Int, vs = [.int c] ∧ ∀ k, isSign k → Q (.str ⟨#[k]⟩) H
def sp__law_other (K : PySem.W.Frag) : Sp := fun vs H Q _ => vs.length = 3 ∧ ∃ (s : Nat) (c : Int) (b : Str), vs = [.str ⟨#[s]⟩, .int c, .str b] ∧ ∀ k, isSign k → (k = 63 ∨ (k ≠ s ∧ k ∉ tl b)) → Q (.str ⟨#[k]⟩) H
def sp__law_word (K : PySem.W.Frag) : Sp := fun vs H Q _ => vs.length = 2 ∧ ∃ (c : Int) (k : Nat), vs = [.int c, .str ⟨#[k]⟩] ∧ (k = 110 ∨ k = 118 ∨ k = 114) ∧ ∀ (n : Int) H', Same H H' → 0 ≤ n → okN k n → Q (.str (lawWritten n k)) H'
def sp__law_put (K : PySem.W.Frag) : Sp := fun vs H Q _ => vs.length = 3 ∧ ∃ (w s : Str) (j : Nat), vs = [.str w, .int j, .str s] ∧ j < w.length ∧ w.length ≤ 1000 ∧ s.length ≤ 1000 ∧ ∀ T, tl T = (tl w).take j ++ (tl s ++ (tl w).drop (j + 1)) → Q (.str T) H
/-- no part of a row: no word of the kind, or two words -/
def Spoilt (k : Nat) (T : Str) : Prop := T.length ≤ 200 ∧ ((32 ∉ tl T ∧ rdPart k T = none) ∨ ∃ p q, tl T = p ++ 32 :: q ∧ 32 ∉ p ∧ 32 ∉ q)
def sp__law_number_spoilt (K : PySem.W.Frag) : Sp := fun vs H Q _ => vs.length = 4 ∧ ∃ (n way c : Int) (k : Nat), vs = [.str (lawWritten n k), .str ⟨#[k]⟩, .int way, .int c] ∧ 6 ≤ way ∧ way ≤ 9 ∧ (k = 110 ∨ k = 118) ∧ 0 ≤ n ∧ okN k n ∧ ∀ T H', Same H H' → Spoilt k T → Q (.str T) H'
def sp__law_rights_spoilt (K : PySem.W.Frag) : Sp := fun vs H Q _ => vs.length = 2 ∧ ∃ n c : Int, vs = [.str (lawWritten n 114), .int c] ∧ okN 114 n ∧ ∀ T H', Same H H' → Spoilt 114 T → Q (.str T) H'
def BadRow (T : Str) : Prop := T.length ≤ 2000 ∧ rdRow T = none
def sp__law_odd (K : PySem.W.Frag) : Sp := fun vs H Q _ => vs.length = 1 ∧ ∃ c : Int, vs = [.int c] ∧ ∀ T H', Same H H' → BadRow T → Q (.str T) H'
def sp__law_spoilt (K : PySem.W.Frag) : Sp := fun vs H Q _ => vs.length = 4 ∧ ∃ (a : Addr) (w kd : Str) (ns : List Int) (way c : Int), vs = [.ref a, .str kd, .int way, .int c] ∧ H a = some (.lst ((lawWords w (tl kd) ns).map V.str)) ∧ DeedOk w kd ns ∧ (∀ n ∈ ns, 0 ≤ n) ∧ ∀ T H', Same H H' → BadRow T → Q (.str T) H'
def sp__law_refused (K : PySem.W.Frag) : Sp := fun vs H Q _ => vs.length = 1 ∧ ∃ T : Str, vs = [.str T] ∧ BadRow T ∧ ∀ H', Same H H' → Q (.bl true) H'
def sp_law (K : PySem.W.Frag) : Sp := fun vs H Q _ => vs.length = 1 ∧ ∃ (a : Addr) (ns : List Int), vs = [.ref a] ∧ SqL K H a (ns.map V.int) ∧ ns.length ≤ 63 ∧ ∀ H', Q (.bl true) H'
end K97

set_option Elab.async false
set_option linter.all false
set_option maxRecDepth 100000
set_option maxHeartbeats 4000000
namespace K97
open PySem PySem.Spec PyProof.Rows L2 MM
def r__law_form_3 (K : PySem.W.Frag) (W : WX) : TS := (tRet (tOp mIx (tVar 1) (tOp (oIc (fun _ j => 0 < j) fun i j => .int (i % j)) (tVar 0) (tC (.int 15)))))
def r__law_form_2 (K : PySem.W.Frag) (W : WX) : TS := tSeq (tAsg (tOp mAdd (tVar 1) (mLst (tCons (mTup (tCons (tC (.str "fold")) (tCons (tC (.str "")) tNil))) (tCons (mTup (tCons (tC (.str "see")) (tCons (tC (.str "nn")) tNil))) (tCons (mTup (tCons (tC (.str "laid")) (tCons (tC (.str "n")) tNil))) (tCons (mTup (tCons (tC (.str "live")) (tCons (tC (.str "")) tNil))) tNil)))))) (gName 1)) (r__law_form_3 K W)
def r__law_form_1 (K : PySem.W.Frag) (W : WX) : TS := tSeq (tAsg (tOp mAdd (tVar 1) (mLst (tCons (mTup (tCons (tC (.str "lay")) (tCons (tC (.str "nnnrnn")) tNil))) (tCons (mTup (tCons (tC (.str "lift")) (tCons (tC (.str "nnn")) tNil))) (tCons (mTup (tCons (tC (.str "guard")) (tCons (tC (.str "nnnr")) tNil))) (tCons (mTup (tCons (tC (.str "read")) (tCons (tC (.str "nn")) tNil))) (tCons (mTup (tCons (tC (.str "write")) (tCons (tC (.str "nnv")) tNil))) tNil))))))) (gName 1)) (r__law_form_2 K W)
def r__law_form_0 (K : PySem.W.Frag) (W : WX) : TS := tSeq (tAsg (mLst (tCons (mTup (tCons (tC (.str "new")) (tCons (tC (.str "")) tNil))) (tCons (mTup (tCons (tC (.str "fork")) (tCons (tC (.str "n")) tNil))) (tCons (mTup (tCons (tC (.str "end")) (tCons (tC (.str "n")) tNil))) (tCons (mTup (tCons (tC (.str "bank")) (tCons (tC (.str "n")) tNil))) (tCons (mTup (tCons (tC (.str "drop")) (tCons (tC (.str "n")) tNil))) (tCons (mTup (tCons (tC (.str "lay")) (tCons (tC (.str "nnnr")) tNil))) tNil))))))) (gName 1)) (r__law_form_1 K W)
abbrev r__law_form (K : PySem.W.Frag) (W : WX) : TS := r__law_form_0 K W
def r__law_cell_at_0t0 (K : PySem.W.Frag) (W : WX) : TS := (tRet (tOp (rIxL K) (tVar 0) (tVar 1)))
def r__law_cell_at_1 (K : PySem.W.Frag) (W : WX) : TS := (tRet (tC (.int 0)))
def r__law_cell_at_0 (K : PySem.W.Frag) (W : WX) : TS := tSeq (tIfS (tTest (tOp (oI fun i j => .bl (decide (i < j))) (tVar 1) (tCB (mLenS K) (tCons (tVar 0) tNil)))) (r__law_cell_at_0t0 K W) tNext) (r__law_cell_at_1 K W)
abbrev r__law_cell_at (K : PySem.W.Frag) (W : WX) : TS := r__law_cell_at_0 K W
def r__law_word_0t0 (K : PySem.W.Frag) (W : WX) : TS := (tRet (tOp mIx (mLst (tCons (tC (.str "--")) (tCons (tC (.str "r-")) (tCons (tC (.str "-w")) (tCons (tC (.str "rw")) tNil))))) (tOp (oIc (fun _ j => 0 < j) fun i j => .int (i % j)) (tVar 0) (tC (.int 4)))))
def r__law_word_2t0 (K : PySem.W.Frag) (W : WX) : TS := (tAsg (tOp (oIc (fun _ j => 0 < j) fun i j => .int (i % j)) (tOp (oIc CDiv fun i j => .int (i / j)) (tVar 0) (tC (.int 4))) (tC (.int 12))) (gName 2))
def r__law_word_3 (K : PySem.W.Frag) (W : WX) : TS := (tRet (tCB mStr (tCons (tVar 2) tNil)))
def r__law_word_2 (K : PySem.W.Frag) (W : WX) : TS := tSeq (tIfS (tTest (tOp oEq (tOp (oIc (fun _ j => 0 < j) fun i j => .int (i % j)) (tVar 0) (tC (.int 2))) (tC (.int 0)))) (r__law_word_2t0 K W) tNext) (r__law_word_3 K W)
def r__law_word_1 (K : PySem.W.Frag) (W : WX) : TS := tSeq (tAsg (tOp (oIc (fun _ j => 0 < j) fun i j => .int (i % j)) (tOp (oIc CDiv fun i j => .int (i / j)) (tVar 0) (tC (.int 2))) (tOp (oIc CPow fun i j => .int (i ^ j.toNat)) (tC (.int 10)) (tC (.int 60)))) (gName 2)) (r__law_word_2 K W)
def r__law_word_0 (K : PySem.W.Frag) (W : WX) : TS := tSeq (tIfS (tTest (tOp oEq (tVar 1) (tC (.str "r")))) (r__law_word_0t0 K W) tNext) (r__law_word_1 K W)
abbrev r__law_word (K : PySem.W.Frag) (W : WX) : TS := r__law_word_0 K W
def r_read_number_0t0 (K : PySem.W.Frag) (W : WX) : TS := (mRaise (He.ga K "NoRow") W)
def r_read_number_1f0t0 (K : PySem.W.Frag) (W : WX) : TS := (mRaise (He.ga K "NoRow") W)
def r_read_number_1f0 (K : PySem.W.Frag) (W : WX) : TS := (tIfS (tTest (tOp (mIn true) (tVar 1) (tC (.str "0123456789")))) (r_read_number_1f0t0 K W) tNext)
def g_read_number_0 (K : PySem.W.Frag) (W : WX) : TG := (gName 1)
def r_read_number_2t0 (K : PySem.W.Frag) (W : WX) : TS := (mRaise (He.ga K "NoRow") W)
def r_read_number_3 (K : PySem.W.Frag) (W : WX) : TS := (tRet (tCB mInt (tCons (tVar 0) tNil)))
def r_read_number_2 (K : PySem.W.Frag) (W : WX) : TS := tSeq (tIfS (tAnd (tTest (tOp (oI fun i j => .bl (decide (j < i))) (tCB mLen (tCons (tVar 0) tNil)) (tC (.int 1)))) (tTest (tOp oEq (tOp mIx (tVar 0) (tC (.int 0))) (tC (.str "0"))))) (r_read_number_2t0 K W) tNext) (r_read_number_3 K W)
def r_read_number_1 (K : PySem.W.Frag) (W : WX) : TS := tSeq (tFor (iStr (tVar 0)) (g_read_number_0 K W) (r_read_number_1f0 K W)) (r_read_number_2 K W)
def r_read_number_0 (K : PySem.W.Frag) (W : WX) : TS := tSeq (tIfS (tNot (tTest (tChain (oI fun i j => .bl (decide (i ≤ j))) (oI fun i j => .bl (decide (i ≤ j))) (tC (.int 1)) (tCB mLen (tCons (tVar 0) tNil)) (tC (.int 60))))) (r_read_number_0t0 K W) tNext) (r_read_number_1 K W)
abbrev r_read_number (K : PySem.W.Frag) (W : WX) : TS := r_read_number_0 K W
def r_read_value_0t0 (K : PySem.W.Frag) (W : WX) : TS := (tRet (mCall (sp_read_number K) [] W (tCons (tVar 0) tNil)))
def r_read_value_2t0 (K : PySem.W.Frag) (W : WX) : TS := (mRaise (He.ga K "NoRow") W)
def r_read_value_3 (K : PySem.W.Frag) (W : WX) : TS := (tRet (tUn uNeg (tVar 1)))
def r_read_value_2 (K : PySem.W.Frag) (W : WX) : TS := tSeq (tIfS (tTest (tOp oEq (tVar 1) (tC (.int 0)))) (r_read_value_2t0 K W) tNext) (r_read_value_3 K W)
def r_read_value_1 (K : PySem.W.Frag) (W : WX) : TS := tSeq (tAsg (mCall (sp_read_number K) [] W (tCons (tSl mSl (tVar 0) (tPart (tC (.int 1))) tNoPart) tNil)) (gName 1)) (r_read_value_2 K W)
def r_read_value_0 (K : PySem.W.Frag) (W : WX) : TS := tSeq (tIfS (tNot (tB (mBM "str" mStarts (tVar 0) (tCons (tC (.str "-")) tNil)))) (r_read_value_0t0 K W) tNext) (r_read_value_1 K W)
abbrev r_read_value (K : PySem.W.Frag) (W : WX) : TS := r_read_value_0 K W
def r_read_rights_0t0 (K : PySem.W.Frag) (W : WX) : TS := (mRaise (He.ga K "NoRow") W)
def r_read_rights_1 (K : PySem.W.Frag) (W : WX) : TS := (tRet (tOp mAdd (tCB mInt (tCons (tOp oEq (tOp mIx (tVar 0) (tC (.int 0))) (tC (.str "r"))) tNil)) (tOp (oIc CMul fun i j => .int (i * j)) (tC (.int 2)) (tCB mInt (tCons (tOp oEq (tOp mIx (tVar 0) (tC (.int 1))) (tC (.str "w"))) tNil)))))
def r_read_rights_0 (K : PySem.W.Frag) (W : WX) : TS := tSeq (tIfS (tOr (tTest (tOp oNe (tCB mLen (tCons (tVar 0) tNil)) (tC (.int 2)))) (tOr (tTest (tOp (mIn true) (tOp mIx (tVar 0) (tC (.int 0))) (tC (.str "r-")))) (tTest (tOp (mIn true) (tOp mIx (tVar 0) (tC (.int 1))) (tC (.str "w-")))))) (r_read_rights_0t0 K W) tNext) (r_read_rights_1 K W)
abbrev r_read_rights (K : PySem.W.Frag) (W : WX) : TS := r_read_rights_0 K W
def r_read_row_1t0 (K : PySem.W.Frag) (W : WX) : TS := (mRaise (He.ga K "NoRow") W)
def r_read_row_3t0 (K : PySem.W.Frag) (W : WX) : TS := (tAsg (tOp mAdd (tVar 2) (tC (.str "nn"))) (gName 2))
def r_read_row_4t0 (K : PySem.W.Frag) (W : WX) : TS := (mRaise (He.ga K "NoRow") W)
def r_read_row_6f0t0 (K : PySem.W.Frag) (W : WX) : TS := (tDrop (mBM "list" mAppend (tVar 3) (tCons (mCall (sp_read_number K) [] W (tCons (tVar 4) tNil)) tNil)))
def r_read_row_6f0e0t0 (K : PySem.W.Frag) (W : WX) : TS := (tDrop (mBM "list" mAppend (tVar 3) (tCons (mCall (sp_read_value K) [] W (tCons (tVar 4) tNil)) tNil)))
def r_read_row_6f0e0e0 (K : PySem.W.Frag) (W : WX) : TS := (tDrop (mBM "list" mAppend (tVar 3) (tCons (mCall (sp_read_rights K) [] W (tCons (tVar 4) tNil)) tNil)))
def r_read_row_6f0e0 (K : PySem.W.Frag) (W : WX) : TS := (tIfS (tTest (tOp oEq (tVar 5) (tC (.str "v")))) (r_read_row_6f0e0t0 K W) (r_read_row_6f0e0e0 K W))
def r_read_row_6f0 (K : PySem.W.Frag) (W : WX) : TS := (tIfS (tTest (tOp oEq (tVar 5) (tC (.str "n")))) (r_read_row_6f0t0 K W) (r_read_row_6f0e0 K W))
def g_read_row_0 (K : PySem.W.Frag) (W : WX) : TG := (gTupM 2 (gCons (gName 4) (gCons (gName 5) gNil)))
def r_read_row_7t0 (K : PySem.W.Frag) (W : WX) : TS := (tAsg (tOp mAdd (tVar 3) (mLst (tCons (tC .non) (tCons (tC (.int 0)) tNil)))) (gName 3))
def r_read_row_8 (K : PySem.W.Frag) (W : WX) : TS := (tRet (tCB mTupOf (tCons (tVar 3) tNil)))
def r_read_row_7 (K : PySem.W.Frag) (W : WX) : TS := tSeq (tIfS (tAnd (tTest (tOp oEq (tOp mIx (tVar 1) (tC (.int 0))) (tC (.str "lay")))) (tTest (tOp oEq (tCB mLen (tCons (tVar 1) tNil)) (tC (.int 5))))) (r_read_row_7t0 K W) tNext) (r_read_row_8 K W)
def r_read_row_6 (K : PySem.W.Frag) (W : WX) : TS := tSeq (tFor (iZipS K (tCons (tSl mSl (tVar 1) (tPart (tC (.int 1))) tNoPart) (tCons (tVar 2) tNil))) (g_read_row_0 K W) (r_read_row_6f0 K W)) (r_read_row_7 K W)
def r_read_row_5 (K : PySem.W.Frag) (W : WX) : TS := tSeq (tAsg (mLst (tCons (tOp mIx (tVar 1) (tC (.int 0))) tNil)) (gName 3)) (r_read_row_6 K W)
def r_read_row_4 (K : PySem.W.Frag) (W : WX) : TS := tSeq (tIfS (tTest (tOp oNe (tCB mLen (tCons (tVar 1) tNil)) (tOp mAdd (tCB mLen (tCons (tVar 2) tNil)) (tC (.int 1))))) (r_read_row_4t0 K W) tNext) (r_read_row_5 K W)
def r_read_row_3 (K : PySem.W.Frag) (W : WX) : TS := tSeq (tIfS (tAnd (tTest (tOp oEq (tOp mIx (tVar 1) (tC (.int 0))) (tC (.str "lay")))) (tTest (tOp oEq (tCB mLen (tCons (tVar 1) tNil)) (tC (.int 7))))) (r_read_row_3t0 K W) tNext) (r_read_row_4 K W)
def r_read_row_2 (K : PySem.W.Frag) (W : WX) : TS := tSeq (tAsg (tOp (mTabIx (He.ga K "WORDS") (tab_WORDS)) (tC (.ref (He.ga K "WORDS"))) (tOp mIx (tVar 1) (tC (.int 0)))) (gName 2)) (r_read_row_3 K W)
def r_read_row_1 (K : PySem.W.Frag) (W : WX) : TS := tSeq (tIfS (tTest (tOp (mInTab true (He.ga K "WORDS") (tab_WORDS)) (tOp mIx (tVar 1) (tC (.int 0))) (tC (.ref (He.ga K "WORDS"))))) (r_read_row_1t0 K W) tNext) (r_read_row_2 K W)
def r_read_row_0 (K : PySem.W.Frag) (W : WX) : TS := tSeq (tAsg (mBM "str" mSplit (tVar 0) (tCons (tC (.str " ")) tNil)) (gName 1)) (r_read_row_1 K W)
abbrev r_read_row (K : PySem.W.Frag) (W : WX) : TS := r_read_row_0 K W
def r__law_refused_0y0 (K : PySem.W.Frag) (W : WX) : TS := (tDrop (mCall (sp_read_row K) [] W (tCons (tVar 0) tNil)))
def r__law_refused_0x0t0 (K : PySem.W.Frag) (W : WX) (xa : Addr) (xn : Str) : TS := (tRet (tC (.bl false)))
def r__law_refused_0x1t0 (K : PySem.W.Frag) (W : WX) (xa : Addr) (xn : Str) : TS := (tRet (tC (.bl false)))
def r__law_refused_0x2 (K : PySem.W.Frag) (W : WX) (xa : Addr) (xn : Str) : TS := (tRet (tAndV (tCB (mIsE K exN xa xn) (tCons (tVar 1) (tCons (tC (.ref (He.ga K "NoRow"))) tNil))) (tCB (mIsE K exN xa xn) (tCons (tVar 1) (tCons (tC (.ty "ValueError")) tNil)))))
def r__law_refused_0x1 (K : PySem.W.Frag) (W : WX) (xa : Addr) (xn : Str) : TS := tSeq (tIfS (tB (tCB (mIsE K exN xa xn) (tCons (tVar 1) (tCons (mTup (tCons (tC (.ref (He.ga K "NotMapped"))) (tCons (tC (.ref (He.ga K "NoRight"))) (tCons (tC (.ref (He.ga K "NoRoom"))) (tCons (tC (.ref (He.ga K "Busy"))) tNil))))) tNil)))) (r__law_refused_0x1t0 K W xa xn) tNext) (r__law_refused_0x2 K W xa xn)
def r__law_refused_0x0 (K : PySem.W.Frag) (W : WX) (xa : Addr) (xn : Str) : TS := tSeq (tIfS (tB (tCB (mIsE K exN xa xn) (tCons (tVar 1) (tCons (mTup (tCons (tC (.ref (He.ga K "NoShape"))) (tCons (tC (.ref (He.ga K "OutOfRoom"))) (tCons (tC (.ref (He.ga K "BadRights"))) (tCons (tC (.ref (He.ga K "NoTask"))) (tCons (tC (.ref (He.ga K "NoBank"))) (tCons (tC (.ref (He.ga K "OutOfBank"))) (tCons (tC (.ref (He.ga K "Taken"))) tNil)))))))) tNil)))) (r__law_refused_0x0t0 K W xa xn) tNext) (r__law_refused_0x1 K W xa xn)
def r__law_refused_1 (K : PySem.W.Frag) (W : WX) : TS := (tRet (tC (.bl false)))
def r__law_refused_0 (K : PySem.W.Frag) (W : WX) : TS := tSeq (fun D σ H => (r__law_refused_0y0 K (wAsN K exN "FrameError" 1 (fun xa xn => (r__law_refused_0x0 K W xa xn)) W D)) D σ H) (r__law_refused_1 K W)
abbrev r__law_refused (K : PySem.W.Frag) (W : WX) : TS := r__law_refused_0 K W
def r__law_put_0 (K : PySem.W.Frag) (W : WX) : TS := (tRet (tOp mAdd (tOp mAdd (tSl mSl (tVar 0) tNoPart (tPart (tVar 1))) (tVar 2)) (tSl mSl (tVar 0) (tPart (tOp mAdd (tVar 1) (tC (.int 1)))) tNoPart)))
abbrev r__law_put (K : PySem.W.Frag) (W : WX) : TS := r__law_put_0 K W
def r__law_sign_2 (K : PySem.W.Frag) (W : WX) : TS := (tRet (tOp mIx (tVar 1) (tOp (oIc (fun _ j => 0 < j) fun i j => .int (i % j)) (tVar 0) (tC (.int 94)))))
def r__law_sign_1 (K : PySem.W.Frag) (W : WX) : TS := tSeq (tAsg (tOp mAdd (tVar 1) (tC (.str "abcdefghijklmnopqrstuvwxyz{|}~"))) (gName 1)) (r__law_sign_2 K W)
def r__law_sign_0 (K : PySem.W.Frag) (W : WX) : TS := tSeq (tAsg (tC (.str " !\"#$&'()*+,-./0123456789:;<=>?@ABCDEFGHIJKLMNOPQRSTUVWXYZ[\\]^_`")) (gName 1)) (r__law_sign_1 K W)
abbrev r__law_sign (K : PySem.W.Frag) (W : WX) : TS := r__law_sign_0 K W
def r__law_other_1t0 (K : PySem.W.Frag) (W : WX) : TS := (tRet (tC (.str "?")))
def r__law_other_2 (K : PySem.W.Frag) (W : WX) : TS := (tRet (tVar 3))
def r__law_other_1 (K : PySem.W.Frag) (W : WX) : TS := tSeq (tIfS (tOr (tTest (tOp oEq (tVar 3) (tVar 0))) (tTest (tOp (mIn false) (tVar 3) (tVar 2)))) (r__law_other_1t0 K W) tNext) (r__law_other_2 K W)
def r__law_other_0 (K : PySem.W.Frag) (W : WX) : TS := tSeq (tAsg (mCall (sp__law_sign K) [] W (tCons (tVar 1) tNil)) (gName 3)) (r__law_other_1 K W)
abbrev r__law_other (K : PySem.W.Frag) (W : WX) : TS := r__law_other_0 K W
def r__law_number_spoilt_0t0 (K : PySem.W.Frag) (W : WX) : TS := (tRet (tOp mAdd (tC (.str "0")) (tVar 0)))
def r__law_number_spoilt_1t0 (K : PySem.W.Frag) (W : WX) : TS := (tRet (tOp mIx (mLst (tCons (tOp mAdd (tC (.str "+")) (tVar 0)) (tCons (tC (.str "-0")) (tCons (tOp mAdd (tC (.str "--")) (tVar 0)) (tCons (tOp mAdd (tC (.str "-0")) (tVar 0)) tNil))))) (tOp (oIc (fun _ j => 0 < j) fun i j => .int (i % j)) (tVar 3) (tC (.int 4)))))
def r__law_number_spoilt_2t0 (K : PySem.W.Frag) (W : WX) : TS := (tRet (tOp mAdd (tOp mIx (mLst (tCons (tC (.str "+")) (tCons (tC (.str "-")) tNil))) (tOp (oIc (fun _ j => 0 < j) fun i j => .int (i % j)) (tVar 3) (tC (.int 2)))) (tVar 0)))
def r__law_number_spoilt_3t0 (K : PySem.W.Frag) (W : WX) : TS := (tRet (tOp mAdd (tCB mStr (tCons (tOp mAdd (tC (.int 1)) (tOp (oIc (fun _ j => 0 < j) fun i j => .int (i % j)) (tVar 3) (tC (.int 9)))) tNil)) (tSl mSl (tOp oRepS (tVar 0) (tC (.int 60))) tNoPart (tPart (tC (.int 60))))))
def r__law_number_spoilt_5 (K : PySem.W.Frag) (W : WX) : TS := (tRet (mCall (sp__law_put K) [] W (tCons (tVar 0) (tCons (tVar 4) (tCons (mCall (sp__law_other K) [] W (tCons (tOp mIx (tVar 0) (tVar 4)) (tCons (tOp (oIc CDiv fun i j => .int (i / j)) (tVar 3) (tC (.int 60))) (tCons (tC (.str "-0123456789")) tNil)))) tNil)))))
def r__law_number_spoilt_4 (K : PySem.W.Frag) (W : WX) : TS := tSeq (tAsg (tOp (oIc (fun _ j => 0 < j) fun i j => .int (i % j)) (tVar 3) (tCB mLen (tCons (tVar 0) tNil))) (gName 4)) (r__law_number_spoilt_5 K W)
def r__law_number_spoilt_3 (K : PySem.W.Frag) (W : WX) : TS := tSeq (tIfS (tTest (tOp oEq (tVar 2) (tC (.int 8)))) (r__law_number_spoilt_3t0 K W) tNext) (r__law_number_spoilt_4 K W)
def r__law_number_spoilt_2 (K : PySem.W.Frag) (W : WX) : TS := tSeq (tIfS (tTest (tOp oEq (tVar 2) (tC (.int 7)))) (r__law_number_spoilt_2t0 K W) tNext) (r__law_number_spoilt_3 K W)
def r__law_number_spoilt_1 (K : PySem.W.Frag) (W : WX) : TS := tSeq (tIfS (tAnd (tTest (tOp oEq (tVar 2) (tC (.int 7)))) (tTest (tOp oEq (tVar 1) (tC (.str "v"))))) (r__law_number_spoilt_1t0 K W) tNext) (r__law_number_spoilt_2 K W)
def r__law_number_spoilt_0 (K : PySem.W.Frag) (W : WX) : TS := tSeq (tIfS (tTest (tOp oEq (tVar 2) (tC (.int 6)))) (r__law_number_spoilt_0t0 K W) tNext) (r__law_number_spoilt_1 K W)
abbrev r__law_number_spoilt (K : PySem.W.Frag) (W : WX) : TS := r__law_number_spoilt_0 K W
def r__law_rights_spoilt_2t0 (K : PySem.W.Frag) (W : WX) : TS := (tRet (tOp mIx (tVar 3) (tOp (oIc (fun _ j => 0 < j) fun i j => .int (i % j)) (tOp (oIc CDiv fun i j => .int (i / j)) (tVar 1) (tC (.int 6))) (tC (.int 12)))))
def r__law_rights_spoilt_3 (K : PySem.W.Frag) (W : WX) : TS := (tRet (mCall (sp__law_put K) [] W (tCons (tVar 0) (tCons (tVar 2) (tCons (mCall (sp__law_other K) [] W (tCons (tOp mIx (tVar 0) (tVar 2)) (tCons (tOp (oIc CDiv fun i j => .int (i / j)) (tVar 1) (tC (.int 6))) (tCons (tOp mIx (mLst (tCons (tC (.str "r-")) (tCons (tC (.str "w-")) tNil))) (tVar 2)) tNil)))) tNil)))))
def r__law_rights_spoilt_2 (K : PySem.W.Frag) (W : WX) : TS := tSeq (tIfS (tTest (tOp oEq (tOp (oIc (fun _ j => 0 < j) fun i j => .int (i % j)) (tOp (oIc CDiv fun i j => .int (i / j)) (tVar 1) (tC (.int 2))) (tC (.int 3))) (tC (.int 0)))) (r__law_rights_spoilt_2t0 K W) tNext) (r__law_rights_spoilt_3 K W)
def r__law_rights_spoilt_1 (K : PySem.W.Frag) (W : WX) : TS := tSeq (tAsg (mLst (tCons (tC (.str "wr")) (tCons (tC (.str "r")) (tCons (tC (.str "w")) (tCons (tC (.str "rwx")) (tCons (tC (.str "RW")) (tCons (tC (.str "w-")) (tCons (tC (.str "-r")) (tCons (tC (.str "rr")) (tCons (tC (.str "ww")) (tCons (tC (.str "-")) (tCons (tC (.str "---")) (tCons (tC (.str "3")) tNil))))))))))))) (gName 3)) (r__law_rights_spoilt_2 K W)
def r__law_rights_spoilt_0 (K : PySem.W.Frag) (W : WX) : TS := tSeq (tAsg (tOp (oIc (fun _ j => 0 < j) fun i j => .int (i % j)) (tVar 1) (tC (.int 2))) (gName 2)) (r__law_rights_spoilt_1 K W)
abbrev r__law_rights_spoilt (K : PySem.W.Frag) (W : WX) : TS := r__law_rights_spoilt_0 K W
def r__law_odd_3 (K : PySem.W.Frag) (W : WX) : TS := (tRet (tOp mIx (tVar 1) (tOp (oIc (fun _ j => 0 < j) fun i j => .int (i % j)) (tVar 0) (tC (.int 22)))))
def r__law_odd_2 (K : PySem.W.Frag) (W : WX) : TS := tSeq (tAsg (tOp mAdd (tVar 1) (mLst (tCons (tC (.str "lay 0 0 1 rw 0 0 0")) (tCons (tC (.str "live ")) (tCons (tC (.str "write 0 0")) (tCons (tC (.str "read 0")) (tCons (tC (.str "laid")) (tCons (tC (.str "hold")) (tCons (tC (.str "read 0,0")) (tCons (tC (.str "see  0 0")) tNil)))))))))) (gName 1)) (r__law_odd_3 K W)
def r__law_odd_1 (K : PySem.W.Frag) (W : WX) : TS := tSeq (tAsg (tOp mAdd (tVar 1) (mLst (tCons (tC (.str "write 0 0 -0")) (tCons (tC (.str "write 0 7 -00")) (tCons (tC (.str "write 0 0 --1")) tNil))))) (gName 1)) (r__law_odd_2 K W)
def r__law_odd_0 (K : PySem.W.Frag) (W : WX) : TS := tSeq (tAsg (mLst (tCons (tC (.str "")) (tCons (tC (.str " ")) (tCons (tC (.str "NEW")) (tCons (tC (.str "New")) (tCons (tC (.str "new 0")) (tCons (tC (.str "news")) (tCons (tC (.str "fork")) (tCons (tC (.str "fork 1 2")) (tCons (tC (.str "lay 0 0 1")) (tCons (tC (.str "lay 0 0 1 rw 0")) (tCons (tC (.str "fold 0")) tNil)))))))))))) (gName 1)) (r__law_odd_1 K W)
abbrev r__law_odd (K : PySem.W.Frag) (W : WX) : TS := r__law_odd_0 K W
def g__law_spoilt_0 (K : PySem.W.Frag) (W : WX) : TG := (gName 6)
def c__law_spoilt_1 (K : PySem.W.Frag) (W : WX) : TT := (tTest (tOp oNe (tOp mIx (tVar 1) (tVar 6)) (tC (.str "r"))))
def e__law_spoilt_2 (K : PySem.W.Frag) (W : WX) : TE := (tOp mAdd (tVar 6) (tC (.int 1)))
def r__law_spoilt_2t0 (K : PySem.W.Frag) (W : WX) : TS := (tRet (tOp mAdd (tC (.str " ")) (tVar 4)))
def r__law_spoilt_3t1 (K : PySem.W.Frag) (W : WX) : TS := (tRet (tOp mAdd (tOp mAdd (mBM "str" mJoin (tC (.str " ")) (tCons (tSl mSl (tVar 0) tNoPart (tPart (tVar 7))) tNil)) (tC (.str "  "))) (mBM "str" mJoin (tC (.str " ")) (tCons (tSl mSl (tVar 0) (tPart (tVar 7)) tNoPart) tNil))))
def r__law_spoilt_3t0 (K : PySem.W.Frag) (W : WX) : TS := tSeq (tAsg (tOp mAdd (tC (.int 1)) (tOp (oIc (fun _ j => 0 < j) fun i j => .int (i % j)) (tVar 3) (tOp (oI fun i j => .int (i - j)) (tCB mLen (tCons (tVar 0) tNil)) (tC (.int 1))))) (gName 7)) (r__law_spoilt_3t1 K W)
def r__law_spoilt_4t0 (K : PySem.W.Frag) (W : WX) : TS := (tRet (mBM "str" mJoin (tC (.str " ")) (tCons (tSl mSl (tVar 0) tNoPart (tPart (tUn uNeg (tC (.int 1))))) tNil)))
def r__law_spoilt_5t0 (K : PySem.W.Frag) (W : WX) : TS := (tRet (tOp mAdd (tOp mAdd (tVar 4) (tC (.str " "))) (mCall (sp__law_word K) [] W (tCons (tVar 3) (tCons (tC (.str "n")) tNil)))))
def r__law_spoilt_6t1 (K : PySem.W.Frag) (W : WX) : TS := (tRet (tOp mAdd (mCall (sp__law_put K) [] W (tCons (tOp mIx (tVar 0) (tC (.int 0))) (tCons (tVar 7) (tCons (mCall (sp__law_other K) [] W (tCons (tOp mIx (tOp mIx (tVar 0) (tC (.int 0))) (tVar 7)) (tCons (tOp (oIc CDiv fun i j => .int (i / j)) (tVar 3) (tC (.int 4))) (tCons (tC (.str "")) tNil)))) tNil)))) (tSl mSl (tVar 4) (tPart (tCB mLen (tCons (tOp mIx (tVar 0) (tC (.int 0))) tNil))) tNoPart)))
def r__law_spoilt_6t0 (K : PySem.W.Frag) (W : WX) : TS := tSeq (tAsg (tOp (oIc (fun _ j => 0 < j) fun i j => .int (i % j)) (tVar 3) (tCB mLen (tCons (tOp mIx (tVar 0) (tC (.int 0))) tNil))) (gName 7)) (r__law_spoilt_6t1 K W)
def r__law_spoilt_7t3 (K : PySem.W.Frag) (W : WX) : TS := (tRet (mBM "str" mJoin (tC (.str " ")) (tCons (tVar 8) tNil)))
def r__law_spoilt_7t2 (K : PySem.W.Frag) (W : WX) : TS := tSeq (tAsg (mCall (sp__law_number_spoilt K) [] W (tCons (tOp mIx (tVar 0) (tVar 7)) (tCons (tOp mIx (tVar 1) (tOp (oI fun i j => .int (i - j)) (tVar 7) (tC (.int 1)))) (tCons (tVar 2) (tCons (tOp (oIc CDiv fun i j => .int (i / j)) (tVar 3) (tC (.int 5))) tNil))))) (gSub (tVar 8) (tVar 7) mSet)) (r__law_spoilt_7t3 K W)
def r__law_spoilt_7t1 (K : PySem.W.Frag) (W : WX) : TS := tSeq (tAsg (tCB mListOf (tCons (tVar 0) tNil)) (gName 8)) (r__law_spoilt_7t2 K W)
def r__law_spoilt_7t0 (K : PySem.W.Frag) (W : WX) : TS := tSeq (tAsg (tOp mIx (tVar 5) (tOp (oIc (fun _ j => 0 < j) fun i j => .int (i % j)) (tVar 3) (tCB mLen (tCons (tVar 5) tNil)))) (gName 7)) (r__law_spoilt_7t1 K W)
def r__law_spoilt_8t2 (K : PySem.W.Frag) (W : WX) : TS := (tRet (mBM "str" mJoin (tC (.str " ")) (tCons (tVar 8) tNil)))
def r__law_spoilt_8t1 (K : PySem.W.Frag) (W : WX) : TS := tSeq (tAsg (mCall (sp__law_rights_spoilt K) [] W (tCons (tOp mIx (tVar 0) (tC (.int 4))) (tCons (tVar 3) tNil))) (gSub (tVar 8) (tC (.int 4)) mSet)) (r__law_spoilt_8t2 K W)
def r__law_spoilt_8t0 (K : PySem.W.Frag) (W : WX) : TS := tSeq (tAsg (tCB mListOf (tCons (tVar 0) tNil)) (gName 8)) (r__law_spoilt_8t1 K W)
def r__law_spoilt_9t0 (K : PySem.W.Frag) (W : WX) : TS := (tRet (mCall (sp__law_odd K) [] W (tCons (tVar 3) tNil)))
def r__law_spoilt_10 (K : PySem.W.Frag) (W : WX) : TS := (tRet (tOp mAdd (tVar 4) (tC (.str " "))))
def r__law_spoilt_9 (K : PySem.W.Frag) (W : WX) : TS := tSeq (tIfS (tTest (tOp oEq (tVar 2) (tC (.int 11)))) (r__law_spoilt_9t0 K W) tNext) (r__law_spoilt_10 K W)
def r__law_spoilt_8 (K : PySem.W.Frag) (W : WX) : TS := tSeq (tIfS (tAnd (tTest (tOp oEq (tVar 2) (tC (.int 10)))) (tTest (tOp (mIn false) (tC (.str "r")) (tVar 1)))) (r__law_spoilt_8t0 K W) tNext) (r__law_spoilt_9 K W)
def r__law_spoilt_7 (K : PySem.W.Frag) (W : WX) : TS := tSeq (tIfS (tAnd (tTest (tChain (oI fun i j => .bl (decide (i ≤ j))) (oI fun i j => .bl (decide (i ≤ j))) (tC (.int 6)) (tVar 2) (tC (.int 9)))) (tTest (tOp (oI fun i j => .bl (decide (j < i))) (tCB mLen (tCons (tVar 5) tNil)) (tC (.int 0))))) (r__law_spoilt_7t0 K W) tNext) (r__law_spoilt_8 K W)
def r__law_spoilt_6 (K : PySem.W.Frag) (W : WX) : TS := tSeq (tIfS (tTest (tOp oEq (tVar 2) (tC (.int 5)))) (r__law_spoilt_6t0 K W) tNext) (r__law_spoilt_7 K W)
def r__law_spoilt_5 (K : PySem.W.Frag) (W : WX) : TS := tSeq (tIfS (tTest (tOp oEq (tVar 2) (tC (.int 4)))) (r__law_spoilt_5t0 K W) tNext) (r__law_spoilt_6 K W)
def r__law_spoilt_4 (K : PySem.W.Frag) (W : WX) : TS := tSeq (tIfS (tTest (tOp oEq (tVar 2) (tC (.int 3)))) (r__law_spoilt_4t0 K W) tNext) (r__law_spoilt_5 K W)
def r__law_spoilt_3 (K : PySem.W.Frag) (W : WX) : TS := tSeq (tIfS (tAnd (tTest (tOp oEq (tVar 2) (tC (.int 2)))) (tTest (tOp (oI fun i j => .bl (decide (j < i))) (tCB mLen (tCons (tVar 0) tNil)) (tC (.int 1))))) (r__law_spoilt_3t0 K W) tNext) (r__law_spoilt_4 K W)
def r__law_spoilt_2 (K : PySem.W.Frag) (W : WX) : TS := tSeq (tIfS (tTest (tOp oEq (tVar 2) (tC (.int 0)))) (r__law_spoilt_2t0 K W) tNext) (r__law_spoilt_3 K W)
def r__law_spoilt_1 (K : PySem.W.Frag) (W : WX) : TS := tSeq (tAsg (tLc (iRng1 (tCons (tCB mLen (tCons (tVar 1) tNil)) tNil)) (g__law_spoilt_0 K W) (c__law_spoilt_1 K W) (e__law_spoilt_2 K W) [6]) (gName 5)) (r__law_spoilt_2 K W)
def r__law_spoilt_0 (K : PySem.W.Frag) (W : WX) : TS := tSeq (tAsg (mBM "str" mJoin (tC (.str " ")) (tCons (tVar 0) tNil)) (gName 4)) (r__law_spoilt_1 K W)
abbrev r__law_spoilt (K : PySem.W.Frag) (W : WX) : TS := r__law_spoilt_0 K W
def r_law_2f0 (K : PySem.W.Frag) (W : WX) : TS := (tDrop (mBM "list" mAppend (tVar 3) (tCons (mCall (sp__law_word K) [] W (tCons (mCall (sp__law_cell_at K) [] W (tCons (tVar 0) (tCons (tOp mAdd (tC (.int 3)) (tVar 4)) tNil))) (tCons (tOp mIx (tVar 2) (tVar 4)) tNil))) tNil)))
def g_law_0 (K : PySem.W.Frag) (W : WX) : TG := (gName 4)
def r_law_4t0 (K : PySem.W.Frag) (W : WX) : TS := (tRet (tC (.bl false)))
def r_law_5t0 (K : PySem.W.Frag) (W : WX) : TS := (tRet (tC (.bl false)))
def r_law_6f0t0 (K : PySem.W.Frag) (W : WX) : TS := (tRet (tC (.bl false)))
def r_law_6f0 (K : PySem.W.Frag) (W : WX) : TS := (tIfS (tNot (tB (mCall (sp__law_refused K) [] W (tCons (mCall (sp__law_spoilt K) [] W (tCons (tVar 3) (tCons (tVar 2) (tCons (tOp (oIc (fun _ j => 0 < j) fun i j => .int (i % j)) (tVar 6) (tC (.int 12))) (tCons (tOp (oIc CDiv fun i j => .int (i / j)) (tVar 6) (tC (.int 12))) tNil))))) tNil)))) (r_law_6f0t0 K W) tNext)
def g_law_1 (K : PySem.W.Frag) (W : WX) : TG := (gName 6)
def r_law_8t0 (K : PySem.W.Frag) (W : WX) : TS := (tRet (tC (.bl false)))
def r_law_9 (K : PySem.W.Frag) (W : WX) : TS := (tRet (tOp (rEqD K) (mCall (sp_read_row K) [] W (tCons (tVar 5) tNil)) (mCall (sp_read_row K) [] W (tCons (mBM "str" mJoin (tC (.str " ")) (tCons (tVar 3) tNil)) tNil))))
def r_law_8 (K : PySem.W.Frag) (W : WX) : TS := tSeq (tIfS (tOr (tNot (tB (mCall (sp__law_refused K) [] W (tCons (tOp mAdd (tVar 7) (tC (.str "-0"))) tNil)))) (tTest (tOp oNe (tOp mIx (mCall (sp_read_row K) [] W (tCons (tOp mAdd (tVar 7) (tC (.str "0"))) tNil)) (tC (.int 3))) (tC (.int 0))))) (r_law_8t0 K W) tNext) (r_law_9 K W)
def r_law_7 (K : PySem.W.Frag) (W : WX) : TS := tSeq (tAsg (tOp mAdd (tOp mAdd (tOp mAdd (tOp mAdd (tC (.str "write ")) (mCall (sp__law_word K) [] W (tCons (mCall (sp__law_cell_at K) [] W (tCons (tVar 0) (tCons (tC (.int 3)) tNil))) (tCons (tC (.str "n")) tNil)))) (tC (.str " "))) (mCall (sp__law_word K) [] W (tCons (mCall (sp__law_cell_at K) [] W (tCons (tVar 0) (tCons (tC (.int 4)) tNil))) (tCons (tC (.str "n")) tNil)))) (tC (.str " "))) (gName 7)) (r_law_8 K W)
def r_law_6 (K : PySem.W.Frag) (W : WX) : TS := tSeq (tFor (iList K (tSl (rSlL K) (tVar 0) (tPart (tC (.int 9))) (tPart (tC (.int 19))))) (g_law_1 K W) (r_law_6f0 K W)) (r_law_7 K W)
def r_law_5 (K : PySem.W.Frag) (W : WX) : TS := tSeq (tIfS (tNot (tB (mCall (sp__law_refused K) [] W (tCons (mCall (sp__law_spoilt K) [] W (tCons (tVar 3) (tCons (tVar 2) (tCons (tOp (oIc (fun _ j => 0 < j) fun i j => .int (i % j)) (mCall (sp__law_cell_at K) [] W (tCons (tVar 0) (tCons (tC (.int 1)) tNil))) (tC (.int 12))) (tCons (mCall (sp__law_cell_at K) [] W (tCons (tVar 0) (tCons (tC (.int 2)) tNil))) tNil))))) tNil)))) (r_law_5t0 K W) tNext) (r_law_6 K W)
def r_law_4 (K : PySem.W.Frag) (W : WX) : TS := tSeq (tIfS (tNot (tB (tCB mIsi (tCons (mCall (sp_read_row K) [] W (tCons (tVar 5) tNil)) (tCons (tC (.ty "tuple")) tNil))))) (r_law_4t0 K W) tNext) (r_law_5 K W)
def r_law_3 (K : PySem.W.Frag) (W : WX) : TS := tSeq (tAsg (mBM "str" mJoin (tC (.str " ")) (tCons (tVar 3) tNil)) (gName 5)) (r_law_4 K W)
def r_law_2 (K : PySem.W.Frag) (W : WX) : TS := tSeq (tFor (iRng1 (tCons (tCB mLen (tCons (tVar 2) tNil)) tNil)) (g_law_0 K W) (r_law_2f0 K W)) (r_law_3 K W)
def r_law_1 (K : PySem.W.Frag) (W : WX) : TS := tSeq (tAsg (mLst (tCons (tVar 1) tNil)) (gName 3)) (r_law_2 K W)
def r_law_0 (K : PySem.W.Frag) (W : WX) : TS := tSeq (tAsg (mCall (sp__law_form K) [] W (tCons (mCall (sp__law_cell_at K) [] W (tCons (tVar 0) (tCons (tC (.int 0)) tNil))) tNil)) (gTupM 2 (gCons (gName 1) (gCons (gName 2) gNil)))) (r_law_1 K W)
abbrev r_law (K : PySem.W.Frag) (W : WX) : TS := r_law_0 K W
end K97

set_option Elab.async false
set_option linter.all false
set_option maxRecDepth 100000
set_option maxHeartbeats 4000000
namespace K97
open PySem PySem.Spec PyProof.Rows L2 MM
open TL (tl)
local macro_rules | `(tactic| walk_at "ev") => `(tactic| try simp only [tSeq, List.cons.injEq, decide_true, decide_false, not_true_eq_false, not_false_eq_true, not_dec, not_b, isA_tt, isA_ss, isA_ii, isA_bb, isA_ll, isA_bi, isA_dd, isA_ib, isA_is, isA_it, isA_il, isA_si, isA_sb, isA_ti, isA_tb, isA_ts, isA_tl, isA_li, isA_lb, isA_ls, isA_lt, isA_ni, isA_nb, isA_ns, isA_nl, isA_nt, isA_bs, isA_bl, isA_bt, isA_st, isA_sl, tAsg, gName, tVar, tC, tOp, tUn, tIf, tTest, tB, tAnd, tOr, tNot, tAndV, tOrV, tNotV, tChain, tRet, tRetN, tDrop, tIfS, tNext, tCont, tBreak, tCons, tNil, tCB, mTup, mLst, mDictK, mDictT, tSl, tPart, tNoPart, oI, oIc, oEq, oNe, oIsN, oNotN, uNeg, oRep, mAdd, mIx, mLen, mIsi, tyN, mInt, mMin, mMax, mAbs, mStr, mSl, mTupOf, mListOf, mSplit, mStarts, mBM, tyM, mCall, mMeth, mMeth2, mMake, mFld, mSetF, mRaise, mTabIx, mInTab, gTupM, gCons, gNil, gSub, mSet, scal, MM.keyOf, MM.keysOf, mAppend, mExtend, mPopL, mPop, mGet, mSetd, kvPop, kvLook, seqAt, L2.start, List.map_cons, List.map_nil, List.length_cons, List.length_nil, List.replicate, List.append_nil, List.nil_append, List.cons_append, List.getElem?_cons_zero, List.getElem?_cons_succ, List.getElem?_nil, List.set_cons_zero, List.set_cons_succ, Option.some.injEq, exists_eq_left, exists_eq_left', exists_eq', exists_and_left, and_true, true_and, if_true, if_false, ite_true, ite_false, decide_eq_true_eq, Bool.not_true, Bool.not_false, Bool.not_eq_true, Bool.false_eq_true, eq_self, reduceCtorEq, and_false, false_and, V.int.injEq, V.str.injEq, V.bl.injEq, V.ref.injEq, V.ty.injEq, HO.lst.injEq, HO.tup.injEq, HO.ins.injEq, Nat.reduceAdd, Nat.reduceSub, Nat.zero_add, Nat.reduceLeDiff, Int.toNat_natCast, upd_same])
local macro_rules | `(tactic| walk_at "sd") => `(tactic| first | omega | exact lo62 (by omega) | exact hi62 (by omega) | exact sz_le (by omega) | exact sz_lt (by omega) | exact lo63 (by omega) | exact hi63 (by omega) | decide | exact ⟨by decide, by decide⟩ | exact ⟨by decide, by decide, by decide⟩ | exact Or.inl ⟨by omega, by omega⟩ | exact Or.inr ⟨by omega, by omega⟩)

theorem p__law_cell_at {K : PySem.W.Frag} (vs : List V) (H : Hp) (Q : VK) (E : XK) (h : sp__law_cell_at K vs H Q E) : r__law_cell_at K (WX0 E) { nx := fun _ H' => Q .non H', rt := Q } (start ["_law_script", "_law_k"] vs) H := by
  obtain ⟨-, a, ns, k, rfl, hS, q⟩ := h
  unfold r__law_cell_at r__law_cell_at_0
  walk_at "ev"
  refine ⟨a, _, rfl, hS, ?_⟩
  walk_at "ev"
  split
  · rename_i hk
    unfold r__law_cell_at_0t0
    walk_at "ev"
    rw [List.length_map] at hk
    have hk' : k < ns.length := by omega
    refine ⟨a, _, k, _, rfl, rfl, hS, atI_nat (v := .int (cellAt ns k)) ?_, q⟩
    rw [List.getElem?_map, List.getElem?_eq_getElem hk']
    simp [cellAt, hk']
  · rename_i hk
    unfold r__law_cell_at_1
    walk_at "ev"
    rw [List.length_map] at hk
    have e : cellAt ns k = 0 := by
      unfold cellAt
      rw [List.getD_eq_getElem?_getD, List.getElem?_eq_none (by omega)]; rfl
    rw [← e]; exact q
theorem p__law_form {K : PySem.W.Frag} (vs : List V) (H : Hp) (Q : VK) (E : XK) (h : sp__law_form K vs H Q E) : r__law_form K (WX0 E) { nx := fun _ H' => Q .non H', rt := Q } (start ["_law_cell", "_law_forms"] vs) H := by
  obtain ⟨-, c, rfl, q⟩ := h
  unfold r__law_form r__law_form_0
  walk_at "ev"
  refine ⟨by decide, fun p0 H0 n0 => ⟨by decide, fun p1 H1 n1 => ⟨by decide, fun p2 H2 n2 => ⟨by decide, fun p3 H3 n3 => ⟨by decide, fun p4 H4 n4 => ⟨by decide, fun p5 H5 n5 => ⟨by decide, fun l6 L6 m6 => ?_⟩⟩⟩⟩⟩⟩⟩
  unfold r__law_form_1
  walk_at "ev"
  refine ⟨by decide, fun p6 H6 n6 => ⟨by decide, fun p7 H7 n7 => ⟨by decide, fun p8 H8 n8 => ⟨by decide, fun p9 H9 n9 => ⟨by decide, fun p10 H10 n10 => ⟨by decide, fun l11 L11 m11 => ?_⟩⟩⟩⟩⟩⟩
  simp only [m11.same _ _ (n10.same _ _ (n9.same _ _ (n8.same _ _ (n7.same _ _ (n6.same _ _ m6.self))))), m11.self]
  walk_at "ev"
  refine ⟨by decide, fun a1 A1 k1 => ?_⟩
  unfold r__law_form_2
  walk_at "ev"
  refine ⟨by decide, fun p11 H11 n11 => ⟨by decide, fun p12 H12 n12 => ⟨by decide, fun p13 H13 n13 => ⟨by decide, fun p14 H14 n14 => ⟨by decide, fun l15 L15 m15 => ?_⟩⟩⟩⟩⟩
  simp only [m15.same _ _ (n14.same _ _ (n13.same _ _ (n12.same _ _ (n11.same _ _ k1.self)))), m15.self]
  walk_at "ev"
  refine ⟨by decide, fun a2 A2 k2 => ?_⟩
  unfold r__law_form_3
  walk_at "ev"
  have hb := Int.emod_nonneg c (show (15 : Int) ≠ 0 by decide)
  have hb2 := Int.emod_lt_of_pos c (show (0 : Int) < 15 by decide)
  obtain ⟨j, hj⟩ := Int.eq_ofNat_of_zero_le hb
  refine ⟨by decide, ?_⟩
  simp only [k2.self]
  have z := k2.same
  have e0 := k2.same _ _ (m15.same _ _ (n14.same _ _ (n13.same _ _ (n12.same _ _ (n11.same _ _ (k1.same _ _ (m11.same _ _ (n10.same _ _ (n9.same _ _ (n8.same _ _ (n7.same _ _ (n6.same _ _ (m6.same _ _ (n5.same _ _ (n4.same _ _ (n3.same _ _ (n2.same _ _ (n1.same _ _ (n0.self)))))))))))))))))))
  have e1 := k2.same _ _ (m15.same _ _ (n14.same _ _ (n13.same _ _ (n12.same _ _ (n11.same _ _ (k1.same _ _ (m11.same _ _ (n10.same _ _ (n9.same _ _ (n8.same _ _ (n7.same _ _ (n6.same _ _ (m6.same _ _ (n5.same _ _ (n4.same _ _ (n3.same _ _ (n2.same _ _ (n1.self))))))))))))))))))
  have e2 := k2.same _ _ (m15.same _ _ (n14.same _ _ (n13.same _ _ (n12.same _ _ (n11.same _ _ (k1.same _ _ (m11.same _ _ (n10.same _ _ (n9.same _ _ (n8.same _ _ (n7.same _ _ (n6.same _ _ (m6.same _ _ (n5.same _ _ (n4.same _ _ (n3.same _ _ (n2.self)))))))))))))))))
  have e3 := k2.same _ _ (m15.same _ _ (n14.same _ _ (n13.same _ _ (n12.same _ _ (n11.same _ _ (k1.same _ _ (m11.same _ _ (n10.same _ _ (n9.same _ _ (n8.same _ _ (n7.same _ _ (n6.same _ _ (m6.same _ _ (n5.same _ _ (n4.same _ _ (n3.self))))))))))))))))
  have e4 := k2.same _ _ (m15.same _ _ (n14.same _ _ (n13.same _ _ (n12.same _ _ (n11.same _ _ (k1.same _ _ (m11.same _ _ (n10.same _ _ (n9.same _ _ (n8.same _ _ (n7.same _ _ (n6.same _ _ (m6.same _ _ (n5.same _ _ (n4.self)))))))))))))))
  have e5 := k2.same _ _ (m15.same _ _ (n14.same _ _ (n13.same _ _ (n12.same _ _ (n11.same _ _ (k1.same _ _ (m11.same _ _ (n10.same _ _ (n9.same _ _ (n8.same _ _ (n7.same _ _ (n6.same _ _ (m6.same _ _ (n5.self))))))))))))))
  have e6 := k2.same _ _ (m15.same _ _ (n14.same _ _ (n13.same _ _ (n12.same _ _ (n11.same _ _ (k1.same _ _ (m11.same _ _ (n10.same _ _ (n9.same _ _ (n8.same _ _ (n7.same _ _ (n6.self))))))))))))
  have e7 := k2.same _ _ (m15.same _ _ (n14.same _ _ (n13.same _ _ (n12.same _ _ (n11.same _ _ (k1.same _ _ (m11.same _ _ (n10.same _ _ (n9.same _ _ (n8.same _ _ (n7.self)))))))))))
  have e8 := k2.same _ _ (m15.same _ _ (n14.same _ _ (n13.same _ _ (n12.same _ _ (n11.same _ _ (k1.same _ _ (m11.same _ _ (n10.same _ _ (n9.same _ _ (n8.self))))))))))
  have e9 := k2.same _ _ (m15.same _ _ (n14.same _ _ (n13.same _ _ (n12.same _ _ (n11.same _ _ (k1.same _ _ (m11.same _ _ (n10.same _ _ (n9.self)))))))))
  have e10 := k2.same _ _ (m15.same _ _ (n14.same _ _ (n13.same _ _ (n12.same _ _ (n11.same _ _ (k1.same _ _ (m11.same _ _ (n10.self))))))))
  have e11 := k2.same _ _ (m15.same _ _ (n14.same _ _ (n13.same _ _ (n12.same _ _ (n11.self)))))
  have e12 := k2.same _ _ (m15.same _ _ (n14.same _ _ (n13.same _ _ (n12.self))))
  have e13 := k2.same _ _ (m15.same _ _ (n14.same _ _ (n13.self)))
  have e14 := k2.same _ _ (m15.same _ _ (n14.self))
  have hs : Same H A2 := fun b o e => k2.same _ _ (m15.same _ _ (n14.same _ _ (n13.same _ _ (n12.same _ _ (n11.same _ _ (k1.same _ _ (m11.same _ _ (n10.same _ _ (n9.same _ _ (n8.same _ _ (n7.same _ _ (n6.same _ _ (m6.same _ _ (n5.same _ _ (n4.same _ _ (n3.same _ _ (n2.same _ _ (n1.same _ _ (n0.same _ _ (e))))))))))))))))))))
  have hx : ∀ j : Nat, j < 15 → ∃ p, ([V.ref p0, V.ref p1, V.ref p2, V.ref p3, V.ref p4, V.ref p5, V.ref p6, V.ref p7, V.ref p8, V.ref p9, V.ref p10, V.ref p11, V.ref p12, V.ref p13, V.ref p14] : List V)[j]? = some (.ref p) ∧ A2 p = some (.tup [.str (forms.getD j ("", "")).1, .str (forms.getD j ("", "")).2]) := by
    intro j hj
    match j, hj with
    | 0, _ => exact ⟨p0, rfl, e0⟩
    | 1, _ => exact ⟨p1, rfl, e1⟩
    | 2, _ => exact ⟨p2, rfl, e2⟩
    | 3, _ => exact ⟨p3, rfl, e3⟩
    | 4, _ => exact ⟨p4, rfl, e4⟩
    | 5, _ => exact ⟨p5, rfl, e5⟩
    | 6, _ => exact ⟨p6, rfl, e6⟩
    | 7, _ => exact ⟨p7, rfl, e7⟩
    | 8, _ => exact ⟨p8, rfl, e8⟩
    | 9, _ => exact ⟨p9, rfl, e9⟩
    | 10, _ => exact ⟨p10, rfl, e10⟩
    | 11, _ => exact ⟨p11, rfl, e11⟩
    | 12, _ => exact ⟨p12, rfl, e12⟩
    | 13, _ => exact ⟨p13, rfl, e13⟩
    | 14, _ => exact ⟨p14, rfl, e14⟩
  have hj15 : j < 15 := by omega
  obtain ⟨p, g1, g2⟩ := hx j hj15
  refine ⟨.ref p, by rw [hj]; exact atI_nat g1, q p A2 hs ?_⟩
  rw [g2]
  unfold lawForm
  rw [hj]; rfl

theorem one_iff {k m : Nat} {s : Str} (h : s = ⟨#[m]⟩) : ((⟨#[k]⟩ : Str) = s) ↔ k = m := by
  subst h; simp
theorem one_r {k : Nat} : ((⟨#[k]⟩ : Str) = Str.ofString "r") ↔ k = 114 := one_iff (by decide +kernel)
theorem one_v {k : Nat} : ((⟨#[k]⟩ : Str) = Str.ofString "v") ↔ k = 118 := one_iff (by decide +kernel)
theorem one_n {k : Nat} : ((⟨#[k]⟩ : Str) = Str.ofString "n") ↔ k = 110 := one_iff (by decide +kernel)
end K97

set_option Elab.async false
set_option linter.all false
set_option maxRecDepth 100000
set_option maxHeartbeats 4000000
namespace K97
open PySem PySem.Spec PyProof.Rows L2 MM
open TL (tl)
local macro_rules | `(tactic| walk_at "ev") => `(tactic| try simp only [tSeq, List.cons.injEq, decide_true, decide_false, not_true_eq_false, not_false_eq_true, not_dec, not_b, isA_tt, isA_ss, isA_ii, isA_bb, isA_ll, isA_bi, isA_dd, isA_ib, isA_is, isA_it, isA_il, isA_si, isA_sb, isA_ti, isA_tb, isA_ts, isA_tl, isA_li, isA_lb, isA_ls, isA_lt, isA_ni, isA_nb, isA_ns, isA_nl, isA_nt, isA_bs, isA_bl, isA_bt, isA_st, isA_sl, tAsg, gName, tVar, tC, tOp, tUn, tIf, tTest, tB, tAnd, tOr, tNot, tAndV, tOrV, tNotV, tChain, tRet, tRetN, tDrop, tIfS, tNext, tCont, tBreak, tCons, tNil, tCB, mTup, mLst, mDictK, mDictT, tSl, tPart, tNoPart, oI, oIc, oEq, oNe, oIsN, oNotN, uNeg, oRep, mAdd, mIx, mLen, mIsi, tyN, mInt, mMin, mMax, mAbs, mStr, mSl, mTupOf, mListOf, mSplit, mStarts, mBM, tyM, mCall, mMeth, mMeth2, mMake, mFld, mSetF, mRaise, mTabIx, mInTab, gTupM, gCons, gNil, gSub, mSet, scal, MM.keyOf, MM.keysOf, mAppend, mExtend, mPopL, mPop, mGet, mSetd, kvPop, kvLook, seqAt, L2.start, List.map_cons, List.map_nil, List.length_cons, List.length_nil, List.replicate, List.append_nil, List.nil_append, List.cons_append, List.getElem?_cons_zero, List.getElem?_cons_succ, List.getElem?_nil, List.set_cons_zero, List.set_cons_succ, Option.some.injEq, exists_eq_left, exists_eq_left', exists_eq', exists_and_left, and_true, true_and, if_true, if_false, ite_true, ite_false, decide_eq_true_eq, decide_eq_false_iff_not, Bool.not_true, Bool.not_false, Bool.not_eq_true, Bool.false_eq_true, eq_self, reduceCtorEq, and_false, false_and, V.int.injEq, V.str.injEq, V.bl.injEq, V.ref.injEq, V.ty.injEq, HO.lst.injEq, HO.tup.injEq, HO.ins.injEq, Nat.reduceAdd, Nat.reduceSub, Nat.zero_add, Nat.reduceLeDiff, Int.toNat_natCast, upd_same])
local macro_rules | `(tactic| walk_at "sd") => `(tactic| first | omega | exact lo62 (by omega) | exact hi62 (by omega) | exact sz_le (by omega) | exact sz_lt (by omega) | exact lo63 (by omega) | exact hi63 (by omega) | decide | exact ⟨by decide, by decide⟩ | exact ⟨by decide, by decide, by decide⟩ | exact Or.inl ⟨by omega, by omega⟩ | exact Or.inr ⟨by omega, by omega⟩)
theorem tl_fig : tl (Str.ofString "0123456789") = [48, 49, 50, 51, 52, 53, 54, 55, 56, 57] := by decide +kernel
theorem mem_fig (c : Nat) : (c ∈ (Str.ofString "0123456789").cps.toList) ↔ isD c = true := by
  rw [show (Str.ofString "0123456789").cps.toList = tl (Str.ofString "0123456789") from rfl, tl_fig]
  unfold isD
  simp only [List.mem_cons, List.not_mem_nil, or_false, Bool.and_eq_true, decide_eq_true_eq]
  omega
theorem len_s (w : Str) : (w.length : Int) = ((tl w).length : Nat) := by rw [TL.len_tl]
theorem mIn1 {b : Bool} {c : Nat} {z : Str} {H : Hp} {Q : VK} : mIn b (.str ⟨#[c]⟩) (.str z) H Q = Q (.bl (if b then !decide (c ∈ z.cps.toList) else decide (c ∈ z.cps.toList))) H := rfl
theorem one_0 {k : Nat} : ((⟨#[k]⟩ : Str) = Str.ofString "0") ↔ k = 48 := one_iff (by decide +kernel)
theorem rdNum_none {l : List Nat} (h : numOk l = false) : rdNum l = none := by unfold rdNum; rw [h]; rfl
theorem rdNum_some {l : List Nat} (h : numOk l = true) : rdNum l = some ((NumText.digitsVal l : Nat) : Int) := by unfold rdNum; rw [h]; rfl
theorem numOk_iff {l : List Nat} : numOk l = true ↔ 1 ≤ l.length ∧ l.length ≤ 60 ∧ (∀ c ∈ l, isD c = true) ∧ ¬ (1 < l.length ∧ l.head? = some 48) := by
  unfold numOk
  simp only [Bool.and_eq_true, decide_eq_true_eq, List.all_eq_true, Bool.not_eq_true', Bool.and_eq_false_imp, beq_eq_false_iff_ne, ne_eq, not_and]
theorem numOk_no {l : List Nat} (h : ¬ (1 ≤ l.length ∧ l.length ≤ 60 ∧ (∀ c ∈ l, isD c = true) ∧ ¬ (1 < l.length ∧ l.head? = some 48))) : numOk l = false := by
  cases e : numOk l with
  | false => rfl
  | true => exact absurd (numOk_iff.mp e) h
theorem p_read_number {K : PySem.W.Frag} (vs : List V) (H : Hp) (Q : VK) (E : XK) (h : sp_read_number K vs H Q E) : r_read_number K (WX0 E) { nx := fun _ H' => Q .non H', rt := Q } (start ["text", "sign"] vs) H := by
  obtain ⟨-, w, rfl, hl, q⟩ := h
  have hl' : w.length = (tl w).length := TL.len_tl w
  unfold r_read_number r_read_number_0
  walk_at "ev"
  refine ⟨hl, ?_⟩
  split
  · rename_i h1
    split
    · rename_i h2
      unfold r_read_number_0t0
      walk_at "ev"
      rw [rdNum_none (numOk_no (fun z => by omega))] at q
      exact q
    · rename_i h2
      unfold r_read_number_1
      walk_at "ev"
      refine m_str (x := w) (H1 := H) (fun R h => by walk_at "ev"; exact h) (fun i σ H' => H' = H ∧ (∃ v, σ = [some (.str w), v]) ∧ ∀ k c, k < i → (tl w)[k]? = some c → isD c = true) ⟨rfl, ⟨none, rfl⟩, fun k c hk => by omega⟩ ?_ ?_
      · rintro i c σ H' hc ⟨rfl, ⟨v, rfl⟩, ha⟩
        unfold g_read_number_0
        walk_at "ev"
        unfold r_read_number_1f0
        walk_at "ev"
        rw [mIn1]
        walk_at "ev"
        split
        · rename_i hd
          unfold r_read_number_1f0t0
          walk_at "ev"
          rw [mem_fig] at hd
          rw [rdNum_none (numOk_no (fun z => hd (z.2.2.1 c (List.mem_of_getElem? hc))))] at q
          exact q
        · rename_i hd
          rw [mem_fig] at hd
          intro k c' hk hc'
          by_cases hki : k = i
          · subst hki
            rw [hc] at hc'; cases hc'; exact Classical.not_not.mp hd
          · exact ha k c' (by omega) hc'
      · rintro σ H' ⟨rfl, ⟨v, rfl⟩, ha⟩
        have had : ∀ c ∈ tl w, isD c = true := fun c hc => by
          obtain ⟨k, hk⟩ := List.getElem?_of_mem hc
          exact ha k c (List.getElem?_eq_some_iff.mp hk).1 hk
        walk_at "ev"
        unfold r_read_number_2
        walk_at "ev"
        refine ⟨hl, ?_⟩
        have fin : ¬ (1 < (tl w).length ∧ (tl w).head? = some 48) → ∀ v, r_read_number_3 K (WX0 E) { nx := fun x H' => Q V.non H', rt := Q } [some (V.str w), v] H' := by
          intro hh v
          unfold r_read_number_3
          walk_at "ev"
          rw [rdNum_some (numOk_iff.mpr ⟨by omega, by omega, had, hh⟩)] at q
          refine ⟨by omega, ?_⟩
          rw [PySem.intText_digits (x := w) (fun c hc => by
            have := had c hc
            unfold isD at this
            simp only [Bool.and_eq_true, decide_eq_true_eq] at this
            exact this) (fun e => by
              have : (tl w).length = 0 := by rw [show tl w = [] from e]; rfl
              omega) (by omega)]
          exact q
        split
        · rename_i h3
          refine ⟨hl, ?_⟩
          obtain ⟨x, r, er⟩ : ∃ x r, tl w = x :: r := by
            cases e : tl w with
            | nil => rw [e] at hl'; simp at hl'; omega
            | cons x r => exact ⟨x, r, rfl⟩
          have ea : atI w.cps.toList 0 = some x := by
            show atI (tl w) ((0 : Nat) : Int) = some x
            rw [er]; exact atI_nat rfl
          refine ⟨x, ea, ?_⟩
          simp only [one_0]
          split
          · rename_i h4
            unfold r_read_number_2t0
            walk_at "ev"
            rw [rdNum_none (numOk_no (fun z => z.2.2.2 ⟨by omega, by rw [er, h4]; rfl⟩))] at q
            exact q
          · rename_i h4
            exact fin (fun z => h4 (by have := z.2; rw [er] at this; simpa using this)) v
        · rename_i h3
          exact fin (fun z => by omega) v
  · rename_i h1
    unfold r_read_number_0t0
    walk_at "ev"
    rw [rdNum_none (numOk_no (fun z => by omega))] at q
    exact q
end K97

set_option Elab.async false
set_option linter.all false
set_option maxRecDepth 100000
set_option maxHeartbeats 4000000
namespace K97
open PySem PySem.Spec PyProof.Rows L2 MM
open TL (tl)
local macro_rules | `(tactic| walk_at "ev") => `(tactic| try simp only [tSeq, List.cons.injEq, decide_true, decide_false, not_true_eq_false, not_false_eq_true, not_dec, not_b, isA_tt, isA_ss, isA_ii, isA_bb, isA_ll, isA_bi, isA_dd, isA_ib, isA_is, isA_it, isA_il, isA_si, isA_sb, isA_ti, isA_tb, isA_ts, isA_tl, isA_li, isA_lb, isA_ls, isA_lt, isA_ni, isA_nb, isA_ns, isA_nl, isA_nt, isA_bs, isA_bl, isA_bt, isA_st, isA_sl, tAsg, gName, tVar, tC, tOp, tUn, tIf, tTest, tB, tAnd, tOr, tNot, tAndV, tOrV, tNotV, tChain, tRet, tRetN, tDrop, tIfS, tNext, tCont, tBreak, tCons, tNil, tCB, mTup, mLst, mDictK, mDictT, tSl, tPart, tNoPart, oI, oIc, oEq, oNe, oIsN, oNotN, uNeg, oRep, mAdd, mIx, mLen, mIsi, tyN, mInt, mMin, mMax, mAbs, mStr, mSl, mTupOf, mListOf, mSplit, mStarts, mBM, tyM, mCall, mMeth, mMeth2, mMake, mFld, mSetF, mRaise, mTabIx, mInTab, gTupM, gCons, gNil, gSub, mSet, scal, MM.keyOf, MM.keysOf, mAppend, mExtend, mPopL, mPop, mGet, mSetd, kvPop, kvLook, seqAt, L2.start, List.map_cons, List.map_nil, List.length_cons, List.length_nil, List.replicate, List.append_nil, List.nil_append, List.cons_append, List.getElem?_cons_zero, List.getElem?_cons_succ, List.getElem?_nil, List.set_cons_zero, List.set_cons_succ, Option.some.injEq, exists_eq_left, exists_eq_left', exists_eq', exists_and_left, and_true, true_and, if_true, if_false, ite_true, ite_false, decide_eq_true_eq, decide_eq_false_iff_not, Bool.not_true, Bool.not_false, Bool.not_eq_true, Bool.false_eq_true, eq_self, reduceCtorEq, and_false, false_and, V.int.injEq, V.str.injEq, V.bl.injEq, V.ref.injEq, V.ty.injEq, HO.lst.injEq, HO.tup.injEq, HO.ins.injEq, Nat.reduceAdd, Nat.reduceSub, Nat.zero_add, Nat.reduceLeDiff, Int.toNat_natCast, upd_same])
local macro_rules | `(tactic| walk_at "sd") => `(tactic| first | omega | exact lo62 (by omega) | exact hi62 (by omega) | exact sz_le (by omega) | exact sz_lt (by omega) | exact lo63 (by omega) | exact hi63 (by omega) | decide | exact ⟨by decide, by decide⟩ | exact ⟨by decide, by decide, by decide⟩ | exact Or.inl ⟨by omega, by omega⟩ | exact Or.inr ⟨by omega, by omega⟩)
theorem starts_iff {w y : Str} (hy : tl y ≠ []) : Txt.startswith w y = true ↔ TL.pre (tl y) (tl w) = true := by
  have := TL.at_iff (x := w) hy 0
  unfold PySem.StrLaws.At at this
  unfold Txt.startswith
  rw [Bool.and_eq_true, decide_eq_true_eq, this]; rfl
theorem starts_minus {w : Str} : Txt.startswith w (Str.ofString "-") = decide ((tl w).head? = some 45) := by
  have e : tl (Str.ofString "-") = [45] := by decide +kernel
  have := starts_iff (w := w) (y := Str.ofString "-") (by rw [e]; decide)
  rw [e] at this
  have h2 : TL.pre [45] (tl w) = true ↔ (tl w).head? = some 45 := by
    unfold TL.pre
    cases tl w with
    | nil => decide
    | cons a r => simp
  cases e2 : Txt.startswith w (Str.ofString "-") with
  | true => exact (decide_eq_true (h2.mp (this.mp e2))).symm
  | false => exact (decide_eq_false (fun z => by rw [this.mpr (h2.mpr z)] at e2; cases e2)).symm
theorem tl_cut1 (w : Str) : tl (cutS w (some 1) none) = (tl w).tail := by
  unfold cutS
  rw [TL.tl_mk, HT.sIx_none, show (some (1 : Int)) = some ((1 : Nat) : Int) from rfl, HT.sIx_nat, TL.len_tl]
  show List.take _ (List.drop _ (tl w)) = _
  cases tl w with
  | nil => rfl
  | cons a r =>
    have : min 1 ((a :: r).length) = 1 := by simp
    rw [this]
    simp
theorem p_read_value {K : PySem.W.Frag} (vs : List V) (H : Hp) (Q : VK) (E : XK) (h : sp_read_value K vs H Q E) : r_read_value K (WX0 E) { nx := fun _ H' => Q .non H', rt := Q } (start ["text", "value"] vs) H := by
  obtain ⟨-, w, rfl, hl, q⟩ := h
  have hl' : w.length = (tl w).length := TL.len_tl w
  unfold r_read_value r_read_value_0
  walk_at "ev"
  rw [starts_minus]
  walk_at "ev"
  split
  · rename_i h1
    unfold r_read_value_0t0
    walk_at "ev"
    refine ⟨rfl, w, rfl, hl, ?_⟩
    unfold rdVal at q
    rw [if_neg h1] at q
    cases e : rdNum (tl w) with
    | none => rw [e] at q; exact q
    | some n => rw [e] at q; exact q
  · rename_i h1
    have h1' : (tl w).head? = some 45 := Classical.not_not.mp h1
    unfold rdVal at q
    rw [if_pos h1'] at q
    unfold r_read_value_1
    walk_at "ev"
    refine ⟨hl, rfl, cutS w (some 1) none, rfl, Nat.le_trans (cutS_length _ _ _) hl, ?_⟩
    rw [tl_cut1]
    cases e : rdNum (tl w).tail with
    | none => rw [e] at q; exact q
    | some n =>
      rw [e] at q
      show _
      simp only []
      unfold r_read_value_2
      walk_at "ev"
      split
      · rename_i h2
        unfold r_read_value_2t0
        walk_at "ev"
        rw [h2] at q
        exact q
      · rename_i h2
        unfold r_read_value_3
        walk_at "ev"
        simp only [if_neg h2] at q
        exact q
theorem mem_rm (c : Nat) : (c ∈ (Str.ofString "r-").cps.toList) ↔ (c = 114 ∨ c = 45) := by
  rw [show (Str.ofString "r-").cps.toList = [114, 45] from by decide +kernel]; simp
theorem mem_wm (c : Nat) : (c ∈ (Str.ofString "w-").cps.toList) ↔ (c = 119 ∨ c = 45) := by
  rw [show (Str.ofString "w-").cps.toList = [119, 45] from by decide +kernel]; simp
theorem one_w {k : Nat} : ((⟨#[k]⟩ : Str) = Str.ofString "w") ↔ k = 119 := one_iff (by decide +kernel)
theorem p_read_rights {K : PySem.W.Frag} (vs : List V) (H : Hp) (Q : VK) (E : XK) (h : sp_read_rights K vs H Q E) : r_read_rights K (WX0 E) { nx := fun _ H' => Q .non H', rt := Q } (start ["text"] vs) H := by
  obtain ⟨-, w, rfl, hl, q⟩ := h
  have hl' : w.length = (tl w).length := TL.len_tl w
  unfold r_read_rights r_read_rights_0
  walk_at "ev"
  refine ⟨hl, ?_⟩
  unfold rdRights at q
  split
  · rename_i h1
    unfold r_read_rights_0t0
    walk_at "ev"
    cases e : tl w with
    | nil => rw [e] at q; exact q
    | cons a r =>
      rw [e] at q hl'
      match r, q, hl' with
      | [], q, _ => exact q
      | [b], _, hl' => simp at hl'; omega
      | b :: c :: r, q, _ => exact q
  · rename_i h1
    refine ⟨hl, ?_⟩
    obtain ⟨a, b, e⟩ : ∃ a b, tl w = [a, b] := by
      match e : tl w with
      | [] => rw [e] at hl'; simp at hl'; omega
      | [a] => rw [e] at hl'; simp at hl'; omega
      | [a, b] => exact ⟨a, b, rfl⟩
      | a :: b :: c :: r => rw [e] at hl'; simp at hl'; omega
    rw [e] at q
    have ea : atI w.cps.toList 0 = some a := by
      show atI (tl w) ((0 : Nat) : Int) = some a
      rw [e]; exact atI_nat rfl
    have eb : atI w.cps.toList 1 = some b := by
      show atI (tl w) ((1 : Nat) : Int) = some b
      rw [e]; exact atI_nat rfl
    simp only [] at q
    have neg : ¬ ((a = 114 ∨ a = 45) ∧ (b = 119 ∨ b = 45)) → ∀ D, r_read_rights_0t0 K (WX0 E) D [some (V.str w)] H := by
      intro hn D
      unfold r_read_rights_0t0
      walk_at "ev"
      rw [if_neg hn] at q
      exact q
    refine ⟨a, ea, ?_⟩
    rw [mIn1]
    walk_at "ev"
    simp only [mem_rm]
    split
    · rename_i h2
      exact neg (fun z => h2 z.1) _
    · rename_i h2
      refine ⟨hl, b, eb, ?_⟩
      rw [mIn1]
      walk_at "ev"
      simp only [mem_wm]
      split
      · rename_i h3
        exact neg (fun z => h3 z.2) _
      · rename_i h3
        have h2' := Classical.not_not.mp h2
        have h3' := Classical.not_not.mp h3
        rw [if_pos ⟨h2', h3'⟩] at q
        unfold r_read_rights_1
        walk_at "ev"
        refine ⟨hl, a, ea, ?_⟩
        refine ⟨hl, b, eb, ?_⟩
        simp only [one_r, one_w]
        exact ⟨by split <;> walk_at "sd", q⟩
end K97

set_option Elab.async false
set_option linter.all false
set_option maxRecDepth 100000
set_option maxHeartbeats 4000000
namespace K97
open PySem PySem.Spec PyProof.Rows L2 MM
open TL (tl)
local macro_rules | `(tactic| walk_at "ev") => `(tactic| try simp only [tSeq, tFor_Lp, tLc_Lc, iRng1, iRng2, iRng3, iStr, iZipS, iRev, iEnum, iList, iTup, List.cons.injEq, decide_true, decide_false, not_true_eq_false, not_false_eq_true, not_dec, not_b, isA_tt, isA_ss, isA_ii, isA_bb, isA_ll, isA_bi, isA_dd, isA_ib, isA_is, isA_it, isA_il, isA_si, isA_sb, isA_ti, isA_tb, isA_ts, isA_tl, isA_li, isA_lb, isA_ls, isA_lt, isA_ni, isA_nb, isA_ns, isA_nl, isA_nt, isA_bs, isA_bl, isA_bt, isA_st, isA_sl, tAsg, gName, tVar, tC, tOp, tUn, tIf, tTest, tB, tAnd, tOr, tNot, tAndV, tOrV, tNotV, tChain, tRet, tRetN, tDrop, tIfS, tNext, tCont, tBreak, tCons, tNil, tCB, mTup, mLst, mDictK, mDictT, tSl, tPart, tNoPart, oI, oIc, oEq, oNe, oIsN, oNotN, uNeg, oRep, mAdd, mIx, mLen, mIsi, tyN, mInt, mMin, mMax, mAbs, mStr, mSl, mTupOf, mListOf, mSplit, mStarts, mBM, tyM, mCall, mMeth, mMeth2, mMake, mFld, mSetF, mRaise, mTabIx, mInTab, gTupM, gCons, gNil, gSub, mSet, scal, MM.keyOf, MM.keysOf, mAppend, mExtend, mPopL, mPop, mGet, mSetd, kvPop, kvLook, seqAt, L2.start, List.map_cons, List.map_nil, List.length_cons, List.length_nil, List.replicate, List.append_nil, List.nil_append, List.cons_append, List.getElem?_cons_zero, List.getElem?_cons_succ, List.getElem?_nil, List.set_cons_zero, List.set_cons_succ, Option.some.injEq, exists_eq_left, exists_eq_left', exists_eq', exists_and_left, and_assoc, and_true, true_and, if_true, if_false, ite_true, ite_false, decide_eq_true_eq, decide_eq_false_iff_not, Bool.not_true, Bool.not_false, Bool.not_eq_true, Bool.false_eq_true, eq_self, reduceCtorEq, and_false, false_and, V.int.injEq, V.str.injEq, V.bl.injEq, V.ref.injEq, V.ty.injEq, HO.lst.injEq, HO.tup.injEq, HO.ins.injEq, Nat.reduceAdd, Nat.reduceSub, Nat.zero_add, Nat.reduceLeDiff, Int.toNat_natCast, upd_same])
local macro_rules | `(tactic| walk_at "sd") => `(tactic| first | omega | exact lo62 (by omega) | exact hi62 (by omega) | exact sz_le (by omega) | exact sz_lt (by omega) | exact lo63 (by omega) | exact hi63 (by omega) | decide | exact ⟨by decide, by decide⟩ | exact ⟨by decide, by decide, by decide⟩ | exact Or.inl ⟨by omega, by omega⟩ | exact Or.inr ⟨by omega, by omega⟩)
theorem spl_ne (S : List Nat) : ∀ (l : List Nat) (k : Nat) (acc : List Nat), TL.spl S k acc l ≠ []
  | [], k, acc => by rw [TL.spl_nil]; exact List.cons_ne_nil _ _
  | c :: r, 0, acc => by
    unfold TL.spl
    split
    · exact List.cons_ne_nil _ _
    · exact spl_ne S r 0 _
  | c :: r, k + 1, acc => by
    unfold TL.spl
    exact spl_ne S r k acc
theorem spl_len (S : List Nat) : ∀ (l : List Nat) (k : Nat) (acc : List Nat), ∀ p ∈ TL.spl S k acc l, p.length ≤ acc.length + l.length
  | [], k, acc => by rw [TL.spl_nil]; intro p hp; simp at hp; subst hp; simp
  | c :: r, 0, acc => by
    unfold TL.spl
    split
    · intro p hp
      rcases List.mem_cons.mp hp with rfl | hp
      · omega
      · have := spl_len S r _ [] p hp
        simp at this ⊢; omega
    · intro p hp
      have := spl_len S r 0 _ p hp
      simp at this ⊢; omega
  | c :: r, k + 1, acc => by
    unfold TL.spl
    intro p hp
    have := spl_len S r k acc p hp
    simp at this ⊢; omega
theorem tl_bl : tl (Str.ofString " ") = [32] := by decide +kernel
theorem split_bl (x : Str) : (Txt.split x (Str.ofString " ")).map tl = TL.spl [32] 0 [] (tl x) := by
  have := TL.split_spl x (Str.ofString " ") (by rw [tl_bl]; decide) (TL.kind_ok (by decide +kernel))
  rw [tl_bl] at this; exact this
theorem split_ne (x : Str) : Txt.split x (Str.ofString " ") ≠ [] := by
  intro e
  have := split_bl x
  rw [e] at this
  exact spl_ne _ _ _ _ this.symm
theorem split_len (x : Str) : ∀ w ∈ Txt.split x (Str.ofString " "), w.length ≤ x.length := by
  intro w hw
  have h1 : tl w ∈ TL.spl [32] 0 [] (tl x) := by rw [← split_bl]; exact List.mem_map_of_mem hw
  have := spl_len _ _ _ _ _ h1
  rw [TL.len_tl, TL.len_tl]; simpa using this
theorem cut1 (a : V) (r : List V) : cutV (a :: r) (some 1) none = r := by
  unfold cutV
  rw [HT.sIx_none, show (some (1 : Int)) = some ((1 : Nat) : Int) from rfl, HT.sIx_nat]
  have : min 1 ((a :: r).length) = 1 := by simp
  rw [this]; simp
theorem rdParts_none {c : Nat} {w : Str} {ks : List Nat} {ws : List Str} (h : rdPart c w = none) : rdParts (c :: ks) (w :: ws) = none := by unfold rdParts; rw [h]
theorem rdParts_some {c : Nat} {n : Int} {w : Str} {ks : List Nat} {ws : List Str} (h : rdPart c w = some n) : rdParts (c :: ks) (w :: ws) = (rdParts ks ws).map (n :: ·) := by
  rw [rdParts, h]
  cases rdParts ks ws <;> rfl
theorem kinds_some {w : Str} {v : V} (h : tab_WORDS.lookup w = some v) : ∃ k, v = .str k ∧ kindsOf w = some k ∧ k.length ≤ 10 := by
  have : ∀ q ∈ tab_WORDS, ∃ k, q.2 = .str k ∧ k.length ≤ 10 := by
    have h : tab_WORDS.all (fun q => match q.2 with | .str k => decide (k.length ≤ 10) | _ => false) = true := by decide +kernel
    intro q hq
    have := List.all_eq_true.mp h q hq
    cases e : q.2 with
    | str k => rw [e] at this; exact ⟨k, rfl, by simpa using this⟩
    | _ => rw [e] at this; cases this
  have gen : ∀ (t : List (Str × V)), t.lookup w = some v → ∃ z, (z, v) ∈ t := by
    intro t
    induction t with
    | nil => intro h; cases h
    | cons a r ih =>
      intro h
      obtain ⟨a1, a2⟩ := a
      rw [List.lookup_cons] at h
      split at h
      · cases h; exact ⟨_, List.mem_cons_self ..⟩
      · obtain ⟨z, hz⟩ := ih h; exact ⟨z, List.mem_cons_of_mem _ hz⟩
  obtain ⟨z, hz⟩ := gen _ h
  obtain ⟨k, rfl, hk⟩ := this _ hz
  exact ⟨k, rfl, by unfold kindsOf; rw [h], hk⟩
theorem p_read_row {K : PySem.W.Frag} (vs : List V) (H : Hp) (Q : VK) (E : XK) (h : sp_read_row K vs H Q E) : r_read_row K (WX0 E) { nx := fun _ H' => Q .non H', rt := Q } (start ["text", "words", "kinds", "parts", "word", "kind"] vs) H := by
  obtain ⟨-, x, rfl, hl, q⟩ := h
  unfold r_read_row r_read_row_0
  walk_at "ev"
  refine ⟨by decide +kernel, by walk_at "sd", fun p H1 n1 => ?_⟩
  unfold r_read_row_1
  walk_at "ev"
  unfold rdRow at q
  have hw := split_len x
  generalize e : Txt.split x (Str.ofString " ") = ws at *
  cases ws with
  | nil => exact absurd e (split_ne x)
  | cons w r =>
    simp only [n1.self, List.map_cons]
    have hat : ∀ zs : List V, atI (V.str w :: zs) 0 = some (V.str w) := fun zs => atI_nat (j := 0) rfl
    refine ⟨_, hat _, ?_⟩
    walk_at "ev"
    have qe : ∀ k0, kindsOf w = some k0 → rdWords (w :: r) = (if r.length = (if w = Str.ofString "lay" ∧ r.length = 6 then k0 ++ Str.ofString "nn" else k0).length then (match rdParts (tl (if w = Str.ofString "lay" ∧ r.length = 6 then k0 ++ Str.ofString "nn" else k0)) r with
        | some ns => some (.str w :: ns.map V.int ++ (if w = Str.ofString "lay" ∧ r.length = 4 then [V.non, V.int 0] else []))
        | none => none)
      else none) := fun k0 hk => by unfold rdWords; simp only [hk]; try rfl
    have qn : kindsOf w = none → rdWords (w :: r) = none := fun hk => by unfold rdWords; simp only [hk]
    cases ek : tab_WORDS.lookup w with
    | none =>
      rw [qn (by unfold kindsOf; rw [ek])] at q
      walk_at "ev"
      unfold r_read_row_1t0
      walk_at "ev"
      exact q _ n1.same
    | some v =>
      obtain ⟨k0, rfl, ek2, hk0⟩ := kinds_some ek
      rw [qe _ ek2] at q
      clear qe qn
      walk_at "ev"
      unfold r_read_row_2
      walk_at "ev"
      simp only [n1.self, List.map_cons]
      refine ⟨_, hat _, ?_⟩
      simp only [ek]
      have go : ∀ k : Str, k = (if w = Str.ofString "lay" ∧ r.length = 6 then k0 ++ Str.ofString "nn" else k0) → r_read_row_4 K (WX0 E) { nx := fun x H' => Q V.non H', rt := Q } [some (V.str x), some (V.ref p), some (V.str k), none, none, none] H1 := by
        intro k hk
        rw [← hk] at q
        unfold r_read_row_4
        walk_at "ev"
        simp only [n1.self, List.map_cons]
        have hkl : k.length = (tl k).length := TL.len_tl k
        have hkl2 : k.length ≤ 12 := by
          rw [hk]; split
          · rw [show (k0 ++ Str.ofString "nn").length = k0.length + 2 from by rw [TL.len_tl, TL.tl_append, List.length_append, ← TL.len_tl, show (tl (Str.ofString "nn")).length = 2 from by decide +kernel]]
            omega
          · omega
        have hne : ∀ ns : List Int, ns.length ≤ r.length → True := fun _ _ => trivial
        refine ⟨by walk_at "sd", ?_⟩
        split
        · rename_i h1
          have h1' : ¬ r.length = k.length := fun z => h1 (by rw [List.length_cons, List.length_map]; omega)
          rw [if_neg h1'] at q
          unfold r_read_row_4t0
          walk_at "ev"
          exact q _ n1.same
        · rename_i h1
          have h1' : r.length = k.length := by
            have := Classical.not_not.mp h1
            rw [List.length_cons, List.length_map] at this
            omega
          rw [if_pos h1'] at q
          unfold r_read_row_5
          walk_at "ev"
          simp only [n1.self, List.map_cons]
          refine ⟨_, hat _, by decide, fun m H2 n2 => ?_⟩
          unfold r_read_row_6
          have e1 : H2 p = some (.lst ((w :: r).map V.str)) := n2.same _ _ n1.self
          walk_at "ev"
          simp only [e1, List.map_cons]
          intro l H3 n3
          have ec : cutV (V.str w :: r.map V.str) (some 1) none = r.map V.str := cut1 _ _
          have ls : SqL K H3 l (r.map V.str) := sqL (by rw [n3.self, ec])
          have e3m : H3 m = some (.lst [.str w]) := n3.same _ _ n2.self
          refine ⟨r.map V.str, ls, ?_⟩
          obtain ⟨Pv, hP⟩ : ∃ Pv : Nat → L2.St → Hp → Prop, Pv = (fun i σ H' => ∃ v4 v5 ns, σ = [some (.str x), some (.ref p), some (.str k), some (.ref m), v4, v5] ∧ Same H1 H' ∧ H' l = some (.lst (r.map V.str)) ∧ H' m = some (.lst (.str w :: ns.map V.int)) ∧ ns.length = i ∧ rdParts (tl k) r = (rdParts ((tl k).drop i) (r.drop i)).map (ns ++ ·)) := ⟨_, rfl⟩
          have hlm : l ≠ m := fun z => by rw [z] at n3; have := n3.1; rw [n2.self] at this; cases this
          refine lp (t_zipS (r.map V.str)) Pv ?_ ?_ ?_ ?_
          · rw [hP]
            refine ⟨none, none, [], rfl, fun b o e => n3.same _ _ (n2.same _ _ e), by rw [n3.self, ec], e3m, rfl, ?_⟩
            rw [List.drop_zero, List.drop_zero]; cases rdParts (tl k) r <;> rfl
          · intro i σ' H' hi pv
            rw [hP] at pv
            obtain ⟨v4, v5, ns, -, -, hl, -⟩ := pv
            exact sqL hl
          · intro i v σ' H' H'' hi pv yv
            rw [hP] at pv
            obtain ⟨v4, v5, ns, rfl, hs, hl, hm, hn, he⟩ := pv
            obtain ⟨T, v1, c, rfl, nT, hr, hc⟩ := yv
            unfold g_read_row_0
            walk_at "ev"
            simp only [nT.self]
            walk_at "ev"
            obtain ⟨wd, hwd, rfl⟩ : ∃ wd, r[i]? = some wd ∧ v1 = .str wd := by
              rw [List.getElem?_map] at hr
              cases e9 : r[i]? with
              | none => rw [e9] at hr; cases hr
              | some wd => rw [e9] at hr; cases hr; exact ⟨wd, rfl, rfl⟩
            have hi1 : i < r.length := (List.getElem?_eq_some_iff.mp hwd).1
            have hi2 : i < (tl k).length := (List.getElem?_eq_some_iff.mp hc).1
            have d1 : (tl k).drop i = c :: (tl k).drop (i + 1) := by rw [List.drop_eq_getElem_cons hi2]; congr 1; exact Option.some.inj ((List.getElem?_eq_getElem hi2).symm.trans hc)
            have d2 : r.drop i = wd :: r.drop (i + 1) := by rw [List.drop_eq_getElem_cons hi1]; congr 1; exact Option.some.inj ((List.getElem?_eq_getElem hi1).symm.trans hwd)
            have hwl : wd.length ≤ sizeLine := Nat.le_trans (hw wd (List.mem_cons_of_mem _ (List.mem_of_getElem? hwd))) (by walk_at "sd")
            rw [d1, d2] at he
            have hsT : Same H1 H'' := fun b o e => nT.same _ _ (hs b o e)
            have hmT : H'' m = some (.lst (.str w :: ns.map V.int)) := nT.same _ _ hm
            have hlT : H'' l = some (.lst (r.map V.str)) := nT.same _ _ hl
            have fail : rdPart c wd = none → E (.ref (He.ga K "NoRow")) none H'' := by
              intro h0
              rw [rdParts_none h0] at he
              rw [he] at q
              exact q _ (fun b o e => hsT _ _ (n1.same _ _ e))
            have step : ∀ n, rdPart c wd = some n → ∀ H5, Wr H'' m (.lst (V.str w :: (ns.map V.int ++ [V.int n]))) H5 → Pv (i + 1) [some (.str x), some (.ref p), some (.str k), some (.ref m), some (V.str wd), some (V.str ⟨#[c]⟩)] H5 := by
              intro n h0 H5 w5
              rw [rdParts_some h0] at he
              rw [hP]
              have hmn : ∀ b o, H1 b = some o → b ≠ m := fun b o e z => by rw [z] at e; have := n2.1; rw [e] at this; cases this
              refine ⟨_, _, ns ++ [n], rfl, fun b o e => by rw [w5.ne (hmn b o e)]; exact hsT b o e, by rw [w5.ne hlm]; exact hlT, by rw [w5.self, List.map_append]; rfl, by rw [List.length_append, hn]; rfl, ?_⟩
              rw [he]
              cases rdParts ((tl k).drop (i + 1)) (r.drop (i + 1)) with
              | none => rfl
              | some t => simp
            have hnl : (V.str w :: ns.map V.int).length < sizeLine := by
              rw [List.length_cons, List.length_map, hn]
              have : (tl k).length ≤ 12 := by omega
              walk_at "sd"
            unfold r_read_row_6f0
            walk_at "ev"
            simp only [one_n]
            unfold rdPart at fail step
            split
            · rename_i hc1
              simp only [if_pos hc1] at fail step
              unfold r_read_row_6f0t0
              walk_at "ev"
              simp only [hmT]
              refine ⟨trivial, rfl, wd, rfl, hwl, ?_⟩
              cases e9 : rdNum (tl wd) with
              | none => exact fail e9
              | some n =>
                walk_at "ev"
                simp only [hmT]
                exact ⟨hnl, step n e9⟩
            · rename_i hc1
              simp only [if_neg hc1] at fail step
              unfold r_read_row_6f0e0
              walk_at "ev"
              simp only [one_v]
              split
              · rename_i hc2
                simp only [if_pos hc2] at fail step
                unfold r_read_row_6f0e0t0
                walk_at "ev"
                simp only [hmT]
                refine ⟨trivial, rfl, wd, rfl, hwl, ?_⟩
                cases e9 : rdVal (tl wd) with
                | none => exact fail e9
                | some n =>
                  walk_at "ev"
                  simp only [hmT]
                  exact ⟨hnl, step n e9⟩
              · rename_i hc2
                simp only [if_neg hc2] at fail step
                unfold r_read_row_6f0e0e0
                walk_at "ev"
                simp only [hmT]
                refine ⟨trivial, rfl, wd, rfl, hwl, ?_⟩
                cases e9 : rdRights (tl wd) with
                | none => exact fail e9
                | some n =>
                  walk_at "ev"
                  simp only [hmT]
                  exact ⟨hnl, step n e9⟩
          · intro σ' H' pv
            rw [hP] at pv
            obtain ⟨v4, v5, ns, rfl, hs, hl, hm, hn, he⟩ := pv
            rw [List.length_map] at hn he
            have hmin : min r.length (tl k).length = r.length := by omega
            rw [hmin] at hn he
            rw [List.drop_eq_nil_of_le (by omega), List.drop_eq_nil_of_le (Nat.le_refl _)] at he
            simp only [rdParts, Option.map_some, List.append_nil] at he
            rw [he] at q
            simp only [] at q
            have hs0 : Same H H' := fun b o e => hs _ _ (n1.same _ _ e)
            have e4 : H' p = some (.lst (V.str w :: r.map V.str)) := hs _ _ n1.self
            unfold r_read_row_7
            walk_at "ev"
            simp only [e4]
            refine ⟨_, hat _, ?_⟩
            walk_at "ev"
            simp only [List.length_map]
            have fin : ∀ H5 m5 xs, Same H' H5 → H5 m5 = some (.lst xs) → xs = (V.str w :: ns.map V.int ++ (if w = Str.ofString "lay" ∧ r.length = 4 then [V.non, V.int 0] else [])) → r_read_row_8 K (WX0 E) { nx := fun x H' => Q V.non H', rt := Q } [some (.str x), some (.ref p), some (.str k), some (.ref m5), v4, v5] H5 := by
              intro H5 m5 xs s5 e5 ex
              unfold r_read_row_8
              walk_at "ev"
              simp only [e5]
              intro pt H6 n6
              refine q pt H6 (fun b o e => n6.same _ _ (s5 _ _ (hs0 _ _ e))) ?_
              rw [n6.self, ex]
            split
            · rename_i hc1
              split
              · rename_i hc2
                unfold r_read_row_7t0
                walk_at "ev"
                refine ⟨by decide, fun m6 H6 n6 => ?_⟩
                simp only [n6.self, n6.same _ _ hm]
                refine ⟨?_, fun m7 H7 n7 => fin _ _ _ (fun b o e => n7.same _ _ (n6.same _ _ e)) n7.self (by rw [if_pos ⟨hc1, by omega⟩])⟩
                rw [List.length_cons, List.length_map, hn]
                walk_at "sd"
              · rename_i hc2
                exact fin _ _ _ (fun b o e => e) hm (by rw [if_neg (fun z => hc2 (by omega)), List.append_nil])
            · rename_i hc1
              exact fin _ _ _ (fun b o e => e) hm (by rw [if_neg (fun z => hc1 z.1), List.append_nil])
      unfold r_read_row_3
      walk_at "ev"
      simp only [n1.self, List.map_cons]
      refine ⟨_, hat _, ?_⟩
      walk_at "ev"
      simp only [List.length_map]
      split
      · rename_i h1
        split
        · rename_i h2
          unfold r_read_row_3t0
          walk_at "ev"
          refine ⟨?_, go _ (by rw [if_pos ⟨h1, by omega⟩])⟩
          rw [show (Str.ofString "nn").length = 2 from by decide +kernel]
          walk_at "sd"
        · rename_i h2
          exact go _ (by rw [if_neg (fun z => h2 (by omega))])
      · rename_i h1
        exact go _ (by rw [if_neg (fun z => h1 z.1)])
end K97

set_option Elab.async false
set_option linter.all false
set_option maxRecDepth 100000
set_option maxHeartbeats 4000000
namespace K97
open PySem PySem.Spec PyProof.Rows L2 MM
open TL (tl)
local macro_rules | `(tactic| walk_at "ev") => `(tactic| try simp only [tSeq, tFor_Lp, tLc_Lc, iRng1, iRng2, iRng3, iStr, iZipS, iRev, iEnum, iList, iTup, List.cons.injEq, decide_true, decide_false, not_true_eq_false, not_false_eq_true, not_dec, not_b, isA_tt, isA_ss, isA_ii, isA_bb, isA_ll, isA_bi, isA_dd, isA_ib, isA_is, isA_it, isA_il, isA_si, isA_sb, isA_ti, isA_tb, isA_ts, isA_tl, isA_li, isA_lb, isA_ls, isA_lt, isA_ni, isA_nb, isA_ns, isA_nl, isA_nt, isA_bs, isA_bl, isA_bt, isA_st, isA_sl, tAsg, gName, tVar, tC, tOp, tUn, tIf, tTest, tB, tAnd, tOr, tNot, tAndV, tOrV, tNotV, tChain, tRet, tRetN, tDrop, tIfS, tNext, tCont, tBreak, tCons, tNil, tCB, mTup, mLst, mDictK, mDictT, tSl, tPart, tNoPart, oI, oIc, oEq, oNe, oIsN, oNotN, uNeg, oRep, mAdd, mIx, mLen, mIsi, tyN, mInt, mMin, mMax, mAbs, mStr, mSl, mTupOf, mListOf, mSplit, mStarts, mBM, tyM, mCall, mMeth, mMeth2, mMake, mFld, mSetF, mRaise, mTabIx, mInTab, gTupM, gCons, gNil, gSub, mSet, scal, MM.keyOf, MM.keysOf, mAppend, mExtend, mPopL, mPop, mGet, mSetd, kvPop, kvLook, seqAt, L2.start, List.map_cons, List.map_nil, List.length_cons, List.length_nil, List.replicate, List.append_nil, List.nil_append, List.cons_append, List.getElem?_cons_zero, List.getElem?_cons_succ, List.getElem?_nil, List.set_cons_zero, List.set_cons_succ, Option.some.injEq, exists_eq_left, exists_eq_left', exists_eq', exists_and_left, and_assoc, and_true, true_and, if_true, if_false, ite_true, ite_false, decide_eq_true_eq, decide_eq_false_iff_not, Bool.not_true, Bool.not_false, Bool.not_eq_true, Bool.false_eq_true, eq_self, reduceCtorEq, and_false, false_and, V.int.injEq, V.str.injEq, V.bl.injEq, V.ref.injEq, V.ty.injEq, HO.lst.injEq, HO.tup.injEq, HO.ins.injEq, Nat.reduceAdd, Nat.reduceSub, Nat.zero_add, Nat.reduceLeDiff, Int.toNat_natCast, upd_same])
local macro_rules | `(tactic| walk_at "sd") => `(tactic| first | omega | exact lo62 (by omega) | exact hi62 (by omega) | exact sz_le (by omega) | exact sz_lt (by omega) | exact lo63 (by omega) | exact hi63 (by omega) | decide | exact ⟨by decide, by decide⟩ | exact ⟨by decide, by decide, by decide⟩ | exact Or.inl ⟨by omega, by omega⟩ | exact Or.inr ⟨by omega, by omega⟩)
/-! ### the plain law -/
theorem numL_head {n : Nat} : 10 ≤ n → (TL.numL n).head? ≠ some 48 := by
  induction n using Nat.strongRecOn with
  | _ n ih =>
    intro h
    rw [TL.numL_step h]
    have hne : TL.numL (n / 10) ≠ [] := TL.numL_ne _
    rw [show ((TL.numL (n / 10)) ++ [48 + n % 10]).head? = (TL.numL (n / 10)).head? from by
      cases e : TL.numL (n / 10) with
      | nil => exact absurd e hne
      | cons a r => rfl]
    by_cases h2 : 10 ≤ n / 10
    · exact ih (n / 10) (by omega) h2
    · rw [TL.numL_lt (by omega)]
      simp; omega
theorem rdNum_numL {n : Nat} (h : n < 10 ^ 60) : rdNum (TL.numL n) = some (n : Int) := by
  rw [rdNum_some, TL.numL_val]
  refine numOk_iff.mpr ⟨?_, TL.numL_len (by decide) h, ?_, ?_⟩
  · have := TL.numL_ne n
    cases e : TL.numL n with
    | nil => exact absurd e this
    | cons => simp
  · intro c hc
    have := TL.numL_digits n c hc
    unfold isD
    simp only [Bool.and_eq_true, decide_eq_true_eq]
    exact this
  · rintro ⟨h1, h2⟩
    by_cases h3 : 10 ≤ n
    · exact numL_head h3 h2
    · rw [TL.numL_lt (by omega)] at h1
      simp at h1
theorem tl_neg (n : Nat) : tl (Str.ofString (toString (-((n + 1 : Nat) : Int)))) = 45 :: TL.numL (n + 1) := by
  have e : toString (-((n + 1 : Nat) : Int)) = "-" ++ toString (n + 1) := rfl
  rw [e, TL.tl_ofString]
  have e2 := TL.tl_num (n + 1)
  rw [TL.tl_ofString] at e2
  rw [show (toString ((n + 1 : Nat) : Int)) = toString (n + 1) from rfl] at e2
  simp only [String.toList_append, List.map_append, e2]
  rfl
theorem rdPart_written {k : Nat} {n : Int} (hk : k = 110 ∨ k = 118 ∨ k = 114) (h : okN k n) : rdPart k (lawWritten n k) = some n := by
  unfold okN at h
  unfold rdPart lawWritten
  rcases hk with rfl | rfl | rfl
  · simp only [if_neg (show ¬ (110 = 114) by decide), if_neg (show ¬ (110 = 118) by decide), if_pos] at h ⊢
    obtain ⟨m, rfl⟩ := Int.eq_ofNat_of_zero_le h.1
    rw [TL.tl_num]
    exact rdNum_numL (by omega)
  · simp only [if_neg (show ¬ (118 = 114) by decide), if_neg (show ¬ (118 = 110) by decide), if_pos] at h ⊢
    unfold rdVal
    by_cases h0 : 0 ≤ n
    · obtain ⟨m, rfl⟩ := Int.eq_ofNat_of_zero_le h0
      rw [TL.tl_num]
      have : ¬ (TL.numL m).head? = some 45 := by
        intro z
        cases e : TL.numL m with
        | nil => rw [e] at z; cases z
        | cons a r =>
          rw [e] at z; cases z
          have := TL.numL_digits m 45 (by rw [e]; exact List.mem_cons_self ..)
          revert this; decide
      rw [if_neg this]
      exact rdNum_numL (by omega)
    · obtain ⟨m, rfl⟩ : ∃ m : Nat, n = -((m + 1 : Nat) : Int) := ⟨n.natAbs - 1, by omega⟩
      rw [tl_neg, if_pos (show (45 :: TL.numL (m + 1)).head? = some 45 from rfl)]
      simp only [List.tail_cons]
      rw [rdNum_numL (by omega)]
      simp only []
      rw [if_neg (by omega)]
  · simp only [if_pos, if_neg (show ¬ (114 = 118) by decide), if_neg (show ¬ (114 = 110) by decide)] at h ⊢
    obtain ⟨m, rfl⟩ := Int.eq_ofNat_of_zero_le h.1
    have hm : m < 4 := by omega
    match m, hm with
    | 0, _ => decide +kernel
    | 1, _ => decide +kernel
    | 2, _ => decide +kernel
    | 3, _ => decide +kernel
theorem written_free {k : Nat} {n : Int} (h : okN k n) : 32 ∉ tl (lawWritten n k) := by
  unfold okN at h
  unfold lawWritten
  by_cases hk : k = 114
  · rw [if_pos hk] at h ⊢
    obtain ⟨m, rfl⟩ := Int.eq_ofNat_of_zero_le h.1
    have hm : m < 4 := by omega
    match m, hm with
    | 0, _ => decide +kernel
    | 1, _ => decide +kernel
    | 2, _ => decide +kernel
    | 3, _ => decide +kernel
  · rw [if_neg hk]
    by_cases h0 : 0 ≤ n
    · obtain ⟨m, rfl⟩ := Int.eq_ofNat_of_zero_le h0
      rw [TL.tl_num]
      exact TL.numL_free (by decide)
    · obtain ⟨m, rfl⟩ : ∃ m : Nat, n = -((m + 1 : Nat) : Int) := ⟨n.natAbs - 1, by omega⟩
      rw [tl_neg]
      simp only [List.mem_cons, not_or]
      exact ⟨by decide, TL.numL_free (by decide)⟩
theorem rdParts_written : ∀ (ks : List Nat) (ns : List Int), ks.length = ns.length → (∀ k ∈ ks, k = 110 ∨ k = 118 ∨ k = 114) → (∀ p ∈ ns.zip ks, okN p.2 p.1) → rdParts ks ((ns.zip ks).map fun p => lawWritten p.1 p.2) = some ns
  | [], [], _, _, _ => rfl
  | [], _ :: _, h, _, _ => by simp at h
  | _ :: _, [], h, _, _ => by simp at h
  | k :: ks, n :: ns, h, h1, h2 => by
    simp only [List.zip_cons_cons, List.map_cons]
    rw [rdParts_some (rdPart_written (h1 k (List.mem_cons_self ..)) (h2 (n, k) (by rw [List.zip_cons_cons]; exact List.mem_cons_self ..)))]
    rw [rdParts_written ks ns (by simpa using h) (fun k hk => h1 k (List.mem_cons_of_mem _ hk)) (fun p hp => h2 p (by rw [List.zip_cons_cons]; exact List.mem_cons_of_mem _ hp))]
    rfl
/-- what is asked of a form -/
def formOk (p : Str × Str) : Bool := !(tl p.1).contains 32 && ((tl p.2).all (fun k => k == 110 || (k == 118 || k == 114)) && (match kindsOf p.1 with
  | some k0 => (if p.1 = Str.ofString "lay" ∧ p.2.length = 6 then k0 ++ Str.ofString "nn" else k0) == p.2
  | none => false) && decide (p.2.length ≤ 6) && decide (p.1.length ≤ 10))
theorem forms_ok : forms.all formOk = true := by decide +kernel
theorem rdRow_law {w kd : Str} {ns : List Int} (hf : (w, kd) ∈ forms) (hn : (tl kd).length = ns.length) (hok : ∀ p ∈ ns.zip (tl kd), okN p.2 p.1) :
    rdRow (Txt.join (Str.ofString " ") (lawWords w (tl kd) ns)) = some (lawDue w (tl kd) ns) := by
  have h := List.all_eq_true.mp forms_ok _ hf
  unfold formOk at h
  simp only [Bool.and_eq_true, Bool.not_eq_true', List.all_eq_true, Bool.or_eq_true, beq_iff_eq, decide_eq_true_eq] at h
  obtain ⟨h1, ⟨⟨⟨h2, h3⟩, h4⟩, h5⟩⟩ := h
  have hfree : ∀ p ∈ lawWords w (tl kd) ns, 32 ∉ tl p := by
    intro p hp
    rcases List.mem_cons.mp hp with rfl | hp
    · intro z
      have := List.contains_iff_mem.mpr z
      rw [this] at h1; cases h1
    · obtain ⟨q, hq, rfl⟩ := List.mem_map.mp hp
      exact written_free (hok q hq)
  unfold rdRow
  rw [show Txt.split (Txt.join (Str.ofString " ") (lawWords w (tl kd) ns)) (Str.ofString " ") = lawWords w (tl kd) ns from TL.split_join (s := 32) (S := []) tl_bl (by decide +kernel) (List.cons_ne_nil _ _) hfree]
  cases ek : kindsOf w with
  | none => rw [ek] at h3; cases h3
  | some k0 =>
    rw [ek] at h3
    simp only [beq_iff_eq] at h3
    unfold lawWords rdWords
    have hl : ((ns.zip (tl kd)).map fun p => lawWritten p.1 p.2).length = kd.length := by
      rw [List.length_map, List.length_zip, TL.len_tl]; omega
    simp only [ek, hl]
    rw [h3, if_pos rfl, rdParts_written _ _ hn h2 hok]
    simp only []
    unfold lawDue
    rw [TL.len_tl kd]
theorem okN_abs {k : Nat} {n : Int} (h : okN k n) : n.natAbs < 10 ^ 61 := by
  unfold okN at h
  split at h
  · omega
  · split at h <;> omega
theorem written_len {k : Nat} {n : Int} (h : okN k n) : (lawWritten n k).length ≤ 61 := by
  unfold okN at h
  unfold lawWritten
  by_cases hk : k = 114
  · rw [if_pos hk] at h ⊢
    obtain ⟨m, rfl⟩ := Int.eq_ofNat_of_zero_le h.1
    have hm : m < 4 := by omega
    match m, hm with
    | 0, _ => decide +kernel
    | 1, _ => decide +kernel
    | 2, _ => decide +kernel
    | 3, _ => decide +kernel
  · rw [if_neg hk] at h ⊢
    have hb : n.natAbs < 10 ^ 60 := by split at h <;> omega
    by_cases h0 : 0 ≤ n
    · obtain ⟨m, rfl⟩ := Int.eq_ofNat_of_zero_le h0
      rw [TL.len_tl, TL.tl_num]
      exact Nat.le_trans (TL.numL_len (k := 60) (by decide) (by omega)) (by decide)
    · obtain ⟨m, rfl⟩ : ∃ m : Nat, n = -((m + 1 : Nat) : Int) := ⟨n.natAbs - 1, by omega⟩
      rw [TL.len_tl, tl_neg, List.length_cons]
      have := TL.numL_len (n := m + 1) (k := 60) (by decide) (by omega)
      omega
theorem sum_le (l : List Str) (B : Nat) (h : ∀ p ∈ l, p.length ≤ B) : (l.map (·.length)).sum ≤ l.length * B := by
  induction l with
  | nil => simp
  | cons a r ih =>
    have := ih (fun p hp => h p (List.mem_cons_of_mem _ hp))
    have h1 := h a (List.mem_cons_self ..)
    rw [List.map_cons, List.sum_cons, List.length_cons, Nat.succ_mul]; omega
theorem joinL_len (S : List Nat) : ∀ l : List (List Nat), (TL.joinL S l).length ≤ (l.map (·.length)).sum + l.length * S.length
  | [] => by simp [TL.joinL]
  | [p] => by simp [TL.joinL]
  | p :: q :: r => by
    have := joinL_len S (q :: r)
    rw [TL.joinL, List.length_append, List.length_append, List.map_cons, List.sum_cons, List.length_cons, Nat.succ_mul]
    omega
theorem join_len (y : Str) (l : List Str) : (Txt.join y l).length ≤ (l.map (·.length)).sum + l.length * y.length := by
  rw [TL.len_tl, TL.join_eq, TL.tl_join]
  have := joinL_len (tl y) (l.map tl)
  rw [List.length_map, List.map_map] at this
  rw [TL.len_tl y]
  have e : (l.map (·.length)) = l.map ((·.length) ∘ tl) := List.map_congr_left fun a _ => TL.len_tl a
  rw [e]; exact this
end K97

set_option Elab.async false
set_option linter.all false
set_option maxRecDepth 100000
set_option maxHeartbeats 4000000
namespace K97
open PySem PySem.Spec PyProof.Rows L2 MM
open TL (tl)
local macro_rules | `(tactic| walk_at "ev") => `(tactic| try simp only [tSeq, wipe, tYes, tFor_Lp, tLc_Lc, iRng1, iRng2, iRng3, iStr, iZipS, iRev, iEnum, iList, iTup, List.cons.injEq, decide_true, decide_false, not_true_eq_false, not_false_eq_true, not_dec, not_b, isA_tt, isA_ss, isA_ii, isA_bb, isA_ll, isA_bi, isA_dd, isA_ib, isA_is, isA_it, isA_il, isA_si, isA_sb, isA_ti, isA_tb, isA_ts, isA_tl, isA_li, isA_lb, isA_ls, isA_lt, isA_ni, isA_nb, isA_ns, isA_nl, isA_nt, isA_bs, isA_bl, isA_bt, isA_st, isA_sl, tAsg, gName, tVar, tC, tOp, tUn, tIf, tTest, tB, tAnd, tOr, tNot, tAndV, tOrV, tNotV, tChain, tRet, tRetN, tDrop, tIfS, tNext, tCont, tBreak, tCons, tNil, tCB, mTup, mLst, mDictK, mDictT, tSl, tPart, tNoPart, oI, oIc, oEq, oNe, oIsN, oNotN, uNeg, oRep, mAdd, mIx, mLen, mIsi, tyN, mInt, mMin, mMax, mAbs, mStr, mSl, mTupOf, mListOf, mSplit, mStarts, mBM, tyM, mCall, mMeth, mMeth2, mMake, mFld, mSetF, mRaise, mTabIx, mInTab, gTupM, gCons, gNil, gSub, mSet, scal, MM.keyOf, MM.keysOf, mAppend, mExtend, mPopL, mPop, mGet, mSetd, kvPop, kvLook, seqAt, L2.start, List.map_cons, List.map_nil, List.length_cons, List.length_nil, List.replicate, List.append_nil, List.nil_append, List.cons_append, List.getElem?_cons_zero, List.getElem?_cons_succ, List.getElem?_nil, List.set_cons_zero, List.set_cons_succ, Option.some.injEq, exists_eq_left, exists_eq_left', exists_eq', exists_and_left, and_assoc, and_true, true_and, if_true, if_false, ite_true, ite_false, decide_eq_true_eq, decide_eq_false_iff_not, Bool.not_true, Bool.not_false, Bool.not_eq_true, Bool.false_eq_true, eq_self, reduceCtorEq, and_false, false_and, V.int.injEq, V.str.injEq, V.bl.injEq, V.ref.injEq, V.ty.injEq, HO.lst.injEq, HO.tup.injEq, HO.ins.injEq, Nat.reduceAdd, Nat.reduceSub, Nat.zero_add, Nat.reduceLeDiff, Int.toNat_natCast, upd_same])
local macro_rules | `(tactic| walk_at "sd") => `(tactic| first | omega | exact lo62 (by omega) | exact hi62 (by omega) | exact sz_le (by omega) | exact sz_lt (by omega) | exact lo63 (by omega) | exact hi63 (by omega) | decide | exact ⟨by decide, by decide⟩ | exact ⟨by decide, by decide, by decide⟩ | exact Or.inl ⟨by omega, by omega⟩ | exact Or.inr ⟨by omega, by omega⟩)
/-! ### the plain law: rows that are none -/
theorem joinL_snoc (S p : List Nat) : ∀ l : List (List Nat), l ≠ [] → TL.joinL S (l ++ [p]) = TL.joinL S l ++ (S ++ p)
  | [], h => absurd rfl h
  | [a], _ => by simp [TL.joinL]
  | a :: b :: r, _ => by
    have := joinL_snoc S p (b :: r) (List.cons_ne_nil _ _)
    simp only [List.cons_append] at this ⊢
    rw [TL.joinL, this, TL.joinL]
    simp [List.append_assoc]
theorem joinL_app (S : List Nat) : ∀ l m : List (List Nat), l ≠ [] → m ≠ [] → TL.joinL S (l ++ m) = TL.joinL S l ++ (S ++ TL.joinL S m)
  | [], _, h, _ => absurd rfl h
  | [a], b :: r, _, _ => by simp [TL.joinL]
  | a :: b :: r, m, _, hm => by
    have := joinL_app S (b :: r) m (List.cons_ne_nil _ _) hm
    simp only [List.cons_append] at this ⊢
    rw [TL.joinL, this, TL.joinL]
    simp [List.append_assoc]
  | _, [], _, h => absurd rfl h
/-- a text whose signs are joined words -/
theorem rdRow_of {T : Str} {ws : List Str} (hT : tl T = TL.joinL [32] (ws.map tl)) (hne : ws ≠ []) (hf : ∀ p ∈ ws, 32 ∉ tl p) : rdRow T = rdWords ws := by
  have e : T = Txt.join (Str.ofString " ") ws := TL.ext_tl (by rw [TL.join_eq, TL.tl_join, tl_bl, hT])
  unfold rdRow
  rw [e, show Txt.split (Txt.join (Str.ofString " ") ws) (Str.ofString " ") = ws from TL.split_join (s := 32) (S := []) tl_bl (by decide +kernel) hne hf]
theorem rdWords_none {w : Str} {r : List Str} (h : kindsOf w = none) : rdWords (w :: r) = none := by unfold rdWords; simp only [h]
theorem rdWords_some {w k0 : Str} {r : List Str} (h : kindsOf w = some k0) : rdWords (w :: r) = (if r.length = (if w = Str.ofString "lay" ∧ r.length = 6 then k0 ++ Str.ofString "nn" else k0).length then
    (match rdParts (tl (if w = Str.ofString "lay" ∧ r.length = 6 then k0 ++ Str.ofString "nn" else k0)) r with
      | some ns => some (.str w :: ns.map V.int ++ (if w = Str.ofString "lay" ∧ r.length = 4 then [V.non, V.int 0] else []))
      | none => none) else none) := by unfold rdWords; simp only [h]; try rfl
/-- what is asked of a form when its row is spoilt -/
def formOk3 (p : Str × Str) : Bool := (match kindsOf p.1 with
  | some k0 => (decide (p.1 = Str.ofString "lay") && (decide (k0.length = 4) && (decide (p.2.length = 4) || decide (p.2.length = 6)))) || (!decide (p.1 = Str.ofString "lay") && k0 == p.2)
  | none => false) && (!(tl p.1).contains 32 && ((tl p.2).all (fun k => k == 110 || (k == 118 || k == 114)) && (decide (p.2.length ≤ 6) && (decide (1 ≤ p.1.length) && decide (p.1.length ≤ 10)))))
theorem forms_ok3 : forms.all formOk3 = true := by decide +kernel
theorem DeedOk.f3 {w kd : Str} {ns : List Int} (h : DeedOk w kd ns) : (∃ k0, kindsOf w = some k0 ∧ ((w = Str.ofString "lay" ∧ k0.length = 4 ∧ ((tl kd).length = 4 ∨ (tl kd).length = 6)) ∨ (w ≠ Str.ofString "lay" ∧ k0 = kd))) ∧ 32 ∉ tl w ∧ (∀ k ∈ tl kd, k = 110 ∨ k = 118 ∨ k = 114) ∧ (tl kd).length ≤ 6 ∧ 1 ≤ (tl w).length ∧ w.length ≤ 10 := by
  have hff := List.all_eq_true.mp forms_ok3 _ h.1
  unfold formOk3 at hff
  rw [Bool.and_eq_true] at hff
  obtain ⟨h1, h2⟩ := hff
  simp only [Bool.and_eq_true, Bool.not_eq_true', List.all_eq_true, Bool.or_eq_true, beq_iff_eq, decide_eq_true_eq] at h2
  refine ⟨?_, fun z => ?_, h2.2.1, by rw [← TL.len_tl]; exact h2.2.2.1, by rw [← TL.len_tl]; exact h2.2.2.2.1, h2.2.2.2.2⟩
  · cases ek : kindsOf w with
    | none => rw [ek] at h1; cases h1
    | some k0 =>
      rw [ek] at h1
      refine ⟨k0, rfl, ?_⟩
      simp only [Bool.and_eq_true, Bool.or_eq_true, Bool.not_eq_true', decide_eq_true_eq, decide_eq_false_iff_not, beq_iff_eq] at h1
      rw [← TL.len_tl]
      exact h1
  · have := List.contains_iff_mem.mpr z
    rw [h2.1] at this; cases this
/-- a row of a form's word with one part more or less -/
theorem rd_count {w kd : Str} {ns : List Int} (h : DeedOk w kd ns) {r : List Str} (hr : r.length = (tl kd).length + 1 ∨ r.length + 1 = (tl kd).length) : rdWords (w :: r) = none := by
  obtain ⟨⟨k0, ek, h1⟩, -⟩ := h.f3
  rw [rdWords_some ek]
  rcases h1 with ⟨hl, hk, h46⟩ | ⟨hl, hk⟩
  · rw [if_neg (by rw [if_neg (fun z => by have := z.2; omega)]; omega)]
  · rw [if_neg (by rw [if_neg (fun z => hl z.1), hk, TL.len_tl]; omega)]
theorem rdParts_bad : ∀ (ks : List Nat) (ws : List Str) (j k : Nat) (T : Str), ks[j]? = some k → ws[j]? = some T → rdPart k T = none → rdParts ks ws = none
  | [], _, j, _, _, h, _, _ => by simp at h
  | _ :: _, [], j, _, _, _, h, _ => by simp at h
  | c :: ks, w :: ws, 0, k, T, h1, h2, h3 => by
    simp at h1 h2; subst h1 h2
    exact rdParts_none h3
  | c :: ks, w :: ws, j + 1, k, T, h1, h2, h3 => by
    simp at h1 h2
    cases e : rdPart c w with
    | none => exact rdParts_none e
    | some n => rw [rdParts_some e, rdParts_bad ks ws j k T h1 h2 h3]; rfl
theorem kinds_lay : ∀ p ∈ forms, p.1 = Str.ofString "lay" → kindsOf p.1 = some (Str.ofString "nnnr") ∧ (p.2 = Str.ofString "nnnr" ∨ p.2 = Str.ofString "nnnrnn") := by
  have h : (forms.all fun p => !decide (p.1 = Str.ofString "lay") || (decide (kindsOf p.1 = some (Str.ofString "nnnr")) && (decide (p.2 = Str.ofString "nnnr") || decide (p.2 = Str.ofString "nnnrnn")))) = true := by decide +kernel
  intro p hp hl
  have := List.all_eq_true.mp h p hp
  rw [decide_eq_true hl] at this
  simpa using this
/-- a row of a form with a bad part at j -/
theorem rd_part {w kd : Str} {ns : List Int} (h : DeedOk w kd ns) {r : List Str} {j k : Nat} {T : Str} (hr : r.length = (tl kd).length) (hk : (tl kd)[j]? = some k) (hT : r[j]? = some T) (hp : rdPart k T = none) : rdWords (w :: r) = none := by
  obtain ⟨⟨k0, ek, h1⟩, -⟩ := h.f3
  rw [rdWords_some ek]
  have : (if w = Str.ofString "lay" ∧ r.length = 6 then k0 ++ Str.ofString "nn" else k0) = kd := by
    rcases h1 with ⟨hl, hk4, h46⟩ | ⟨hl, hk4⟩
    · have z := kinds_lay _ h.1 hl
      rw [ek] at z
      have e0 : k0 = Str.ofString "nnnr" := Option.some.inj z.1
      rcases z.2 with e | e
      · have e2 : kd = Str.ofString "nnnr" := e
        rw [if_neg (fun y => by have := y.2; rw [hr, e2] at this; revert this; decide +kernel), e0, e2]
      · have e2 : kd = Str.ofString "nnnrnn" := e
        rw [if_pos ⟨hl, by rw [hr, e2]; decide +kernel⟩, e0, e2]; decide +kernel
    · rw [if_neg (fun y => hl y.1), hk4]
  rw [this]
  split
  · rw [rdParts_bad _ _ j k T hk hT hp]
  · rfl
theorem kinds_empty : kindsOf (Str.ofString "") = none := by decide +kernel
end K97

set_option Elab.async false
set_option linter.all false
set_option maxRecDepth 100000
set_option maxHeartbeats 4000000
namespace K97
open PySem PySem.Spec PyProof.Rows L2 MM
open TL (tl)
local macro_rules | `(tactic| walk_at "ev") => `(tactic| try simp only [tSeq, wipe, tYes, tFor_Lp, tLc_Lc, iRng1, iRng2, iRng3, iStr, iZipS, iRev, iEnum, iList, iTup, List.cons.injEq, decide_true, decide_false, not_true_eq_false, not_false_eq_true, not_dec, not_b, isA_tt, isA_ss, isA_ii, isA_bb, isA_ll, isA_bi, isA_dd, isA_ib, isA_is, isA_it, isA_il, isA_si, isA_sb, isA_ti, isA_tb, isA_ts, isA_tl, isA_li, isA_lb, isA_ls, isA_lt, isA_ni, isA_nb, isA_ns, isA_nl, isA_nt, isA_bs, isA_bl, isA_bt, isA_st, isA_sl, tAsg, gName, tVar, tC, tOp, tUn, tIf, tTest, tB, tAnd, tOr, tNot, tAndV, tOrV, tNotV, tChain, tRet, tRetN, tDrop, tIfS, tNext, tCont, tBreak, tCons, tNil, tCB, mTup, mLst, mDictK, mDictT, tSl, tPart, tNoPart, oI, oIc, oEq, oNe, oIsN, oNotN, uNeg, oRep, mAdd, mIx, mLen, mIsi, tyN, mInt, mMin, mMax, mAbs, mStr, mSl, mTupOf, mListOf, mSplit, mStarts, mBM, tyM, mCall, mMeth, mMeth2, mMake, mFld, mSetF, mRaise, mTabIx, mInTab, gTupM, gCons, gNil, gSub, mSet, scal, MM.keyOf, MM.keysOf, mAppend, mExtend, mPopL, mPop, mGet, mSetd, kvPop, kvLook, seqAt, L2.start, List.map_cons, List.map_nil, List.length_cons, List.length_nil, List.replicate, List.append_nil, List.nil_append, List.cons_append, List.getElem?_cons_zero, List.getElem?_cons_succ, List.getElem?_nil, List.set_cons_zero, List.set_cons_succ, Option.some.injEq, exists_eq_left, exists_eq_left', exists_eq', exists_and_left, and_assoc, and_true, true_and, if_true, if_false, ite_true, ite_false, decide_eq_true_eq, decide_eq_false_iff_not, Bool.not_true, Bool.not_false, Bool.not_eq_true, Bool.false_eq_true, eq_self, reduceCtorEq, and_false, false_and, V.int.injEq, V.str.injEq, V.bl.injEq, V.ref.injEq, V.ty.injEq, HO.lst.injEq, HO.tup.injEq, HO.ins.injEq, Nat.reduceAdd, Nat.reduceSub, Nat.zero_add, Nat.reduceLeDiff, Int.toNat_natCast, upd_same])
local macro_rules | `(tactic| walk_at "sd") => `(tactic| first | omega | exact lo62 (by omega) | exact hi62 (by omega) | exact sz_le (by omega) | exact sz_lt (by omega) | exact lo63 (by omega) | exact hi63 (by omega) | decide | exact ⟨by decide, by decide⟩ | exact ⟨by decide, by decide, by decide⟩ | exact Or.inl ⟨by omega, by omega⟩ | exact Or.inr ⟨by omega, by omega⟩)
theorem DeedOk.free {w kd : Str} {ns : List Int} (h : DeedOk w kd ns) : ∀ p ∈ lawWords w (tl kd) ns, 32 ∉ tl p := by
  intro p hp
  rcases List.mem_cons.mp hp with rfl | hp
  · exact h.f3.2.1
  · obtain ⟨q, hq, rfl⟩ := List.mem_map.mp hp
    exact written_free (h.2.2 q hq)
theorem lawWords_len {w : Str} {ks : List Nat} {ns : List Int} (h : ks.length = ns.length) : (lawWords w ks ns).length = ks.length + 1 := by
  unfold lawWords
  rw [List.length_cons, List.length_map, List.length_zip]; omega
theorem DeedOk.sz {w kd : Str} {ns : List Int} (h : DeedOk w kd ns) : ∀ p ∈ lawWords w (tl kd) ns, p.length ≤ 61 := by
  intro p hp
  rcases List.mem_cons.mp hp with rfl | hp
  · have := h.f3.2.2.2.2.2; omega
  · obtain ⟨q, hq, rfl⟩ := List.mem_map.mp hp
    exact written_len (h.2.2 q hq)
theorem tl_T0 (ws : List Str) : tl (Txt.join (Str.ofString " ") ws) = TL.joinL [32] (ws.map tl) := by rw [TL.join_eq, TL.tl_join, tl_bl]
theorem join_bd {ws : List Str} {B n : Nat} (h : ∀ p ∈ ws, p.length ≤ B) (hn : ws.length ≤ n) : (Txt.join (Str.ofString " ") ws).length ≤ n * (B + 1) := by
  have h1 := join_len (Str.ofString " ") ws
  have h2 := sum_le ws B h
  rw [show (Str.ofString " ").length = 1 from by decide +kernel] at h1
  have h3 : ws.length * (B + 1) ≤ n * (B + 1) := Nat.mul_le_mul_right _ hn
  rw [Nat.mul_add] at h3
  omega
theorem len_app (x y : Str) : (x ++ y).length = x.length + y.length := by rw [TL.len_tl, TL.tl_append, List.length_append, ← TL.len_tl, ← TL.len_tl]
section
variable {w kd : Str} {ns : List Int}
theorem bad0 (h : DeedOk w kd ns) : BadRow (Str.ofString " " ++ Txt.join (Str.ofString " ") (lawWords w (tl kd) ns)) := by
  have hc : (lawWords w (tl kd) ns).length ≤ 7 := by rw [lawWords_len h.2.1]; have := h.f3.2.2.2.1; omega
  refine ⟨?_, ?_⟩
  · rw [len_app]; have := join_bd h.sz hc; rw [show (Str.ofString " ").length = 1 from by decide +kernel]; omega
  · rw [rdRow_of (ws := Str.ofString "" :: lawWords w (tl kd) ns) ?_ (List.cons_ne_nil _ _) ?_]
    · exact rdWords_none kinds_empty
    · rw [TL.tl_append, tl_bl, tl_T0, List.map_cons, show tl (Str.ofString "") = [] from by decide +kernel]
      unfold lawWords
      rfl
    · intro p hp
      rcases List.mem_cons.mp hp with rfl | hp
      · rw [show tl (Str.ofString "") = [] from by decide +kernel]; simp
      · exact h.free p hp
theorem bad9 (h : DeedOk w kd ns) : BadRow (Txt.join (Str.ofString " ") (lawWords w (tl kd) ns) ++ Str.ofString " ") := by
  have hc : (lawWords w (tl kd) ns).length ≤ 7 := by rw [lawWords_len h.2.1]; have := h.f3.2.2.2.1; omega
  refine ⟨?_, ?_⟩
  · rw [len_app]; have := join_bd h.sz hc; rw [show (Str.ofString " ").length = 1 from by decide +kernel]; omega
  · rw [rdRow_of (ws := lawWords w (tl kd) ns ++ [Str.ofString ""]) ?_ (by simp) ?_]
    · unfold lawWords
      rw [List.cons_append]
      refine rd_count h (.inl ?_)
      rw [List.length_append, List.length_map, List.length_zip, List.length_singleton]; have := h.2.1; omega
    · rw [TL.tl_append, tl_bl, tl_T0, List.map_append, List.map_cons, List.map_nil, joinL_snoc _ _ _ (by unfold lawWords; simp), show tl (Str.ofString "") = [] from by decide +kernel, List.append_nil]
    · intro p hp
      rcases List.mem_append.mp hp with hp | hp
      · exact h.free p hp
      · rw [List.mem_singleton] at hp; subst hp
        rw [show tl (Str.ofString "") = [] from by decide +kernel]; simp
theorem bad4 (h : DeedOk w kd ns) {x : Str} (hx : 32 ∉ tl x) (hl : x.length ≤ 100) : BadRow (Txt.join (Str.ofString " ") (lawWords w (tl kd) ns) ++ Str.ofString " " ++ x) := by
  have hc : (lawWords w (tl kd) ns).length ≤ 7 := by rw [lawWords_len h.2.1]; have := h.f3.2.2.2.1; omega
  refine ⟨?_, ?_⟩
  · rw [len_app, len_app]; have := join_bd h.sz hc; rw [show (Str.ofString " ").length = 1 from by decide +kernel]; omega
  · rw [rdRow_of (ws := lawWords w (tl kd) ns ++ [x]) ?_ (by simp) ?_]
    · unfold lawWords
      rw [List.cons_append]
      refine rd_count h (.inl ?_)
      rw [List.length_append, List.length_map, List.length_zip, List.length_singleton]; have := h.2.1; omega
    · rw [TL.tl_append, TL.tl_append, tl_bl, tl_T0, List.map_append, List.map_cons, List.map_nil, joinL_snoc _ _ _ (by unfold lawWords; simp), List.append_assoc]
    · intro p hp
      rcases List.mem_append.mp hp with hp | hp
      · exact h.free p hp
      · rw [List.mem_singleton] at hp; subst hp; exact hx
theorem bad3 (h : DeedOk w kd ns) : BadRow (Txt.join (Str.ofString " ") ((lawWords w (tl kd) ns).take (tl kd).length)) := by
  have hc : ((lawWords w (tl kd) ns).take (tl kd).length).length ≤ 7 := by rw [List.length_take, lawWords_len h.2.1]; have := h.f3.2.2.2.1; omega
  have hf : ∀ p ∈ (lawWords w (tl kd) ns).take (tl kd).length, 32 ∉ tl p := fun p hp => h.free p (List.mem_of_mem_take hp)
  refine ⟨?_, ?_⟩
  · have := join_bd (fun p hp => h.sz p (List.mem_of_mem_take hp)) hc; omega
  · by_cases h0 : (tl kd).length = 0
    · rw [h0, List.take_zero]
      decide +kernel
    · obtain ⟨m, hm⟩ : ∃ m, (tl kd).length = m + 1 := ⟨(tl kd).length - 1, by omega⟩
      have e : (lawWords w (tl kd) ns).take (tl kd).length = w :: ((ns.zip (tl kd)).map fun p => lawWritten p.1 p.2).take m := by
        unfold lawWords
        rw [hm, List.take_succ_cons]
      rw [e] at hf ⊢
      rw [rdRow_of (tl_T0 _) (List.cons_ne_nil _ _) hf]
      refine rd_count h (.inr ?_)
      rw [List.length_take, List.length_map, List.length_zip]; have := h.2.1; omega
theorem bad2 (h : DeedOk w kd ns) {j : Nat} (h1 : 1 ≤ j) (h2 : j < (lawWords w (tl kd) ns).length) : BadRow (Txt.join (Str.ofString " ") ((lawWords w (tl kd) ns).take j) ++ Str.ofString "  " ++ Txt.join (Str.ofString " ") ((lawWords w (tl kd) ns).drop j)) := by
  have hlw := lawWords_len (w := w) h.2.1
  have h6 := h.f3.2.2.2.1
  have hb2 : tl (Str.ofString "  ") = [32, 32] := by decide +kernel
  have hl2 : (Str.ofString "  ").length = 2 := by decide +kernel
  refine ⟨?_, ?_⟩
  · rw [len_app, len_app, hl2]
    have a1 := join_bd (n := 7) (fun p hp => h.sz p (List.mem_of_mem_take (i := j) hp)) (by rw [List.length_take]; omega)
    have a2 := join_bd (n := 7) (fun p hp => h.sz p (List.mem_of_mem_drop (i := j) hp)) (by rw [List.length_drop]; omega)
    omega
  · obtain ⟨i, rfl⟩ : ∃ i, j = i + 1 := ⟨j - 1, by omega⟩
    have hd : (lawWords w (tl kd) ns).drop (i + 1) ≠ [] := fun z => by have := congrArg List.length z; rw [List.length_drop] at this; simp at this; omega
    have ht : (lawWords w (tl kd) ns).take (i + 1) ≠ [] := by unfold lawWords; simp
    rw [rdRow_of (ws := (lawWords w (tl kd) ns).take (i + 1) ++ (Str.ofString "" :: (lawWords w (tl kd) ns).drop (i + 1))) ?_ (by simp) ?_]
    · have e : (lawWords w (tl kd) ns).take (i + 1) = w :: ((ns.zip (tl kd)).map fun p => lawWritten p.1 p.2).take i := by unfold lawWords; rw [List.take_succ_cons]
      rw [e, List.cons_append]
      refine rd_count h (.inl ?_)
      rw [List.length_append, List.length_cons, List.length_drop, List.length_take, hlw, List.length_map, List.length_zip]
      have := h.2.1; omega
    · rw [TL.tl_append, TL.tl_append, hb2, tl_T0, tl_T0, List.map_append, joinL_app _ _ _ (by simpa using ht) (by simp), List.map_cons, show tl (Str.ofString "") = [] from by decide +kernel]
      cases hz : (lawWords w (tl kd) ns).drop (i + 1) with
      | nil => exact absurd hz hd
      | cons b r => simp [TL.joinL]
    · intro p hp
      rcases List.mem_append.mp hp with hp | hp
      · exact h.free p (List.mem_of_mem_take hp)
      · rcases List.mem_cons.mp hp with rfl | hp
        · rw [show tl (Str.ofString "") = [] from by decide +kernel]; simp
        · exact h.free p (List.mem_of_mem_drop hp)
/-- a part put in another's place -/
theorem bad6 (h : DeedOk w kd ns) {j k : Nat} {T : Str} (hk : (tl kd)[j]? = some k) (hT : Spoilt k T) : BadRow (Txt.join (Str.ofString " ") ((lawWords w (tl kd) ns).set (j + 1) T)) := by
  have hlw := lawWords_len (w := w) h.2.1
  have h6 := h.f3.2.2.2.1
  have hjl : j < (tl kd).length := (List.getElem?_eq_some_iff.mp hk).1
  have hmem : ∀ p ∈ (lawWords w (tl kd) ns).set (j + 1) T, p = T ∨ p ∈ lawWords w (tl kd) ns := fun p hp => by
    rcases List.mem_or_eq_of_mem_set hp with hp | rfl
    · exact .inr hp
    · exact .inl rfl
  refine ⟨?_, ?_⟩
  · have := join_bd (n := 7) (B := 200) (ws := (lawWords w (tl kd) ns).set (j + 1) T) (fun p hp => by
      rcases hmem p hp with rfl | hp
      · exact hT.1
      · have := h.sz p hp; omega) (by rw [List.length_set]; omega)
    omega
  · have es : (lawWords w (tl kd) ns).set (j + 1) T = w :: ((ns.zip (tl kd)).map fun p => lawWritten p.1 p.2).set j T := by unfold lawWords; rw [List.set_cons_succ]
    have hzl : ((ns.zip (tl kd)).map fun p => lawWritten p.1 p.2).length = (tl kd).length := by rw [List.length_map, List.length_zip]; have := h.2.1; omega
    rcases hT.2 with ⟨hf, hp⟩ | ⟨p, q, hpq, hp, hq⟩
    · rw [rdRow_of (tl_T0 _) (by rw [es]; exact List.cons_ne_nil _ _) (fun p hp => by
        rcases hmem p hp with rfl | hp
        · exact hf
        · exact h.free p hp), es]
      exact rd_part h (by rw [List.length_set, hzl]) hk (by rw [List.getElem?_set_self (by omega)]) hp
    · have cut : (lawWords w (tl kd) ns).set (j + 1) T = (lawWords w (tl kd) ns).take (j + 1) ++ (T :: (lawWords w (tl kd) ns).drop (j + 2)) := by
        rw [List.set_eq_take_append_cons_drop, if_pos (by omega)]
      have hfree : ∀ x ∈ (lawWords w (tl kd) ns).take (j + 1) ++ ((⟨p.toArray⟩ : Str) :: (⟨q.toArray⟩ : Str) :: (lawWords w (tl kd) ns).drop (j + 2)), 32 ∉ tl x := by
        intro x hx
        rcases List.mem_append.mp hx with hx | hx
        · exact h.free x (List.mem_of_mem_take hx)
        · rcases List.mem_cons.mp hx with rfl | hx
          · rw [TL.tl_mk]; exact hp
          · rcases List.mem_cons.mp hx with rfl | hx
            · rw [TL.tl_mk]; exact hq
            · exact h.free x (List.mem_of_mem_drop hx)
      rw [rdRow_of (ws := (lawWords w (tl kd) ns).take (j + 1) ++ ((⟨p.toArray⟩ : Str) :: (⟨q.toArray⟩ : Str) :: (lawWords w (tl kd) ns).drop (j + 2))) ?_ (by simp) hfree]
      · have e : (lawWords w (tl kd) ns).take (j + 1) = w :: ((ns.zip (tl kd)).map fun p => lawWritten p.1 p.2).take j := by unfold lawWords; rw [List.take_succ_cons]
        rw [e, List.cons_append]
        refine rd_count h (.inl ?_)
        rw [List.length_append, List.length_cons, List.length_cons, List.length_drop, List.length_take, hlw, hzl]; omega
      · rw [tl_T0, cut, List.map_append, List.map_append, joinL_app _ _ _ (by unfold lawWords; simp) (by simp), joinL_app _ _ _ (by unfold lawWords; simp) (by simp)]
        congr 2
        rw [List.map_cons, List.map_cons, List.map_cons, hpq, TL.tl_mk, TL.tl_mk]
        cases ((lawWords w (tl kd) ns).drop (j + 2)).map tl with
        | nil => simp [TL.joinL]
        | cons b r => simp [TL.joinL]
end
end K97

set_option Elab.async false
set_option linter.all false
set_option maxRecDepth 100000
set_option maxHeartbeats 4000000
namespace K97
open PySem PySem.Spec PyProof.Rows L2 MM
open TL (tl)
local macro_rules | `(tactic| walk_at "ev") => `(tactic| try simp only [tSeq, wipe, tYes, tFor_Lp, tLc_Lc, iRng1, iRng2, iRng3, iStr, iZipS, iRev, iEnum, iList, iTup, List.cons.injEq, decide_true, decide_false, not_true_eq_false, not_false_eq_true, not_dec, not_b, isA_tt, isA_ss, isA_ii, isA_bb, isA_ll, isA_bi, isA_dd, isA_ib, isA_is, isA_it, isA_il, isA_si, isA_sb, isA_ti, isA_tb, isA_ts, isA_tl, isA_li, isA_lb, isA_ls, isA_lt, isA_ni, isA_nb, isA_ns, isA_nl, isA_nt, isA_bs, isA_bl, isA_bt, isA_st, isA_sl, tAsg, gName, tVar, tC, tOp, tUn, tIf, tTest, tB, tAnd, tOr, tNot, tAndV, tOrV, tNotV, tChain, tRet, tRetN, tDrop, tIfS, tNext, tCont, tBreak, tCons, tNil, tCB, mTup, mLst, mDictK, mDictT, tSl, tPart, tNoPart, oI, oIc, oEq, oNe, oIsN, oNotN, uNeg, oRep, mAdd, mIx, mLen, mIsi, tyN, mInt, mMin, mMax, mAbs, mStr, mSl, mTupOf, mListOf, mSplit, mStarts, mBM, tyM, mCall, mMeth, mMeth2, mMake, mFld, mSetF, mRaise, mTabIx, mInTab, gTupM, gCons, gNil, gSub, mSet, scal, MM.keyOf, MM.keysOf, mAppend, mExtend, mPopL, mPop, mGet, mSetd, kvPop, kvLook, seqAt, L2.start, List.map_cons, List.map_nil, List.length_cons, List.length_nil, List.replicate, List.append_nil, List.nil_append, List.cons_append, List.getElem?_cons_zero, List.getElem?_cons_succ, List.getElem?_nil, List.set_cons_zero, List.set_cons_succ, Option.some.injEq, exists_eq_left, exists_eq_left', exists_eq', exists_and_left, and_assoc, and_true, true_and, if_true, if_false, ite_true, ite_false, decide_eq_true_eq, decide_eq_false_iff_not, Bool.not_true, Bool.not_false, Bool.not_eq_true, Bool.false_eq_true, eq_self, reduceCtorEq, and_false, false_and, V.int.injEq, V.str.injEq, V.bl.injEq, V.ref.injEq, V.ty.injEq, HO.lst.injEq, HO.tup.injEq, HO.ins.injEq, Nat.reduceAdd, Nat.reduceSub, Nat.zero_add, Nat.reduceLeDiff, Int.toNat_natCast, upd_same])
local macro_rules | `(tactic| walk_at "sd") => `(tactic| first | omega | exact lo62 (by omega) | exact hi62 (by omega) | exact sz_le (by omega) | exact sz_lt (by omega) | exact lo63 (by omega) | exact hi63 (by omega) | decide | exact ⟨by decide, by decide⟩ | exact ⟨by decide, by decide, by decide⟩ | exact Or.inl ⟨by omega, by omega⟩ | exact Or.inr ⟨by omega, by omega⟩)
def keysL : List (List Nat) := [[110, 101, 119], [102, 111, 114, 107], [101, 110, 100], [98, 97, 110, 107], [100, 114, 111, 112], [108, 97, 121], [108, 105, 102, 116], [103, 117, 97, 114, 100], [114, 101, 97, 100], [119, 114, 105, 116, 101], [102, 111, 108, 100], [115, 101, 101], [108, 97, 105, 100], [108, 105, 118, 101]]
theorem keysL_eq : (tab_WORDS.map fun q => tl q.1) = keysL := by decide +kernel
theorem lookup_key {α : Type} : ∀ {l : List (Str × α)} {z : Str} {v : α}, l.lookup z = some v → z ∈ l.map (·.1)
  | [], _, _, h => by cases h
  | (a, u) :: r, z, v, h => by
    rw [List.lookup_cons] at h
    split at h
    · rename_i e
      rw [beq_iff_eq.mp e]; exact List.mem_cons_self ..
    · exact List.mem_cons_of_mem _ (lookup_key h)
theorem kinds_no {T : Str} (h : tl T ∉ keysL) : kindsOf T = none := by
  cases e : tab_WORDS.lookup T with
  | none => unfold kindsOf; rw [e]
  | some v =>
    refine absurd ?_ h
    rw [← keysL_eq]
    obtain ⟨q, hq, rfl⟩ := List.mem_map.mp (lookup_key e)
    exact List.mem_map.mpr ⟨q, hq, rfl⟩
def chk5 (w : List Nat) : Bool := (List.range w.length).all fun j => (List.range 127).all fun c => decide (c < 32) || (decide (w[j]? = some c) || (if c = 32 then !keysL.contains (w.take j) else !keysL.contains (w.set j c)))
theorem chk5_ok : keysL.all chk5 = true := by decide +kernel
theorem forms_keys : (forms.all fun p => keysL.contains (tl p.1)) = true := by decide +kernel
theorem bad5 {w kd : Str} {ns : List Int} (h : DeedOk w kd ns) {j c : Nat} {T R : Str} (hj : j < (tl w).length) (hc : isSign c) (hne : (tl w)[j]? ≠ some c) (hT : tl T = (tl w).take j ++ (c :: (tl w).drop (j + 1))) (hR : tl R = (tl (Txt.join (Str.ofString " ") (lawWords w (tl kd) ns))).drop (tl w).length) :
    BadRow (T ++ R) := by
  have hlw := lawWords_len (w := w) h.2.1
  have h6 := h.f3.2.2.2.1
  have hw10 := h.f3.2.2.2.2.2
  have hwk : tl w ∈ keysL := List.contains_iff_mem.mp (List.all_eq_true.mp forms_keys _ h.1)
  have ck := List.all_eq_true.mp chk5_ok _ hwk
  unfold chk5 at ck
  have ck2 := List.all_eq_true.mp (List.all_eq_true.mp ck j (List.mem_range.mpr hj)) c (List.mem_range.mpr (by have := hc.2; omega))
  rw [decide_eq_false (by have := hc.1; omega), decide_eq_false hne, Bool.false_or, Bool.false_or] at ck2
  have hset : (tl w).set j c = (tl w).take j ++ (c :: (tl w).drop (j + 1)) := by rw [List.set_eq_take_append_cons_drop, if_pos hj]
  have hwf := h.f3.2.1
  generalize hzs : ((ns.zip (tl kd)).map fun p => lawWritten p.1 p.2) = zs at *
  have hR2 : tl R = (if zs = [] then [] else 32 :: TL.joinL [32] (zs.map tl)) := by
    rw [hR, tl_T0]
    unfold lawWords
    rw [hzs, List.map_cons]
    cases zs with
    | nil => rw [if_pos rfl]; simp [TL.joinL]
    | cons a r =>
      rw [if_neg (List.cons_ne_nil _ _), List.map_cons, TL.joinL, List.drop_left]; rfl
  have hzf : ∀ x ∈ zs, 32 ∉ tl x := fun x hx => h.free x (by unfold lawWords; rw [hzs]; exact List.mem_cons_of_mem _ hx)
  have hlen : (T ++ R).length ≤ 2000 := by
    rw [len_app, TL.len_tl T, TL.len_tl R, hT, hR, List.length_append, List.length_cons, List.length_take, List.length_drop, List.length_drop, ← TL.len_tl (Txt.join _ _)]
    have := join_bd h.sz (n := 7) (by omega)
    have e10 : (tl w).length ≤ 10 := by rw [← TL.len_tl]; exact hw10
    omega
  refine ⟨hlen, ?_⟩
  by_cases h32 : c = 32
  · subst h32
    rw [if_pos rfl, Bool.not_eq_true'] at ck2
    have hk : (tl w).take j ∉ keysL := fun z => by rw [List.contains_iff_mem.mpr z] at ck2; cases ck2
    rw [rdRow_of (ws := (⟨((tl w).take j).toArray⟩ : Str) :: (⟨((tl w).drop (j + 1)).toArray⟩ : Str) :: zs) ?_ (List.cons_ne_nil _ _) ?_]
    · exact rdWords_none (kinds_no (by rw [TL.tl_mk]; exact hk))
    · rw [TL.tl_append, hT, hR2, List.map_cons, List.map_cons, TL.tl_mk, TL.tl_mk]
      cases zs with
      | nil => simp [TL.joinL]
      | cons a r => rw [if_neg (List.cons_ne_nil _ _)]; simp [TL.joinL]
    · intro x hx
      rcases List.mem_cons.mp hx with rfl | hx
      · rw [TL.tl_mk]; exact fun z => hwf (List.mem_of_mem_take z)
      · rcases List.mem_cons.mp hx with rfl | hx
        · rw [TL.tl_mk]; exact fun z => hwf (List.mem_of_mem_drop z)
        · exact hzf x hx
  · rw [if_neg h32, Bool.not_eq_true'] at ck2
    have hk : (tl w).set j c ∉ keysL := fun z => by rw [List.contains_iff_mem.mpr z] at ck2; cases ck2
    rw [rdRow_of (ws := (⟨((tl w).set j c).toArray⟩ : Str) :: zs) ?_ (List.cons_ne_nil _ _) ?_]
    · exact rdWords_none (kinds_no (by rw [TL.tl_mk]; exact hk))
    · rw [TL.tl_append, hT, hR2, List.map_cons, TL.tl_mk ((tl w).set j c), hset]
      cases zs with
      | nil => simp [TL.joinL]
      | cons a r =>
        rw [if_neg (List.cons_ne_nil _ _), List.map_cons, TL.joinL]
        simp only [List.append_assoc, List.cons_append, List.nil_append]
    · intro x hx
      rcases List.mem_cons.mp hx with rfl | hx
      · rw [TL.tl_mk]
        intro z
        rcases List.mem_or_eq_of_mem_set z with z | z
        · exact hwf z
        · exact h32 z.symm
      · exact hzf x hx
/-! ### a part that is none -/
theorem sp_num {k : Nat} {T : Str} (hl : T.length ≤ 200) (hf : 32 ∉ tl T) (h : rdPart k T = none) : Spoilt k T := ⟨hl, .inl ⟨hf, h⟩⟩
theorem rdNum_bad {l : List Nat} (h : numOk l = false) : rdNum l = none := rdNum_none h
theorem numL_isD {n c : Nat} (h : c ∈ TL.numL n) : isD c = true := by
  have := TL.numL_digits n c h
  unfold isD
  simp only [Bool.and_eq_true, decide_eq_true_eq]
  exact this
/-- a number's signs with one that is no figure -/
theorem numOk_sign {l : List Nat} {c : Nat} (h : c ∈ l) (hc : isD c = false) : numOk l = false := numOk_no fun z => by
  have := z.2.2.1 c h
  rw [hc] at this; cases this
/-- neither a number nor a value -/
theorem part_bad {k : Nat} {T : Str} (hk : k = 110 ∨ k = 118) (h1 : numOk (tl T) = false) (h2 : (tl T).head? = some 45 → k = 118 → numOk (tl T).tail = false ∨ rdNum (tl T).tail = some 0) : rdPart k T = none := by
  unfold rdPart
  rcases hk with rfl | rfl
  · rw [if_pos rfl]; exact rdNum_none h1
  · rw [if_neg (by decide), if_pos rfl]
    unfold rdVal
    split
    · rename_i h
      rcases h2 h rfl with z | z
      · rw [rdNum_none z]
      · rw [z]; rfl
    · exact rdNum_none h1
end K97

set_option Elab.async false
set_option linter.all false
set_option maxRecDepth 100000
set_option maxHeartbeats 4000000
namespace K97
open PySem PySem.Spec PyProof.Rows L2 MM
open TL (tl)
local macro_rules | `(tactic| walk_at "ev") => `(tactic| try simp only [tSeq, wipe, tYes, tFor_Lp, tLc_Lc, iRng1, iRng2, iRng3, iStr, iZipS, iRev, iEnum, iList, iTup, List.cons.injEq, decide_true, decide_false, not_true_eq_false, not_false_eq_true, not_dec, not_b, isA_tt, isA_ss, isA_ii, isA_bb, isA_ll, isA_bi, isA_dd, isA_ib, isA_is, isA_it, isA_il, isA_si, isA_sb, isA_ti, isA_tb, isA_ts, isA_tl, isA_li, isA_lb, isA_ls, isA_lt, isA_ni, isA_nb, isA_ns, isA_nl, isA_nt, isA_bs, isA_bl, isA_bt, isA_st, isA_sl, tAsg, gName, tVar, tC, tOp, tUn, tIf, tTest, tB, tAnd, tOr, tNot, tAndV, tOrV, tNotV, tChain, tRet, tRetN, tDrop, tIfS, tNext, tCont, tBreak, tCons, tNil, tCB, mTup, mLst, mDictK, mDictT, tSl, tPart, tNoPart, oI, oIc, oEq, oNe, oIsN, oNotN, uNeg, oRep, mAdd, mIx, mLen, mIsi, tyN, mInt, mMin, mMax, mAbs, mStr, mSl, mTupOf, mListOf, mSplit, mStarts, mBM, tyM, mCall, mMeth, mMeth2, mMake, mFld, mSetF, mRaise, mTabIx, mInTab, gTupM, gCons, gNil, gSub, mSet, scal, MM.keyOf, MM.keysOf, mAppend, mExtend, mPopL, mPop, mGet, mSetd, kvPop, kvLook, seqAt, L2.start, List.map_cons, List.map_nil, List.length_cons, List.length_nil, List.replicate, List.append_nil, List.nil_append, List.cons_append, List.getElem?_cons_zero, List.getElem?_cons_succ, List.getElem?_nil, List.set_cons_zero, List.set_cons_succ, Option.some.injEq, exists_eq_left, exists_eq_left', exists_eq', exists_and_left, and_assoc, and_true, true_and, if_true, if_false, ite_true, ite_false, decide_eq_true_eq, decide_eq_false_iff_not, Bool.not_true, Bool.not_false, Bool.not_eq_true, Bool.false_eq_true, eq_self, reduceCtorEq, and_false, false_and, V.int.injEq, V.str.injEq, V.bl.injEq, V.ref.injEq, V.ty.injEq, HO.lst.injEq, HO.tup.injEq, HO.ins.injEq, Nat.reduceAdd, Nat.reduceSub, Nat.zero_add, Nat.reduceLeDiff, Int.toNat_natCast, upd_same])
local macro_rules | `(tactic| walk_at "sd") => `(tactic| first | omega | exact lo62 (by omega) | exact hi62 (by omega) | exact sz_le (by omega) | exact sz_lt (by omega) | exact lo63 (by omega) | exact hi63 (by omega) | decide | exact ⟨by decide, by decide⟩ | exact ⟨by decide, by decide, by decide⟩ | exact Or.inl ⟨by omega, by omega⟩ | exact Or.inr ⟨by omega, by omega⟩)
theorem p__law_sign {K : PySem.W.Frag} (vs : List V) (H : Hp) (Q : VK) (E : XK) (h : sp__law_sign K vs H Q E) : r__law_sign K (WX0 E) { nx := fun _ H' => Q .non H', rt := Q } (start ["_law_cell", "_law_some"] vs) H := by
  obtain ⟨-, c, rfl, q⟩ := h
  unfold r__law_sign r__law_sign_0
  walk_at "ev"
  unfold r__law_sign_1
  walk_at "ev"
  refine ⟨by decide +kernel, ?_⟩
  unfold r__law_sign_2
  walk_at "ev"
  have hb := Int.emod_nonneg c (show (94 : Int) ≠ 0 by decide)
  have hb2 := Int.emod_lt_of_pos c (show (0 : Int) < 94 by decide)
  obtain ⟨j, hj⟩ := Int.eq_ofNat_of_zero_le hb
  rw [hj]
  have e : (Str.ofString " !\"#$&'()*+,-./0123456789:;<=>?@ABCDEFGHIJKLMNOPQRSTUVWXYZ[\\]^_`" ++ Str.ofString "abcdefghijklmnopqrstuvwxyz{|}~").cps.toList = (List.range 95).filterMap (fun k => if k = 5 then none else some (32 + k)) := by decide +kernel
  rw [e]
  have all : ((List.range 94).all fun j => match ((List.range 95).filterMap (fun k => if k = 5 then none else some (32 + k)))[j]? with
    | some k => decide (32 ≤ k) && decide (k ≤ 126)
    | none => false) = true := by decide +kernel
  have := List.all_eq_true.mp all j (List.mem_range.mpr (by omega))
  cases ez : ((List.range 95).filterMap (fun k => if k = 5 then none else some (32 + k)))[j]? with
  | none => rw [ez] at this; cases this
  | some k =>
    rw [ez] at this
    simp only [Bool.and_eq_true, decide_eq_true_eq] at this
    exact ⟨by decide, by decide +kernel, k, atI_nat ez, q k this⟩
theorem one_eq {a b : Nat} : ((⟨#[a]⟩ : Str) = ⟨#[b]⟩) ↔ a = b := by simp
theorem p__law_other {K : PySem.W.Frag} (vs : List V) (H : Hp) (Q : VK) (E : XK) (h : sp__law_other K vs H Q E) : r__law_other K (WX0 E) { nx := fun _ H' => Q .non H', rt := Q } (start ["_law_sign_here", "_law_cell", "_law_barred", "_law_other_here"] vs) H := by
  obtain ⟨-, s, c, b, rfl, q⟩ := h
  unfold r__law_other r__law_other_0
  walk_at "ev"
  refine ⟨rfl, c, rfl, fun k hk => ?_⟩
  unfold r__law_other_1
  walk_at "ev"
  simp only [one_eq]
  have q63 : Q (.str (Str.ofString "?")) H := by
    have : Str.ofString "?" = ⟨#[63]⟩ := by decide +kernel
    rw [this]; exact q 63 ⟨by decide, by decide⟩ (.inl rfl)
  split
  · unfold r__law_other_1t0
    walk_at "ev"
    exact q63
  · rename_i h1
    rw [mIn1]
    walk_at "ev"
    split
    · unfold r__law_other_1t0
      walk_at "ev"
      exact q63
    · rename_i h2
      unfold r__law_other_2
      walk_at "ev"
      exact q k hk (.inr ⟨h1, h2⟩)
theorem log_ok {n : Int} (hn : n.natAbs < 10 ^ 60) : n.natAbs.log2 < 1920 := by
  have h2 : n.natAbs < 2 ^ 1920 := Nat.lt_of_lt_of_le hn (by decide +kernel)
  by_cases hz : n.natAbs = 0
  · rw [hz]; decide
  · exact (Nat.log2_lt hz).mpr h2
theorem p__law_word {K : PySem.W.Frag} (vs : List V) (H : Hp) (Q : VK) (E : XK) (h : sp__law_word K vs H Q E) : r__law_word K (WX0 E) { nx := fun _ H' => Q .non H', rt := Q } (start ["_law_cell", "_law_kind", "_law_number"] vs) H := by
  obtain ⟨-, c, k, rfl, hk, q⟩ := h
  unfold r__law_word r__law_word_0
  walk_at "ev"
  simp only [one_r]
  split
  · rename_i h0
    subst h0
    unfold r__law_word_0t0
    walk_at "ev"
    refine ⟨by decide, fun p H1 n1 => ?_⟩
    simp only [n1.self]
    refine ⟨by decide, ?_⟩
    walk_at "ev"
    have hb := Int.emod_nonneg c (show (4 : Int) ≠ 0 by decide)
    have hb2 := Int.emod_lt_of_pos c (show (0 : Int) < 4 by decide)
    obtain ⟨j, hj⟩ := Int.eq_ofNat_of_zero_le hb
    rw [hj]
    have hj4 : j < 4 := by omega
    refine ⟨_, atI_nat (v := .str (rightsTxt.getD j "")) ?_, ?_⟩
    · match j, hj4 with
      | 0, _ => rfl
      | 1, _ => rfl
      | 2, _ => rfl
      | 3, _ => rfl
    · have := q (j : Int) H1 n1.same (by omega) (by unfold okN; rw [if_pos rfl]; omega)
      unfold lawWritten at this
      rw [if_pos rfl] at this
      exact this
  · rename_i h0
    unfold r__law_word_1
    walk_at "ev"
    refine ⟨by walk_at "sd", by walk_at "sd", by decide, ?_⟩
    have go : ∀ n : Int, 0 ≤ n → n < 10 ^ 60 → r__law_word_3 K (WX0 E) { nx := fun x H' => Q V.non H', rt := Q } [some (V.int c), some (V.str ⟨#[k]⟩), some (V.int n)] H := by
      intro n hn hn2
      have okn : okN k n := by
        unfold okN
        rw [if_neg h0]
        split <;> omega
      unfold r__law_word_3
      walk_at "ev"
      refine ⟨log_ok (by omega), ?_⟩
      have := q n H same_rfl hn okn
      unfold lawWritten at this
      rw [if_neg h0] at this
      exact this
    unfold r__law_word_2
    walk_at "ev"
    refine ⟨by decide, ?_⟩
    split
    · unfold r__law_word_2t0
      walk_at "ev"
      exact ⟨by walk_at "sd", by decide, go _ (by omega) (by omega)⟩
    · have e60 : (10 : Int) ^ (60 : Int).toNat = 10 ^ 60 := rfl
      rw [e60]
      exact go _ (by omega) (by omega)
theorem tl_take (w : Str) (j : Nat) : tl (cutS w none (some (j : Int))) = (tl w).take j := by
  unfold cutS
  rw [HT.sIx_none, HT.sIx_nat, List.drop_zero]
  show tl ⟨(List.take (min j w.length - 0) (tl w)).toArray⟩ = _
  rw [TL.tl_mk, Nat.sub_zero, TL.len_tl]
  by_cases h : j ≤ (tl w).length
  · rw [Nat.min_eq_left h]
  · rw [Nat.min_eq_right (by omega), List.take_length, List.take_of_length_le (by omega)]
theorem tl_drop (w : Str) (j : Nat) : tl (cutS w (some (j : Int)) none) = (tl w).drop j := by
  unfold cutS
  rw [HT.sIx_none, HT.sIx_nat]
  show tl ⟨(List.take (w.length - min j w.length) (List.drop (min j w.length) (tl w))).toArray⟩ = _
  rw [TL.tl_mk, TL.len_tl]
  by_cases h : j ≤ (tl w).length
  · rw [Nat.min_eq_left h, List.take_of_length_le (by rw [List.length_drop]; omega)]
  · rw [Nat.min_eq_right (by omega), List.drop_length, List.drop_of_length_le (by omega)]; simp
theorem p__law_put {K : PySem.W.Frag} (vs : List V) (H : Hp) (Q : VK) (E : XK) (h : sp__law_put K vs H Q E) : r__law_put K (WX0 E) { nx := fun _ H' => Q .non H', rt := Q } (start ["_law_word_here", "_law_at", "_law_sign_here"] vs) H := by
  obtain ⟨-, w, s, j, rfl, hj, hw, hs, q⟩ := h
  unfold r__law_put r__law_put_0
  walk_at "ev"
  have e1 : ((j : Nat) : Int) + 1 = ((j + 1 : Nat) : Int) := by omega
  have l1 : (cutS w none (some (j : Int))).length ≤ 1000 := by rw [TL.len_tl, tl_take, List.length_take, ← TL.len_tl]; omega
  have l2 : (cutS w (some ((j : Int) + 1)) none).length ≤ 1000 := by rw [e1, TL.len_tl, tl_drop, List.length_drop, ← TL.len_tl]; omega
  refine ⟨by walk_at "sd", by walk_at "sd", by walk_at "sd", by rw [len_app]; walk_at "sd", q _ ?_⟩
  rw [TL.tl_append, TL.tl_append, tl_take, e1, tl_drop, List.append_assoc]
theorem free_num {n : Nat} : 32 ∉ TL.numL n := TL.numL_free (by decide)
/-- a number's word -/
theorem num_word {k : Nat} {n : Int} (hk : k = 110 ∨ k = 118) (h0 : 0 ≤ n) (h : okN k n) : ∃ m : Nat, m < 10 ^ 60 ∧ tl (lawWritten n k) = TL.numL m ∧ (lawWritten n k).length ≤ 61 := by
  obtain ⟨m, rfl⟩ := Int.eq_ofNat_of_zero_le h0
  refine ⟨m, ?_, ?_, written_len h⟩
  · unfold okN at h
    rcases hk with rfl | rfl
    · rw [if_neg (by decide), if_neg (by decide)] at h; omega
    · rw [if_neg (by decide), if_pos rfl] at h; omega
  · unfold lawWritten
    rw [if_neg (by rcases hk with rfl | rfl <;> decide), TL.tl_num]
theorem numOk_zero {l : List Nat} (h : 1 ≤ l.length) : numOk (48 :: l) = false := numOk_no fun z => z.2.2.2 ⟨by rw [List.length_cons]; omega, rfl⟩
theorem head_numL {n : Nat} {l : List Nat} : (TL.numL n ++ l).head? ≠ some 45 := by
  cases e : TL.numL n with
  | nil => exact absurd e (TL.numL_ne n)
  | cons a r =>
    intro z
    have : a = 45 := by simpa using z
    have h2 := numL_isD (n := n) (c := a) (by rw [e]; exact List.mem_cons_self ..)
    rw [this] at h2; exact absurd h2 (by decide)
/-- the spoilt words of a number, case by case -/
theorem spo6 {k : Nat} (hk : k = 110 ∨ k = 118) {m : Nat} {W T : Str} (hW : tl W = TL.numL m) (hl : W.length ≤ 61) (hT : tl T = 48 :: tl W) : Spoilt k T := by
  have h1 : 1 ≤ (TL.numL m).length := by
    cases e : TL.numL m with
    | nil => exact absurd e (TL.numL_ne m)
    | cons => simp
  refine sp_num (by rw [TL.len_tl, hT, List.length_cons, ← TL.len_tl]; omega) (by rw [hT, hW, List.mem_cons, not_or]; exact ⟨by decide, free_num⟩) (part_bad hk (by rw [hT, hW]; exact numOk_zero h1) (fun z => by rw [hT] at z; revert z; simp))
theorem spo7 {k c : Nat} (hk : k = 110 ∨ k = 118) {m : Nat} {W T : Str} (hW : tl W = TL.numL m) (hl : W.length ≤ 61) (hc : c = 43 ∨ (c = 45 ∧ k = 110)) (hT : tl T = c :: tl W) : Spoilt k T := by
  refine sp_num (by rw [TL.len_tl, hT, List.length_cons, ← TL.len_tl]; omega) (by rw [hT, hW, List.mem_cons, not_or]; exact ⟨by rcases hc with rfl | ⟨rfl, -⟩ <;> decide, free_num⟩) (part_bad hk (numOk_sign (c := c) (by rw [hT]; exact List.mem_cons_self ..) (by rcases hc with rfl | ⟨rfl, -⟩ <;> decide)) (fun z hv => ?_))
  rw [hT] at z
  have : c = 45 := by simpa using z
  rcases hc with rfl | ⟨-, h⟩
  · cases this
  · omega
theorem spo7v {m : Nat} {W T : Str} (hW : tl W = TL.numL m) (hl : W.length ≤ 61) (hT : tl T = [45, 48] ∨ tl T = 45 :: 45 :: tl W ∨ tl T = 45 :: 48 :: tl W) : Spoilt 118 T := by
  have h1 : 1 ≤ (TL.numL m).length := by
    cases e : TL.numL m with
    | nil => exact absurd e (TL.numL_ne m)
    | cons => simp
  have hwl : (tl W).length ≤ 61 := by rw [← TL.len_tl]; exact hl
  refine sp_num ?_ ?_ (part_bad (.inr rfl) (numOk_sign (c := 45) (by rcases hT with h | h | h <;> rw [h] <;> exact List.mem_cons_self ..) (by decide)) (fun z _ => ?_))
  · rw [TL.len_tl]
    rcases hT with h | h | h <;> rw [h] <;> simp only [List.length_cons, List.length_nil] <;> omega
  · rcases hT with h | h | h <;> rw [h] <;> simp only [List.mem_cons, not_or, List.not_mem_nil, not_false_eq_true, and_true] <;> (try rw [hW]) <;> (first | exact ⟨by decide, by decide⟩ | exact ⟨by decide, by decide, free_num⟩)
  · rcases hT with h | h | h
    · rw [h]; right; decide +kernel
    · rw [h]; left; exact numOk_sign (c := 45) (List.mem_cons_self ..) (by decide)
    · rw [h]; left; rw [hW]; exact numOk_zero h1
theorem spo8 {k : Nat} (hk : k = 110 ∨ k = 118) {T : Str} (hl : (tl T).length = 61) (hT : ∀ c ∈ tl T, isD c = true) : Spoilt k T := by
  refine sp_num (by rw [TL.len_tl]; omega) (fun z => by have := hT 32 z; revert this; decide) (part_bad hk (numOk_no fun z => by have := z.2.1; omega) (fun z _ => ?_))
  cases e : tl T with
  | nil => rw [e] at hl; simp at hl
  | cons a r =>
    rw [e] at z
    have : a = 45 := by simpa using z
    have h2 := hT a (by rw [e]; exact List.mem_cons_self ..)
    rw [this] at h2; exact absurd h2 (by decide)
/-- one sign of a word is another one -/
theorem spo9 {k j c : Nat} (hk : k = 110 ∨ k = 118) {m : Nat} {W T : Str} (hW : tl W = TL.numL m) (hl : W.length ≤ 61) (hj : j < (tl W).length) (hs : isSign c) (hc : c = 63 ∨ (isD c = false ∧ c ≠ 45)) (hT : tl T = (tl W).take j ++ (c :: (tl W).drop (j + 1))) : Spoilt k T := by
  have hlen : T.length ≤ 200 := by rw [TL.len_tl, hT, List.length_append, List.length_cons, List.length_take, List.length_drop, ← TL.len_tl]; omega
  refine ⟨hlen, ?_⟩
  by_cases h32 : c = 32
  · subst h32
    exact .inr ⟨_, _, hT, fun z => free_num (n := m) (by rw [← hW]; exact List.mem_of_mem_take z), fun z => free_num (n := m) (by rw [← hW]; exact List.mem_of_mem_drop z)⟩
  · have hcd : isD c = false := by
      rcases hc with rfl | h
      · decide
      · exact h.1
    refine .inl ⟨fun z => ?_, part_bad hk (numOk_sign (c := c) (by rw [hT]; simp) hcd) (fun z _ => ?_)⟩
    · rw [hT] at z
      rcases List.mem_append.mp z with z | z
      · exact free_num (n := m) (by rw [← hW]; exact List.mem_of_mem_take z)
      · rcases List.mem_cons.mp z with z | z
        · exact h32 z.symm
        · exact free_num (n := m) (by rw [← hW]; exact List.mem_of_mem_drop z)
    · rw [hT] at z
      cases j with
      | zero =>
        have : c = 45 := by simpa using z
        rcases hc with h | h
        · omega
        · exact absurd this h.2
      | succ i =>
        cases e : tl W with
        | nil => rw [e] at hj; simp at hj
        | cons a r =>
          rw [e] at z
          have : a = 45 := by simpa using z
          have h2 := numL_isD (n := m) (c := a) (by rw [← hW, e]; exact List.mem_cons_self ..)
          rw [this] at h2; exact absurd h2 (by decide)
end K97

set_option Elab.async false
set_option linter.all false
set_option maxRecDepth 100000
set_option maxHeartbeats 4000000
namespace K97
open PySem PySem.Spec PyProof.Rows L2 MM
open TL (tl)
local macro_rules | `(tactic| walk_at "ev") => `(tactic| try simp only [tSeq, wipe, tYes, tFor_Lp, tLc_Lc, iRng1, iRng2, iRng3, iStr, iZipS, iRev, iEnum, iList, iTup, List.cons.injEq, decide_true, decide_false, not_true_eq_false, not_false_eq_true, not_dec, not_b, isA_tt, isA_ss, isA_ii, isA_bb, isA_ll, isA_bi, isA_dd, isA_ib, isA_is, isA_it, isA_il, isA_si, isA_sb, isA_ti, isA_tb, isA_ts, isA_tl, isA_li, isA_lb, isA_ls, isA_lt, isA_ni, isA_nb, isA_ns, isA_nl, isA_nt, isA_bs, isA_bl, isA_bt, isA_st, isA_sl, tAsg, gName, tVar, tC, tOp, tUn, tIf, tTest, tB, tAnd, tOr, tNot, tAndV, tOrV, tNotV, tChain, tRet, tRetN, tDrop, tIfS, tNext, tCont, tBreak, tCons, tNil, tCB, mTup, mLst, mDictK, mDictT, tSl, tPart, tNoPart, oI, oIc, oEq, oNe, oIsN, oNotN, uNeg, oRep, mAdd, mIx, mLen, mIsi, tyN, mInt, mMin, mMax, mAbs, mStr, mSl, mTupOf, mListOf, mSplit, mStarts, mBM, tyM, mCall, mMeth, mMeth2, mMake, mFld, mSetF, mRaise, mTabIx, mInTab, gTupM, gCons, gNil, gSub, mSet, scal, MM.keyOf, MM.keysOf, mAppend, mExtend, mPopL, mPop, mGet, mSetd, kvPop, kvLook, seqAt, L2.start, List.map_cons, List.map_nil, List.length_cons, List.length_nil, List.replicate, List.append_nil, List.nil_append, List.cons_append, List.getElem?_cons_zero, List.getElem?_cons_succ, List.getElem?_nil, List.set_cons_zero, List.set_cons_succ, Option.some.injEq, exists_eq_left, exists_eq_left', exists_eq', exists_and_left, and_assoc, and_true, true_and, if_true, if_false, ite_true, ite_false, decide_eq_true_eq, decide_eq_false_iff_not, Bool.not_true, Bool.not_false, Bool.not_eq_true, Bool.false_eq_true, eq_self, reduceCtorEq, and_false, false_and, V.int.injEq, V.str.injEq, V.bl.injEq, V.ref.injEq, V.ty.injEq, HO.lst.injEq, HO.tup.injEq, HO.ins.injEq, Nat.reduceAdd, Nat.reduceSub, Nat.zero_add, Nat.reduceLeDiff, Int.toNat_natCast, upd_same])
local macro_rules | `(tactic| walk_at "ev2") => `(tactic| try simp only [↓tSeq.eq_1, ↓wipe.eq_1, ↓tYes.eq_1, ↓tFor_Lp, ↓tLc_Lc, ↓iRng1.eq_1, ↓iRng2.eq_1, ↓iRng3.eq_1, ↓iStr.eq_1, ↓iZipS.eq_1, ↓iRev.eq_1, ↓iEnum.eq_1, ↓iList.eq_1, ↓iTup.eq_1, List.cons.injEq, decide_true, decide_false, not_true_eq_false, not_false_eq_true, not_dec, not_b, isA_tt, isA_ss, isA_ii, isA_bb, isA_ll, isA_bi, isA_dd, isA_ib, isA_is, isA_it, isA_il, isA_si, isA_sb, isA_ti, isA_tb, isA_ts, isA_tl, isA_li, isA_lb, isA_ls, isA_lt, isA_ni, isA_nb, isA_ns, isA_nl, isA_nt, isA_bs, isA_bl, isA_bt, isA_st, isA_sl, ↓tAsg.eq_1, ↓gName.eq_1, ↓tVar.eq_1, ↓tC.eq_1, ↓tOp.eq_1, ↓tUn.eq_1, ↓tIf.eq_1, ↓tTest.eq_1, ↓tB.eq_1, ↓tAnd.eq_1, ↓tOr.eq_1, ↓tNot.eq_1, ↓tAndV.eq_1, ↓tOrV.eq_1, ↓tNotV.eq_1, ↓tChain.eq_1, ↓tRet.eq_1, ↓tRetN.eq_1, ↓tDrop.eq_1, ↓tIfS.eq_1, ↓tNext.eq_1, ↓tCont.eq_1, ↓tBreak.eq_1, ↓tCons.eq_1, ↓tNil.eq_1, ↓tCB.eq_1, ↓mTup.eq_1, ↓mLst.eq_1, ↓mDictK.eq_1, ↓mDictT.eq_1, ↓tSl.eq_1, ↓tPart.eq_1, ↓tNoPart.eq_1, ↓oI.eq_1, ↓oIc.eq_1, ↓oEq.eq_1, ↓oNe.eq_1, ↓oIsN.eq_1, ↓oNotN.eq_1, ↓uNeg.eq_1, ↓oRep.eq_1, ↓mAdd.eq_1, ↓mIx.eq_1, ↓mLen.eq_1, ↓mIsi.eq_1, tyN, ↓mInt.eq_1, ↓mMin.eq_1, ↓mMax.eq_1, ↓mAbs.eq_1, ↓mStr.eq_1, ↓mSl.eq_1, ↓mTupOf.eq_1, ↓mListOf.eq_1, ↓mSplit.eq_1, ↓mStarts.eq_1, ↓mBM.eq_1, tyM, ↓mCall.eq_1, ↓mMeth.eq_1, ↓mMeth2.eq_1, ↓mMake.eq_1, ↓mFld.eq_1, ↓mSetF.eq_1, ↓mRaise.eq_1, ↓mTabIx.eq_1, ↓mInTab.eq_1, ↓gTupM.eq_1, ↓gCons.eq_1, ↓gNil.eq_1, ↓gSub.eq_1, ↓mSet.eq_1, scal, MM.keyOf, MM.keysOf, ↓mAppend.eq_1, ↓mExtend.eq_1, ↓mPopL.eq_1, ↓mPop.eq_1, ↓mGet.eq_1, ↓mSetd.eq_1, kvPop, kvLook, seqAt, L2.start, List.map_cons, List.map_nil, List.length_cons, List.length_nil, List.replicate, List.append_nil, List.nil_append, List.cons_append, List.getElem?_cons_zero, List.getElem?_cons_succ, List.getElem?_nil, List.set_cons_zero, List.set_cons_succ, Option.some.injEq, exists_eq_left, exists_eq_left', exists_eq', exists_and_left, and_assoc, and_true, true_and, if_true, if_false, ite_true, ite_false, decide_eq_true_eq, decide_eq_false_iff_not, Bool.not_true, Bool.not_false, Bool.not_eq_true, Bool.false_eq_true, eq_self, reduceCtorEq, and_false, false_and, V.int.injEq, V.str.injEq, V.bl.injEq, V.ref.injEq, V.ty.injEq, HO.lst.injEq, HO.tup.injEq, HO.ins.injEq, Nat.reduceAdd, Nat.reduceSub, Nat.zero_add, Nat.reduceLeDiff, Int.toNat_natCast, upd_same])
local macro_rules | `(tactic| walk_at "sd") => `(tactic| first | omega | exact lo62 (by omega) | exact hi62 (by omega) | exact sz_le (by omega) | exact sz_lt (by omega) | exact lo63 (by omega) | exact hi63 (by omega) | decide | exact ⟨by decide, by decide⟩ | exact ⟨by decide, by decide, by decide⟩ | exact Or.inl ⟨by omega, by omega⟩ | exact Or.inr ⟨by omega, by omega⟩)
theorem rep_len (l : List Nat) (n : Nat) : ((List.replicate n l).flatten).length = n * l.length := by
  rw [List.length_flatten, List.map_replicate, List.sum_replicate_nat]
theorem at_mod {α : Type} {L : List α} {c : Int} (n : Nat) (hn : L.length = n) (h : 0 < n) : ∃ v, atI L (c % (n : Int)) = some v ∧ v ∈ L := by
  have hb := Int.emod_nonneg c (show (n : Int) ≠ 0 by omega)
  have hb2 := Int.emod_lt_of_pos c (show (0 : Int) < n by omega)
  obtain ⟨j, hj⟩ := Int.eq_ofNat_of_zero_le hb
  have hjn : j < L.length := by omega
  rw [hj]
  exact ⟨L[j], atI_nat (List.getElem?_eq_getElem hjn), List.getElem_mem hjn⟩
theorem at_modS {L : List Str} {c : Int} (n : Nat) (hn : L.length = n) (h : 0 < n) : ∃ T, atI (L.map V.str) (c % (n : Int)) = some (.str T) ∧ T ∈ L := by
  obtain ⟨v, h1, h2⟩ := at_mod (L := L.map V.str) (c := c) n (by rw [List.length_map]; exact hn) h
  obtain ⟨T, hT, rfl⟩ := List.mem_map.mp h2
  exact ⟨T, h1, hT⟩
theorem p__law_number_spoilt {K : PySem.W.Frag} (vs : List V) (H : Hp) (Q : VK) (E : XK) (h : sp__law_number_spoilt K vs H Q E) : r__law_number_spoilt K (WX0 E) { nx := fun _ H' => Q .non H', rt := Q } (start ["_law_word_here", "_law_kind", "_law_way", "_law_cell", "_law_at"] vs) H := by
  obtain ⟨-, n, way, c, k, rfl, h6, h9, hk, h0, hok, q⟩ := h
  obtain ⟨m, hm, hW, hWl⟩ := num_word hk h0 hok
  generalize lawWritten n k = W at *
  have h1m : 1 ≤ (TL.numL m).length := by
    cases e : TL.numL m with
    | nil => exact absurd e (TL.numL_ne m)
    | cons => simp
  unfold r__law_number_spoilt r__law_number_spoilt_0
  walk_at "ev"
  split
  · unfold r__law_number_spoilt_0t0
    walk_at "ev"
    exact ⟨by rw [show (Str.ofString "0").length = 1 from by decide +kernel]; walk_at "sd", q _ H same_rfl (spo6 hk hW hWl (by rw [TL.tl_append]; rfl))⟩
  · unfold r__law_number_spoilt_1
    walk_at "ev"
    simp only [one_v]
    have way8 : ∀ (hw : way ≠ 6) (hw : way ≠ 7), r__law_number_spoilt_3 K (WX0 E) { nx := fun x H' => Q V.non H', rt := Q } [some (V.str W), some (V.str { cps := #[k] }), some (V.int way), some (V.int c), none] H := by
      intro hw6 hw7
      unfold r__law_number_spoilt_3
      walk_at "ev"
      split
      · unfold r__law_number_spoilt_3t0
        walk_at "ev"
        have hb := Int.emod_nonneg c (show (9 : Int) ≠ 0 by decide)
        have hb2 := Int.emod_lt_of_pos c (show (0 : Int) < 9 by decide)
        obtain ⟨j, hj⟩ := Int.eq_ofNat_of_zero_le hb
        have e1 : (1 : Int) + c % 9 = ((1 + j : Nat) : Int) := by omega
        have hd : tl (Str.ofString (toString ((1 : Int) + c % 9))) = [48 + (1 + j)] := by rw [e1, TL.tl_num, TL.numL_lt (by omega)]
        have hr : tl (cutS (repS W (60 : Int).toNat) none (some 60)) = ((List.replicate 60 (tl W)).flatten).take 60 := by
          rw [show (some (60 : Int)) = some ((60 : Nat) : Int) from rfl, tl_take, tl_repS]; rfl
        have hl1 : (Str.ofString (toString ((1 : Int) + c % 9))).length = 1 := by rw [TL.len_tl, hd]; rfl
        have hfl : 60 ≤ ((List.replicate 60 (tl W)).flatten).length := by
          rw [rep_len, hW]; omega
        have hl2 : (cutS (repS W (60 : Int).toNat) none (some 60)).length = 60 := by rw [TL.len_tl, hr, List.length_take]; omega
        have hWn : W.length = (TL.numL m).length := by rw [TL.len_tl, hW]
        refine ⟨by decide, ?_, by decide, by decide, by omega, by omega, ?_, ?_, q _ H same_rfl (spo8 hk ?_ ?_)⟩
        · exact log_ok (by omega)
        · rw [TL.len_tl, tl_repS]
          rw [rep_len, ← TL.len_tl, show (60 : Int).toNat = 60 from rfl]; exact sz_le (by omega)
        · rw [hl1, hl2]; walk_at "sd"
        · rw [TL.tl_append, List.length_append, hd, hr, List.length_take, List.length_singleton]; omega
        · intro x hx
          rw [TL.tl_append, hd, hr] at hx
          rcases List.mem_append.mp hx with hx | hx
          · rw [List.mem_singleton] at hx
            subst hx
            unfold isD
            simp only [Bool.and_eq_true, decide_eq_true_eq]; omega
          · have hx2 := List.mem_of_mem_take hx
            obtain ⟨l, hl, hx3⟩ := List.mem_flatten.mp hx2
            rw [(List.mem_replicate.mp hl).2, hW] at hx3
            exact numL_isD hx3
      · rename_i hw8
        unfold r__law_number_spoilt_4
        walk_at "ev"
        have hWn : W.length = (tl W).length := TL.len_tl W
        have hl0 : 0 < W.length := by rw [hWn, hW]; omega
        have hb := Int.emod_nonneg c (show (W.length : Int) ≠ 0 by omega)
        have hb2 := Int.emod_lt_of_pos c (show (0 : Int) < W.length by omega)
        obtain ⟨j, hj⟩ := Int.eq_ofNat_of_zero_le hb
        refine ⟨by walk_at "sd", by omega, ?_⟩
        rw [hj]
        unfold r__law_number_spoilt_5
        walk_at "ev"
        have hjl : j < (tl W).length := by omega
        refine ⟨by walk_at "sd", _, atI_nat (List.getElem?_eq_getElem hjl), by walk_at "sd", rfl, _, c / 60, _, rfl, fun x hs hx => ?_⟩
        refine ⟨rfl, W, ⟨#[x]⟩, j, rfl, by omega, by omega, by show 1 ≤ 1000; decide, fun T hT => q T H same_rfl (spo9 hk hW hWl hjl hs ?_ hT)⟩
        rcases hx with hx | ⟨-, hx⟩
        · exact .inl hx
        · refine .inr ?_
          have e : tl (Str.ofString "-0123456789") = [45, 48, 49, 50, 51, 52, 53, 54, 55, 56, 57] := by decide +kernel
          rw [e] at hx
          simp only [List.mem_cons, List.not_mem_nil, or_false, not_or] at hx
          refine ⟨?_, hx.1⟩
          unfold isD
          rw [Bool.and_eq_false_iff, decide_eq_false_iff_not, decide_eq_false_iff_not]; omega
    have two : ∀ (hw6 : way ≠ 6), (way = 7 → k = 110) → r__law_number_spoilt_2 K (WX0 E) { nx := fun x H' => Q V.non H', rt := Q } [some (V.str W), some (V.str { cps := #[k] }), some (V.int way), some (V.int c), none] H := by
      intro hw6 h7k
      unfold r__law_number_spoilt_2
      walk_at "ev"
      split
      · rename_i h7
        have hk110 := h7k h7
        unfold r__law_number_spoilt_2t0
        walk_at "ev"
        refine ⟨by decide, fun p H1 n1 => ?_⟩
        simp only [n1.self]
        refine ⟨by decide, ?_⟩
        obtain ⟨T, hT, hm2⟩ := at_modS (L := [Str.ofString "+", Str.ofString "-"]) (c := c) 2 rfl (by decide)
        refine ⟨_, hT, ?_⟩
        have hcases : tl T = [43] ∨ tl T = [45] := by
          rcases List.mem_cons.mp hm2 with rfl | hm2
          · left; decide +kernel
          · rw [List.mem_singleton] at hm2; subst hm2; right; decide +kernel
        have hTl : T.length = 1 := by rw [TL.len_tl]; rcases hcases with e | e <;> rw [e] <;> rfl
        walk_at "ev"
        refine ⟨by rw [hTl]; walk_at "sd", ?_⟩
        rcases hcases with e | e
        · exact q _ H1 n1.same (spo7 (c := 43) hk hW hWl (.inl rfl) (by rw [TL.tl_append, e]; rfl))
        · exact q _ H1 n1.same (spo7 (c := 45) hk hW hWl (.inr ⟨rfl, hk110⟩) (by rw [TL.tl_append, e]; rfl))
      · rename_i h7
        exact way8 hw6 h7
    rename_i hw6
    split
    · rename_i h7
      split
      · rename_i hv
        have sk : ∀ T, Spoilt 118 T → Spoilt k T := fun T z => by rw [hv]; exact z
        unfold r__law_number_spoilt_1t0
        walk_at "ev2"
        have l1 : (Str.ofString "+").length = 1 := by decide +kernel
        have l2 : (Str.ofString "--").length = 2 := by decide +kernel
        have l3 : (Str.ofString "-0").length = 2 := by decide +kernel
        refine And.intro (by rw [l1]; walk_at "sd") (And.intro (by rw [l2]; walk_at "sd") (And.intro (by rw [l3]; walk_at "sd") ⟨by decide, fun p H1 n1 => ⟨by decide, ?_⟩⟩))
        walk_at "ev"
        simp only [n1.self]
        obtain ⟨T, hT, hm2⟩ := at_modS (L := [Str.ofString "+" ++ W, Str.ofString "-0", Str.ofString "--" ++ W, Str.ofString "-0" ++ W]) (c := c) 4 rfl (by decide)
        refine ⟨_, hT, ?_⟩
        rcases List.mem_cons.mp hm2 with rfl | hm2
        · exact q _ H1 n1.same (spo7 (c := 43) hk hW hWl (.inl rfl) (by rw [TL.tl_append, show tl (Str.ofString "+") = [43] from by decide +kernel]; rfl))
        · refine q _ H1 n1.same (sk _ (spo7v hW hWl ?_))
          rcases List.mem_cons.mp hm2 with rfl | hm2
          · left; decide +kernel
          · rcases List.mem_cons.mp hm2 with rfl | hm2
            · right; left; rw [TL.tl_append, show tl (Str.ofString "--") = [45, 45] from by decide +kernel]; rfl
            · rw [List.mem_singleton] at hm2; subst hm2
              right; right; rw [TL.tl_append, show tl (Str.ofString "-0") = [45, 48] from by decide +kernel]; rfl
      · rename_i hv
        exact two hw6 (fun _ => by rcases hk with h | h; exact h; exact absurd h hv)
    · rename_i h7
      exact two hw6 (fun z => absurd z h7)
theorem p__law_rights_spoilt {K : PySem.W.Frag} (vs : List V) (H : Hp) (Q : VK) (E : XK) (h : sp__law_rights_spoilt K vs H Q E) : r__law_rights_spoilt K (WX0 E) { nx := fun _ H' => Q .non H', rt := Q } (start ["_law_word_here", "_law_cell", "_law_at", "_law_menu"] vs) H := by
  obtain ⟨-, n, c, rfl, hok, q⟩ := h
  unfold r__law_rights_spoilt r__law_rights_spoilt_0
  walk_at "ev"
  refine ⟨by decide, ?_⟩
  unfold r__law_rights_spoilt_1
  walk_at "ev"
  refine ⟨by decide, fun p H1 n1 => ?_⟩
  unfold r__law_rights_spoilt_2
  walk_at "ev"
  refine ⟨by walk_at "sd", by decide, ?_⟩
  split
  · unfold r__law_rights_spoilt_2t0
    walk_at "ev"
    simp only [n1.self]
    obtain ⟨T, hT, hm2⟩ := at_modS (L := [Str.ofString "wr", Str.ofString "r", Str.ofString "w", Str.ofString "rwx", Str.ofString "RW", Str.ofString "w-", Str.ofString "-r", Str.ofString "rr", Str.ofString "ww", Str.ofString "-", Str.ofString "---", Str.ofString "3"]) (c := c / 6) 12 rfl (by decide)
    refine ⟨by walk_at "sd", by decide, _, hT, q T H1 n1.same ?_⟩
    have all : ([Str.ofString "wr", Str.ofString "r", Str.ofString "w", Str.ofString "rwx", Str.ofString "RW", Str.ofString "w-", Str.ofString "-r", Str.ofString "rr", Str.ofString "ww", Str.ofString "-", Str.ofString "---", Str.ofString "3"].all fun T => decide (T.length ≤ 200) && (!(tl T).contains 32 && decide (rdPart 114 T = none))) = true := by decide +kernel
    have := List.all_eq_true.mp all T hm2
    simp only [Bool.and_eq_true, decide_eq_true_eq, Bool.not_eq_true'] at this
    exact sp_num this.1 (fun z => by rw [List.contains_iff_mem.mpr z] at this; cases this.2.1) this.2.2
  · unfold r__law_rights_spoilt_3
    walk_at "ev"
    unfold okN at hok
    rw [if_pos rfl] at hok
    obtain ⟨i, rfl⟩ := Int.eq_ofNat_of_zero_le hok.1
    have hi4 : i < 4 := by omega
    have hw : ∃ a b, tl (lawWritten (i : Int) 114) = [a, b] ∧ (a = 114 ∨ a = 45) ∧ (b = 119 ∨ b = 45) := by
      match i, hi4 with
      | 0, _ => exact ⟨45, 45, by decide +kernel, .inr rfl, .inr rfl⟩
      | 1, _ => exact ⟨114, 45, by decide +kernel, .inl rfl, .inr rfl⟩
      | 2, _ => exact ⟨45, 119, by decide +kernel, .inr rfl, .inl rfl⟩
      | 3, _ => exact ⟨114, 119, by decide +kernel, .inl rfl, .inl rfl⟩
    obtain ⟨a, b, hab, ha, hb⟩ := hw
    generalize lawWritten (i : Int) 114 = W at *
    have hWl : W.length = 2 := by rw [TL.len_tl, hab]; rfl
    have hj : c % 2 = 0 ∨ c % 2 = 1 := by omega
    have er : tl (Str.ofString "r-") = [114, 45] := by decide +kernel
    have ew : tl (Str.ofString "w-") = [119, 45] := by decide +kernel
    have fin : ∀ (j x : Nat) (T : Str) (H2 : Hp), Same H H2 → j < 2 → isSign x → (x = 63 ∨ (j = 0 ∧ x ≠ 114 ∧ x ≠ 45) ∨ (j = 1 ∧ x ≠ 119 ∧ x ≠ 45)) → tl T = (tl W).take j ++ (x :: (tl W).drop (j + 1)) → Q (.str T) H2 := by
      intro j x T H2 s2 hj2 hs hx hT
      refine q T H2 s2 ?_
      rw [hab] at hT
      have h2 : tl T = [x, b] ∧ j = 0 ∨ tl T = [a, x] ∧ j = 1 := by
        match j, hj2 with
        | 0, _ => exact .inl ⟨hT, rfl⟩
        | 1, _ => exact .inr ⟨hT, rfl⟩
      refine ⟨by rw [TL.len_tl]; rcases h2 with ⟨e, -⟩ | ⟨e, -⟩ <;> rw [e] <;> exact (show 2 ≤ 200 by decide), ?_⟩
      by_cases h32 : x = 32
      · subst h32
        right
        rcases h2 with ⟨e, -⟩ | ⟨e, -⟩
        · exact ⟨[], [b], e, by simp, by simp only [List.mem_singleton]; omega⟩
        · exact ⟨[a], [], e, by simp only [List.mem_singleton]; omega, by simp⟩
      · left
        refine ⟨?_, ?_⟩
        · rcases h2 with ⟨e, -⟩ | ⟨e, -⟩ <;> rw [e] <;> simp only [List.mem_cons, List.not_mem_nil, or_false] <;> omega
        · unfold rdPart rdRights
          rw [if_neg (by decide), if_neg (by decide)]
          rcases h2 with ⟨e, hj0⟩ | ⟨e, hj0⟩
          · rw [e]; simp only []; rw [if_neg (by omega)]
          · rw [e]; simp only []; rw [if_neg (by omega)]
    rcases hj with hj | hj
    · rw [hj]
      refine ⟨by walk_at "sd", a, (show atI (tl W) ((0 : Nat) : Int) = some a from by rw [hab]; exact atI_nat rfl), by walk_at "sd", by decide, fun p2 H2 n2 => ?_⟩
      simp only [n2.self]
      refine ⟨_, atI_nat (j := 0) rfl, rfl, a, c / 6, _, rfl, fun x hs hx => ?_⟩
      refine ⟨rfl, W, ⟨#[x]⟩, 0, rfl, by omega, by omega, by show 1 ≤ 1000; decide, fun T hT => fin 0 x T H2 (same_trans n1.same n2.same) (by decide) hs ?_ hT⟩
      rcases hx with hx | ⟨-, hx⟩
      · exact .inl hx
      · rw [er] at hx
        simp only [List.mem_cons, List.not_mem_nil, or_false, not_or] at hx
        exact .inr (.inl ⟨rfl, hx⟩)
    · rw [hj]
      refine ⟨by walk_at "sd", b, (show atI (tl W) ((1 : Nat) : Int) = some b from by rw [hab]; exact atI_nat rfl), by walk_at "sd", by decide, fun p2 H2 n2 => ?_⟩
      simp only [n2.self]
      refine ⟨_, atI_nat (j := 1) rfl, rfl, b, c / 6, _, rfl, fun x hs hx => ?_⟩
      refine ⟨rfl, W, ⟨#[x]⟩, 1, rfl, by omega, by omega, by show 1 ≤ 1000; decide, fun T hT => fin 1 x T H2 (same_trans n1.same n2.same) (by decide) hs ?_ hT⟩
      rcases hx with hx | ⟨-, hx⟩
      · exact .inl hx
      · rw [ew] at hx
        simp only [List.mem_cons, List.not_mem_nil, or_false, not_or] at hx
        exact .inr (.inr ⟨rfl, hx⟩)
theorem p__law_odd {K : PySem.W.Frag} (vs : List V) (H : Hp) (Q : VK) (E : XK) (h : sp__law_odd K vs H Q E) : r__law_odd K (WX0 E) { nx := fun _ H' => Q .non H', rt := Q } (start ["_law_cell", "_law_odd_here"] vs) H := by
  obtain ⟨-, c, rfl, q⟩ := h
  unfold r__law_odd r__law_odd_0
  walk_at "ev"
  refine ⟨by decide, fun p H1 n1 => ?_⟩
  unfold r__law_odd_1
  walk_at "ev"
  refine ⟨by decide, fun p2 H2 n2 => ?_⟩
  simp only [n2.self, n2.same _ _ n1.self]
  refine ⟨by decide, fun p3 H3 n3 => ?_⟩
  unfold r__law_odd_2
  walk_at "ev"
  refine ⟨by decide, fun p4 H4 n4 => ?_⟩
  simp only [n4.self, n4.same _ _ n3.self]
  refine ⟨by decide, fun p5 H5 n5 => ?_⟩
  unfold r__law_odd_3
  walk_at "ev"
  simp only [n5.self]
  obtain ⟨T, hT, hm2⟩ := at_modS (L := [Str.ofString "", Str.ofString " ", Str.ofString "NEW", Str.ofString "New", Str.ofString "new 0", Str.ofString "news", Str.ofString "fork", Str.ofString "fork 1 2", Str.ofString "lay 0 0 1", Str.ofString "lay 0 0 1 rw 0", Str.ofString "fold 0", Str.ofString "write 0 0 -0", Str.ofString "write 0 7 -00", Str.ofString "write 0 0 --1", Str.ofString "lay 0 0 1 rw 0 0 0", Str.ofString "live ", Str.ofString "write 0 0", Str.ofString "read 0", Str.ofString "laid", Str.ofString "hold", Str.ofString "read 0,0", Str.ofString "see  0 0"]) (c := c) 22 rfl (by decide)
  have sH : Same H H5 := same_trans n1.same (same_trans n2.same (same_trans n3.same (same_trans n4.same n5.same)))
  refine ⟨by decide, _, hT, q T H5 sH ?_⟩
  have all : ([Str.ofString "", Str.ofString " ", Str.ofString "NEW", Str.ofString "New", Str.ofString "new 0", Str.ofString "news", Str.ofString "fork", Str.ofString "fork 1 2", Str.ofString "lay 0 0 1", Str.ofString "lay 0 0 1 rw 0", Str.ofString "fold 0", Str.ofString "write 0 0 -0", Str.ofString "write 0 7 -00", Str.ofString "write 0 0 --1", Str.ofString "lay 0 0 1 rw 0 0 0", Str.ofString "live ", Str.ofString "write 0 0", Str.ofString "read 0", Str.ofString "laid", Str.ofString "hold", Str.ofString "read 0,0", Str.ofString "see  0 0"].all fun T => decide (T.length ≤ 2000) && decide (rdRow T = none)) = true := by decide +kernel
  have := List.all_eq_true.mp all T hm2
  simp only [Bool.and_eq_true, decide_eq_true_eq] at this
  exact this
theorem p__law_refused {K : PySem.W.Frag} (vs : List V) (H : Hp) (Q : VK) (E : XK) (h : sp__law_refused K vs H Q E) : r__law_refused K (WX0 E) { nx := fun _ H' => Q .non H', rt := Q } (start ["_law_row", "e"] vs) H := by
  obtain ⟨-, T, rfl, hb, q⟩ := h
  unfold r__law_refused r__law_refused_0
  walk_at "ev"
  unfold r__law_refused_0y0
  walk_at "ev"
  refine ⟨rfl, T, rfl, by have := hb.1; omega, ?_⟩
  rw [hb.2]
  intro H1 s1
  refine ⟨Str.ofString "NoRow", by decide +kernel, by decide +kernel, rfl, rfl, ?_⟩
  rw [if_pos (by decide +kernel)]
  intro a ha
  unfold r__law_refused_0x0
  walk_at "ev"
  refine ⟨by decide, fun p H2 n2 => ?_⟩
  refine ⟨_, rfl, by decide +kernel, .inr (.inl ⟨p, ["NoShape", "OutOfRoom", "BadRights", "NoTask", "NoBank", "OutOfBank", "Taken"], rfl, n2.self, by decide +kernel, ?_⟩)⟩
  refine ⟨_, rfl, ?_⟩
  rw [if_neg (by decide +kernel)]
  unfold r__law_refused_0x1
  walk_at "ev"
  refine ⟨by decide, fun p3 H3 n3 => ?_⟩
  refine ⟨_, rfl, by decide +kernel, .inr (.inl ⟨p3, ["NotMapped", "NoRight", "NoRoom", "Busy"], rfl, n3.self, by decide +kernel, ?_⟩)⟩
  refine ⟨_, rfl, ?_⟩
  rw [if_neg (by decide +kernel)]
  unfold r__law_refused_0x2
  walk_at "ev"
  refine ⟨_, rfl, by decide +kernel, .inl ⟨"NoRow", rfl, by decide +kernel, ?_⟩⟩
  rw [show isX (Str.ofString "NoRow") (Str.ofString "NoRow") = true from by decide +kernel]
  walk_at "ev"
  exact ⟨_, rfl, by decide +kernel, .inr (.inr ⟨rfl, q _ (same_trans s1 (same_trans n2.same n3.same))⟩)⟩
end K97

set_option Elab.async false
set_option linter.all false
set_option maxRecDepth 100000
set_option maxHeartbeats 4000000
namespace K97
open PySem PySem.Spec PyProof.Rows L2 MM
open TL (tl)
local macro_rules | `(tactic| walk_at "ev") => `(tactic| try simp only [tSeq, wipe, tYes, tFor_Lp, tLc_Lc, iRng1, iRng2, iRng3, iStr, iZipS, iRev, iEnum, iList, iTup, List.cons.injEq, decide_true, decide_false, not_true_eq_false, not_false_eq_true, not_dec, not_b, isA_tt, isA_ss, isA_ii, isA_bb, isA_ll, isA_bi, isA_dd, isA_ib, isA_is, isA_it, isA_il, isA_si, isA_sb, isA_ti, isA_tb, isA_ts, isA_tl, isA_li, isA_lb, isA_ls, isA_lt, isA_ni, isA_nb, isA_ns, isA_nl, isA_nt, isA_bs, isA_bl, isA_bt, isA_st, isA_sl, tAsg, gName, tVar, tC, tOp, tUn, tIf, tTest, tB, tAnd, tOr, tNot, tAndV, tOrV, tNotV, tChain, tRet, tRetN, tDrop, tIfS, tNext, tCont, tBreak, tCons, tNil, tCB, mTup, mLst, mDictK, mDictT, tSl, tPart, tNoPart, oI, oIc, oEq, oNe, oIsN, oNotN, uNeg, oRep, mAdd, mIx, mLen, mIsi, tyN, mInt, mMin, mMax, mAbs, mStr, mSl, mTupOf, mListOf, mSplit, mStarts, mBM, tyM, mCall, mMeth, mMeth2, mMake, mFld, mSetF, mRaise, mTabIx, mInTab, gTupM, gCons, gNil, gSub, mSet, scal, MM.keyOf, MM.keysOf, mAppend, mExtend, mPopL, mPop, mGet, mSetd, kvPop, kvLook, seqAt, L2.start, List.map_cons, List.map_nil, List.length_cons, List.length_nil, List.replicate, List.append_nil, List.nil_append, List.cons_append, List.getElem?_cons_zero, List.getElem?_cons_succ, List.getElem?_nil, List.set_cons_zero, List.set_cons_succ, Option.some.injEq, exists_eq_left, exists_eq_left', exists_eq', exists_and_left, and_assoc, and_true, true_and, if_true, if_false, ite_true, ite_false, decide_eq_true_eq, decide_eq_false_iff_not, Bool.not_true, Bool.not_false, Bool.not_eq_true, Bool.false_eq_true, eq_self, reduceCtorEq, and_false, false_and, V.int.injEq, V.str.injEq, V.bl.injEq, V.ref.injEq, V.ty.injEq, HO.lst.injEq, HO.tup.injEq, HO.ins.injEq, Nat.reduceAdd, Nat.reduceSub, Nat.zero_add, Nat.reduceLeDiff, Int.toNat_natCast, upd_same])
local macro_rules | `(tactic| walk_at "sd") => `(tactic| first | omega | exact lo62 (by omega) | exact hi62 (by omega) | exact sz_le (by omega) | exact sz_lt (by omega) | exact lo63 (by omega) | exact hi63 (by omega) | decide | exact ⟨by decide, by decide⟩ | exact ⟨by decide, by decide, by decide⟩ | exact Or.inl ⟨by omega, by omega⟩ | exact Or.inr ⟨by omega, by omega⟩)
theorem ixN_n {n j : Nat} (hj : j < n) : ixN n (j : Int) = some j := by
  unfold ixN
  rw [if_pos (by omega), if_pos (by omega)]; rfl
theorem cutV_take (l : List V) (j : Nat) : cutV l none (some (j : Int)) = l.take j := by
  unfold cutV
  rw [HT.sIx_none, HT.sIx_nat, List.drop_zero, Nat.sub_zero]
  by_cases h : j ≤ l.length
  · rw [Nat.min_eq_left h]
  · rw [Nat.min_eq_right (by omega), List.take_length, List.take_of_length_le (by omega)]
theorem cutV_drop (l : List V) (j : Nat) : cutV l (some (j : Int)) none = l.drop j := by
  unfold cutV
  rw [HT.sIx_none, HT.sIx_nat]
  by_cases h : j ≤ l.length
  · rw [Nat.min_eq_left h, List.take_of_length_le (by rw [List.length_drop]; omega)]
  · rw [Nat.min_eq_right (by omega), List.drop_length, List.drop_of_length_le (by omega)]; simp
theorem cutV_last (l : List V) (h : 1 ≤ l.length) : cutV l none (some (-1)) = l.take (l.length - 1) := by
  unfold cutV
  rw [HT.sIx_none, List.drop_zero, Nat.sub_zero]
  unfold HT.sIx
  simp only []
  rw [if_pos (by decide)]
  congr 1; omega
def Nums (ks js : List Nat) : Prop := ∀ j ∈ js, ∃ t k, j = t + 1 ∧ ks[t]? = some k ∧ k ≠ 114
theorem forms_63 : (forms.all fun p => !(tl p.1).contains 63) = true := by decide +kernel
theorem forms_r : (forms.all fun p => !(tl p.2).contains 114 || decide ((tl p.2)[3]? = some 114)) = true := by decide +kernel
theorem p__law_spoilt {K : PySem.W.Frag} (vs : List V) (H : Hp) (Q : VK) (E : XK) (h : sp__law_spoilt K vs H Q E) : r__law_spoilt K (WX0 E) { nx := fun _ H' => Q .non H', rt := Q } (start ["_law_words", "_law_kinds", "_law_way", "_law_cell", "_law_row", "_law_numbers", "_law_k", "_law_at", "_law_made"] vs) H := by
  obtain ⟨-, a, w, kd, ns, way, c, rfl, ha, hd, hpos, q⟩ := h
  have hkl : kd.length = (tl kd).length := TL.len_tl kd
  have h6 := hd.f3.2.2.2.1
  have hlw := lawWords_len (w := w) hd.2.1
  have hb1 : (Str.ofString " ").length = 1 := by decide +kernel
  have hjoin : ∀ l : List Str, (∀ p ∈ l, p.length ≤ 200) → l.length ≤ 8 → (l.map (·.length)).sum + l.length * (Str.ofString " ").length ≤ 16777216 := by
    intro l h1 h2
    have := sum_le l 200 h1
    have h3 : l.length * 200 ≤ 8 * 200 := Nat.mul_le_mul_right _ h2
    rw [hb1]; omega
  have hsz : ∀ p ∈ lawWords w (tl kd) ns, p.length ≤ 200 := fun p hp => by have := hd.sz p hp; omega
  unfold r__law_spoilt r__law_spoilt_0
  walk_at "ev"
  refine ⟨_, a, lawWords w (tl kd) ns, rfl, rfl, by unfold seqAt; rw [ha], hjoin _ hsz (by omega), ?_⟩
  have hrowl : (Txt.join (Str.ofString " ") (lawWords w (tl kd) ns)).length ≤ 500 := by
    have := join_bd hd.sz (n := 7) (by omega)
    omega
  unfold r__law_spoilt_1
  walk_at "ev"
  refine ⟨by walk_at "sd", by walk_at "sd", by walk_at "sd", ?_⟩
  refine lc t_rng fun A H2 n2 => ⟨fun i H' => Same H H' ∧ ∃ js : List Nat, H' A = some (.lst (js.map fun (j : Nat) => V.int (j : Nat))) ∧ js.length ≤ i ∧ Nums (tl kd) js, ⟨n2.same, [], n2.self, Nat.le_refl _, fun j hj => by cases hj⟩, fun _ _ _ _ => trivial, ?_, ?_⟩
  · rintro i x H' H'' hi ⟨s1, js, hA, hjl, hjs⟩ ⟨rfl, rfl⟩
    have hi' : i < (tl kd).length := by omega
    unfold g__law_spoilt_0 c__law_spoilt_1 e__law_spoilt_2
    walk_at "ev"
    refine ⟨by walk_at "sd", (tl kd)[i], by rw [Int.zero_add]; exact atI_nat (List.getElem?_eq_getElem hi'), ?_⟩
    simp only [one_r]
    have hAn : ∀ b o, H b = some o → b ≠ A := fun b o e z => by rw [z] at e; have := n2.1; rw [e] at this; cases this
    by_cases hr : (tl kd)[i] = 114
    · rw [if_neg (Classical.not_not.mpr hr)]
      exact ⟨s1, js, hA, by omega, hjs⟩
    · rw [if_pos hr]
      refine ⟨_, hA, by rw [List.length_map]; walk_at "sd", fun b o e => by rw [upd_ne (hAn b o e)]; exact s1 _ _ e, js ++ [i + 1], ?_, by rw [List.length_append, List.length_singleton]; omega, ?_⟩
      · rw [List.map_append, Int.zero_add]; rfl
      · intro j hj
        rcases List.mem_append.mp hj with hj | hj
        · exact hjs j hj
        · rw [List.mem_singleton] at hj
          exact ⟨i, _, hj, List.getElem?_eq_getElem hi', hr⟩
  · rintro H1 ⟨s1, js, hA, -, hjs⟩
    have ha1 := s1 _ _ ha
    have base : ∀ T H', Same H1 H' → BadRow T → Q (.str T) H' := fun T H' s b => q T H' (same_trans s1 s) b
    clear q
    unfold r__law_spoilt_2
    walk_at "ev"
    split
    · unfold r__law_spoilt_2t0
      walk_at "ev"
      exact ⟨by rw [hb1]; walk_at "sd", base _ H1 same_rfl (bad0 hd)⟩
    have c10 : ∀ v7, r__law_spoilt_10 K (WX0 E) { nx := fun x H' => Q V.non H', rt := Q } [some (V.ref a), some (V.str kd), some (V.int way), some (V.int c), some (V.str (Txt.join (Str.ofString " ") (lawWords w (tl kd) ns))), some (V.ref A), none, v7, none] H1 := by
      intro v7
      unfold r__law_spoilt_10
      walk_at "ev"
      exact ⟨by rw [hb1]; walk_at "sd", base _ H1 same_rfl (bad9 hd)⟩
    have c9 : r__law_spoilt_9 K (WX0 E) { nx := fun x H' => Q V.non H', rt := Q } [some (V.ref a), some (V.str kd), some (V.int way), some (V.int c), some (V.str (Txt.join (Str.ofString " ") (lawWords w (tl kd) ns))), some (V.ref A), none, none, none] H1 := by
      unfold r__law_spoilt_9
      walk_at "ev"
      split
      · unfold r__law_spoilt_9t0
        walk_at "ev"
        exact ⟨rfl, c, rfl, fun T H' s b => base T H' s b⟩
      · exact c10 _
    have c8 : r__law_spoilt_8 K (WX0 E) { nx := fun x H' => Q V.non H', rt := Q } [some (V.ref a), some (V.str kd), some (V.int way), some (V.int c), some (V.str (Txt.join (Str.ofString " ") (lawWords w (tl kd) ns))), some (V.ref A), none, none, none] H1 := by
      unfold r__law_spoilt_8
      walk_at "ev"
      have er : Str.ofString "r" = ⟨#[114]⟩ := by decide +kernel
      rw [er, mIn1]
      walk_at "ev"
      split
      · split
        · rename_i hr
          have h3 : (tl kd)[3]? = some 114 := by
            have := List.all_eq_true.mp forms_r _ hd.1
            simp only [Bool.or_eq_true, Bool.not_eq_true', decide_eq_true_eq] at this
            rcases this with z | z
            · rw [List.contains_iff_mem.mpr hr] at z; cases z
            · exact z
          have h3l := (List.getElem?_eq_some_iff.mp h3).1
          obtain ⟨n, hn3⟩ : ∃ n, ns[3]? = some n := ⟨_, List.getElem?_eq_getElem (by have := hd.2.1; omega)⟩
          have hok : okN 114 n := hd.2.2 (n, 114) (List.mem_of_getElem? (i := 3) (List.getElem?_zip_eq_some.mpr ⟨hn3, h3⟩))
          have hw4 : (lawWords w (tl kd) ns)[4]? = some (lawWritten n 114) := by
            unfold lawWords
            rw [List.getElem?_cons_succ, List.getElem?_map, (List.getElem?_zip_eq_some (z := (n, 114))).mpr ⟨hn3, h3⟩]; rfl
          unfold r__law_spoilt_8t0
          walk_at "ev"
          simp only [ha1]
          intro B H3 n3
          unfold r__law_spoilt_8t1
          walk_at "ev"
          simp only [n3.same _ _ ha1]
          refine ⟨_, atI_nat (j := 4) (by rw [List.getElem?_map, hw4]; rfl), rfl, n, c, rfl, hok, fun T H4 s4 hT => ?_⟩
          simp only [s4 _ _ n3.self]
          refine ⟨4, ixN_n (j := 4) (by rw [List.length_map, hlw]; omega), fun H5 w5 => ?_⟩
          unfold r__law_spoilt_8t2
          walk_at "ev"
          have hB5 : H5 B = some (.lst (((lawWords w (tl kd) ns).set 4 T).map V.str)) := by rw [w5.self, List.map_set]
          have hBn : ∀ b o, H1 b = some o → b ≠ B := fun b o e z => by rw [z] at e; have := n3.1; rw [e] at this; cases this
          refine ⟨_, B, (lawWords w (tl kd) ns).set 4 T, rfl, rfl, by unfold seqAt; rw [hB5], hjoin _ ?_ (by rw [List.length_set]; omega), base _ H5 (fun b o e => by rw [w5.ne (hBn b o e)]; exact s4 _ _ (n3.same _ _ e)) (bad6 hd h3 hT)⟩
          intro p hp
          rcases List.mem_or_eq_of_mem_set hp with hp | rfl
          · exact hsz p hp
          · exact hT.1
        · exact c9
      · exact c9
    have c7 : r__law_spoilt_7 K (WX0 E) { nx := fun x H' => Q V.non H', rt := Q } [some (V.ref a), some (V.str kd), some (V.int way), some (V.int c), some (V.str (Txt.join (Str.ofString " ") (lawWords w (tl kd) ns))), some (V.ref A), none, none, none] H1 := by
      unfold r__law_spoilt_7
      walk_at "ev"
      split
      · split
        · simp only [hA, List.length_map]
          split
          · rename_i h69 h9 hjs0
            unfold r__law_spoilt_7t0
            walk_at "ev"
            simp only [hA, List.length_map]
            have hjl : 0 < js.length := by omega
            obtain ⟨v, hv, hvm⟩ := at_mod (L := js.map fun (j : Nat) => V.int (j : Nat)) (c := c) js.length (by rw [List.length_map]) hjl
            obtain ⟨j1, hj1, rfl⟩ := List.mem_map.mp hvm
            obtain ⟨t, k, rfl, hk, hkr⟩ := hjs j1 hj1
            refine ⟨by omega, _, hv, ?_⟩
            have htl := (List.getElem?_eq_some_iff.mp hk).1
            obtain ⟨n, hn3⟩ : ∃ n, ns[t]? = some n := ⟨_, List.getElem?_eq_getElem (by have := hd.2.1; omega)⟩
            have hok : okN k n := hd.2.2 (n, k) (List.mem_of_getElem? (i := t) (List.getElem?_zip_eq_some.mpr ⟨hn3, hk⟩))
            have hw4 : (lawWords w (tl kd) ns)[t + 1]? = some (lawWritten n k) := by
              unfold lawWords
              rw [List.getElem?_cons_succ, List.getElem?_map, (List.getElem?_zip_eq_some (z := (n, k))).mpr ⟨hn3, hk⟩]; rfl
            have hk2 : k = 110 ∨ k = 118 := by
              rcases hd.f3.2.2.1 k (List.mem_of_getElem? hk) with h | h | h
              · exact .inl h
              · exact .inr h
              · exact absurd h hkr
            unfold r__law_spoilt_7t1
            walk_at "ev"
            simp only [ha1]
            intro B H3 n3
            unfold r__law_spoilt_7t2
            walk_at "ev"
            simp only [n3.same _ _ ha1]
            have e1 : ((t + 1 : Nat) : Int) - 1 = (t : Int) := by omega
            refine ⟨_, atI_nat (by rw [List.getElem?_map, hw4]; rfl), by walk_at "sd", k, by rw [e1]; exact atI_nat hk, by walk_at "sd", rfl, n, way, c / 5, k, rfl, h69, h9, hk2, hpos n (List.mem_of_getElem? hn3), hok, fun T H4 s4 hT => ?_⟩
            walk_at "ev"
            simp only [s4 _ _ n3.self]
            refine ⟨t + 1, ixN_n (by rw [List.length_map, hlw]; omega), fun H5 w5 => ?_⟩
            unfold r__law_spoilt_7t3
            walk_at "ev"
            have hB5 : H5 B = some (.lst (((lawWords w (tl kd) ns).set (t + 1) T).map V.str)) := by rw [w5.self, List.map_set]
            have hBn : ∀ b o, H1 b = some o → b ≠ B := fun b o e z => by rw [z] at e; have := n3.1; rw [e] at this; cases this
            refine ⟨_, B, (lawWords w (tl kd) ns).set (t + 1) T, rfl, rfl, by unfold seqAt; rw [hB5], hjoin _ ?_ (by rw [List.length_set]; omega), base _ H5 (fun b o e => by rw [w5.ne (hBn b o e)]; exact s4 _ _ (n3.same _ _ e)) (bad6 hd hk hT)⟩
            intro p hp
            rcases List.mem_or_eq_of_mem_set hp with hp | rfl
            · exact hsz p hp
            · exact hT.1
          · exact c8
        · exact c8
      · exact c8
    have c6 : r__law_spoilt_6 K (WX0 E) { nx := fun x H' => Q V.non H', rt := Q } [some (V.ref a), some (V.str kd), some (V.int way), some (V.int c), some (V.str (Txt.join (Str.ofString " ") (lawWords w (tl kd) ns))), some (V.ref A), none, none, none] H1 := by
      unfold r__law_spoilt_6
      walk_at "ev"
      split
      · unfold r__law_spoilt_6t0
        walk_at "ev"
        simp only [ha1]
        have hw0 : (lawWords w (tl kd) ns)[0]? = some w := rfl
        have hwl1 := hd.f3.2.2.2.2
        have hwlen : w.length = (tl w).length := TL.len_tl w
        refine ⟨_, atI_nat (j := 0) (by rw [List.getElem?_map, hw0]; rfl), ?_⟩
        walk_at "ev"
        have hb := Int.emod_nonneg c (show (w.length : Int) ≠ 0 by omega)
        have hb2 := Int.emod_lt_of_pos c (show (0 : Int) < w.length by omega)
        obtain ⟨j, hj⟩ := Int.eq_ofNat_of_zero_le hb
        have hjl : j < (tl w).length := by omega
        refine ⟨by walk_at "sd", by omega, ?_⟩
        rw [hj]
        unfold r__law_spoilt_6t1
        walk_at "ev"
        simp only [ha1]
        refine ⟨_, atI_nat (j := 0) (by rw [List.getElem?_map, hw0]; rfl), _, atI_nat (j := 0) (by rw [List.getElem?_map, hw0]; rfl), ?_⟩
        walk_at "ev"
        refine ⟨by walk_at "sd", _, atI_nat (List.getElem?_eq_getElem hjl), by walk_at "sd", rfl, _, c / 4, _, rfl, fun x hs hx => ?_⟩
        refine ⟨rfl, w, ⟨#[x]⟩, j, rfl, by omega, by omega, by show 1 ≤ 1000; decide, fun T hT => ?_⟩
        simp only [ha1]
        refine ⟨_, atI_nat (j := 0) (by rw [List.getElem?_map, hw0]; rfl), ?_⟩
        walk_at "ev"
        have hTl : T.length ≤ 20 := by rw [TL.len_tl, hT, List.length_append, List.length_append, List.length_take, List.length_drop]; have : (tl (⟨#[x]⟩ : Str)).length = 1 := rfl; omega
        have hRl : (cutS (Txt.join (Str.ofString " ") (lawWords w (tl kd) ns)) (some ((w.length : Nat) : Int)) none).length ≤ 500 := Nat.le_trans (cutS_length _ _ _) hrowl
        refine ⟨by walk_at "sd", by walk_at "sd", by walk_at "sd", base _ H1 same_rfl (bad5 hd hjl hs ?_ hT (by rw [tl_drop, hwlen]))⟩
        rw [List.getElem?_eq_getElem hjl]
        intro z
        have z2 := Option.some.inj z
        rcases hx with hx | ⟨hx, -⟩
        · have := List.all_eq_true.mp forms_63 _ hd.1
          rw [hx] at z2
          rw [List.contains_iff_mem.mpr (by rw [← z2]; exact List.getElem_mem hjl)] at this
          cases this
        · exact hx z2.symm
      · exact c7
    have c5 : r__law_spoilt_5 K (WX0 E) { nx := fun x H' => Q V.non H', rt := Q } [some (V.ref a), some (V.str kd), some (V.int way), some (V.int c), some (V.str (Txt.join (Str.ofString " ") (lawWords w (tl kd) ns))), some (V.ref A), none, none, none] H1 := by
      unfold r__law_spoilt_5
      walk_at "ev"
      split
      · unfold r__law_spoilt_5t0
        walk_at "ev"
        refine ⟨by rw [hb1]; walk_at "sd", rfl, c, 110, by rw [show Str.ofString "n" = ⟨#[110]⟩ from by decide +kernel], .inl rfl, fun n H3 s3 h0 hok => ?_⟩
        have hwl := written_len hok
        refine ⟨by rw [len_app, hb1]; walk_at "sd", base _ H3 s3 (bad4 hd (written_free hok) (by omega))⟩
      · exact c6
    have c4 : r__law_spoilt_4 K (WX0 E) { nx := fun x H' => Q V.non H', rt := Q } [some (V.ref a), some (V.str kd), some (V.int way), some (V.int c), some (V.str (Txt.join (Str.ofString " ") (lawWords w (tl kd) ns))), some (V.ref A), none, none, none] H1 := by
      unfold r__law_spoilt_4
      walk_at "ev"
      split
      · unfold r__law_spoilt_4t0
        walk_at "ev"
        simp only [ha1]
        intro B H3 n3
        have hB3 : H3 B = some (.lst (((lawWords w (tl kd) ns).take (tl kd).length).map V.str)) := by
          rw [n3.self, cutV_last _ (by rw [List.length_map]; omega), List.length_map, hlw, List.map_take]; rfl
        refine ⟨_, B, (lawWords w (tl kd) ns).take (tl kd).length, rfl, rfl, by unfold seqAt; rw [hB3], hjoin _ (fun p hp => hsz p (List.mem_of_mem_take hp)) (by rw [List.length_take]; omega), base _ H3 n3.same (bad3 hd)⟩
      · exact c5
    unfold r__law_spoilt_3
    walk_at "ev"
    split
    · simp only [ha1]
      rw [List.length_map]
      split
      · rename_i h1
        unfold r__law_spoilt_3t0
        walk_at "ev"
        simp only [ha1]
        rw [List.length_map]
        have hb := Int.emod_nonneg c (show (((lawWords w (tl kd) ns).length : Int) - 1) ≠ 0 by omega)
        have hb2 := Int.emod_lt_of_pos c (show (0 : Int) < ((lawWords w (tl kd) ns).length : Int) - 1 by omega)
        obtain ⟨i, hi⟩ := Int.eq_ofNat_of_zero_le hb
        have e1 : (1 : Int) + c % (((lawWords w (tl kd) ns).length : Int) - 1) = ((i + 1 : Nat) : Int) := by omega
        refine ⟨by omega, ?_⟩
        rw [e1]
        unfold r__law_spoilt_3t1
        walk_at "ev"
        simp only [ha1]
        intro B H3 n3
        have hB3 : H3 B = some (.lst (((lawWords w (tl kd) ns).take (i + 1)).map V.str)) := by rw [n3.self, cutV_take, List.map_take]
        refine ⟨_, B, (lawWords w (tl kd) ns).take (i + 1), rfl, rfl, by unfold seqAt; rw [hB3], hjoin _ (fun p hp => hsz p (List.mem_of_mem_take hp)) (by rw [List.length_take]; omega), ?_⟩
        have lA := join_bd (n := 7) (ws := (lawWords w (tl kd) ns).take (i + 1)) (fun p hp => hd.sz p (List.mem_of_mem_take hp)) (by rw [List.length_take]; omega)
        have l2 : (Str.ofString "  ").length = 2 := by decide +kernel
        refine ⟨by rw [l2]; walk_at "sd", ?_⟩
        simp only [n3.same _ _ ha1]
        intro C H4 n4
        have hC4 : H4 C = some (.lst (((lawWords w (tl kd) ns).drop (i + 1)).map V.str)) := by rw [n4.self, cutV_drop, List.map_drop]
        have lB := join_bd (n := 7) (ws := (lawWords w (tl kd) ns).drop (i + 1)) (fun p hp => hd.sz p (List.mem_of_mem_drop hp)) (by rw [List.length_drop]; omega)
        refine ⟨_, C, (lawWords w (tl kd) ns).drop (i + 1), rfl, rfl, by unfold seqAt; rw [hC4], hjoin _ (fun p hp => hsz p (List.mem_of_mem_drop hp)) (by rw [List.length_drop]; omega), by rw [len_app, l2]; walk_at "sd", base _ H4 (same_trans n3.same n4.same) (bad2 hd (by omega) (by omega))⟩
      · exact c4
    · exact c4
end K97

set_option Elab.async false
set_option linter.all false
set_option maxRecDepth 100000
set_option maxHeartbeats 4000000
namespace K97
open PySem PySem.Spec PyProof.Rows L2 MM
open TL (tl)
local macro_rules | `(tactic| walk_at "ev") => `(tactic| try simp only [tSeq, wipe, tYes, tFor_Lp, tLc_Lc, iRng1, iRng2, iRng3, iStr, iZipS, iRev, iEnum, iList, iTup, List.cons.injEq, decide_true, decide_false, not_true_eq_false, not_false_eq_true, not_dec, not_b, isA_tt, isA_ss, isA_ii, isA_bb, isA_ll, isA_bi, isA_dd, isA_ib, isA_is, isA_it, isA_il, isA_si, isA_sb, isA_ti, isA_tb, isA_ts, isA_tl, isA_li, isA_lb, isA_ls, isA_lt, isA_ni, isA_nb, isA_ns, isA_nl, isA_nt, isA_bs, isA_bl, isA_bt, isA_st, isA_sl, tAsg, gName, tVar, tC, tOp, tUn, tIf, tTest, tB, tAnd, tOr, tNot, tAndV, tOrV, tNotV, tChain, tRet, tRetN, tDrop, tIfS, tNext, tCont, tBreak, tCons, tNil, tCB, mTup, mLst, mDictK, mDictT, tSl, tPart, tNoPart, oI, oIc, oEq, oNe, oIsN, oNotN, uNeg, oRep, mAdd, mIx, mLen, mIsi, tyN, mInt, mMin, mMax, mAbs, mStr, mSl, mTupOf, mListOf, mSplit, mStarts, mBM, tyM, mCall, mMeth, mMeth2, mMake, mFld, mSetF, mRaise, mTabIx, mInTab, gTupM, gCons, gNil, gSub, mSet, scal, MM.keyOf, MM.keysOf, mAppend, mExtend, mPopL, mPop, mGet, mSetd, kvPop, kvLook, seqAt, L2.start, List.map_cons, List.map_nil, List.length_cons, List.length_nil, List.replicate, List.append_nil, List.nil_append, List.cons_append, List.getElem?_cons_zero, List.getElem?_cons_succ, List.getElem?_nil, List.set_cons_zero, List.set_cons_succ, Option.some.injEq, exists_eq_left, exists_eq_left', exists_eq', exists_and_left, and_assoc, and_true, true_and, if_true, if_false, ite_true, ite_false, decide_eq_true_eq, decide_eq_false_iff_not, Bool.not_true, Bool.not_false, Bool.not_eq_true, Bool.false_eq_true, eq_self, reduceCtorEq, and_false, false_and, V.int.injEq, V.str.injEq, V.bl.injEq, V.ref.injEq, V.ty.injEq, HO.lst.injEq, HO.tup.injEq, HO.ins.injEq, Nat.reduceAdd, Nat.reduceSub, Nat.zero_add, Nat.reduceLeDiff, Int.toNat_natCast, upd_same])
local macro_rules | `(tactic| walk_at "sd") => `(tactic| first | omega | exact lo62 (by omega) | exact hi62 (by omega) | exact sz_le (by omega) | exact sz_lt (by omega) | exact lo63 (by omega) | exact hi63 (by omega) | decide | exact ⟨by decide, by decide⟩ | exact ⟨by decide, by decide, by decide⟩ | exact Or.inl ⟨by omega, by omega⟩ | exact Or.inr ⟨by omega, by omega⟩)
theorem forms_mem (c : Int) : ((lawForm c).1, (lawForm c).2) ∈ forms := by
  unfold lawForm
  have hb := Int.emod_nonneg c (show (15 : Int) ≠ 0 by decide)
  have hb2 := Int.emod_lt_of_pos c (show (0 : Int) < 15 by decide)
  obtain ⟨j, hj⟩ := Int.eq_ofNat_of_zero_le hb
  rw [hj]
  have hj15 : j < forms.length := by show j < 15; omega
  show (forms.getD (Int.toNat (j : Int)) ("", "")) ∈ forms
  rw [Int.toNat_natCast, List.getD_eq_getElem?_getD, List.getElem?_eq_getElem hj15]
  exact List.getElem_mem hj15
theorem forms_str : (forms.all fun p => PyData.strOk p.1) = true := by decide +kernel
theorem DeedOk.flat {w kd : Str} {ns : List Int} (h : DeedOk w kd ns) : (lawDue w (tl kd) ns).all flatOk = true := by
  have := List.all_eq_true.mp forms_str _ h.1
  unfold lawDue
  rw [List.cons_append, List.all_cons, List.all_append, Bool.and_eq_true, Bool.and_eq_true]
  refine ⟨this, ?_, ?_⟩
  · rw [List.all_eq_true]
    intro v hv
    obtain ⟨i, -, rfl⟩ := List.mem_map.mp hv
    rfl
  · split <;> rfl
theorem zip_snoc : ∀ (nl : List Int) (ks : List Nat) (n : Int) (k : Nat), ks[nl.length]? = some k → (nl ++ [n]).zip ks = nl.zip ks ++ [(n, k)]
  | [], [], _, _, h => by simp at h
  | [], a :: r, n, k, h => by simp at h; simp [h]
  | _ :: _, [], _, _, h => by simp at h
  | a :: nl, b :: ks, n, k, h => by
    simp at h
    simp [zip_snoc nl ks n k h]
theorem lead_eq (n3 n4 n : Int) : Str.ofString "write " ++ lawWritten n3 110 ++ Str.ofString " " ++ lawWritten n4 110 ++ Str.ofString " " ++ lawWritten n 118 = Txt.join (Str.ofString " ") (lawWords (Str.ofString "write") [110, 110, 118] [n3, n4, n]) := by
  refine TL.ext_tl ?_
  rw [tl_T0]
  simp only [TL.tl_append]
  rw [show tl (Str.ofString "write ") = tl (Str.ofString "write") ++ [32] from by decide +kernel, tl_bl]
  simp [lawWords, TL.joinL]
theorem lead_bad (n3 n4 n : Int) (T : Str) : Str.ofString "write " ++ lawWritten n3 110 ++ Str.ofString " " ++ lawWritten n4 110 ++ Str.ofString " " ++ T = Txt.join (Str.ofString " ") ((lawWords (Str.ofString "write") [110, 110, 118] [n3, n4, n]).set 3 T) := by
  refine TL.ext_tl ?_
  rw [tl_T0]
  simp only [TL.tl_append]
  rw [show tl (Str.ofString "write ") = tl (Str.ofString "write") ++ [32] from by decide +kernel, tl_bl]
  simp [lawWords, TL.joinL]
theorem tl_nnv : tl (Str.ofString "nnv") = [110, 110, 118] := by decide +kernel
theorem deed_write {n3 n4 : Int} (h3 : okN 110 n3) (h4 : okN 110 n4) : DeedOk (Str.ofString "write") (Str.ofString "nnv") [n3, n4, 0] := by
  refine ⟨by decide +kernel, by rw [tl_nnv]; rfl, ?_⟩
  rw [tl_nnv]
  intro p hp
  simp only [List.zip_cons_cons, List.zip_nil_left, List.mem_cons, List.not_mem_nil, or_false] at hp
  rcases hp with rfl | rfl | rfl
  · exact h3
  · exact h4
  · unfold okN; rw [if_neg (by decide), if_pos rfl]; decide
theorem p_law {K : PySem.W.Frag} (vs : List V) (H : Hp) (Q : VK) (E : XK) (h : sp_law K vs H Q E) : r_law K (WX0 E) { nx := fun _ H' => Q .non H', rt := Q } (start ["_law_script", "_law_word_here", "_law_kinds", "_law_words", "_law_k", "_law_row", "_law_cell", "_law_lead"] vs) H := by
  obtain ⟨-, a, ns, rfl, hS, hn, q⟩ := h
  unfold r_law r_law_0
  walk_at "ev"
  refine ⟨rfl, a, ns, 0, rfl, hS, rfl, cellAt ns 0, rfl, fun p H1 s1 e1 => ?_⟩
  simp only [e1]
  walk_at "ev"
  have hf := forms_mem (cellAt ns 0)
  generalize (lawForm (cellAt ns 0)).1 = w at *
  generalize (lawForm (cellAt ns 0)).2 = kd at *
  have hkl : kd.length = (tl kd).length := TL.len_tl kd
  have hff := List.all_eq_true.mp forms_ok3 _ hf
  unfold formOk3 at hff
  rw [Bool.and_eq_true] at hff
  obtain ⟨-, hff⟩ := hff
  simp only [Bool.and_eq_true, Bool.not_eq_true', List.all_eq_true, Bool.or_eq_true, beq_iff_eq, decide_eq_true_eq] at hff
  have hkk := hff.2.1
  have hk6 := hff.2.2.1
  unfold r_law_1
  walk_at "ev"
  refine ⟨by decide, fun m H2 n2 => ?_⟩
  unfold r_law_2
  walk_at "ev"
  refine ⟨by walk_at "sd", by walk_at "sd", by walk_at "sd", ?_⟩
  obtain ⟨Pv, hP⟩ : ∃ Pv : Nat → L2.St → Hp → Prop, Pv = (fun i σ H' => ∃ v4, σ = [some (.ref a), some (.str w), some (.str kd), some (.ref m), v4, none, none, none] ∧ Same H1 H' ∧ ∃ nl : List Int, H' m = some (.lst ((lawWords w (tl kd) nl).map V.str)) ∧ nl.length = i ∧ (∀ p ∈ nl.zip (tl kd), okN p.2 p.1) ∧ ∀ n ∈ nl, 0 ≤ n) := ⟨_, rfl⟩
  have hmn : ∀ b o, H1 b = some o → b ≠ m := fun b o e z => by rw [z] at e; have := n2.1; rw [e] at this; cases this
  refine lp t_rng Pv ?_ (fun _ _ _ _ _ => trivial) ?_ ?_
  · rw [hP]; exact ⟨_, rfl, n2.same, [], n2.self, rfl, fun p hp => by simp at hp, fun n hn => by cases hn⟩
  · intro i x σ' H3 H4 hi pv yv
    rw [hP] at pv
    obtain ⟨v4, rfl, s3, nl, hm, hnl, hok, hpos⟩ := pv
    obtain ⟨rfl, rfl⟩ := yv
    have hi' : i < (tl kd).length := by omega
    have hk : (tl kd)[i]? = some (tl kd)[i] := List.getElem?_eq_getElem hi'
    generalize (tl kd)[i] = k at hk
    have hk3 := hkk k (List.mem_of_getElem? hk)
    unfold g_law_0
    walk_at "ev"
    unfold r_law_2f0
    walk_at "ev"
    simp only [hm]
    have e7 : (3 : Int) + (0 + (i : Int)) = ((3 + i : Nat) : Int) := by omega
    have hat : atI kd.cps.toList (0 + (i : Int)) = some k := by rw [Int.zero_add]; exact atI_nat hk
    refine ⟨trivial, rfl, a, ns, 3 + i, by rw [e7], sqL_same (same_trans s1 s3) hS, by walk_at "sd", k, hat, rfl, _, k, rfl, hk3, fun n H5 s5 hn0 hokn => ?_⟩
    simp only [s5 _ _ hm]
    refine ⟨by
      unfold lawWords
      rw [List.length_map, List.length_cons, List.length_map, List.length_zip]; walk_at "sd", fun H6 w6 => ?_⟩
    rw [hP]
    have hz := zip_snoc nl (tl kd) n k (by rw [hnl]; exact hk)
    refine ⟨_, rfl, fun b o e => by rw [w6.ne (hmn b o e)]; exact s5 _ _ (s3 _ _ e), nl ++ [n], ?_, by rw [List.length_append, hnl]; rfl, ?_, ?_⟩
    · rw [w6.self]
      unfold lawWords
      rw [hz]; simp
    · intro p hp
      rw [hz] at hp
      rcases List.mem_append.mp hp with hp | hp
      · exact hok p hp
      · rw [List.mem_singleton] at hp; subst hp; exact hokn
    · intro z hz2
      rcases List.mem_append.mp hz2 with hz2 | hz2
      · exact hpos z hz2
      · rw [List.mem_singleton] at hz2; subst hz2; exact hn0
  · intro σ' H3 pv
    rw [hP] at pv
    obtain ⟨v4, rfl, s3, nl, hm, hnl, hok, hpos⟩ := pv
    have hd : DeedOk w kd nl := ⟨hf, by omega, hok⟩
    have hlw := lawWords_len (w := w) hd.2.1
    have hc := hd.f3.2.2.2.1
    clear hP Pv hmn
    have s03 : Same H H3 := same_trans s1 s3
    have hb1 : (Str.ofString " ").length = 1 := by decide +kernel
    have hjoin : ((lawWords w (tl kd) nl).map (·.length)).sum + (lawWords w (tl kd) nl).length * (Str.ofString " ").length ≤ 16777216 := by
      have := sum_le _ 61 hd.sz
      have h3 : (lawWords w (tl kd) nl).length * 61 ≤ 8 * 61 := Nat.mul_le_mul_right _ (by omega)
      rw [hb1]; omega
    unfold r_law_3
    walk_at "ev"
    refine ⟨_, m, lawWords w (tl kd) nl, rfl, rfl, by unfold seqAt; rw [hm], hjoin, ?_⟩
    have hrow := rdRow_law hd.1 hd.2.1 hd.2.2
    have hrl : (Txt.join (Str.ofString " ") (lawWords w (tl kd) nl)).length ≤ 500 := by
      have := join_bd hd.sz (n := 7) (by omega)
      omega
    generalize hT : Txt.join (Str.ofString " ") (lawWords w (tl kd) nl) = T at *
    unfold r_law_4
    walk_at "ev"
    refine ⟨rfl, T, rfl, by omega, ?_⟩
    rw [hrow]
    intro f H4 s4 e4
    simp only [e4]
    refine ⟨by decide, ?_⟩
    walk_at "ev"
    unfold r_law_5
    walk_at "ev"
    refine ⟨rfl, a, ns, 1, rfl, sqL_same (same_trans s03 s4) hS, ?_⟩
    walk_at "ev"
    refine ⟨by decide, rfl, a, ns, 2, rfl, sqL_same (same_trans s03 s4) hS, rfl, m, w, kd, nl, cellAt ns 1 % 12, cellAt ns 2, rfl, s4 _ _ hm, hd, hpos, fun B H5 s5 hB => ⟨rfl, B, rfl, hB, fun H6 s6 => ?_⟩⟩
    walk_at "ev"
    unfold r_law_6
    walk_at "ev"
    have s06 : Same H H6 := same_trans s03 (same_trans s4 (same_trans s5 s6))
    refine ⟨a, ns.map V.int, rfl, sqL_same s06 hS, fun g hg => ?_⟩
    have hgs : Same H6 (upd H6 g (.lst (cutV (ns.map V.int) (some 9) (some 19)))) := fun b o e => by rw [upd_ne (fun z => by rw [z, hg] at e; cases e)]; exact e
    have hints : ∀ v ∈ cutV (ns.map V.int) (some 9) (some 19), ∃ n : Int, v = .int n := by
      intro v hv
      unfold cutV at hv
      obtain ⟨n, -, rfl⟩ := List.mem_map.mp (List.mem_of_mem_drop (List.mem_of_mem_take hv))
      exact ⟨n, rfl⟩
    generalize cutV (ns.map V.int) (some 9) (some 19) = cs at *
    have hm6 : H6 m = some (.lst ((lawWords w (tl kd) nl).map V.str)) := s6 _ _ (s5 _ _ (s4 _ _ hm))
    obtain ⟨Pv, hP⟩ : ∃ Pv : Nat → L2.St → Hp → Prop, Pv = (fun i σ H' => ∃ v6, σ = [some (.ref a), some (.str w), some (.str kd), some (.ref m), v4, some (.str T), v6, none] ∧ Same (upd H6 g (.lst cs)) H') := ⟨_, rfl⟩
    walk_at "ev"
    refine ⟨⟨cs, sqL upd_same⟩, lp (t_list cs) Pv ?_ ?_ ?_ ?_⟩
    · rw [hP]; exact ⟨_, rfl, same_rfl⟩
    · intro i σ' H' _ pv
      rw [hP] at pv
      obtain ⟨v6, -, s7⟩ := pv
      exact sqL (s7 _ _ upd_same)
    · intro i x σ' H7 H8 hi pv yv
      rw [hP] at pv
      obtain ⟨v6, rfl, s7⟩ := pv
      obtain ⟨rfl, hx⟩ := yv
      obtain ⟨n, rfl⟩ := hints x (List.mem_of_getElem? hx)
      unfold g_law_1
      walk_at "ev"
      unfold r_law_6f0
      walk_at "ev"
      refine ⟨by decide, by walk_at "sd", rfl, m, w, kd, nl, n % 12, n / 12, rfl, s7 _ _ (hgs _ _ hm6), hd, hpos, fun B H9 s9 hB => ⟨rfl, B, rfl, hB, fun H10 s10 => ?_⟩⟩
      walk_at "ev"
      rw [hP]
      exact ⟨_, rfl, same_trans s7 (same_trans s9 s10)⟩
    · intro σ' H7 pv
      rw [hP] at pv
      obtain ⟨v6, rfl, s7⟩ := pv
      have s07 : Same H H7 := same_trans s06 (same_trans hgs s7)
      have hm7 : H7 m = some (.lst ((lawWords w (tl kd) nl).map V.str)) := s7 _ _ (hgs _ _ hm6)
      unfold r_law_7
      walk_at "ev"
      have en : Str.ofString "n" = ⟨#[110]⟩ := by decide +kernel
      have lw6 : (Str.ofString "write ").length = 6 := by decide +kernel
      refine ⟨rfl, a, ns, 3, rfl, sqL_same s07 hS, rfl, _, 110, by rw [en], .inl rfl, fun n3 H8 s8 hn3 hok3 => ?_⟩
      have l3 := written_len hok3
      refine ⟨by rw [lw6]; walk_at "sd", by rw [len_app, lw6, hb1]; walk_at "sd", rfl, a, ns, 4, rfl, sqL_same (same_trans s07 s8) hS, rfl, _, 110, by rw [en], .inl rfl, fun n4 H9 s9 hn4 hok4 => ?_⟩
      have l4 := written_len hok4
      refine ⟨by rw [len_app, len_app, lw6, hb1]; walk_at "sd", by rw [len_app, len_app, len_app, lw6, hb1]; walk_at "sd", ?_⟩
      have dw := deed_write hok3 hok4
      have hLl : (Str.ofString "write " ++ lawWritten n3 110 ++ Str.ofString " " ++ lawWritten n4 110 ++ Str.ofString " ").length ≤ 130 := by
        rw [len_app, len_app, len_app, len_app, lw6, hb1]; omega
      have e0 : lawWritten 0 118 = Str.ofString "0" := by decide +kernel
      have hbad : BadRow (Str.ofString "write " ++ lawWritten n3 110 ++ Str.ofString " " ++ lawWritten n4 110 ++ Str.ofString " " ++ Str.ofString "-0") := by
        rw [lead_bad n3 n4 0]
        have := bad6 dw (j := 2) (k := 118) (T := Str.ofString "-0") (by rw [tl_nnv]; rfl) ⟨by decide +kernel, .inl ⟨by decide +kernel, by decide +kernel⟩⟩
        rw [tl_nnv] at this
        exact this
      have hgood : rdRow (Str.ofString "write " ++ lawWritten n3 110 ++ Str.ofString " " ++ lawWritten n4 110 ++ Str.ofString " " ++ Str.ofString "0") = some [.str (Str.ofString "write"), .int n3, .int n4, .int 0] := by
        have := rdRow_law dw.1 dw.2.1 dw.2.2
        rw [tl_nnv] at this
        rw [← e0, lead_eq n3 n4 0, this]
        unfold lawDue
        rw [if_neg (by decide +kernel)]; rfl
      generalize Str.ofString "write " ++ lawWritten n3 110 ++ Str.ofString " " ++ lawWritten n4 110 ++ Str.ofString " " = L at *
      have s09 := same_trans s07 (same_trans s8 s9)
      have hm9 := s9 _ _ (s8 _ _ hm7)
      unfold r_law_8
      walk_at "ev"
      have l2 : (Str.ofString "-0").length = 2 := by decide +kernel
      have l1 : (Str.ofString "0").length = 1 := by decide +kernel
      refine ⟨by rw [l2]; walk_at "sd", rfl, _, rfl, hbad, fun H10 s10 => ?_⟩
      walk_at "ev"
      refine ⟨by rw [l1]; walk_at "sd", rfl, _, rfl, by rw [len_app, l1]; omega, ?_⟩
      rw [hgood]
      intro f2 H11 s11 e11
      simp only [e11]
      refine ⟨_, atI_nat (j := 3) rfl, ?_⟩
      walk_at "ev"
      have hm11 := s11 _ _ (s10 _ _ hm9)
      unfold r_law_9
      walk_at "ev"
      refine ⟨rfl, T, rfl, by omega, ?_⟩
      rw [hrow]
      intro f3 H12 s12 e12
      refine ⟨_, m, lawWords w (tl kd) nl, rfl, rfl, by unfold seqAt; rw [s12 _ _ hm11], hjoin, ?_⟩
      rw [hT]
      refine ⟨rfl, T, rfl, by omega, ?_⟩
      rw [hrow]
      intro f4 H13 s13 e13
      exact eqD_t (n := 2) (.tup (sqT (s13 _ _ e12)) (dpAll_flat hd.flat)) (.tup (sqT e13) (dpAll_flat hd.flat)) (nice_tup (nice_flats hd.flat)) (by decide) (q _)
end K97

set_option Elab.async false
set_option linter.all false
set_option maxRecDepth 100000
set_option maxHeartbeats 4000000
namespace K97
open PySem PySem.Spec PyProof.Rows L2 MM
def top (i : Nat) : Stmt := PySem.Challenge.pw_frameland_k97_bad_rows.main.body.getD i (.Pass ⟨0, 0, 0, 0⟩)
abbrev s__law_form : Stmt := top 24
abbrev N__law_form : List Str := ["_law_cell", "_law_forms"]
abbrev P__law_form : List Str := ["_law_cell"]
theorem sc__law_form : FnScope N__law_form P__law_form (defScope s__law_form) := ⟨rfl, rfl, rfl, by decide +kernel, rfl, by decide +kernel, by decide +kernel⟩
abbrev s__law_cell_at : Stmt := top 23
abbrev N__law_cell_at : List Str := ["_law_script", "_law_k"]
abbrev P__law_cell_at : List Str := ["_law_script", "_law_k"]
theorem sc__law_cell_at : FnScope N__law_cell_at P__law_cell_at (defScope s__law_cell_at) := ⟨rfl, rfl, rfl, by decide +kernel, rfl, by decide +kernel, by decide +kernel⟩
abbrev s__law_word : Stmt := top 27
abbrev N__law_word : List Str := ["_law_cell", "_law_kind", "_law_number"]
abbrev P__law_word : List Str := ["_law_cell", "_law_kind"]
theorem sc__law_word : FnScope N__law_word P__law_word (defScope s__law_word) := ⟨rfl, rfl, rfl, by decide +kernel, rfl, by decide +kernel, by decide +kernel⟩
abbrev s_read_number : Stmt := top 18
abbrev N_read_number : List Str := ["word", "sign"]
abbrev P_read_number : List Str := ["word"]
theorem sc_read_number : FnScope N_read_number P_read_number (defScope s_read_number) := ⟨rfl, rfl, rfl, by decide +kernel, rfl, by decide +kernel, by decide +kernel⟩
abbrev s_read_value : Stmt := top 19
abbrev N_read_value : List Str := ["word", "number"]
abbrev P_read_value : List Str := ["word"]
theorem sc_read_value : FnScope N_read_value P_read_value (defScope s_read_value) := ⟨rfl, rfl, rfl, by decide +kernel, rfl, by decide +kernel, by decide +kernel⟩
abbrev s_read_rights : Stmt := top 20
abbrev N_read_rights : List Str := ["word"]
abbrev P_read_rights : List Str := ["word"]
theorem sc_read_rights : FnScope N_read_rights P_read_rights (defScope s_read_rights) := ⟨rfl, rfl, rfl, by decide +kernel, rfl, by decide +kernel, by decide +kernel⟩
abbrev s_read_row : Stmt := top 21
abbrev N_read_row : List Str := ["text", "words", "kinds", "deed", "word", "kind"]
abbrev P_read_row : List Str := ["text"]
theorem sc_read_row : FnScope N_read_row P_read_row (defScope s_read_row) := ⟨rfl, rfl, rfl, by decide +kernel, rfl, by decide +kernel, by decide +kernel⟩
abbrev s__law_refused : Stmt := top 33
abbrev N__law_refused : List Str := ["_law_row", "e"]
abbrev P__law_refused : List Str := ["_law_row"]
theorem sc__law_refused : FnScope N__law_refused P__law_refused (defScope s__law_refused) := ⟨rfl, rfl, rfl, by decide +kernel, rfl, by decide +kernel, by decide +kernel⟩
abbrev s__law_put : Stmt := top 28
abbrev N__law_put : List Str := ["_law_word_here", "_law_at", "_law_sign_here"]
abbrev P__law_put : List Str := ["_law_word_here", "_law_at", "_law_sign_here"]
theorem sc__law_put : FnScope N__law_put P__law_put (defScope s__law_put) := ⟨rfl, rfl, rfl, by decide +kernel, rfl, by decide +kernel, by decide +kernel⟩
abbrev s__law_sign : Stmt := top 25
abbrev N__law_sign : List Str := ["_law_cell", "_law_some"]
abbrev P__law_sign : List Str := ["_law_cell"]
theorem sc__law_sign : FnScope N__law_sign P__law_sign (defScope s__law_sign) := ⟨rfl, rfl, rfl, by decide +kernel, rfl, by decide +kernel, by decide +kernel⟩
abbrev s__law_other : Stmt := top 26
abbrev N__law_other : List Str := ["_law_sign_here", "_law_cell", "_law_barred", "_law_other_here"]
abbrev P__law_other : List Str := ["_law_sign_here", "_law_cell", "_law_barred"]
theorem sc__law_other : FnScope N__law_other P__law_other (defScope s__law_other) := ⟨rfl, rfl, rfl, by decide +kernel, rfl, by decide +kernel, by decide +kernel⟩
abbrev s__law_number_spoilt : Stmt := top 29
abbrev N__law_number_spoilt : List Str := ["_law_word_here", "_law_kind", "_law_way", "_law_cell", "_law_at"]
abbrev P__law_number_spoilt : List Str := ["_law_word_here", "_law_kind", "_law_way", "_law_cell"]
theorem sc__law_number_spoilt : FnScope N__law_number_spoilt P__law_number_spoilt (defScope s__law_number_spoilt) := ⟨rfl, rfl, rfl, by decide +kernel, rfl, by decide +kernel, by decide +kernel⟩
abbrev s__law_rights_spoilt : Stmt := top 30
abbrev N__law_rights_spoilt : List Str := ["_law_word_here", "_law_cell", "_law_at", "_law_menu"]
abbrev P__law_rights_spoilt : List Str := ["_law_word_here", "_law_cell"]
theorem sc__law_rights_spoilt : FnScope N__law_rights_spoilt P__law_rights_spoilt (defScope s__law_rights_spoilt) := ⟨rfl, rfl, rfl, by decide +kernel, rfl, by decide +kernel, by decide +kernel⟩
abbrev s__law_odd : Stmt := top 31
abbrev N__law_odd : List Str := ["_law_cell", "_law_odd_here"]
abbrev P__law_odd : List Str := ["_law_cell"]
theorem sc__law_odd : FnScope N__law_odd P__law_odd (defScope s__law_odd) := ⟨rfl, rfl, rfl, by decide +kernel, rfl, by decide +kernel, by decide +kernel⟩
abbrev s__law_spoilt : Stmt := top 32
abbrev N__law_spoilt : List Str := ["_law_words", "_law_kinds", "_law_way", "_law_cell", "_law_row", "_law_numbers", "_law_k", "_law_at", "_law_made"]
abbrev P__law_spoilt : List Str := ["_law_words", "_law_kinds", "_law_way", "_law_cell"]
theorem sc__law_spoilt : FnScope N__law_spoilt P__law_spoilt (defScope s__law_spoilt) := ⟨rfl, rfl, rfl, by decide +kernel, rfl, by decide +kernel, by decide +kernel⟩
abbrev s_law : Stmt := top 34
abbrev N_law : List Str := ["_law_script", "_law_word_here", "_law_kinds", "_law_words", "_law_k", "_law_row", "_law_cell", "_law_lead"]
abbrev P_law : List Str := ["_law_script"]
theorem sc_law : FnScope N_law P_law (defScope s_law) := ⟨rfl, rfl, rfl, by decide +kernel, rfl, by decide +kernel, by decide +kernel⟩
def fa0 : List He.Fa := [.exc "NoRow", .free "ValueError", .free "int", .free "isinstance", .free "len", .free "list", .free "range", .free "str", .free "tuple", .free "zip", .glo "BadRights", .glo "Busy", .glo "FrameError", .glo "NoBank", .glo "NoRight", .glo "NoRoom"]
def fa1 : List He.Fa := [.glo "NoRow", .glo "NoShape", .glo "NoTask", .glo "NotMapped", .glo "OutOfBank", .glo "OutOfRoom", .glo "Taken", .glo "WORDS", .glo "_law_cell_at", .glo "_law_form", .glo "_law_number_spoilt", .glo "_law_odd", .glo "_law_other", .glo "_law_put", .glo "_law_refused", .glo "_law_rights_spoilt"]
def fa2 : List He.Fa := [.glo "_law_sign", .glo "_law_spoilt", .glo "_law_word", .glo "read_number", .glo "read_rights", .glo "read_row", .glo "read_value", .int "MOST_FIGURES" 60, .str "FIGURES" "0123456789", .glo "law"]
abbrev fa : List (List He.Fa) := [fa0, fa1, fa2]
def d__law_form : He.DefD := ⟨("_law_form", none), "_law_form", "_law_form", defArgs s__law_form, defBody s__law_form, defScope s__law_form, [], []⟩
def d__law_cell_at : He.DefD := ⟨("_law_cell_at", none), "_law_cell_at", "_law_cell_at", defArgs s__law_cell_at, defBody s__law_cell_at, defScope s__law_cell_at, [], []⟩
def d__law_word : He.DefD := ⟨("_law_word", none), "_law_word", "_law_word", defArgs s__law_word, defBody s__law_word, defScope s__law_word, [], []⟩
def d_read_number : He.DefD := ⟨("read_number", none), "read_number", "read_number", defArgs s_read_number, defBody s_read_number, defScope s_read_number, [], []⟩
def d_read_value : He.DefD := ⟨("read_value", none), "read_value", "read_value", defArgs s_read_value, defBody s_read_value, defScope s_read_value, [], []⟩
def d_read_rights : He.DefD := ⟨("read_rights", none), "read_rights", "read_rights", defArgs s_read_rights, defBody s_read_rights, defScope s_read_rights, [], []⟩
def d_read_row : He.DefD := ⟨("read_row", none), "read_row", "read_row", defArgs s_read_row, defBody s_read_row, defScope s_read_row, [], []⟩
def d__law_refused : He.DefD := ⟨("_law_refused", none), "_law_refused", "_law_refused", defArgs s__law_refused, defBody s__law_refused, defScope s__law_refused, [], []⟩
def d__law_put : He.DefD := ⟨("_law_put", none), "_law_put", "_law_put", defArgs s__law_put, defBody s__law_put, defScope s__law_put, [], []⟩
def d__law_sign : He.DefD := ⟨("_law_sign", none), "_law_sign", "_law_sign", defArgs s__law_sign, defBody s__law_sign, defScope s__law_sign, [], []⟩
def d__law_other : He.DefD := ⟨("_law_other", none), "_law_other", "_law_other", defArgs s__law_other, defBody s__law_other, defScope s__law_other, [], []⟩
def d__law_number_spoilt : He.DefD := ⟨("_law_number_spoilt", none), "_law_number_spoilt", "_law_number_spoilt", defArgs s__law_number_spoilt, defBody s__law_number_spoilt, defScope s__law_number_spoilt, [], []⟩
def d__law_rights_spoilt : He.DefD := ⟨("_law_rights_spoilt", none), "_law_rights_spoilt", "_law_rights_spoilt", defArgs s__law_rights_spoilt, defBody s__law_rights_spoilt, defScope s__law_rights_spoilt, [], []⟩
def d__law_odd : He.DefD := ⟨("_law_odd", none), "_law_odd", "_law_odd", defArgs s__law_odd, defBody s__law_odd, defScope s__law_odd, [], []⟩
def d__law_spoilt : He.DefD := ⟨("_law_spoilt", none), "_law_spoilt", "_law_spoilt", defArgs s__law_spoilt, defBody s__law_spoilt, defScope s__law_spoilt, [], []⟩
def d_law : He.DefD := ⟨("law", none), "law", "law", defArgs s_law, defBody s_law, defScope s_law, [], []⟩
def fn0 : List He.DefD := [d__law_form, d__law_cell_at, d__law_word, d_read_number, d_read_value, d_read_rights, d_read_row, d__law_refused, d__law_put, d__law_sign, d__law_other, d__law_number_spoilt, d__law_rights_spoilt, d__law_odd, d__law_spoilt, d_law]
abbrev fn : List (List He.DefD) := [fn0]
abbrev TX (K : PySem.W.Frag) (mg : Str → Option Value) := Tx fa fn K mg
section
variable {K : PySem.W.Frag} {mg : Str → Option Value}
theorem ex_NoRow (T : TX K mg) : ExcP K "NoRow" := T.at 0 0 rfl rfl
theorem fr_ValueError (T : TX K mg) : mg "ValueError" = none := T.at 0 1 rfl rfl
theorem fr_int (T : TX K mg) : mg "int" = none := T.at 0 2 rfl rfl
theorem fr_isinstance (T : TX K mg) : mg "isinstance" = none := T.at 0 3 rfl rfl
theorem fr_len (T : TX K mg) : mg "len" = none := T.at 0 4 rfl rfl
theorem fr_list (T : TX K mg) : mg "list" = none := T.at 0 5 rfl rfl
theorem fr_range (T : TX K mg) : mg "range" = none := T.at 0 6 rfl rfl
theorem fr_str (T : TX K mg) : mg "str" = none := T.at 0 7 rfl rfl
theorem fr_tuple (T : TX K mg) : mg "tuple" = none := T.at 0 8 rfl rfl
theorem fr_zip (T : TX K mg) : mg "zip" = none := T.at 0 9 rfl rfl
theorem gl_BadRights (T : TX K mg) : mg "BadRights" = some (.ref (He.ga K "BadRights")) := T.at 0 10 rfl rfl
theorem gl_Busy (T : TX K mg) : mg "Busy" = some (.ref (He.ga K "Busy")) := T.at 0 11 rfl rfl
theorem gl_FrameError (T : TX K mg) : mg "FrameError" = some (.ref (He.ga K "FrameError")) := T.at 0 12 rfl rfl
theorem gl_NoBank (T : TX K mg) : mg "NoBank" = some (.ref (He.ga K "NoBank")) := T.at 0 13 rfl rfl
theorem gl_NoRight (T : TX K mg) : mg "NoRight" = some (.ref (He.ga K "NoRight")) := T.at 0 14 rfl rfl
theorem gl_NoRoom (T : TX K mg) : mg "NoRoom" = some (.ref (He.ga K "NoRoom")) := T.at 0 15 rfl rfl
theorem gl_NoRow (T : TX K mg) : mg "NoRow" = some (.ref (He.ga K "NoRow")) := T.at 1 0 rfl rfl
theorem gl_NoShape (T : TX K mg) : mg "NoShape" = some (.ref (He.ga K "NoShape")) := T.at 1 1 rfl rfl
theorem gl_NoTask (T : TX K mg) : mg "NoTask" = some (.ref (He.ga K "NoTask")) := T.at 1 2 rfl rfl
theorem gl_NotMapped (T : TX K mg) : mg "NotMapped" = some (.ref (He.ga K "NotMapped")) := T.at 1 3 rfl rfl
theorem gl_OutOfBank (T : TX K mg) : mg "OutOfBank" = some (.ref (He.ga K "OutOfBank")) := T.at 1 4 rfl rfl
theorem gl_OutOfRoom (T : TX K mg) : mg "OutOfRoom" = some (.ref (He.ga K "OutOfRoom")) := T.at 1 5 rfl rfl
theorem gl_Taken (T : TX K mg) : mg "Taken" = some (.ref (He.ga K "Taken")) := T.at 1 6 rfl rfl
theorem gl_WORDS (T : TX K mg) : mg "WORDS" = some (.ref (He.ga K "WORDS")) := T.at 1 7 rfl rfl
theorem gl__law_cell_at (T : TX K mg) : mg "_law_cell_at" = some (.ref (He.ga K "_law_cell_at")) := T.at 1 8 rfl rfl
theorem gl__law_form (T : TX K mg) : mg "_law_form" = some (.ref (He.ga K "_law_form")) := T.at 1 9 rfl rfl
theorem gl__law_number_spoilt (T : TX K mg) : mg "_law_number_spoilt" = some (.ref (He.ga K "_law_number_spoilt")) := T.at 1 10 rfl rfl
theorem gl__law_odd (T : TX K mg) : mg "_law_odd" = some (.ref (He.ga K "_law_odd")) := T.at 1 11 rfl rfl
theorem gl__law_other (T : TX K mg) : mg "_law_other" = some (.ref (He.ga K "_law_other")) := T.at 1 12 rfl rfl
theorem gl__law_put (T : TX K mg) : mg "_law_put" = some (.ref (He.ga K "_law_put")) := T.at 1 13 rfl rfl
theorem gl__law_refused (T : TX K mg) : mg "_law_refused" = some (.ref (He.ga K "_law_refused")) := T.at 1 14 rfl rfl
theorem gl__law_rights_spoilt (T : TX K mg) : mg "_law_rights_spoilt" = some (.ref (He.ga K "_law_rights_spoilt")) := T.at 1 15 rfl rfl
theorem gl__law_sign (T : TX K mg) : mg "_law_sign" = some (.ref (He.ga K "_law_sign")) := T.at 2 0 rfl rfl
theorem gl__law_spoilt (T : TX K mg) : mg "_law_spoilt" = some (.ref (He.ga K "_law_spoilt")) := T.at 2 1 rfl rfl
theorem gl__law_word (T : TX K mg) : mg "_law_word" = some (.ref (He.ga K "_law_word")) := T.at 2 2 rfl rfl
theorem gl_read_number (T : TX K mg) : mg "read_number" = some (.ref (He.ga K "read_number")) := T.at 2 3 rfl rfl
theorem gl_read_rights (T : TX K mg) : mg "read_rights" = some (.ref (He.ga K "read_rights")) := T.at 2 4 rfl rfl
theorem gl_read_row (T : TX K mg) : mg "read_row" = some (.ref (He.ga K "read_row")) := T.at 2 5 rfl rfl
theorem gl_read_value (T : TX K mg) : mg "read_value" = some (.ref (He.ga K "read_value")) := T.at 2 6 rfl rfl
theorem gi_MOST_FIGURES (T : TX K mg) : ∃ t, mg "MOST_FIGURES" = some (.int 60 t) := T.at 2 7 rfl rfl
theorem kp__law_cell_at (T : TX K mg) : PySem.W.keepIn K (.ref (He.ga K "_law_cell_at")) = true := (kp_of (T.df 0 1 rfl rfl))
theorem kp__law_form (T : TX K mg) : PySem.W.keepIn K (.ref (He.ga K "_law_form")) = true := (kp_of (T.df 0 0 rfl rfl))
theorem kp__law_number_spoilt (T : TX K mg) : PySem.W.keepIn K (.ref (He.ga K "_law_number_spoilt")) = true := (kp_of (T.df 0 11 rfl rfl))
theorem kp__law_odd (T : TX K mg) : PySem.W.keepIn K (.ref (He.ga K "_law_odd")) = true := (kp_of (T.df 0 13 rfl rfl))
theorem kp__law_other (T : TX K mg) : PySem.W.keepIn K (.ref (He.ga K "_law_other")) = true := (kp_of (T.df 0 10 rfl rfl))
theorem kp__law_put (T : TX K mg) : PySem.W.keepIn K (.ref (He.ga K "_law_put")) = true := (kp_of (T.df 0 8 rfl rfl))
theorem kp__law_refused (T : TX K mg) : PySem.W.keepIn K (.ref (He.ga K "_law_refused")) = true := (kp_of (T.df 0 7 rfl rfl))
theorem kp__law_rights_spoilt (T : TX K mg) : PySem.W.keepIn K (.ref (He.ga K "_law_rights_spoilt")) = true := (kp_of (T.df 0 12 rfl rfl))
theorem kp__law_sign (T : TX K mg) : PySem.W.keepIn K (.ref (He.ga K "_law_sign")) = true := (kp_of (T.df 0 9 rfl rfl))
theorem kp__law_spoilt (T : TX K mg) : PySem.W.keepIn K (.ref (He.ga K "_law_spoilt")) = true := (kp_of (T.df 0 14 rfl rfl))
theorem kp__law_word (T : TX K mg) : PySem.W.keepIn K (.ref (He.ga K "_law_word")) = true := (kp_of (T.df 0 2 rfl rfl))
theorem kp_read_number (T : TX K mg) : PySem.W.keepIn K (.ref (He.ga K "read_number")) = true := (kp_of (T.df 0 3 rfl rfl))
theorem kp_read_rights (T : TX K mg) : PySem.W.keepIn K (.ref (He.ga K "read_rights")) = true := (kp_of (T.df 0 5 rfl rfl))
theorem kp_read_row (T : TX K mg) : PySem.W.keepIn K (.ref (He.ga K "read_row")) = true := (kp_of (T.df 0 6 rfl rfl))
theorem kp_read_value (T : TX K mg) : PySem.W.keepIn K (.ref (He.ga K "read_value")) = true := (kp_of (T.df 0 4 rfl rfl))
theorem gs_FIGURES (T : TX K mg) : ∃ t, mg "FIGURES" = some (.str "0123456789" t) := T.at 2 8 rfl rfl
end
section
variable {P : Program} {w : World} {K : PySem.W.Frag} {mg : Str → Option Value} {base : Heap}
theorem dv__law_form (T : TX K mg) {f : Addr} {cdv : Value} {A : Around} {outer : List Env} {s : Shared} {H : Hp} {E : XK} (hr : Room 0 (A.deeper (envOfC "_law_form" (defScope s__law_form) s.heap.objs.size f cdv))) :
    PSs (cxOf (L2.CX P w) P w K mg base N__law_form "_law_form" (defScope s__law_form) f cdv A outer s H E) (defBody s__law_form) (r__law_form K (WX0 E)) := by
  have hu := hu_of hr
  have hu64 := hr.units
  have tk : Takes (cxOf (L2.CX P w) P w K mg base N__law_form "_law_form" (defScope s__law_form) f cdv A outer s H E) (WX0 E) := takes_of rfl rfl rfl rfl
  exact (pss_cons (pm_set 1 sc__law_form.nd (pm_lstE (pa_cons (pm_tupE (pa_cons pe_str (pa_cons pe_str pa_nil))) (pa_cons (pm_tupE (pa_cons pe_str (pa_cons pe_str pa_nil))) (pa_cons (pm_tupE (pa_cons pe_str (pa_cons pe_str pa_nil))) (pa_cons (pm_tupE (pa_cons pe_str (pa_cons pe_str pa_nil))) (pa_cons (pm_tupE (pa_cons pe_str (pa_cons pe_str pa_nil))) (pa_cons (pm_tupE (pa_cons pe_str (pa_cons pe_str pa_nil))) pa_nil))))))))
    (pss_cons (pm_set 1 sc__law_form.nd (pe_op m_add (pv 1) (pm_lstE (pa_cons (pm_tupE (pa_cons pe_str (pa_cons pe_str pa_nil))) (pa_cons (pm_tupE (pa_cons pe_str (pa_cons pe_str pa_nil))) (pa_cons (pm_tupE (pa_cons pe_str (pa_cons pe_str pa_nil))) (pa_cons (pm_tupE (pa_cons pe_str (pa_cons pe_str pa_nil))) (pa_cons (pm_tupE (pa_cons pe_str (pa_cons pe_str pa_nil))) pa_nil))))))))
    (pss_cons (pm_set 1 sc__law_form.nd (pe_op m_add (pv 1) (pm_lstE (pa_cons (pm_tupE (pa_cons pe_str (pa_cons pe_str pa_nil))) (pa_cons (pm_tupE (pa_cons pe_str (pa_cons pe_str pa_nil))) (pa_cons (pm_tupE (pa_cons pe_str (pa_cons pe_str pa_nil))) (pa_cons (pm_tupE (pa_cons pe_str (pa_cons pe_str pa_nil))) pa_nil)))))))
    (pss_one (ps_ret (pe_ix (m_ix hu) (pv 1) (pe_op m_mod (pv 0) pe_int) fun _ _ => rfl))))))
theorem dv__law_cell_at (T : TX K mg) {f : Addr} {cdv : Value} {A : Around} {outer : List Env} {s : Shared} {H : Hp} {E : XK} (hr : Room 0 (A.deeper (envOfC "_law_cell_at" (defScope s__law_cell_at) s.heap.objs.size f cdv))) :
    PSs (cxOf (L2.CX P w) P w K mg base N__law_cell_at "_law_cell_at" (defScope s__law_cell_at) f cdv A outer s H E) (defBody s__law_cell_at) (r__law_cell_at K (WX0 E)) := by
  have hu := hu_of hr
  have hu64 := hr.units
  have tk : Takes (cxOf (L2.CX P w) P w K mg base N__law_cell_at "_law_cell_at" (defScope s__law_cell_at) f cdv A outer s H E) (WX0 E) := takes_of rfl rfl rfl rfl
  exact (pss_cons (ps_if (pt_cmpR m_lt (pv 1) (pe_callB call_mLenS rfl (fr_len T) PySem.boot_len (pa_cons (pv 0) pa_nil)) (nomark _)) (pss_one (ps_ret (pe_ix ix_list (pv 0) (pv 1) fun _ _ => rfl))) pss_nil)
    (pss_one (ps_ret pe_int)))
theorem dv__law_word (T : TX K mg) {f : Addr} {cdv : Value} {A : Around} {outer : List Env} {s : Shared} {H : Hp} {E : XK} (hr : Room 0 (A.deeper (envOfC "_law_word" (defScope s__law_word) s.heap.objs.size f cdv))) :
    PSs (cxOf (L2.CX P w) P w K mg base N__law_word "_law_word" (defScope s__law_word) f cdv A outer s H E) (defBody s__law_word) (r__law_word K (WX0 E)) := by
  have hu := hu_of hr
  have hu64 := hr.units
  have tk : Takes (cxOf (L2.CX P w) P w K mg base N__law_word "_law_word" (defScope s__law_word) f cdv A outer s H E) (WX0 E) := takes_of rfl rfl rfl rfl
  exact (pss_cons (ps_if (pt_cmpR m_eq (pv 1) pe_str (nomark _)) (pss_one (ps_ret (pe_ix (m_ix hu) (pm_lstE (pa_cons pe_str (pa_cons pe_str (pa_cons pe_str (pa_cons pe_str pa_nil))))) (pe_op m_mod (pv 0) pe_int) fun _ _ => rfl))) pss_nil)
    (pss_cons (pm_set 2 sc__law_word.nd (pe_op m_mod (pe_op m_fdiv (pv 0) pe_int) (pe_op m_pow pe_int pe_int)))
    (pss_cons (ps_if (pt_cmpR m_eq (pe_op m_mod (pv 0) pe_int) pe_int (nomark _)) (pss_one (pm_set 2 sc__law_word.nd (pe_op m_mod (pe_op m_fdiv (pv 0) pe_int) pe_int))) pss_nil)
    (pss_one (ps_ret (pe_callTy call_mStr rfl (fr_str T) (by decide +kernel) (pa_cons (pv 2) pa_nil)))))))
theorem dv_read_number (T : TX K mg) {f : Addr} {cdv : Value} {A : Around} {outer : List Env} {s : Shared} {H : Hp} {E : XK} (hr : Room 0 (A.deeper (envOfC "read_number" (defScope s_read_number) s.heap.objs.size f cdv))) :
    PSs (cxOf (L2.CX P w) P w K mg base N_read_number "read_number" (defScope s_read_number) f cdv A outer s H E) (defBody s_read_number) (r_read_number K (WX0 E)) := by
  have hu := hu_of hr
  have hu64 := hr.units
  have tk : Takes (cxOf (L2.CX P w) P w K mg base N_read_number "read_number" (defScope s_read_number) f cdv A outer s H E) (WX0 E) := takes_of rfl rfl rfl rfl
  exact (pss_cons (ps_if (pt_not (pt_chain m_le m_le pe_int (pe_callB call_mLen rfl (fr_len T) (by decide +kernel) (pa_cons (pv 0) pa_nil)) (by obtain ⟨t, ht⟩ := gi_MOST_FIGURES T; exact pe_glob rfl ht ⟨t, rfl⟩))) (pss_one (pm_raise tk (ex_NoRow T) (gl_NoRow T))) pss_nil)
    (pss_cons (ps_for (passes_of rfl) rfl (pi_str (pv 0)) (pm_name 1 sc_read_number.nd) (pss_one (ps_if (pt_cmpR (m_notIn hu) (pv 1) (by obtain ⟨t, ht⟩ := gs_FIGURES T; exact pe_glob rfl ht ⟨t, rfl⟩) (by with_unfolding_all rfl)) (pss_one (pm_raise tk (ex_NoRow T) (gl_NoRow T))) pss_nil)))
    (pss_cons (ps_if (PW.pt (pw_and (pt_cmpR m_gt (pe_callB call_mLen rfl (fr_len T) (by decide +kernel) (pa_cons (pv 0) pa_nil)) pe_int (nomark _)) (pw_and1 (pt_cmpR m_eq (pe_ix (m_ix hu) (pv 0) pe_int fun _ _ => rfl) pe_str (nomark _))))) (pss_one (pm_raise tk (ex_NoRow T) (gl_NoRow T))) pss_nil)
    (pss_one (ps_ret (pe_callTy call_mInt rfl (fr_int T) (by decide +kernel) (pa_cons (pv 0) pa_nil)))))))
theorem dv_read_value (T : TX K mg) (F_read_number : Fk P w K mg base (He.fAd K ("read_number", none)) P_read_number [] 1 (sp_read_number K)) {f : Addr} {cdv : Value} {A : Around} {outer : List Env} {s : Shared} {H : Hp} {E : XK} (hr : Room 1 (A.deeper (envOfC "read_value" (defScope s_read_value) s.heap.objs.size f cdv))) :
    PSs (cxOf (L2.CX P w) P w K mg base N_read_value "read_value" (defScope s_read_value) f cdv A outer s H E) (defBody s_read_value) (r_read_value K (WX0 E)) := by
  have hu := hu_of hr
  have hu64 := hr.units
  have tk : Takes (cxOf (L2.CX P w) P w K mg base N_read_value "read_value" (defScope s_read_value) f cdv A outer s H E) (WX0 E) := takes_of rfl rfl rfl rfl
  exact (pss_cons (ps_if (pt_not (pt_val (pm_bm PySem.F.plainAttrs_str PySem.F.slot_str_startswith PySem.F.type_str_startswith m_starts (pv 0) (pa_cons pe_str pa_nil)))) (pss_one (ps_ret (pm_call F_read_number (hr.mono (by decide)) tk (gl_read_number T) (kp_read_number T) (pa_cons (pv 0) pa_nil)))) pss_nil)
    (pss_cons (pm_set 1 sc_read_value.nd (pm_call F_read_number (hr.mono (by decide)) tk (gl_read_number T) (kp_read_number T) (pa_cons (pe_slice m_sl (pv 0) (po_some pe_int) po_none) pa_nil)))
    (pss_cons (ps_if (pt_cmpR m_eq (pv 1) pe_int (nomark _)) (pss_one (pm_raise tk (ex_NoRow T) (gl_NoRow T))) pss_nil)
    (pss_one (ps_ret (pe_un m_neg (pv 1)))))))
theorem dv_read_rights (T : TX K mg) {f : Addr} {cdv : Value} {A : Around} {outer : List Env} {s : Shared} {H : Hp} {E : XK} (hr : Room 0 (A.deeper (envOfC "read_rights" (defScope s_read_rights) s.heap.objs.size f cdv))) :
    PSs (cxOf (L2.CX P w) P w K mg base N_read_rights "read_rights" (defScope s_read_rights) f cdv A outer s H E) (defBody s_read_rights) (r_read_rights K (WX0 E)) := by
  have hu := hu_of hr
  have hu64 := hr.units
  have tk : Takes (cxOf (L2.CX P w) P w K mg base N_read_rights "read_rights" (defScope s_read_rights) f cdv A outer s H E) (WX0 E) := takes_of rfl rfl rfl rfl
  exact (pss_cons (ps_if (PW.pt (pw_or (pt_cmpR m_ne (pe_callB call_mLen rfl (fr_len T) (by decide +kernel) (pa_cons (pv 0) pa_nil)) pe_int (nomark _)) (pw_or (pt_cmpR (m_notIn hu) (pe_ix (m_ix hu) (pv 0) pe_int fun _ _ => rfl) pe_str (by with_unfolding_all rfl)) (pw_or1 (pt_cmpR (m_notIn hu) (pe_ix (m_ix hu) (pv 0) pe_int fun _ _ => rfl) pe_str (by with_unfolding_all rfl)))))) (pss_one (pm_raise tk (ex_NoRow T) (gl_NoRow T))) pss_nil)
    (pss_one (ps_ret (pe_op m_add (pe_callTy call_mInt rfl (fr_int T) (by decide +kernel) (pa_cons (pe_cmpR m_eq (pe_ix (m_ix hu) (pv 0) pe_int fun _ _ => rfl) pe_str (nomark _)) pa_nil)) (pe_op m_mul pe_int (pe_callTy call_mInt rfl (fr_int T) (by decide +kernel) (pa_cons (pe_cmpR m_eq (pe_ix (m_ix hu) (pv 0) pe_int fun _ _ => rfl) pe_str (nomark _)) pa_nil)))))))
theorem dv_read_row (T : TX K mg) (Tt_WORDS : TabOk K w (He.ga K "WORDS") tab_WORDS) (F_read_number : Fk P w K mg base (He.fAd K ("read_number", none)) P_read_number [] 1 (sp_read_number K)) (F_read_value : Fk P w K mg base (He.fAd K ("read_value", none)) P_read_value [] 2 (sp_read_value K)) (F_read_rights : Fk P w K mg base (He.fAd K ("read_rights", none)) P_read_rights [] 1 (sp_read_rights K)) {f : Addr} {cdv : Value} {A : Around} {outer : List Env} {s : Shared} {H : Hp} {E : XK} (hr : Room 2 (A.deeper (envOfC "read_row" (defScope s_read_row) s.heap.objs.size f cdv))) :
    PSs (cxOf (L2.CX P w) P w K mg base N_read_row "read_row" (defScope s_read_row) f cdv A outer s H E) (defBody s_read_row) (r_read_row K (WX0 E)) := by
  have hu := hu_of hr
  have hu64 := hr.units
  have tk : Takes (cxOf (L2.CX P w) P w K mg base N_read_row "read_row" (defScope s_read_row) f cdv A outer s H E) (WX0 E) := takes_of rfl rfl rfl rfl
  exact (pss_cons (pm_set 1 sc_read_row.nd (pm_bm PySem.F.plainAttrs_str PySem.F.slot_str_split PySem.F.type_str_split m_split (pv 0) (pa_cons pe_str pa_nil)))
    (pss_cons (ps_if (pt_cmpR (m_notInTab Tt_WORDS) (pe_ix (m_ix hu) (pv 1) pe_int fun _ _ => rfl) (pe_glob rfl (gl_WORDS T) rfl) (by with_unfolding_all rfl)) (pss_one (pm_raise tk (ex_NoRow T) (gl_NoRow T))) pss_nil)
    (pss_cons (pm_set 2 sc_read_row.nd (pe_ix (m_tabIx Tt_WORDS) (pe_glob rfl (gl_WORDS T) rfl) (pe_ix (m_ix hu) (pv 1) pe_int fun _ _ => rfl) fun _ _ => rfl))
    (pss_cons (ps_if (PW.pt (pw_and (pt_cmpR m_eq (pe_ix (m_ix hu) (pv 1) pe_int fun _ _ => rfl) pe_str (nomark _)) (pw_and1 (pt_cmpR m_eq (pe_callB call_mLen rfl (fr_len T) (by decide +kernel) (pa_cons (pv 1) pa_nil)) pe_int (nomark _))))) (pss_one (pm_set 2 sc_read_row.nd (pe_op m_add (pv 2) pe_str))) pss_nil)
    (pss_cons (ps_if (pt_cmpR m_ne (pe_callB call_mLen rfl (fr_len T) (by decide +kernel) (pa_cons (pv 1) pa_nil)) (pe_op m_add (pe_callB call_mLen rfl (fr_len T) (by decide +kernel) (pa_cons (pv 2) pa_nil)) pe_int) (nomark _)) (pss_one (pm_raise tk (ex_NoRow T) (gl_NoRow T))) pss_nil)
    (pss_cons (pm_set 3 sc_read_row.nd (pm_lstE (pa_cons (pe_ix (m_ix hu) (pv 1) pe_int fun _ _ => rfl) pa_nil)))
    (pss_cons (ps_for (passes_of rfl) rfl (pi_zipS (fr_zip T) (pa_cons (pe_slice m_sl (pv 1) (po_some pe_int) po_none) (pa_cons (pv 2) pa_nil))) (pm_tup rfl (pgs_cons (pm_name 4 sc_read_row.nd) (pgs_cons (pm_name 5 sc_read_row.nd) pgs_nil))) (pss_one (ps_if (pt_cmpR m_eq (pv 5) pe_str (nomark _)) (pss_one (ps_expr (pm_bm PySem.F.plainAttrs_list PySem.F.slot_list_append PySem.F.type_list_append m_append (pv 3) (pa_cons (pm_call F_read_number (hr.mono (by decide)) tk (gl_read_number T) (kp_read_number T) (pa_cons (pv 4) pa_nil)) pa_nil)))) (pss_one (ps_if (pt_cmpR m_eq (pv 5) pe_str (nomark _)) (pss_one (ps_expr (pm_bm PySem.F.plainAttrs_list PySem.F.slot_list_append PySem.F.type_list_append m_append (pv 3) (pa_cons (pm_call F_read_value (hr.mono (by decide)) tk (gl_read_value T) (kp_read_value T) (pa_cons (pv 4) pa_nil)) pa_nil)))) (pss_one (ps_expr (pm_bm PySem.F.plainAttrs_list PySem.F.slot_list_append PySem.F.type_list_append m_append (pv 3) (pa_cons (pm_call F_read_rights (hr.mono (by decide)) tk (gl_read_rights T) (kp_read_rights T) (pa_cons (pv 4) pa_nil)) pa_nil)))))))))
    (pss_cons (ps_if (PW.pt (pw_and (pt_cmpR m_eq (pe_ix (m_ix hu) (pv 1) pe_int fun _ _ => rfl) pe_str (nomark _)) (pw_and1 (pt_cmpR m_eq (pe_callB call_mLen rfl (fr_len T) (by decide +kernel) (pa_cons (pv 1) pa_nil)) pe_int (nomark _))))) (pss_one (pm_set 3 sc_read_row.nd (pe_op m_add (pv 3) (pm_lstE (pa_cons pe_non (pa_cons pe_int pa_nil)))))) pss_nil)
    (pss_one (ps_ret (pe_callTy call_mTupOf rfl (fr_tuple T) (by decide +kernel) (pa_cons (pv 3) pa_nil))))))))))))
theorem dv__law_refused (T : TX K mg) (Xn : XN K exN) (F_read_row : Fk P w K mg base (He.fAd K ("read_row", none)) P_read_row [] 3 (sp_read_row K)) {f : Addr} {cdv : Value} {A : Around} {outer : List Env} {s : Shared} {H : Hp} {E : XK} (hr : Room 3 (A.deeper (envOfC "_law_refused" (defScope s__law_refused) s.heap.objs.size f cdv))) :
    PSs (cxOf (L2.CX P w) P w K mg base N__law_refused "_law_refused" (defScope s__law_refused) f cdv A outer s H E) (defBody s__law_refused) (r__law_refused K (WX0 E)) := by
  have hu := hu_of hr
  have hu64 := hr.units
  have tk : Takes (cxOf (L2.CX P w) P w K mg base N__law_refused "_law_refused" (defScope s__law_refused) f cdv A outer s H E) (WX0 E) := takes_of rfl rfl rfl rfl
  exact (pss_cons (pm_tryAs (tb := fun W2 => (r__law_refused_0y0 K W2)) (ts := fun xa xn => (r__law_refused_0x0 K (WX0 E) xa xn)) rfl rfl sc__law_refused.nd (i := 1) rfl rfl Xn ⟨rfl, by decide, .inl (gl_FrameError T)⟩ tk (fun W2 pn xe tk2 po2 => (pss_one (ps_expr (pm_call F_read_row (hr.mono (by decide)) tk2 (gl_read_row T) (kp_read_row T) (pa_cons (pv 0) pa_nil))))) (fun xa oe xn pn hxn hz hfl => (pss_cons (ps_if (pt_val (pe_callB (call_mIsE Xn List.mem_cons_self hz hfl) rfl (fr_isinstance T) (by decide +kernel) (pa_cons (pv 1) (pa_cons (pm_tupE (pa_cons (pe_glob rfl (gl_NoShape T) rfl) (pa_cons (pe_glob rfl (gl_OutOfRoom T) rfl) (pa_cons (pe_glob rfl (gl_BadRights T) rfl) (pa_cons (pe_glob rfl (gl_NoTask T) rfl) (pa_cons (pe_glob rfl (gl_NoBank T) rfl) (pa_cons (pe_glob rfl (gl_OutOfBank T) rfl) (pa_cons (pe_glob rfl (gl_Taken T) rfl) pa_nil)))))))) pa_nil)))) (pss_one (ps_ret pe_bl)) pss_nil)
    (pss_cons (ps_if (pt_val (pe_callB (call_mIsE Xn List.mem_cons_self hz hfl) rfl (fr_isinstance T) (by decide +kernel) (pa_cons (pv 1) (pa_cons (pm_tupE (pa_cons (pe_glob rfl (gl_NotMapped T) rfl) (pa_cons (pe_glob rfl (gl_NoRight T) rfl) (pa_cons (pe_glob rfl (gl_NoRoom T) rfl) (pa_cons (pe_glob rfl (gl_Busy T) rfl) pa_nil))))) pa_nil)))) (pss_one (ps_ret pe_bl)) pss_nil)
    (pss_one (ps_ret (pe_and (pe_callB (call_mIsE Xn List.mem_cons_self hz hfl) rfl (fr_isinstance T) (by decide +kernel) (pa_cons (pv 1) (pa_cons (pe_glob rfl (gl_NoRow T) rfl) pa_nil))) (pe_one (pe_callB (call_mIsE Xn List.mem_cons_self hz hfl) rfl (fr_isinstance T) (by decide +kernel) (pa_cons (pv 1) (pa_cons (pe_bltn rfl (fr_ValueError T) (by decide +kernel) rfl) pa_nil)))))))))))
    (pss_one (ps_ret pe_bl)))
theorem dv__law_put (T : TX K mg) {f : Addr} {cdv : Value} {A : Around} {outer : List Env} {s : Shared} {H : Hp} {E : XK} (hr : Room 0 (A.deeper (envOfC "_law_put" (defScope s__law_put) s.heap.objs.size f cdv))) :
    PSs (cxOf (L2.CX P w) P w K mg base N__law_put "_law_put" (defScope s__law_put) f cdv A outer s H E) (defBody s__law_put) (r__law_put K (WX0 E)) := by
  have hu := hu_of hr
  have hu64 := hr.units
  have tk : Takes (cxOf (L2.CX P w) P w K mg base N__law_put "_law_put" (defScope s__law_put) f cdv A outer s H E) (WX0 E) := takes_of rfl rfl rfl rfl
  exact (pss_one (ps_ret (pe_op m_add (pe_op m_add (pe_slice m_sl (pv 0) po_none (po_some (pv 1))) (pv 2)) (pe_slice m_sl (pv 0) (po_some (pe_op m_add (pv 1) pe_int)) po_none))))
theorem dv__law_sign (T : TX K mg) {f : Addr} {cdv : Value} {A : Around} {outer : List Env} {s : Shared} {H : Hp} {E : XK} (hr : Room 0 (A.deeper (envOfC "_law_sign" (defScope s__law_sign) s.heap.objs.size f cdv))) :
    PSs (cxOf (L2.CX P w) P w K mg base N__law_sign "_law_sign" (defScope s__law_sign) f cdv A outer s H E) (defBody s__law_sign) (r__law_sign K (WX0 E)) := by
  have hu := hu_of hr
  have hu64 := hr.units
  have tk : Takes (cxOf (L2.CX P w) P w K mg base N__law_sign "_law_sign" (defScope s__law_sign) f cdv A outer s H E) (WX0 E) := takes_of rfl rfl rfl rfl
  exact (pss_cons (pm_set 1 sc__law_sign.nd pe_str)
    (pss_cons (pm_set 1 sc__law_sign.nd (pe_op m_add (pv 1) pe_str))
    (pss_one (ps_ret (pe_ix (m_ix hu) (pv 1) (pe_op m_mod (pv 0) pe_int) fun _ _ => rfl)))))
theorem dv__law_other (T : TX K mg) (F__law_sign : Fk P w K mg base (He.fAd K ("_law_sign", none)) P__law_sign [] 1 (sp__law_sign K)) {f : Addr} {cdv : Value} {A : Around} {outer : List Env} {s : Shared} {H : Hp} {E : XK} (hr : Room 1 (A.deeper (envOfC "_law_other" (defScope s__law_other) s.heap.objs.size f cdv))) :
    PSs (cxOf (L2.CX P w) P w K mg base N__law_other "_law_other" (defScope s__law_other) f cdv A outer s H E) (defBody s__law_other) (r__law_other K (WX0 E)) := by
  have hu := hu_of hr
  have hu64 := hr.units
  have tk : Takes (cxOf (L2.CX P w) P w K mg base N__law_other "_law_other" (defScope s__law_other) f cdv A outer s H E) (WX0 E) := takes_of rfl rfl rfl rfl
  exact (pss_cons (pm_set 3 sc__law_other.nd (pm_call F__law_sign (hr.mono (by decide)) tk (gl__law_sign T) (kp__law_sign T) (pa_cons (pv 1) pa_nil)))
    (pss_cons (ps_if (PW.pt (pw_or (pt_cmpR m_eq (pv 3) (pv 0) (nomark _)) (pw_or1 (pt_cmpR (m_in hu) (pv 3) (pv 2) (by with_unfolding_all rfl))))) (pss_one (ps_ret pe_str)) pss_nil)
    (pss_one (ps_ret (pv 3)))))
theorem dv__law_number_spoilt (T : TX K mg) (F__law_put : Fk P w K mg base (He.fAd K ("_law_put", none)) P__law_put [] 1 (sp__law_put K)) (F__law_other : Fk P w K mg base (He.fAd K ("_law_other", none)) P__law_other [] 2 (sp__law_other K)) {f : Addr} {cdv : Value} {A : Around} {outer : List Env} {s : Shared} {H : Hp} {E : XK} (hr : Room 2 (A.deeper (envOfC "_law_number_spoilt" (defScope s__law_number_spoilt) s.heap.objs.size f cdv))) :
    PSs (cxOf (L2.CX P w) P w K mg base N__law_number_spoilt "_law_number_spoilt" (defScope s__law_number_spoilt) f cdv A outer s H E) (defBody s__law_number_spoilt) (r__law_number_spoilt K (WX0 E)) := by
  have hu := hu_of hr
  have hu64 := hr.units
  have tk : Takes (cxOf (L2.CX P w) P w K mg base N__law_number_spoilt "_law_number_spoilt" (defScope s__law_number_spoilt) f cdv A outer s H E) (WX0 E) := takes_of rfl rfl rfl rfl
  exact (pss_cons (ps_if (pt_cmpR m_eq (pv 2) pe_int (nomark _)) (pss_one (ps_ret (pe_op m_add pe_str (pv 0)))) pss_nil)
    (pss_cons (ps_if (PW.pt (pw_and (pt_cmpR m_eq (pv 2) pe_int (nomark _)) (pw_and1 (pt_cmpR m_eq (pv 1) pe_str (nomark _))))) (pss_one (ps_ret (pe_ix (m_ix hu) (pm_lstE (pa_cons (pe_op m_add pe_str (pv 0)) (pa_cons pe_str (pa_cons (pe_op m_add pe_str (pv 0)) (pa_cons (pe_op m_add pe_str (pv 0)) pa_nil))))) (pe_op m_mod (pv 3) pe_int) fun _ _ => rfl))) pss_nil)
    (pss_cons (ps_if (pt_cmpR m_eq (pv 2) pe_int (nomark _)) (pss_one (ps_ret (pe_op m_add (pe_ix (m_ix hu) (pm_lstE (pa_cons pe_str (pa_cons pe_str pa_nil))) (pe_op m_mod (pv 3) pe_int) fun _ _ => rfl) (pv 0)))) pss_nil)
    (pss_cons (ps_if (pt_cmpR m_eq (pv 2) pe_int (nomark _)) (pss_one (ps_ret (pe_op m_add (pe_callTy call_mStr rfl (fr_str T) (by decide +kernel) (pa_cons (pe_op m_add pe_int (pe_op m_mod (pv 3) pe_int)) pa_nil)) (pe_slice m_sl (pe_op m_repS (pv 0) pe_int) po_none (po_some pe_int))))) pss_nil)
    (pss_cons (pm_set 4 sc__law_number_spoilt.nd (pe_op m_mod (pv 3) (pe_callB call_mLen rfl (fr_len T) (by decide +kernel) (pa_cons (pv 0) pa_nil))))
    (pss_one (ps_ret (pm_call F__law_put (hr.mono (by decide)) tk (gl__law_put T) (kp__law_put T) (pa_cons (pv 0) (pa_cons (pv 4) (pa_cons (pm_call F__law_other (hr.mono (by decide)) tk (gl__law_other T) (kp__law_other T) (pa_cons (pe_ix (m_ix hu) (pv 0) (pv 4) fun _ _ => rfl) (pa_cons (pe_op m_fdiv (pv 3) pe_int) (pa_cons pe_str pa_nil)))) pa_nil)))))))))))
theorem dv__law_rights_spoilt (T : TX K mg) (F__law_put : Fk P w K mg base (He.fAd K ("_law_put", none)) P__law_put [] 1 (sp__law_put K)) (F__law_other : Fk P w K mg base (He.fAd K ("_law_other", none)) P__law_other [] 2 (sp__law_other K)) {f : Addr} {cdv : Value} {A : Around} {outer : List Env} {s : Shared} {H : Hp} {E : XK} (hr : Room 2 (A.deeper (envOfC "_law_rights_spoilt" (defScope s__law_rights_spoilt) s.heap.objs.size f cdv))) :
    PSs (cxOf (L2.CX P w) P w K mg base N__law_rights_spoilt "_law_rights_spoilt" (defScope s__law_rights_spoilt) f cdv A outer s H E) (defBody s__law_rights_spoilt) (r__law_rights_spoilt K (WX0 E)) := by
  have hu := hu_of hr
  have hu64 := hr.units
  have tk : Takes (cxOf (L2.CX P w) P w K mg base N__law_rights_spoilt "_law_rights_spoilt" (defScope s__law_rights_spoilt) f cdv A outer s H E) (WX0 E) := takes_of rfl rfl rfl rfl
  exact (pss_cons (pm_set 2 sc__law_rights_spoilt.nd (pe_op m_mod (pv 1) pe_int))
    (pss_cons (pm_set 3 sc__law_rights_spoilt.nd (pm_lstE (pa_cons pe_str (pa_cons pe_str (pa_cons pe_str (pa_cons pe_str (pa_cons pe_str (pa_cons pe_str (pa_cons pe_str (pa_cons pe_str (pa_cons pe_str (pa_cons pe_str (pa_cons pe_str (pa_cons pe_str pa_nil))))))))))))))
    (pss_cons (ps_if (pt_cmpR m_eq (pe_op m_mod (pe_op m_fdiv (pv 1) pe_int) pe_int) pe_int (nomark _)) (pss_one (ps_ret (pe_ix (m_ix hu) (pv 3) (pe_op m_mod (pe_op m_fdiv (pv 1) pe_int) pe_int) fun _ _ => rfl))) pss_nil)
    (pss_one (ps_ret (pm_call F__law_put (hr.mono (by decide)) tk (gl__law_put T) (kp__law_put T) (pa_cons (pv 0) (pa_cons (pv 2) (pa_cons (pm_call F__law_other (hr.mono (by decide)) tk (gl__law_other T) (kp__law_other T) (pa_cons (pe_ix (m_ix hu) (pv 0) (pv 2) fun _ _ => rfl) (pa_cons (pe_op m_fdiv (pv 1) pe_int) (pa_cons (pe_ix (m_ix hu) (pm_lstE (pa_cons pe_str (pa_cons pe_str pa_nil))) (pv 2) fun _ _ => rfl) pa_nil)))) pa_nil)))))))))
theorem dv__law_odd (T : TX K mg) {f : Addr} {cdv : Value} {A : Around} {outer : List Env} {s : Shared} {H : Hp} {E : XK} (hr : Room 0 (A.deeper (envOfC "_law_odd" (defScope s__law_odd) s.heap.objs.size f cdv))) :
    PSs (cxOf (L2.CX P w) P w K mg base N__law_odd "_law_odd" (defScope s__law_odd) f cdv A outer s H E) (defBody s__law_odd) (r__law_odd K (WX0 E)) := by
  have hu := hu_of hr
  have hu64 := hr.units
  have tk : Takes (cxOf (L2.CX P w) P w K mg base N__law_odd "_law_odd" (defScope s__law_odd) f cdv A outer s H E) (WX0 E) := takes_of rfl rfl rfl rfl
  exact (pss_cons (pm_set 1 sc__law_odd.nd (pm_lstE (pa_cons pe_str (pa_cons pe_str (pa_cons pe_str (pa_cons pe_str (pa_cons pe_str (pa_cons pe_str (pa_cons pe_str (pa_cons pe_str (pa_cons pe_str (pa_cons pe_str (pa_cons pe_str pa_nil)))))))))))))
    (pss_cons (pm_set 1 sc__law_odd.nd (pe_op m_add (pv 1) (pm_lstE (pa_cons pe_str (pa_cons pe_str (pa_cons pe_str pa_nil))))))
    (pss_cons (pm_set 1 sc__law_odd.nd (pe_op m_add (pv 1) (pm_lstE (pa_cons pe_str (pa_cons pe_str (pa_cons pe_str (pa_cons pe_str (pa_cons pe_str (pa_cons pe_str (pa_cons pe_str (pa_cons pe_str pa_nil)))))))))))
    (pss_one (ps_ret (pe_ix (m_ix hu) (pv 1) (pe_op m_mod (pv 0) pe_int) fun _ _ => rfl))))))
theorem dv__law_spoilt (T : TX K mg) (F__law_word : Fk P w K mg base (He.fAd K ("_law_word", none)) P__law_word [] 1 (sp__law_word K)) (F__law_put : Fk P w K mg base (He.fAd K ("_law_put", none)) P__law_put [] 1 (sp__law_put K)) (F__law_other : Fk P w K mg base (He.fAd K ("_law_other", none)) P__law_other [] 2 (sp__law_other K)) (F__law_number_spoilt : Fk P w K mg base (He.fAd K ("_law_number_spoilt", none)) P__law_number_spoilt [] 3 (sp__law_number_spoilt K)) (F__law_rights_spoilt : Fk P w K mg base (He.fAd K ("_law_rights_spoilt", none)) P__law_rights_spoilt [] 3 (sp__law_rights_spoilt K)) (F__law_odd : Fk P w K mg base (He.fAd K ("_law_odd", none)) P__law_odd [] 1 (sp__law_odd K)) {f : Addr} {cdv : Value} {A : Around} {outer : List Env} {s : Shared} {H : Hp} {E : XK} (hr : Room 3 (A.deeper (envOfC "_law_spoilt" (defScope s__law_spoilt) s.heap.objs.size f cdv))) :
    PSs (cxOf (L2.CX P w) P w K mg base N__law_spoilt "_law_spoilt" (defScope s__law_spoilt) f cdv A outer s H E) (defBody s__law_spoilt) (r__law_spoilt K (WX0 E)) := by
  have hu := hu_of hr
  have hu64 := hr.units
  have tk : Takes (cxOf (L2.CX P w) P w K mg base N__law_spoilt "_law_spoilt" (defScope s__law_spoilt) f cdv A outer s H E) (WX0 E) := takes_of rfl rfl rfl rfl
  exact (pss_cons (pm_set 4 sc__law_spoilt.nd (pm_bm PySem.F.plainAttrs_str PySem.F.slot_str_join PySem.F.type_str_join m_join pe_str (pa_cons (pv 0) pa_nil)))
    (pss_cons (ps_setLc (i := 5) (own := [("_law_k", 6)]) (g := (gName 6)) (tt := (tTest (tOp oNe (tOp mIx (tVar 1) (tVar 6)) (tC (.str "r"))))) (te := (tOp mAdd (tVar 6) (tC (.int 1)))) rfl sc__law_spoilt.nd rfl rfl (sw_true rfl rfl rfl (by decide +kernel)) (pi_range1 rfl (fr_range T) (pa_cons (pe_callB call_mLen rfl (fr_len T) (by decide +kernel) (pa_cons (pv 1) pa_nil)) pa_nil)) (blkOk_by (N := N__law_spoilt) (sc := defScope s__law_spoilt) (own := [("_law_k", 6)]) (by decide +kernel)) (fun _ _ _ _ _ => (pm_name 6 sc__law_spoilt.nd)) (fun _ _ _ _ _ => (pts_one (pt_cmpR m_ne (pe_ix (m_ix hu) (pv 1) (pv 6) fun _ _ => rfl) pe_str (nomark _)))) (fun _ _ _ _ _ => (pe_op m_add (pv 6) pe_int)))
    (pss_cons (ps_if (pt_cmpR m_eq (pv 2) pe_int (nomark _)) (pss_one (ps_ret (pe_op m_add pe_str (pv 4)))) pss_nil)
    (pss_cons (ps_if (PW.pt (pw_and (pt_cmpR m_eq (pv 2) pe_int (nomark _)) (pw_and1 (pt_cmpR m_gt (pe_callB call_mLen rfl (fr_len T) (by decide +kernel) (pa_cons (pv 0) pa_nil)) pe_int (nomark _))))) (pss_cons (pm_set 7 sc__law_spoilt.nd (pe_op m_add pe_int (pe_op m_mod (pv 3) (pe_op m_sub (pe_callB call_mLen rfl (fr_len T) (by decide +kernel) (pa_cons (pv 0) pa_nil)) pe_int))))
    (pss_one (ps_ret (pe_op m_add (pe_op m_add (pm_bm PySem.F.plainAttrs_str PySem.F.slot_str_join PySem.F.type_str_join m_join pe_str (pa_cons (pe_slice m_sl (pv 0) po_none (po_some (pv 7))) pa_nil)) pe_str) (pm_bm PySem.F.plainAttrs_str PySem.F.slot_str_join PySem.F.type_str_join m_join pe_str (pa_cons (pe_slice m_sl (pv 0) (po_some (pv 7)) po_none) pa_nil)))))) pss_nil)
    (pss_cons (ps_if (pt_cmpR m_eq (pv 2) pe_int (nomark _)) (pss_one (ps_ret (pm_bm PySem.F.plainAttrs_str PySem.F.slot_str_join PySem.F.type_str_join m_join pe_str (pa_cons (pe_slice m_sl (pv 0) po_none (po_some (pe_un m_neg pe_int))) pa_nil)))) pss_nil)
    (pss_cons (ps_if (pt_cmpR m_eq (pv 2) pe_int (nomark _)) (pss_one (ps_ret (pe_op m_add (pe_op m_add (pv 4) pe_str) (pm_call F__law_word (hr.mono (by decide)) tk (gl__law_word T) (kp__law_word T) (pa_cons (pv 3) (pa_cons pe_str pa_nil)))))) pss_nil)
    (pss_cons (ps_if (pt_cmpR m_eq (pv 2) pe_int (nomark _)) (pss_cons (pm_set 7 sc__law_spoilt.nd (pe_op m_mod (pv 3) (pe_callB call_mLen rfl (fr_len T) (by decide +kernel) (pa_cons (pe_ix (m_ix hu) (pv 0) pe_int fun _ _ => rfl) pa_nil))))
    (pss_one (ps_ret (pe_op m_add (pm_call F__law_put (hr.mono (by decide)) tk (gl__law_put T) (kp__law_put T) (pa_cons (pe_ix (m_ix hu) (pv 0) pe_int fun _ _ => rfl) (pa_cons (pv 7) (pa_cons (pm_call F__law_other (hr.mono (by decide)) tk (gl__law_other T) (kp__law_other T) (pa_cons (pe_ix (m_ix hu) (pe_ix (m_ix hu) (pv 0) pe_int fun _ _ => rfl) (pv 7) fun _ _ => rfl) (pa_cons (pe_op m_fdiv (pv 3) pe_int) (pa_cons pe_str pa_nil)))) pa_nil)))) (pe_slice m_sl (pv 4) (po_some (pe_callB call_mLen rfl (fr_len T) (by decide +kernel) (pa_cons (pe_ix (m_ix hu) (pv 0) pe_int fun _ _ => rfl) pa_nil))) po_none))))) pss_nil)
    (pss_cons (ps_if (PW.pt (pw_and (pt_chain m_le m_le pe_int (pv 2) pe_int) (pw_and1 (pt_cmpR m_gt (pe_callB call_mLen rfl (fr_len T) (by decide +kernel) (pa_cons (pv 5) pa_nil)) pe_int (nomark _))))) (pss_cons (pm_set 7 sc__law_spoilt.nd (pe_ix (m_ix hu) (pv 5) (pe_op m_mod (pv 3) (pe_callB call_mLen rfl (fr_len T) (by decide +kernel) (pa_cons (pv 5) pa_nil))) fun _ _ => rfl))
    (pss_cons (pm_set 8 sc__law_spoilt.nd (pe_callTy call_mListOf rfl (fr_list T) (by decide +kernel) (pa_cons (pv 0) pa_nil)))
    (pss_cons (ps_asg (pm_call F__law_number_spoilt (hr.mono (by decide)) tk (gl__law_number_spoilt T) (kp__law_number_spoilt T) (pa_cons (pe_ix (m_ix hu) (pv 0) (pv 7) fun _ _ => rfl) (pa_cons (pe_ix (m_ix hu) (pv 1) (pe_op m_sub (pv 7) pe_int) fun _ _ => rfl) (pa_cons (pv 2) (pa_cons (pe_op m_fdiv (pv 3) pe_int) pa_nil))))) (pg_sub (pv 8) (pv 7) (m_set hu)))
    (pss_one (ps_ret (pm_bm PySem.F.plainAttrs_str PySem.F.slot_str_join PySem.F.type_str_join m_join pe_str (pa_cons (pv 8) pa_nil))))))) pss_nil)
    (pss_cons (ps_if (PW.pt (pw_and (pt_cmpR m_eq (pv 2) pe_int (nomark _)) (pw_and1 (pt_cmpR (m_in hu) pe_str (pv 1) (by with_unfolding_all rfl))))) (pss_cons (pm_set 8 sc__law_spoilt.nd (pe_callTy call_mListOf rfl (fr_list T) (by decide +kernel) (pa_cons (pv 0) pa_nil)))
    (pss_cons (ps_asg (pm_call F__law_rights_spoilt (hr.mono (by decide)) tk (gl__law_rights_spoilt T) (kp__law_rights_spoilt T) (pa_cons (pe_ix (m_ix hu) (pv 0) pe_int fun _ _ => rfl) (pa_cons (pv 3) pa_nil))) (pg_sub (pv 8) pe_int (m_set hu)))
    (pss_one (ps_ret (pm_bm PySem.F.plainAttrs_str PySem.F.slot_str_join PySem.F.type_str_join m_join pe_str (pa_cons (pv 8) pa_nil)))))) pss_nil)
    (pss_cons (ps_if (pt_cmpR m_eq (pv 2) pe_int (nomark _)) (pss_one (ps_ret (pm_call F__law_odd (hr.mono (by decide)) tk (gl__law_odd T) (kp__law_odd T) (pa_cons (pv 3) pa_nil)))) pss_nil)
    (pss_one (ps_ret (pe_op m_add (pv 4) pe_str)))))))))))))
theorem dv_law (T : TX K mg) (F__law_form : Fk P w K mg base (He.fAd K ("_law_form", none)) P__law_form [] 1 (sp__law_form K)) (F__law_cell_at : Fk P w K mg base (He.fAd K ("_law_cell_at", none)) P__law_cell_at [] 1 (sp__law_cell_at K)) (F__law_word : Fk P w K mg base (He.fAd K ("_law_word", none)) P__law_word [] 1 (sp__law_word K)) (F_read_row : Fk P w K mg base (He.fAd K ("read_row", none)) P_read_row [] 3 (sp_read_row K)) (F__law_refused : Fk P w K mg base (He.fAd K ("_law_refused", none)) P__law_refused [] 4 (sp__law_refused K)) (F__law_spoilt : Fk P w K mg base (He.fAd K ("_law_spoilt", none)) P__law_spoilt [] 4 (sp__law_spoilt K)) {f : Addr} {cdv : Value} {A : Around} {outer : List Env} {s : Shared} {H : Hp} {E : XK} (hr : Room 4 (A.deeper (envOfC "law" (defScope s_law) s.heap.objs.size f cdv))) :
    PSs (cxOf (L2.CX P w) P w K mg base N_law "law" (defScope s_law) f cdv A outer s H E) (defBody s_law) (r_law K (WX0 E)) := by
  have hu := hu_of hr
  have hu64 := hr.units
  have tk : Takes (cxOf (L2.CX P w) P w K mg base N_law "law" (defScope s_law) f cdv A outer s H E) (WX0 E) := takes_of rfl rfl rfl rfl
  exact (pss_cons (ps_asg (pm_call F__law_form (hr.mono (by decide)) tk (gl__law_form T) (kp__law_form T) (pa_cons (pm_call F__law_cell_at (hr.mono (by decide)) tk (gl__law_cell_at T) (kp__law_cell_at T) (pa_cons (pv 0) (pa_cons pe_int pa_nil))) pa_nil)) (pm_tup rfl (pgs_cons (pm_name 1 sc_law.nd) (pgs_cons (pm_name 2 sc_law.nd) pgs_nil))))
    (pss_cons (pm_set 3 sc_law.nd (pm_lstE (pa_cons (pv 1) pa_nil)))
    (pss_cons (ps_for (passes_of rfl) rfl (pi_range1 rfl (fr_range T) (pa_cons (pe_callB call_mLen rfl (fr_len T) (by decide +kernel) (pa_cons (pv 2) pa_nil)) pa_nil)) (pm_name 4 sc_law.nd) (pss_one (ps_expr (pm_bm PySem.F.plainAttrs_list PySem.F.slot_list_append PySem.F.type_list_append m_append (pv 3) (pa_cons (pm_call F__law_word (hr.mono (by decide)) tk (gl__law_word T) (kp__law_word T) (pa_cons (pm_call F__law_cell_at (hr.mono (by decide)) tk (gl__law_cell_at T) (kp__law_cell_at T) (pa_cons (pv 0) (pa_cons (pe_op m_add pe_int (pv 4)) pa_nil))) (pa_cons (pe_ix (m_ix hu) (pv 2) (pv 4) fun _ _ => rfl) pa_nil))) pa_nil)))))
    (pss_cons (pm_set 5 sc_law.nd (pm_bm PySem.F.plainAttrs_str PySem.F.slot_str_join PySem.F.type_str_join m_join pe_str (pa_cons (pv 3) pa_nil)))
    (pss_cons (ps_if (pt_not (pt_val (pe_callB call_mIsi rfl (fr_isinstance T) (by decide +kernel) (pa_cons (pm_call F_read_row (hr.mono (by decide)) tk (gl_read_row T) (kp_read_row T) (pa_cons (pv 5) pa_nil)) (pa_cons (pe_bltn rfl (fr_tuple T) (by decide +kernel) rfl) pa_nil))))) (pss_one (ps_ret pe_bl)) pss_nil)
    (pss_cons (ps_if (pt_not (pt_val (pm_call F__law_refused (hr.mono (by decide)) tk (gl__law_refused T) (kp__law_refused T) (pa_cons (pm_call F__law_spoilt (hr.mono (by decide)) tk (gl__law_spoilt T) (kp__law_spoilt T) (pa_cons (pv 3) (pa_cons (pv 2) (pa_cons (pe_op m_mod (pm_call F__law_cell_at (hr.mono (by decide)) tk (gl__law_cell_at T) (kp__law_cell_at T) (pa_cons (pv 0) (pa_cons pe_int pa_nil))) pe_int) (pa_cons (pm_call F__law_cell_at (hr.mono (by decide)) tk (gl__law_cell_at T) (kp__law_cell_at T) (pa_cons (pv 0) (pa_cons pe_int pa_nil))) pa_nil))))) pa_nil)))) (pss_one (ps_ret pe_bl)) pss_nil)
    (pss_cons (ps_for (passes_of rfl) rfl (pi_list (pe_slice sl_list (pv 0) (po_some pe_int) (po_some pe_int))) (pm_name 6 sc_law.nd) (pss_one (ps_if (pt_not (pt_val (pm_call F__law_refused (hr.mono (by decide)) tk (gl__law_refused T) (kp__law_refused T) (pa_cons (pm_call F__law_spoilt (hr.mono (by decide)) tk (gl__law_spoilt T) (kp__law_spoilt T) (pa_cons (pv 3) (pa_cons (pv 2) (pa_cons (pe_op m_mod (pv 6) pe_int) (pa_cons (pe_op m_fdiv (pv 6) pe_int) pa_nil))))) pa_nil)))) (pss_one (ps_ret pe_bl)) pss_nil)))
    (pss_cons (pm_set 7 sc_law.nd (pe_op m_add (pe_op m_add (pe_op m_add (pe_op m_add pe_str (pm_call F__law_word (hr.mono (by decide)) tk (gl__law_word T) (kp__law_word T) (pa_cons (pm_call F__law_cell_at (hr.mono (by decide)) tk (gl__law_cell_at T) (kp__law_cell_at T) (pa_cons (pv 0) (pa_cons pe_int pa_nil))) (pa_cons pe_str pa_nil)))) pe_str) (pm_call F__law_word (hr.mono (by decide)) tk (gl__law_word T) (kp__law_word T) (pa_cons (pm_call F__law_cell_at (hr.mono (by decide)) tk (gl__law_cell_at T) (kp__law_cell_at T) (pa_cons (pv 0) (pa_cons pe_int pa_nil))) (pa_cons pe_str pa_nil)))) pe_str))
    (pss_cons (ps_if (PW.pt (pw_or (pt_not (pt_val (pm_call F__law_refused (hr.mono (by decide)) tk (gl__law_refused T) (kp__law_refused T) (pa_cons (pe_op m_add (pv 7) pe_str) pa_nil)))) (pw_or1 (pt_cmpR m_ne (pe_ix (m_ix hu) (pm_call F_read_row (hr.mono (by decide)) tk (gl_read_row T) (kp_read_row T) (pa_cons (pe_op m_add (pv 7) pe_str) pa_nil)) pe_int fun _ _ => rfl) pe_int (nomark _))))) (pss_one (ps_ret pe_bl)) pss_nil)
    (pss_one (ps_ret (pe_cmpR (op_eqD hu64) (pm_call F_read_row (hr.mono (by decide)) tk (gl_read_row T) (kp_read_row T) (pa_cons (pv 5) pa_nil)) (pm_call F_read_row (hr.mono (by decide)) tk (gl_read_row T) (kp_read_row T) (pa_cons (pm_bm PySem.F.plainAttrs_str PySem.F.slot_str_join PySem.F.type_str_join m_join pe_str (pa_cons (pv 3) pa_nil)) pa_nil)) (nomark _)))))))))))))
end
end K97

set_option Elab.async false
set_option linter.all false
set_option maxRecDepth 100000
set_option maxHeartbeats 4000000
namespace K97
open PySem PySem.Spec PyProof.Rows L2 MM
section
variable {P : Program} {w : World} {K : PySem.W.Frag} {mg : Str → Option Value} {base : Heap}
theorem fk__law_form (T : TX K mg) : Fk P w K mg base (He.fAd K ("_law_form", none)) P__law_form [] 1 (sp__law_form K) := by
  obtain ⟨fd, F⟩ := T.df 0 0 rfl rfl
  exact ⟨fd, [], F.ok sc__law_form (fun vs H Q E h => h.1) (fun cdv A outer s H vs Q E hr h => ⟨r__law_form K (WX0 E), dv__law_form T hr, p__law_form vs H Q E h⟩), FunD.bindsN F (fun _ _ _ _ _ _ us hl => match us, hl with | [_], _ => rfl), .nil⟩
theorem fk__law_cell_at (T : TX K mg) : Fk P w K mg base (He.fAd K ("_law_cell_at", none)) P__law_cell_at [] 1 (sp__law_cell_at K) := by
  obtain ⟨fd, F⟩ := T.df 0 1 rfl rfl
  exact ⟨fd, [], F.ok sc__law_cell_at (fun vs H Q E h => h.1) (fun cdv A outer s H vs Q E hr h => ⟨r__law_cell_at K (WX0 E), dv__law_cell_at T hr, p__law_cell_at vs H Q E h⟩), FunD.bindsN F (fun _ _ _ _ _ _ us hl => match us, hl with | [_, _], _ => rfl), .nil⟩
theorem fk__law_word (T : TX K mg) : Fk P w K mg base (He.fAd K ("_law_word", none)) P__law_word [] 1 (sp__law_word K) := by
  obtain ⟨fd, F⟩ := T.df 0 2 rfl rfl
  exact ⟨fd, [], F.ok sc__law_word (fun vs H Q E h => h.1) (fun cdv A outer s H vs Q E hr h => ⟨r__law_word K (WX0 E), dv__law_word T hr, p__law_word vs H Q E h⟩), FunD.bindsN F (fun _ _ _ _ _ _ us hl => match us, hl with | [_, _], _ => rfl), .nil⟩
theorem fk_read_number (T : TX K mg) : Fk P w K mg base (He.fAd K ("read_number", none)) P_read_number [] 1 (sp_read_number K) := by
  obtain ⟨fd, F⟩ := T.df 0 3 rfl rfl
  exact ⟨fd, [], F.ok sc_read_number (fun vs H Q E h => h.1) (fun cdv A outer s H vs Q E hr h => ⟨r_read_number K (WX0 E), dv_read_number T hr, p_read_number vs H Q E h⟩), FunD.bindsN F (fun _ _ _ _ _ _ us hl => match us, hl with | [_], _ => rfl), .nil⟩
theorem fk_read_value (T : TX K mg) (F_read_number : Fk P w K mg base (He.fAd K ("read_number", none)) P_read_number [] 1 (sp_read_number K)) : Fk P w K mg base (He.fAd K ("read_value", none)) P_read_value [] 2 (sp_read_value K) := by
  obtain ⟨fd, F⟩ := T.df 0 4 rfl rfl
  exact ⟨fd, [], F.ok sc_read_value (fun vs H Q E h => h.1) (fun cdv A outer s H vs Q E hr h => ⟨r_read_value K (WX0 E), dv_read_value T F_read_number hr, p_read_value vs H Q E h⟩), FunD.bindsN F (fun _ _ _ _ _ _ us hl => match us, hl with | [_], _ => rfl), .nil⟩
theorem fk_read_rights (T : TX K mg) : Fk P w K mg base (He.fAd K ("read_rights", none)) P_read_rights [] 1 (sp_read_rights K) := by
  obtain ⟨fd, F⟩ := T.df 0 5 rfl rfl
  exact ⟨fd, [], F.ok sc_read_rights (fun vs H Q E h => h.1) (fun cdv A outer s H vs Q E hr h => ⟨r_read_rights K (WX0 E), dv_read_rights T hr, p_read_rights vs H Q E h⟩), FunD.bindsN F (fun _ _ _ _ _ _ us hl => match us, hl with | [_], _ => rfl), .nil⟩
theorem fk_read_row (T : TX K mg) (Tt_WORDS : TabOk K w (He.ga K "WORDS") tab_WORDS) (F_read_number : Fk P w K mg base (He.fAd K ("read_number", none)) P_read_number [] 1 (sp_read_number K)) (F_read_value : Fk P w K mg base (He.fAd K ("read_value", none)) P_read_value [] 2 (sp_read_value K)) (F_read_rights : Fk P w K mg base (He.fAd K ("read_rights", none)) P_read_rights [] 1 (sp_read_rights K)) : Fk P w K mg base (He.fAd K ("read_row", none)) P_read_row [] 3 (sp_read_row K) := by
  obtain ⟨fd, F⟩ := T.df 0 6 rfl rfl
  exact ⟨fd, [], F.ok sc_read_row (fun vs H Q E h => h.1) (fun cdv A outer s H vs Q E hr h => ⟨r_read_row K (WX0 E), dv_read_row T Tt_WORDS F_read_number F_read_value F_read_rights hr, p_read_row vs H Q E h⟩), FunD.bindsN F (fun _ _ _ _ _ _ us hl => match us, hl with | [_], _ => rfl), .nil⟩
theorem fk__law_refused (T : TX K mg) (Xn : XN K exN) (F_read_row : Fk P w K mg base (He.fAd K ("read_row", none)) P_read_row [] 3 (sp_read_row K)) : Fk P w K mg base (He.fAd K ("_law_refused", none)) P__law_refused [] 4 (sp__law_refused K) := by
  obtain ⟨fd, F⟩ := T.df 0 7 rfl rfl
  exact ⟨fd, [], F.ok sc__law_refused (fun vs H Q E h => h.1) (fun cdv A outer s H vs Q E hr h => ⟨r__law_refused K (WX0 E), dv__law_refused T Xn F_read_row hr, p__law_refused vs H Q E h⟩), FunD.bindsN F (fun _ _ _ _ _ _ us hl => match us, hl with | [_], _ => rfl), .nil⟩
theorem fk__law_put (T : TX K mg) : Fk P w K mg base (He.fAd K ("_law_put", none)) P__law_put [] 1 (sp__law_put K) := by
  obtain ⟨fd, F⟩ := T.df 0 8 rfl rfl
  exact ⟨fd, [], F.ok sc__law_put (fun vs H Q E h => h.1) (fun cdv A outer s H vs Q E hr h => ⟨r__law_put K (WX0 E), dv__law_put T hr, p__law_put vs H Q E h⟩), FunD.bindsN F (fun _ _ _ _ _ _ us hl => match us, hl with | [_, _, _], _ => rfl), .nil⟩
theorem fk__law_sign (T : TX K mg) : Fk P w K mg base (He.fAd K ("_law_sign", none)) P__law_sign [] 1 (sp__law_sign K) := by
  obtain ⟨fd, F⟩ := T.df 0 9 rfl rfl
  exact ⟨fd, [], F.ok sc__law_sign (fun vs H Q E h => h.1) (fun cdv A outer s H vs Q E hr h => ⟨r__law_sign K (WX0 E), dv__law_sign T hr, p__law_sign vs H Q E h⟩), FunD.bindsN F (fun _ _ _ _ _ _ us hl => match us, hl with | [_], _ => rfl), .nil⟩
theorem fk__law_other (T : TX K mg) (F__law_sign : Fk P w K mg base (He.fAd K ("_law_sign", none)) P__law_sign [] 1 (sp__law_sign K)) : Fk P w K mg base (He.fAd K ("_law_other", none)) P__law_other [] 2 (sp__law_other K) := by
  obtain ⟨fd, F⟩ := T.df 0 10 rfl rfl
  exact ⟨fd, [], F.ok sc__law_other (fun vs H Q E h => h.1) (fun cdv A outer s H vs Q E hr h => ⟨r__law_other K (WX0 E), dv__law_other T F__law_sign hr, p__law_other vs H Q E h⟩), FunD.bindsN F (fun _ _ _ _ _ _ us hl => match us, hl with | [_, _, _], _ => rfl), .nil⟩
theorem fk__law_number_spoilt (T : TX K mg) (F__law_put : Fk P w K mg base (He.fAd K ("_law_put", none)) P__law_put [] 1 (sp__law_put K)) (F__law_other : Fk P w K mg base (He.fAd K ("_law_other", none)) P__law_other [] 2 (sp__law_other K)) : Fk P w K mg base (He.fAd K ("_law_number_spoilt", none)) P__law_number_spoilt [] 3 (sp__law_number_spoilt K) := by
  obtain ⟨fd, F⟩ := T.df 0 11 rfl rfl
  exact ⟨fd, [], F.ok sc__law_number_spoilt (fun vs H Q E h => h.1) (fun cdv A outer s H vs Q E hr h => ⟨r__law_number_spoilt K (WX0 E), dv__law_number_spoilt T F__law_put F__law_other hr, p__law_number_spoilt vs H Q E h⟩), FunD.bindsN F (fun _ _ _ _ _ _ us hl => match us, hl with | [_, _, _, _], _ => rfl), .nil⟩
theorem fk__law_rights_spoilt (T : TX K mg) (F__law_put : Fk P w K mg base (He.fAd K ("_law_put", none)) P__law_put [] 1 (sp__law_put K)) (F__law_other : Fk P w K mg base (He.fAd K ("_law_other", none)) P__law_other [] 2 (sp__law_other K)) : Fk P w K mg base (He.fAd K ("_law_rights_spoilt", none)) P__law_rights_spoilt [] 3 (sp__law_rights_spoilt K) := by
  obtain ⟨fd, F⟩ := T.df 0 12 rfl rfl
  exact ⟨fd, [], F.ok sc__law_rights_spoilt (fun vs H Q E h => h.1) (fun cdv A outer s H vs Q E hr h => ⟨r__law_rights_spoilt K (WX0 E), dv__law_rights_spoilt T F__law_put F__law_other hr, p__law_rights_spoilt vs H Q E h⟩), FunD.bindsN F (fun _ _ _ _ _ _ us hl => match us, hl with | [_, _], _ => rfl), .nil⟩
theorem fk__law_odd (T : TX K mg) : Fk P w K mg base (He.fAd K ("_law_odd", none)) P__law_odd [] 1 (sp__law_odd K) := by
  obtain ⟨fd, F⟩ := T.df 0 13 rfl rfl
  exact ⟨fd, [], F.ok sc__law_odd (fun vs H Q E h => h.1) (fun cdv A outer s H vs Q E hr h => ⟨r__law_odd K (WX0 E), dv__law_odd T hr, p__law_odd vs H Q E h⟩), FunD.bindsN F (fun _ _ _ _ _ _ us hl => match us, hl with | [_], _ => rfl), .nil⟩
theorem fk__law_spoilt (T : TX K mg) (F__law_word : Fk P w K mg base (He.fAd K ("_law_word", none)) P__law_word [] 1 (sp__law_word K)) (F__law_put : Fk P w K mg base (He.fAd K ("_law_put", none)) P__law_put [] 1 (sp__law_put K)) (F__law_other : Fk P w K mg base (He.fAd K ("_law_other", none)) P__law_other [] 2 (sp__law_other K)) (F__law_number_spoilt : Fk P w K mg base (He.fAd K ("_law_number_spoilt", none)) P__law_number_spoilt [] 3 (sp__law_number_spoilt K)) (F__law_rights_spoilt : Fk P w K mg base (He.fAd K ("_law_rights_spoilt", none)) P__law_rights_spoilt [] 3 (sp__law_rights_spoilt K)) (F__law_odd : Fk P w K mg base (He.fAd K ("_law_odd", none)) P__law_odd [] 1 (sp__law_odd K)) : Fk P w K mg base (He.fAd K ("_law_spoilt", none)) P__law_spoilt [] 4 (sp__law_spoilt K) := by
  obtain ⟨fd, F⟩ := T.df 0 14 rfl rfl
  exact ⟨fd, [], F.ok sc__law_spoilt (fun vs H Q E h => h.1) (fun cdv A outer s H vs Q E hr h => ⟨r__law_spoilt K (WX0 E), dv__law_spoilt T F__law_word F__law_put F__law_other F__law_number_spoilt F__law_rights_spoilt F__law_odd hr, p__law_spoilt vs H Q E h⟩), FunD.bindsN F (fun _ _ _ _ _ _ us hl => match us, hl with | [_, _, _, _], _ => rfl), .nil⟩
theorem fk_law (T : TX K mg) (F__law_form : Fk P w K mg base (He.fAd K ("_law_form", none)) P__law_form [] 1 (sp__law_form K)) (F__law_cell_at : Fk P w K mg base (He.fAd K ("_law_cell_at", none)) P__law_cell_at [] 1 (sp__law_cell_at K)) (F__law_word : Fk P w K mg base (He.fAd K ("_law_word", none)) P__law_word [] 1 (sp__law_word K)) (F_read_row : Fk P w K mg base (He.fAd K ("read_row", none)) P_read_row [] 3 (sp_read_row K)) (F__law_refused : Fk P w K mg base (He.fAd K ("_law_refused", none)) P__law_refused [] 4 (sp__law_refused K)) (F__law_spoilt : Fk P w K mg base (He.fAd K ("_law_spoilt", none)) P__law_spoilt [] 4 (sp__law_spoilt K)) : Fk P w K mg base (He.fAd K ("law", none)) P_law [] 5 (sp_law K) := by
  obtain ⟨fd, F⟩ := T.df 0 15 rfl rfl
  exact ⟨fd, [], F.ok sc_law (fun vs H Q E h => h.1) (fun cdv A outer s H vs Q E hr h => ⟨r_law K (WX0 E), dv_law T F__law_form F__law_cell_at F__law_word F_read_row F__law_refused F__law_spoilt hr, p_law vs H Q E h⟩), FunD.bindsN F (fun _ _ _ _ _ _ us hl => match us, hl with | [_], _ => rfl), .nil⟩
end
end K97

set_option Elab.async false
set_option linter.all false
set_option maxRecDepth 100000
set_option maxHeartbeats 0
namespace K97
open PySem PySem.Spec PyProof.Rows L2 MM
theorem ok_law {P : Program} {w : World} {K : PySem.W.Frag} {mg : Str → Option Value} {base : Heap} {f : Addr} {fd : FuncData} (T : TX K mg) (F__law_form : Fk P w K mg base (He.fAd K ("_law_form", none)) P__law_form [] 1 (sp__law_form K)) (F__law_cell_at : Fk P w K mg base (He.fAd K ("_law_cell_at", none)) P__law_cell_at [] 1 (sp__law_cell_at K)) (F__law_word : Fk P w K mg base (He.fAd K ("_law_word", none)) P__law_word [] 1 (sp__law_word K)) (F_read_row : Fk P w K mg base (He.fAd K ("read_row", none)) P_read_row [] 3 (sp_read_row K)) (F__law_refused : Fk P w K mg base (He.fAd K ("_law_refused", none)) P__law_refused [] 4 (sp__law_refused K)) (F__law_spoilt : Fk P w K mg base (He.fAd K ("_law_spoilt", none)) P__law_spoilt [] 4 (sp__law_spoilt K)) (F : FunD K "law" "law" (defArgs s_law) (defBody s_law) (defScope s_law) [] [] f fd) : FnOk P w K mg base (L2.CX P w) 5 f fd P_law (sp_law K) :=
  F.ok sc_law (fun vs H Q E h => h.1) (fun cdv A outer s H vs Q E hr h => ⟨r_law K (WX0 E), dv_law T F__law_form F__law_cell_at F__law_word F_read_row F__law_refused F__law_spoilt hr, p_law vs H Q E h⟩)
def kvs_WORDS : List (Str × He.Dv) := [("new", .str ""), ("fork", .str "n"), ("end", .str "n"), ("bank", .str "n"), ("drop", .str "n"), ("lay", .str "nnnr"), ("lift", .str "nnn"), ("guard", .str "nnnr"), ("read", .str "nn"), ("write", .str "nnv"), ("fold", .str ""), ("see", .str "nn"), ("laid", .str "n"), ("live", .str "")]
def ts : List He.Tab := [(fun K => He.ga K "WORDS", kvs_WORDS.map (·.1))]
def ex (K : PySem.W.Frag) : Bool := He.valsB K (He.ga K "WORDS") kvs_WORDS && (xnB K exN)
abbrev R : PySem.W.OpenRow := PySem.W.OpenLaw.row PySem.Challenge.rw_frameland_k97_bad_rows
abbrev hk : PySem.W.Hook := He.hookX 4 fa.flatten fn.flatten ts [] ex
def ob (s : PySem.W.SharedT) : He.AlX := He.obsX 4 fa.flatten fn.flatten ts [] ex (HandSHeadRun.getT s)
theorem ob_eq (s : PySem.W.SharedT) : ob s = hk.obs s.abs := He.obsX_eq (HandSHeadRun.getT_eq s)
def nm0 : List PySem.Str := ["FrameError", "NoShape", "OutOfRoom", "BadRights", "NoTask", "NoBank", "OutOfBank", "Taken", "NotMapped", "NoRight", "NoRoom", "Busy", "NoRow", "FIGURES", "MOST_FIGURES", "WORDS", "read_number", "read_value", "read_rights", "read_row"]
def nm1 : List PySem.Str := ["_law_cell_at", "_law_form", "_law_sign", "_law_other", "_law_word", "_law_put", "_law_number_spoilt", "_law_rights_spoilt", "_law_odd", "_law_spoilt", "_law_refused"]
def names : List PySem.Str := nm0 ++ nm1
abbrev qv : Program := PySem.W.view R.prog [34]
theorem run (w : World) : HandSHeadRun.RunEq R qv hk ob 3700 names w := by
  refine PySem.W.byRow2 "special-get-raises" (P := HandSHeadRun.RunEq R qv hk ob 3700 names) (fun w => ?_) (fun w => ?_) w
  · intro os
    kernel_rfl
  · intro os
    kernel_rfl
theorem facts {P : Program} {w : World} {K : PySem.W.Frag} {h : Heap} {mg : Str → Option Value} {f : Addr} (X : K.In h) (G : h.Ns mainGlobals mg) (hfa : mg ("law" : Str) = some (.ref f)) (c : He.SaysX fa.flatten fn.flatten ts [] ex w h K) :
    ∃ fd : FuncData, (∀ (s : Shared) (v : Value), BindsTo s fd ⟨[v], []⟩ [("_law_script", v)]) ∧ ∀ base : Heap, K.In base → base.Ns mainGlobals mg → FnOk P w K mg base (L2.CX P w) 5 f fd P_law (sp_law K) := by
  have T : TX K mg := tx_of X G (He.SaysT.d c.t)
  obtain ⟨fd, F⟩ := T.df 0 15 rfl rfl
  have gl : mg "law" = some (.ref (He.ga K "law")) := T.at 2 9 rfl rfl
  have e := hfa.symm.trans gl
  cases e
  have mr := c.more
  have mr0 := (He.ba mr).1
  have mr := (He.ba mr).2
  have Tt_WORDS : TabOk K w (He.ga K "WORDS") tab_WORDS := tab_of (kvs := kvs_WORDS) (tab_at c.t 0 rfl) mr0 (by decide +kernel)
  have Xn : XN K exN := xn_of mr
  have b := FunD.bindsA (ps := ["_law_script"]) F fun _ _ _ _ _ _ us hl => match us, hl with | [_], _ => rfl
  refine ⟨fd, fun s v => b s [v] rfl, fun base _ _ => ?_⟩
  have F__law_form := fk__law_form (P := P) (w := w) (base := base) T
  have F__law_cell_at := fk__law_cell_at (P := P) (w := w) (base := base) T
  have F__law_word := fk__law_word (P := P) (w := w) (base := base) T
  have F_read_number := fk_read_number (P := P) (w := w) (base := base) T
  have F_read_value := fk_read_value (P := P) (w := w) (base := base) T F_read_number
  have F_read_rights := fk_read_rights (P := P) (w := w) (base := base) T
  have F_read_row := fk_read_row (P := P) (w := w) (base := base) T Tt_WORDS F_read_number F_read_value F_read_rights
  have F__law_refused := fk__law_refused (P := P) (w := w) (base := base) T Xn F_read_row
  have F__law_put := fk__law_put (P := P) (w := w) (base := base) T
  have F__law_sign := fk__law_sign (P := P) (w := w) (base := base) T
  have F__law_other := fk__law_other (P := P) (w := w) (base := base) T F__law_sign
  have F__law_number_spoilt := fk__law_number_spoilt (P := P) (w := w) (base := base) T F__law_put F__law_other
  have F__law_rights_spoilt := fk__law_rights_spoilt (P := P) (w := w) (base := base) T F__law_put F__law_other
  have F__law_odd := fk__law_odd (P := P) (w := w) (base := base) T
  have F__law_spoilt := fk__law_spoilt (P := P) (w := w) (base := base) T F__law_word F__law_put F__law_other F__law_number_spoilt F__law_rights_spoilt F__law_odd
  exact ok_law T F__law_form F__law_cell_at F__law_word F_read_row F__law_refused F__law_spoilt F
end K97
open PySem PySem.W PySem.Calls PyProof.Rows
theorem PySem.Challenge.cw_frameland_k97_bad_rows_holds : PySem.Challenge.rw_frameland_k97_bad_rows.Holds := by
  w_on; o_law
  refine HandSHeadRun.head_any (r := OpenLaw.row PySem.Challenge.rw_frameland_k97_bad_rows) (q := K97.qv) (H := K97.hk) (ob := K97.ob) (M := 3700) (loose := K97.names) (d := HandSHeadRun.topDef (OpenLaw.row PySem.Challenge.rw_frameland_k97_bad_rows).prog 34) (kwd := []) K97.ob_eq
    (by kernel_rfl) (fun s => by kernel_rfl) K97.run (by kernel_rfl) (by kernel_rfl) (by kernel_rfl) (by rfl) (by first | assumption | decide +kernel) (by decide +kernel) ⟨rfl, rfl, rfl, rfl, rfl, by decide +kernel⟩ ?hw ?hc
  case hw => w_witness2
  case hc =>
    refine LamX.walk_ofTsE (l := PySem.Challenge.rw_frameland_k97_bad_rows) (n := 63) (k := 5) (x := "_law_script") (CX := L2.CX (PySem.Challenge.rw_frameland_k97_bad_rows).prog) rfl (by decide) (by kernel_rfl) ⟨rfl, by decide, by decide⟩ ?F (fun _ _ _ _ _ z => by obtain ⟨_, _, _, _, _, _, _, _, _, _, _, _, z⟩ := z; exact z)
    intro w mg fa h Y G hmg0
    obtain ⟨K, KX, c⟩ := Y
    have hmg : mg ("law" : PySem.Str) = some (.ref fa) := by
      have e : (HandSHeadRun.topDef (OpenLaw.row PySem.Challenge.rw_frameland_k97_bad_rows).prog 34).name = ("law" : PySem.Str) := by kernel_rfl
      rw [← e]
      exact hmg0
    obtain ⟨fd, hb, hF⟩ := K97.facts (P := (PySem.Challenge.rw_frameland_k97_bad_rows).prog) (w := w) KX G hmg c
    exact ⟨K, KX, fd, [], K97.sp_law K, (fun _ hp => nomatch hp), (fun _ hp => nomatch hp), (fun _ hp => nomatch hp), hb, fun H a ns hl hbits _ hS => ⟨rfl, a, ns, rfl, hS, hl, fun _ => rfl⟩, fun base hb1 hb2 _ => hF base hb1 hb2⟩

