import PyProof.Rows.All
import Wide.All
import OpenK.AllK
import Wide.FinOn
import KE.KStateDown
import KE.GoesEnum
import HandS.ForMost
import HandS.Defaults
import HandS.More
import HandS.Walk
import HandS.Zip
import HandS.DictComp
import HandS.Star
import HandS.Flow
import HandS.IsInst
import HandS.TupAny
import HandS.Deep
import HandS.SortInts
import HandS.HeadHook1
import HandS.HeadHook2
import KE.KSuper
import KE.KIsAll
import KE.KNestM
import HandS.Codes
import HandS.Head0
import HandS.Head1
import HandS.Head2
import HandS.HeadEnd
import HandS.HeadHook3
import HandS.HeadHook4
import KE.SortData
import KE.KDictKeyed
import KE.KDictDisplayH
import KE.KItemsList
import HandS.ListItems
import HandS.Nested
import HandS.ClsMeth
import HandS.Lambda
import KE.KMinKey
import HandS.Style
import HandS.SetKeys
import HandS.EndTab
import HandS.Conv
import HandS.TupLe
import HandS.HeadWalk
import PySem.Challenge.RW_allbrokers_k28_whole_more_steps
set_option Elab.async false
set_option linter.all false
set_option maxRecDepth 100000
set_option maxHeartbeats 4000000
/-! K1: defs by name, zip of a tuple and a list, words about heaps. -/
namespace Al
open PySem PySem.Spec PyProof.Rows L2
/-! ### heaps -/
section
variable {K : PySem.W.Frag} {H H' H0 : Hp} {a b p : Addr} {o u : HO} {xs : List V}
theorem smNew (h : H p = none) : Same H (upd H p o) := fun a u e => by
  rw [upd_ne (ne_of_none e h)]
  exact e
theorem smMut (e : Same H H') (h : H p = none) : Same H (upd H' p o) := fun a u ha => by
  rw [upd_ne (ne_of_none ha h)]
  exact e a u ha
theorem smTup (e : Same H H') (h : SqT K H a xs) : SqT K H' a xs := by
  rcases h with (h | ⟨o, h⟩) | h
  · exact .inl (.inl (e _ _ h))
  · exact .inl (.inr ⟨o, e _ _ h⟩)
  · exact .inr h
theorem smRd (e : Same H H') (h : Rd H a u) : Rd H' a u := by
  rcases h with h | ⟨o, h⟩
  · exact .inl (e _ _ h)
  · exact .inr ⟨o, e _ _ h⟩
theorem szOf {n : Nat} (h : n ≤ 1000000) : n ≤ sizeLine := Nat.le_trans h (by decide)
theorem szLt {n : Nat} (h : n < 1000000) : n < sizeLine := Nat.lt_of_lt_of_le h (by decide)
/-- a sequence that is read, a list or a tuple -/
def Sq (K : PySem.W.Frag) (H : Hp) (a : Addr) (xs : List V) : Prop := SqL K H a xs ∨ SqT K H a xs
theorem Sq.sm (e : Same H H') (h : Sq K H a xs) : Sq K H' a xs := h.elim (fun z => .inl (e.seq z)) fun z => .inr (smTup e z)
end
/-! ### defs by name -/
section
variable {X : Cx} {k : Nat} {sp : Sp} {x : Str} {p pos apos : Pos} {e o : Expr} {es : List Expr} {t : TA} {ta : TE} {C m : Str}
/-- the module's def x keeps sp -/
structure GFn (P : Program) (w : World) (K : PySem.W.Frag) (mg : Str → Option Value) (base : Heap) (k : Nat) (x : Str) (sp : Sp) : Prop where
  run : FnR P w K mg base CX0 k (He.ga K x) sp
  gl : mg x = some (.ref (He.ga K x))
  kp : PySem.W.keepIn K (.ref (He.ga K x)) = true
/-- the method m of the module's class C keeps sp -/
structure MFn (P : Program) (w : World) (K : PySem.W.Frag) (mg : Str → Option Value) (base : Heap) (k : Nat) (C m : Str) (sp : Sp) : Prop where
  run : FnR P w K mg base CX0 k (He.ma K (He.ga K C) m) sp
  cl : Cls K (He.ga K C)
  mt : Meth K (He.ga K C) m (He.ma K (He.ga K C) m)
/-- the class C, made by its __init__ -/
structure CFn (P : Program) (w : World) (K : PySem.W.Frag) (mg : Str → Option Value) (base : Heap) (k : Nat) (C : Str) (sp : Sp) : Prop where
  run : FnR P w K mg base CX0 k (He.ma K (He.ga K C) "__init__") sp
  mkr : Mk K (He.ga K C) (He.ma K (He.ga K C) "__init__")
  gl : mg C = some (.ref (He.ga K C))
theorem passR {X : Cx} : Passes CX0 X E0 := fun _ _ _ _ _ _ _ h => h.elim
def tR (sp : Sp) (t : TA) : TE := fun σ H Q => t σ H fun vs H1 => sp vs H1 Q E0
theorem pe_f (F : GFn X.prog X.w X.K X.mg X.base k x sp) (hr : Room k X.A) (ha : PA X (e :: es) t) (hg : Gl X x := by rfl) (hd : (x == ("__debug__" : Str)) = false := by decide)
    (he : starEach (e :: es) X.env = (false, eval e X.env) :: starEach es X.env := by rfl) (hpl : (backTo pos (starEach es X.env)).any (·.1) = false := by rfl) :
    PE X (.Call (.Name x p) (e :: es) [] pos) (tR sp t) := by
  refine ⟨fun pins s σ H Q I h => ?_⟩
  refine wpAny_Call_Name_kw (ld_glob I hg F.gl ?_ hd)
  refine PySem.W.callWith_K (h₀ := X.base) I.ok.mod.kin F.kp (thn (ha.run pos pins s σ H _ I h) fun us s1 ⟨vs, H1, I1, r, q⟩ => ⟨I1.kIn, ?_⟩) he hpl
  exact wpAny_call (run_fnR F.run hr passR I1 r q)
def tMet (C : Addr) (m : Str) (sp : Sp) (ta : TE) (t : TA) : TE := fun σ H Q => ta σ H fun x H1 => ∃ a dx fs, x = .ref a ∧ H1 a = some (.ins C dx fs) ∧ fs.lookup m = none ∧ t σ H1 fun vs H2 => sp (x :: vs) H2 Q E0
theorem pe_m {pl : Sem Bool} (he : PE X o ta) (F : MFn X.prog X.w X.K X.mg X.base k C m sp) (hr : Room k X.A) (ha : PA X (e :: es) t)
    (hst : starEach (e :: es) X.env = (false, eval e X.env) :: starEach es X.env := by rfl) (hpl : (backTo pos (starEach es X.env)).any (·.1) = false := by rfl)
    (ht : eval (.Call (.Attribute o m apos) (e :: es) [] pos) X.env = (do
      let ov ← eval o X.env
      standAt apos.atName
      let (f, first) ← holding [ov] (getMethod ov m pl)
      callWith pos f first (backTo pos (starEach (e :: es) X.env)) (backToKw pos (keywordEach [] X.env))) := by rfl) :
    PE X (.Call (.Attribute o m apos) (e :: es) [] pos) (tMet (He.ga X.K C) m sp ta t) :=
  pe_methR he F.cl F.mt F.run hr passR ha hst hpl ht
theorem pe_m0 {pl : Sem Bool} (he : PE X o ta) (F : MFn X.prog X.w X.K X.mg X.base k C m sp) (hr : Room k X.A)
    (ht : eval (.Call (.Attribute o m apos) [] [] pos) X.env = (do
      let ov ← eval o X.env
      standAt apos.atName
      let (f, first) ← holding [ov] (getMethod ov m pl)
      callWith pos f first (backTo pos (starEach [] X.env)) (backToKw pos (keywordEach [] X.env))) := by rfl) :
    PE X (.Call (.Attribute o m apos) [] [] pos) (tMet (He.ga X.K C) m sp ta tNil) := by
  refine ⟨fun pins s σ H Q I h => ?_⟩
  refine PySem.W.methodCall_KW (pl := pl) (thn (he.run pins s σ H _ I h) fun u s1 ⟨x, H1, I1, rx, a, dx, fs, ex, ea, l, q⟩ => ?_) ht
  subst ex
  obtain rfl : u = Value.ref a := rx
  refine getmeth_ok I1 ea F.cl F.mt l ?_
  exact PySem.W.callWith_K0 (first := [.ref a]) I1.kIn F.mt.kp (wpAny_call (run_fnR (us := [.ref a]) (vs := [.ref a]) F.run hr passR I1 (.cons rfl .nil) q))
/-- C(..), C an own class -/
theorem pe_mk {C : Str} (F : CFn X.prog X.w X.K X.mg X.base k C sp) (hr : Room (k + 1) X.A) (ha : PA X (e :: es) t) (hg : Gl X C := by rfl) (hdb : (C == ("__debug__" : Str)) = false := by decide)
    (he : starEach (e :: es) X.env = (false, eval e X.env) :: starEach es X.env := by rfl) (hpl : (backTo pos (starEach es X.env)).any (·.1) = false := by rfl) : PE X (.Call (.Name C p) (e :: es) [] pos) (StX.tMakeR (He.ga X.K C) sp E0 t) :=
  StX.pe_makeR F.mkr F.run hr hg F.gl passR ha hdb he hpl
end
/-! ### what a for walks: two ways -/
theorem piOr {X : Cx} {tg e : Expr} {w1 w2 : TI} (h1 : PI X tg e w1) (h2 : PI X tg e w2) : PI X tg e (fun σ H R => w1 σ H R ∨ w2 σ H R) :=
  ⟨fun pins s σ H R I h => h.elim (fun z => h1.run pins s σ H R I z) fun z => h2.run pins s σ H R I z⟩
/-! ### zip(tuple, list) -/
/-- the tuple at a and the list at b as they stand at each turn, the items in new pairs -/
def ItzM (K : PySem.W.Frag) (a b : Addr) : It :=
  ⟨fun i H => ∃ (xs ys : List V) (x y : V), SqT K H a xs ∧ SqL K H b ys ∧ xs[i]? = some x ∧ ys[i]? = some y,
    fun i H v H' => ∃ T x y, v = .ref T ∧ H T = none ∧ H' = upd H T (.tup [x, y]) ∧ (∀ xs, SqT K H a xs → xs[i]? = some x) ∧ ∀ ys, SqL K H b ys → ys[i]? = some y,
    fun i H => ∃ xs ys : List V, SqT K H a xs ∧ SqL K H b ys ∧ i ≤ xs.length ∧ i ≤ ys.length ∧ (xs.length = i ∨ ys.length = i)⟩
theorem turn_zipM {P : Program} {w : World} {K : PySem.W.Frag} {elts : List Expr} {kk : Nat} {tpos : Pos} {a b z TI TO i1 i2 : Addr} (S : ZipSep2 z TI TO i1 i2 [i1, a] [i2, b]) (n12 : i1 ≠ i2) (na : a ≠ i1) (nb : b ≠ i2) :
    Turn P w K (.Tuple elts kk tpos) (ItzM K a b) [z, TI, TO, i1, i2] z (fun i h => IsZip h z TI TO .none ∧ IsPair h TI (.ref i1) (.ref i2) ∧ (∃ x y, IsPair h TO x y) ∧ h.IsTupleIter i1 a i ∧ h.IsListIter i2 b i) where
  mem := by simp
  obj := fun i h st c hc => by
    obtain ⟨hz, hTI, ⟨x, y, hTO⟩, ⟨o1, e1, _, d1⟩, ⟨o2, e2, _, d2⟩⟩ := st
    have e' : c = z ∨ c = TI ∨ c = TO ∨ c = i1 ∨ c = i2 := by simpa using hc
    rcases e' with q | q | q | q | q
    · rw [q]; exact ⟨_, hz, fun v q => nomatch q⟩
    · rw [q]; exact ⟨_, hTI, fun v q => nomatch q⟩
    · rw [q]; exact ⟨_, hTO, fun v q => nomatch q⟩
    · rw [q]; exact ⟨o1, e1, fun v q => by rw [d1] at q; cases q⟩
    · rw [q]; exact ⟨o2, e2, fun v q => by rw [d2] at q; cases q⟩
  keep := fun i h h' st k => by
    obtain ⟨hz, hTI, ⟨x, y, hTO⟩, h1, h2⟩ := st
    exact ⟨k z (by simp) _ hz, k TI (by simp) _ hTI, ⟨x, y, k TO (by simp) _ hTO⟩, h1.at fun o q => k i1 (by simp) o q, h2.at fun o q => k i2 (by simp) o q⟩
  item := by
    intro X hP hw hK hc i pins s σ H E I hf st hg
    subst hP hw hK
    obtain ⟨hz, hTI, ⟨x0, y0, hTO⟩, h1, h2⟩ := st
    obtain ⟨xs, ys, x, y, hqx, hqy, hx, hy⟩ := hg
    obtain ⟨its, rv, p, _⟩ := I.tuple hqx
    obtain ⟨its2, rv2, p2, _⟩ := I.list hqy
    obtain ⟨u, hu, ru⟩ := rv.get hx
    obtain ⟨u2, hu2, ru2⟩ := rv2.get hy
    have hzl : z < s.heap.objs.size := Heap.lt_size hz
    have l1 : i < its.toArray.size := by simpa using (List.getElem?_eq_some_iff.mp hu).1
    have l2 : i < its2.toArray.size := by simpa using (List.getElem?_eq_some_iff.mp hu2).1
    have hh : X.A.in1.handled = none := I.ok.hd hc
    refine wpAny_pyNext_zipD2_item S (Draws.tuple hh i1 a na its.toArray) (Draws.list hh i2 b nb its2.toArray) hz hTI hTO ⟨h1, show s.heap.IsTuple a its.toArray from p⟩ ⟨h2, p2.isList⟩ l1 l2 fun v1 v2 h' tk e1 e2 z' TO' h1' h2' hT hsz hk => ?_
    have e1 : its.toArray[i]? = some v1 := e1
    have e2 : its2.toArray[i]? = some v2 := e2
    have ev1 : u = v1 := by
      have q : its.toArray[i]? = some u := by simpa using hu
      exact Option.some.inj (q.symm.trans e1)
    have ev2 : u2 = v2 := by
      have q : its2.toArray[i]? = some u2 := by simpa using hu2
      exact Option.some.inj (q.symm.trans e2)
    subst ev1 ev2
    refine ⟨_, rfl, wpAny_letOwnedTupleGo_zip (s := { s with heap := h', toks := tk }) z' fun h'' z'' sb => ?_⟩
    have hT2 : h''.get? s.heap.objs.size = some { cls := .type "tuple", data := .seq #[u, u2] } := (sb.2 _ (Nat.ne_of_gt hzl)).trans hT
    have new : ObjOk X.prog X.w (upd H s.heap.objs.size (.tup [x, y])) h'' s.heap.objs.size (.tup [x, y]) :=
      ⟨by show 2 ≤ sizeLine; decide, [u, u2], .cons ru (.cons ru2 .nil), ⟨_, hT2, rfl, _, rfl⟩⟩
    have I1 : Inv X pins σ (upd H s.heap.objs.size (.tup [x, y])) { s with heap := h'', toks := tk } :=
      I.turnedNew (t' := tk) (ch := [z, TI, TO, i1, i2]) (fun c o hb q => (sb.2 c (fun q' => hb (by simp [q']))).trans (hk c o (fun q' => hb (by simp [q'])) (fun q' => hb (by simp [q'])) (fun q' => hb (by simp [q'])) (fun q' => hb (by simp [q'])) q)) hf (Nat.le_refl _) new
    refine ⟨.ref s.heap.objs.size, _, I1, rfl, ⟨_, x, y, rfl, I.hok.fresh (Nat.le_refl _), rfl, fun l hl => by rw [I.tuple_inj hl hqx]; exact hx, fun l hl => by rw [I.list_inj hl hqy]; exact hy⟩, ⟨z'', ?_, ⟨u, u2, ?_⟩, ?_, ?_⟩, fun c hcm => ?_⟩
    · exact (sb.2 _ S.TIz).trans (hk _ _ S.TIz S.TITO S.TIi1 S.TIi2 hTI)
    · exact (sb.2 _ S.TOz).trans TO'
    · exact h1'.1.at fun o q => (sb.2 _ S.zi1.symm).trans q
    · exact h2'.1.at fun o q => (sb.2 _ S.zi2.symm).trans q
    · have hlt : c < s.heap.objs.size := by
        have e' : c = z ∨ c = TI ∨ c = TO ∨ c = i1 ∨ c = i2 := by simpa using hcm
        rcases e' with q | q | q | q | q
        · rw [q]; exact hzl
        · rw [q]; exact Heap.lt_size hTI
        · rw [q]; exact Heap.lt_size hTO
        · rw [q]; obtain ⟨_, e1, _⟩ := h1; exact Heap.lt_size e1
        · rw [q]; obtain ⟨_, e2, _⟩ := h2; exact Heap.lt_size e2
      rw [upd_ne (Nat.ne_of_lt hlt)]
      exact (hf c hcm).1
  done := by
    intro X hP hw hK hc i pins s σ H E I hf st hg
    subst hP hw hK
    obtain ⟨hz, hTI, ⟨x0, y0, hTO⟩, h1, h2⟩ := st
    obtain ⟨xs, ys, hqx, hqy, le1, le2, hend⟩ := hg
    obtain ⟨its, rv, p, _⟩ := I.tuple hqx
    obtain ⟨its2, rv2, p2, _⟩ := I.list hqy
    have l1 := rv.length
    have l2 := rv2.length
    have hh : X.A.in1.handled = none := I.ok.hd hc
    refine wpAny_pyNext_zipD2_end S (Draws.tuple hh i1 a na its.toArray) (Draws.list hh i2 b nb its2.toArray) hz hTI hTO ⟨h1, show s.heap.IsTuple a its.toArray from p⟩ ⟨h2, p2.isList⟩ (by simp; omega) (by simp; omega) (by simp; omega)
      fun h' tk hk => ⟨rfl, I.turnedL (t' := tk) (ch := [z, TI, TO, i1, i2]) (fun c o hb q =>
      hk c o (fun q' => hb (by simp [q'])) (fun q' => hb (by simp [q'])) (fun q' => hb (by simp [q'])) (fun q' => hb (by simp [q'])) q) hf⟩
  self := fun A i s Q E st h => wpAny_pyIter_zip st.1 h
def iZipM (K : PySem.W.Frag) (ta : TA) : TI := fun σ H R => ta σ H fun vs H1 => ∃ a b xs ys, vs = [.ref a, .ref b] ∧ SqT K H1 a xs ∧ SqL K H1 b ys ∧ R (ItzM K a b) H1
theorem pi_zipM {X : Cx} {e e2 : Expr} {ta : TA} {p pos tpos : Pos} {elts : List Expr} {kk : Nat} (hm : X.mg "zip" = none) (ha : PA X [e, e2] ta) (hg : Gl X "zip" := by rfl)
    (hs : starEach [e, e2] X.env = (false, eval e X.env) :: starEach [e2] X.env := by rfl) (hpl : (backTo pos (starEach [e2] X.env)).any (·.1) = false := by rfl) :
    PI X (.Tuple elts kk tpos) (.Call (.Name "zip" p) [e, e2] [] pos) (iZipM X.K ta) := by
  refine ⟨fun pins s σ H R I h => ?_⟩
  refine Call_ (ld_blt I hg hm PyProof.Rows.boot_zip (PyProof.Rows.callWith_type1 (thn (ha.run pos pins s σ H _ I h) fun us s1 ⟨vs, H1, I1, r1, q1⟩ => ?_) hs hpl))
  obtain ⟨a, b, xs, ys, ex, hqx, hqy, q⟩ := q1
  subst ex
  cases r1 with
  | cons r rr =>
    cases rr with
    | cons r' rr =>
      cases rr
      cases r
      cases r'
      obtain ⟨its, rv, p1, _⟩ := I1.tuple hqx
      obtain ⟨its2, rv2, p2, _⟩ := I1.list hqy
      obtain ⟨o1, ho1, _⟩ := id p1
      have la : a < s1.heap.objs.size := Heap.lt_size ho1
      have lb : b < s1.heap.objs.size := p2.lt
      refine zip_begins2 (begins_tuple a its.toArray) (begins_list b its2.toArray) (show s1.heap.IsTuple a its.toArray from p1) p2.isList fun h' hz hTI hTO h1 h2 hsz hk => wpAny_pyIter_zip hz ?_
      have I2 : Inv X pins σ H1 { s1 with heap := h' } := I1.kept (t' := s1.toks) hk
      have fresh5 : ∀ c, c ∈ [s1.heap.objs.size + 4, s1.heap.objs.size + 2, s1.heap.objs.size + 3, s1.heap.objs.size, s1.heap.objs.size + 1] → FpOk X pins H1 c := fun c hcm => by
        have e' : c = s1.heap.objs.size + 4 ∨ c = s1.heap.objs.size + 2 ∨ c = s1.heap.objs.size + 3 ∨ c = s1.heap.objs.size ∨ c = s1.heap.objs.size + 1 := by simpa using hcm
        have hle : s1.heap.objs.size ≤ c := by
          rcases e' with z | z | z | z | z
          · rw [z]; exact Nat.le_add_right _ _
          · rw [z]; exact Nat.le_add_right _ _
          · rw [z]; exact Nat.le_add_right _ _
          · rw [z]; exact Nat.le_refl _
          · rw [z]; exact Nat.le_add_right _ _
        exact I1.fpOk hle (I1.hok.fresh hle)
      have S : ZipSep2 (s1.heap.objs.size + 4) (s1.heap.objs.size + 2) (s1.heap.objs.size + 3) s1.heap.objs.size (s1.heap.objs.size + 1) [s1.heap.objs.size, a] [s1.heap.objs.size + 1, b] :=
        zip_sep2 (fp1 := [a]) (fp2 := [b]) (fun c hc => by rw [List.mem_singleton.mp hc]; exact la) (fun c hc => by rw [List.mem_singleton.mp hc]; exact lb)
      exact ⟨s1.heap.objs.size + 4, [s1.heap.objs.size + 4, s1.heap.objs.size + 2, s1.heap.objs.size + 3, s1.heap.objs.size, s1.heap.objs.size + 1], _, _, H1, rfl, I2,
        turn_zipM S (Nat.ne_of_lt (Nat.lt_succ_self _)) (Nat.ne_of_lt la) (Nat.ne_of_lt (Nat.lt_succ_of_lt lb)), ⟨hz, hTI, ⟨_, _, hTO⟩, ⟨_, h1, rfl, rfl⟩, ⟨_, h2, rfl, rfl⟩⟩, fresh5, q⟩
theorem walk_zipM {K : PySem.W.Frag} {a b : Addr} {xs ys : List V} {n : Nat} (hn : n = min xs.length ys.length) : Walk (ItzM K a b) n (fun H => SqT K H a xs ∧ SqL K H b ys) (YPair (fun i => xs[i]?) (fun i => ys[i]?)) := by
  subst hn
  refine ⟨fun i _ hi q => ?_, fun _ q => ⟨xs, ys, q.1, q.2, by omega, by omega, by omega⟩, fun i H v H' _ q y => ?_⟩
  · have h1 : i < xs.length := by omega
    have h2 : i < ys.length := by omega
    exact ⟨xs, ys, xs[i], ys[i], q.1, q.2, by simp [h1], by simp [h2]⟩
  · obtain ⟨T, x, z, h1, h2, h3, h4, h5⟩ := y
    exact ⟨T, x, z, h1, h2, h3, h4 xs q.1, h5 ys q.2⟩
theorem walk_zipT {K : PySem.W.Frag} {a b : Addr} {xs ys : List V} {n : Nat} (hn : n = min xs.length ys.length) : Walk (RZ.ItzT K a b) n (fun H => SqT K H a xs ∧ SqT K H b ys) (YPair (fun i => xs[i]?) (fun i => ys[i]?)) := by
  subst hn
  refine ⟨fun i _ hi q => ?_, fun _ q => ⟨xs, ys, q.1, q.2, by omega⟩, fun i H v H' _ q y => ?_⟩
  · have h1 : i < xs.length := by omega
    have h2 : i < ys.length := by omega
    exact ⟨xs, ys, xs[i], ys[i], q.1, q.2, by simp [h1], by simp [h2]⟩
  · obtain ⟨T, x, z, h1, h2, h3, h4, h5⟩ := y
    exact ⟨T, x, z, h1, h2, h3, h4 xs q.1, h5 ys q.2⟩
end Al
set_option maxHeartbeats 4000000
/-! F1: the text by places, the facts. Printed by gen_facts.py. -/
namespace Al
open PySem PySem.Spec PyProof.Rows L2
def top (i : Nat) : Stmt := PySem.Challenge.pw_allbrokers_k28_whole_more_steps.main.body.getD i (.Pass ⟨0, 0, 0, 0⟩)
abbrev s_is_below : Stmt := top 8
abbrev s_is_least : Stmt := top 9
abbrev s_Kept_bool : Stmt := inClass (top 12) 0
abbrev s_Broken_bool : Stmt := inClass (top 13) 0
abbrev s_Stuck_bool : Stmt := inClass (top 13) 0
abbrev s_Tabled_init : Stmt := inClass (top 14) 0
abbrev s_is_number : Stmt := top 18
abbrev s_is_word : Stmt := top 19
abbrev s_is_step : Stmt := top 20
abbrev s_Machine_init : Stmt := inClass (top 21) 0
abbrev s_check_states : Stmt := top 23
abbrev s_is_within : Stmt := top 25
abbrev s_least_of : Stmt := top 26
abbrev s_check_allowances : Stmt := top 27
abbrev s_limits_of : Stmt := top 28
abbrev s_Adder_init : Stmt := inClass (top 29) 0
abbrev s_Adder_call : Stmt := inClass (top 29) 1
abbrev s_Ways_init : Stmt := inClass (top 30) 0
abbrev s_Ways_offer : Stmt := inClass (top 30) 1
abbrev s_Ways_run : Stmt := inClass (top 30) 2
abbrev s_Ways_table : Stmt := inClass (top 30) 3
abbrev s_Ways_least : Stmt := inClass (top 30) 4
abbrev s_Ways_run_to : Stmt := inClass (top 30) 5
abbrev s_least_falls : Stmt := top 32
abbrev s_Broken_init : Stmt := inClass (top 35) 1
abbrev s_shortest : Stmt := top 36
abbrev s_capped : Stmt := top 37
abbrev s_traced : Stmt := top 38
abbrev s_judge_never : Stmt := top 39
abbrev s_ranks_of : Stmt := top 40
abbrev s_dead_states : Stmt := top 41
abbrev s_Stuck_init : Stmt := inClass (top 43) 1
abbrev s_judge_can : Stmt := top 44
abbrev s_farthest : Stmt := top 46
abbrev s_own_steps : Stmt := top 48
abbrev s_Search_init : Stmt := inClass (top 51) 0
abbrev s_Search_walk : Stmt := inClass (top 51) 1
abbrev s_Search_finish : Stmt := inClass (top 51) 2
abbrev s_Search_tail : Stmt := inClass (top 51) 3
abbrev s_delay : Stmt := top 52
abbrev s_check_kinds : Stmt := top 54
abbrev s_View_init : Stmt := inClass (top 55) 0
abbrev s_View_closed : Stmt := inClass (top 55) 1
abbrev s_View_start : Stmt := inClass (top 55) 2
abbrev s_View_behind : Stmt := inClass (top 55) 3
abbrev s_View_has : Stmt := inClass (top 55) 5
abbrev s_is_trace : Stmt := top 56
abbrev s_far_states : Stmt := top 58
abbrev s_law_draw : Stmt := top 60
abbrev s_law_machine : Stmt := top 61
abbrev s_law_some : Stmt := top 62
abbrev s_law_allowances : Stmt := top 63
abbrev s_law : Stmt := top 65
abbrev s_Least_init : Stmt := inClass (top 31) 1
abbrev s_Kept_init : Stmt := inClass (top 34) 1
abbrev s_Able_init : Stmt := inClass (top 42) 1
abbrev s_Farthest_init : Stmt := inClass (top 45) 1
abbrev s_Longest_init : Stmt := inClass (top 49) 1
def d_is_below : He.DefD := ⟨("is_below", none), "is_below", "is_below", defArgs s_is_below, defBody s_is_below, defScope s_is_below, [], []⟩
def d_is_least : He.DefD := ⟨("is_least", none), "is_least", "is_least", defArgs s_is_least, defBody s_is_least, defScope s_is_least, [], []⟩
def d_Kept_bool : He.DefD := ⟨("Kept", some "__bool__"), "__bool__", "Good.__bool__", defArgs s_Kept_bool, defBody s_Kept_bool, defScope s_Kept_bool, [], []⟩
def d_Broken_bool : He.DefD := ⟨("Broken", some "__bool__"), "__bool__", "Bad.__bool__", defArgs s_Broken_bool, defBody s_Broken_bool, defScope s_Broken_bool, [], []⟩
def d_Stuck_bool : He.DefD := ⟨("Stuck", some "__bool__"), "__bool__", "Bad.__bool__", defArgs s_Stuck_bool, defBody s_Stuck_bool, defScope s_Stuck_bool, [], []⟩
def d_Tabled_init : He.DefD := ⟨("Tabled", some "__init__"), "__init__", "Tabled.__init__", defArgs s_Tabled_init, defBody s_Tabled_init, defScope s_Tabled_init, [], []⟩
def d_is_number : He.DefD := ⟨("is_number", none), "is_number", "is_number", defArgs s_is_number, defBody s_is_number, defScope s_is_number, [], []⟩
def d_is_word : He.DefD := ⟨("is_word", none), "is_word", "is_word", defArgs s_is_word, defBody s_is_word, defScope s_is_word, [], []⟩
def d_is_step : He.DefD := ⟨("is_step", none), "is_step", "is_step", defArgs s_is_step, defBody s_is_step, defScope s_is_step, [], []⟩
def d_Machine_init : He.DefD := ⟨("Machine", some "__init__"), "__init__", "Machine.__init__", defArgs s_Machine_init, defBody s_Machine_init, defScope s_Machine_init, [], []⟩
def d_check_states : He.DefD := ⟨("check_states", none), "check_states", "check_states", defArgs s_check_states, defBody s_check_states, defScope s_check_states, [], []⟩
def d_is_within : He.DefD := ⟨("is_within", none), "is_within", "is_within", defArgs s_is_within, defBody s_is_within, defScope s_is_within, [], []⟩
def d_least_of : He.DefD := ⟨("least_of", none), "least_of", "least_of", defArgs s_least_of, defBody s_least_of, defScope s_least_of, [], []⟩
def d_check_allowances : He.DefD := ⟨("check_allowances", none), "check_allowances", "check_allowances", defArgs s_check_allowances, defBody s_check_allowances, defScope s_check_allowances, [], []⟩
def d_limits_of : He.DefD := ⟨("limits_of", none), "limits_of", "limits_of", defArgs s_limits_of, defBody s_limits_of, defScope s_limits_of, [], []⟩
def d_Adder_init : He.DefD := ⟨("Adder", some "__init__"), "__init__", "Adder.__init__", defArgs s_Adder_init, defBody s_Adder_init, defScope s_Adder_init, [], []⟩
def d_Adder_call : He.DefD := ⟨("Adder", some "__call__"), "__call__", "Adder.__call__", defArgs s_Adder_call, defBody s_Adder_call, defScope s_Adder_call, [], []⟩
def d_Ways_init : He.DefD := ⟨("Ways", some "__init__"), "__init__", "Ways.__init__", defArgs s_Ways_init, defBody s_Ways_init, defScope s_Ways_init, [], []⟩
def d_Ways_offer : He.DefD := ⟨("Ways", some "offer"), "offer", "Ways.offer", defArgs s_Ways_offer, defBody s_Ways_offer, defScope s_Ways_offer, [], []⟩
def d_Ways_run : He.DefD := ⟨("Ways", some "run"), "run", "Ways.run", defArgs s_Ways_run, defBody s_Ways_run, defScope s_Ways_run, [], []⟩
def d_Ways_table : He.DefD := ⟨("Ways", some "table"), "table", "Ways.table", defArgs s_Ways_table, defBody s_Ways_table, defScope s_Ways_table, [], []⟩
def d_Ways_least : He.DefD := ⟨("Ways", some "least"), "least", "Ways.least", defArgs s_Ways_least, defBody s_Ways_least, defScope s_Ways_least, [], []⟩
def d_Ways_run_to : He.DefD := ⟨("Ways", some "run_to"), "run_to", "Ways.run_to", defArgs s_Ways_run_to, defBody s_Ways_run_to, defScope s_Ways_run_to, [], []⟩
def d_least_falls : He.DefD := ⟨("least_falls", none), "least_falls", "least_falls", defArgs s_least_falls, defBody s_least_falls, defScope s_least_falls, [], []⟩
def d_Broken_init : He.DefD := ⟨("Broken", some "__init__"), "__init__", "Broken.__init__", defArgs s_Broken_init, defBody s_Broken_init, defScope s_Broken_init, [], []⟩
def d_shortest : He.DefD := ⟨("shortest", none), "shortest", "shortest", defArgs s_shortest, defBody s_shortest, defScope s_shortest, [], []⟩
def d_capped : He.DefD := ⟨("capped", none), "capped", "capped", defArgs s_capped, defBody s_capped, defScope s_capped, [], []⟩
def d_traced : He.DefD := ⟨("traced", none), "traced", "traced", defArgs s_traced, defBody s_traced, defScope s_traced, [], []⟩
def d_judge_never : He.DefD := ⟨("judge_never", none), "judge_never", "judge_never", defArgs s_judge_never, defBody s_judge_never, defScope s_judge_never, [], []⟩
def d_ranks_of : He.DefD := ⟨("ranks_of", none), "ranks_of", "ranks_of", defArgs s_ranks_of, defBody s_ranks_of, defScope s_ranks_of, [], []⟩
def d_dead_states : He.DefD := ⟨("dead_states", none), "dead_states", "dead_states", defArgs s_dead_states, defBody s_dead_states, defScope s_dead_states, [], []⟩
def d_Stuck_init : He.DefD := ⟨("Stuck", some "__init__"), "__init__", "Stuck.__init__", defArgs s_Stuck_init, defBody s_Stuck_init, defScope s_Stuck_init, [], []⟩
def d_judge_can : He.DefD := ⟨("judge_can", none), "judge_can", "judge_can", defArgs s_judge_can, defBody s_judge_can, defScope s_judge_can, [], []⟩
def d_farthest : He.DefD := ⟨("farthest", none), "farthest", "farthest", defArgs s_farthest, defBody s_farthest, defScope s_farthest, [], []⟩
def d_own_steps : He.DefD := ⟨("own_steps", none), "own_steps", "own_steps", defArgs s_own_steps, defBody s_own_steps, defScope s_own_steps, [], []⟩
def d_Search_init : He.DefD := ⟨("Search", some "__init__"), "__init__", "Search.__init__", defArgs s_Search_init, defBody s_Search_init, defScope s_Search_init, [], []⟩
def d_Search_walk : He.DefD := ⟨("Search", some "walk"), "walk", "Search.walk", defArgs s_Search_walk, defBody s_Search_walk, defScope s_Search_walk, [], []⟩
def d_Search_finish : He.DefD := ⟨("Search", some "finish"), "finish", "Search.finish", defArgs s_Search_finish, defBody s_Search_finish, defScope s_Search_finish, [], []⟩
def d_Search_tail : He.DefD := ⟨("Search", some "tail"), "tail", "Search.tail", defArgs s_Search_tail, defBody s_Search_tail, defScope s_Search_tail, [], []⟩
def d_delay : He.DefD := ⟨("delay", none), "delay", "delay", defArgs s_delay, defBody s_delay, defScope s_delay, [], []⟩
def d_check_kinds : He.DefD := ⟨("check_kinds", none), "check_kinds", "check_kinds", defArgs s_check_kinds, defBody s_check_kinds, defScope s_check_kinds, [], []⟩
def d_View_init : He.DefD := ⟨("View", some "__init__"), "__init__", "View.__init__", defArgs s_View_init, defBody s_View_init, defScope s_View_init, [], []⟩
def d_View_closed : He.DefD := ⟨("View", some "closed"), "closed", "View.closed", defArgs s_View_closed, defBody s_View_closed, defScope s_View_closed, [], []⟩
def d_View_start : He.DefD := ⟨("View", some "start"), "start", "View.start", defArgs s_View_start, defBody s_View_start, defScope s_View_start, [], []⟩
def d_View_behind : He.DefD := ⟨("View", some "behind"), "behind", "View.behind", defArgs s_View_behind, defBody s_View_behind, defScope s_View_behind, [], []⟩
def d_View_has : He.DefD := ⟨("View", some "has"), "has", "View.has", defArgs s_View_has, defBody s_View_has, defScope s_View_has, [], []⟩
def d_is_trace : He.DefD := ⟨("is_trace", none), "is_trace", "is_trace", defArgs s_is_trace, defBody s_is_trace, defScope s_is_trace, [], []⟩
def d_far_states : He.DefD := ⟨("far_states", none), "far_states", "far_states", defArgs s_far_states, defBody s_far_states, defScope s_far_states, [], [("most", He.Dv.non)]⟩
def d_law_draw : He.DefD := ⟨("_law_draw", none), "_law_draw", "_law_draw", defArgs s_law_draw, defBody s_law_draw, defScope s_law_draw, [], []⟩
def d_law_machine : He.DefD := ⟨("_law_machine", none), "_law_machine", "_law_machine", defArgs s_law_machine, defBody s_law_machine, defScope s_law_machine, [], []⟩
def d_law_some : He.DefD := ⟨("_law_some", none), "_law_some", "_law_some", defArgs s_law_some, defBody s_law_some, defScope s_law_some, [], []⟩
def d_law_allowances : He.DefD := ⟨("_law_allowances", none), "_law_allowances", "_law_allowances", defArgs s_law_allowances, defBody s_law_allowances, defScope s_law_allowances, [], []⟩
def d_law : He.DefD := ⟨("law", none), "law", "law", defArgs s_law, defBody s_law, defScope s_law, [], []⟩
def fnL0 : List He.DefD := [d_is_below, d_is_least, d_Kept_bool, d_Broken_bool, d_Stuck_bool, d_Tabled_init, d_is_number, d_is_word, d_is_step, d_Machine_init, d_check_states, d_is_within, d_least_of, d_check_allowances, d_limits_of, d_Adder_init, d_Adder_call, d_Ways_init, d_Ways_offer, d_Ways_run, d_Ways_table, d_Ways_least, d_Ways_run_to, d_least_falls, d_Broken_init]
def fnL1 : List He.DefD := [d_shortest, d_capped, d_traced, d_judge_never, d_ranks_of, d_dead_states, d_Stuck_init, d_judge_can, d_farthest, d_own_steps, d_Search_init, d_Search_walk, d_Search_finish, d_Search_tail, d_delay, d_check_kinds, d_View_init, d_View_closed, d_View_start, d_View_behind, d_View_has, d_is_trace, d_far_states, d_law_draw, d_law_machine]
def fnL2 : List He.DefD := [d_law_some, d_law_allowances, d_law]
def fnL : List He.DefD := fnL0 ++ fnL1 ++ fnL2
theorem h_is_below : fnL[0]? = some d_is_below := rfl
def N_is_below : List Str := ["vector", "limits", "number", "limit"]
theorem sc_is_below : FnScope N_is_below ["vector", "limits"] (defScope s_is_below) := ⟨rfl, rfl, rfl, by decide +kernel, rfl, by decide +kernel, by decide +kernel⟩
theorem b_is_below (kV doc pm : Value) (an : Option Addr) (cdv ct : Value) (us : List Value) (hl : us.length = (["vector", "limits"] : List Str).length) : bindArgs (PySem.W.fnOf d_is_below.name d_is_below.qual d_is_below.params d_is_below.body d_is_below.scope .none kV doc pm an cdv ct) ⟨us, []⟩ = pure ((["vector", "limits"] : List Str).zip us) := match us, hl with | [_, _], _ => rfl
theorem h_is_least : fnL[1]? = some d_is_least := rfl
def N_is_least : List Str := ["vector", "others", "other"]
theorem sc_is_least : FnScope N_is_least ["vector", "others"] (defScope s_is_least) := ⟨rfl, rfl, rfl, by decide +kernel, rfl, by decide +kernel, by decide +kernel⟩
theorem b_is_least (kV doc pm : Value) (an : Option Addr) (cdv ct : Value) (us : List Value) (hl : us.length = (["vector", "others"] : List Str).length) : bindArgs (PySem.W.fnOf d_is_least.name d_is_least.qual d_is_least.params d_is_least.body d_is_least.scope .none kV doc pm an cdv ct) ⟨us, []⟩ = pure ((["vector", "others"] : List Str).zip us) := match us, hl with | [_, _], _ => rfl
theorem h_Kept_bool : fnL[2]? = some d_Kept_bool := rfl
def N_Kept_bool : List Str := ["self"]
theorem sc_Kept_bool : FnScope N_Kept_bool ["self"] (defScope s_Kept_bool) := ⟨rfl, rfl, rfl, by decide +kernel, rfl, by decide +kernel, by decide +kernel⟩
theorem b_Kept_bool (kV doc pm : Value) (an : Option Addr) (cdv ct : Value) (us : List Value) (hl : us.length = (["self"] : List Str).length) : bindArgs (PySem.W.fnOf d_Kept_bool.name d_Kept_bool.qual d_Kept_bool.params d_Kept_bool.body d_Kept_bool.scope .none kV doc pm an cdv ct) ⟨us, []⟩ = pure ((["self"] : List Str).zip us) := match us, hl with | [_], _ => rfl
theorem h_Broken_bool : fnL[3]? = some d_Broken_bool := rfl
def N_Broken_bool : List Str := ["self"]
theorem sc_Broken_bool : FnScope N_Broken_bool ["self"] (defScope s_Broken_bool) := ⟨rfl, rfl, rfl, by decide +kernel, rfl, by decide +kernel, by decide +kernel⟩
theorem b_Broken_bool (kV doc pm : Value) (an : Option Addr) (cdv ct : Value) (us : List Value) (hl : us.length = (["self"] : List Str).length) : bindArgs (PySem.W.fnOf d_Broken_bool.name d_Broken_bool.qual d_Broken_bool.params d_Broken_bool.body d_Broken_bool.scope .none kV doc pm an cdv ct) ⟨us, []⟩ = pure ((["self"] : List Str).zip us) := match us, hl with | [_], _ => rfl
theorem h_Stuck_bool : fnL[4]? = some d_Stuck_bool := rfl
def N_Stuck_bool : List Str := ["self"]
theorem sc_Stuck_bool : FnScope N_Stuck_bool ["self"] (defScope s_Stuck_bool) := ⟨rfl, rfl, rfl, by decide +kernel, rfl, by decide +kernel, by decide +kernel⟩
theorem b_Stuck_bool (kV doc pm : Value) (an : Option Addr) (cdv ct : Value) (us : List Value) (hl : us.length = (["self"] : List Str).length) : bindArgs (PySem.W.fnOf d_Stuck_bool.name d_Stuck_bool.qual d_Stuck_bool.params d_Stuck_bool.body d_Stuck_bool.scope .none kV doc pm an cdv ct) ⟨us, []⟩ = pure ((["self"] : List Str).zip us) := match us, hl with | [_], _ => rfl
theorem h_Tabled_init : fnL[5]? = some d_Tabled_init := rfl
def N_Tabled_init : List Str := ["self", "costs", "state", "held"]
theorem sc_Tabled_init : FnScope N_Tabled_init ["self", "costs"] (defScope s_Tabled_init) := ⟨rfl, rfl, rfl, by decide +kernel, rfl, by decide +kernel, by decide +kernel⟩
theorem b_Tabled_init (kV doc pm : Value) (an : Option Addr) (cdv ct : Value) (us : List Value) (hl : us.length = (["self", "costs"] : List Str).length) : bindArgs (PySem.W.fnOf d_Tabled_init.name d_Tabled_init.qual d_Tabled_init.params d_Tabled_init.body d_Tabled_init.scope .none kV doc pm an cdv ct) ⟨us, []⟩ = pure ((["self", "costs"] : List Str).zip us) := match us, hl with | [_, _], _ => rfl
theorem h_is_number : fnL[6]? = some d_is_number := rfl
def N_is_number : List Str := ["thing"]
theorem sc_is_number : FnScope N_is_number ["thing"] (defScope s_is_number) := ⟨rfl, rfl, rfl, by decide +kernel, rfl, by decide +kernel, by decide +kernel⟩
theorem b_is_number (kV doc pm : Value) (an : Option Addr) (cdv ct : Value) (us : List Value) (hl : us.length = (["thing"] : List Str).length) : bindArgs (PySem.W.fnOf d_is_number.name d_is_number.qual d_is_number.params d_is_number.body d_is_number.scope .none kV doc pm an cdv ct) ⟨us, []⟩ = pure ((["thing"] : List Str).zip us) := match us, hl with | [_], _ => rfl
theorem h_is_word : fnL[7]? = some d_is_word := rfl
def N_is_word : List Str := ["thing", "sign"]
theorem sc_is_word : FnScope N_is_word ["thing"] (defScope s_is_word) := ⟨rfl, rfl, rfl, by decide +kernel, rfl, by decide +kernel, by decide +kernel⟩
theorem b_is_word (kV doc pm : Value) (an : Option Addr) (cdv ct : Value) (us : List Value) (hl : us.length = (["thing"] : List Str).length) : bindArgs (PySem.W.fnOf d_is_word.name d_is_word.qual d_is_word.params d_is_word.body d_is_word.scope .none kV doc pm an cdv ct) ⟨us, []⟩ = pure ((["thing"] : List Str).zip us) := match us, hl with | [_], _ => rfl
theorem h_is_step : fnL[8]? = some d_is_step := rfl
def N_is_step : List Str := ["thing", "many", "known", "state", "kind", "seen", "goal", "one"]
theorem sc_is_step : FnScope N_is_step ["thing", "many", "known"] (defScope s_is_step) := ⟨rfl, rfl, rfl, by decide +kernel, rfl, by decide +kernel, by decide +kernel⟩
theorem b_is_step (kV doc pm : Value) (an : Option Addr) (cdv ct : Value) (us : List Value) (hl : us.length = (["thing", "many", "known"] : List Str).length) : bindArgs (PySem.W.fnOf d_is_step.name d_is_step.qual d_is_step.params d_is_step.body d_is_step.scope .none kV doc pm an cdv ct) ⟨us, []⟩ = pure ((["thing", "many", "known"] : List Str).zip us) := match us, hl with | [_, _, _], _ => rfl
theorem h_Machine_init : fnL[9]? = some d_Machine_init := rfl
def N_Machine_init : List Str := ["self", "many", "steps", "known", "place", "step", "state"]
theorem sc_Machine_init : FnScope N_Machine_init ["self", "many", "steps"] (defScope s_Machine_init) := ⟨rfl, rfl, rfl, by decide +kernel, rfl, by decide +kernel, by decide +kernel⟩
theorem b_Machine_init (kV doc pm : Value) (an : Option Addr) (cdv ct : Value) (us : List Value) (hl : us.length = (["self", "many", "steps"] : List Str).length) : bindArgs (PySem.W.fnOf d_Machine_init.name d_Machine_init.qual d_Machine_init.params d_Machine_init.body d_Machine_init.scope .none kV doc pm an cdv ct) ⟨us, []⟩ = pure ((["self", "many", "steps"] : List Str).zip us) := match us, hl with | [_, _, _], _ => rfl
theorem h_check_states : fnL[10]? = some d_check_states := rfl
def N_check_states : List Str := ["machine", "states", "one", "late"]
theorem sc_check_states : FnScope N_check_states ["machine", "states"] (defScope s_check_states) := ⟨rfl, rfl, rfl, by decide +kernel, rfl, by decide +kernel, by decide +kernel⟩
theorem b_check_states (kV doc pm : Value) (an : Option Addr) (cdv ct : Value) (us : List Value) (hl : us.length = (["machine", "states"] : List Str).length) : bindArgs (PySem.W.fnOf d_check_states.name d_check_states.qual d_check_states.params d_check_states.body d_check_states.scope .none kV doc pm an cdv ct) ⟨us, []⟩ = pure ((["machine", "states"] : List Str).zip us) := match us, hl with | [_, _], _ => rfl
theorem h_is_within : fnL[11]? = some d_is_within := rfl
def N_is_within : List Str := ["vector", "limits"]
theorem sc_is_within : FnScope N_is_within ["vector", "limits"] (defScope s_is_within) := ⟨rfl, rfl, rfl, by decide +kernel, rfl, by decide +kernel, by decide +kernel⟩
theorem b_is_within (kV doc pm : Value) (an : Option Addr) (cdv ct : Value) (us : List Value) (hl : us.length = (["vector", "limits"] : List Str).length) : bindArgs (PySem.W.fnOf d_is_within.name d_is_within.qual d_is_within.params d_is_within.body d_is_within.scope .none kV doc pm an cdv ct) ⟨us, []⟩ = pure ((["vector", "limits"] : List Str).zip us) := match us, hl with | [_, _], _ => rfl
theorem h_least_of : fnL[12]? = some d_least_of := rfl
def N_least_of : List Str := ["vectors", "told", "vector"]
theorem sc_least_of : FnScope N_least_of ["vectors"] (defScope s_least_of) := ⟨rfl, rfl, rfl, by decide +kernel, rfl, by decide +kernel, by decide +kernel⟩
theorem b_least_of (kV doc pm : Value) (an : Option Addr) (cdv ct : Value) (us : List Value) (hl : us.length = (["vectors"] : List Str).length) : bindArgs (PySem.W.fnOf d_least_of.name d_least_of.qual d_least_of.params d_least_of.body d_least_of.scope .none kV doc pm an cdv ct) ⟨us, []⟩ = pure ((["vectors"] : List Str).zip us) := match us, hl with | [_], _ => rfl
theorem h_check_allowances : fnL[13]? = some d_check_allowances := rfl
def N_check_allowances : List Str := ["allowances", "limits", "kind", "limit"]
theorem sc_check_allowances : FnScope N_check_allowances ["allowances"] (defScope s_check_allowances) := ⟨rfl, rfl, rfl, by decide +kernel, rfl, by decide +kernel, by decide +kernel⟩
theorem b_check_allowances (kV doc pm : Value) (an : Option Addr) (cdv ct : Value) (us : List Value) (hl : us.length = (["allowances"] : List Str).length) : bindArgs (PySem.W.fnOf d_check_allowances.name d_check_allowances.qual d_check_allowances.params d_check_allowances.body d_check_allowances.scope .none kV doc pm an cdv ct) ⟨us, []⟩ = pure ((["allowances"] : List Str).zip us) := match us, hl with | [_], _ => rfl
theorem h_limits_of : fnL[14]? = some d_limits_of := rfl
def N_limits_of : List Str := ["machine", "allowances", "kind"]
theorem sc_limits_of : FnScope N_limits_of ["machine", "allowances"] (defScope s_limits_of) := ⟨rfl, rfl, rfl, by decide +kernel, rfl, by decide +kernel, by decide +kernel⟩
theorem b_limits_of (kV doc pm : Value) (an : Option Addr) (cdv ct : Value) (us : List Value) (hl : us.length = (["machine", "allowances"] : List Str).length) : bindArgs (PySem.W.fnOf d_limits_of.name d_limits_of.qual d_limits_of.params d_limits_of.body d_limits_of.scope .none kV doc pm an cdv ct) ⟨us, []⟩ = pure ((["machine", "allowances"] : List Str).zip us) := match us, hl with | [_, _], _ => rfl
theorem h_Adder_init : fnL[15]? = some d_Adder_init := rfl
def N_Adder_init : List Str := ["self", "machine", "spot", "kind"]
theorem sc_Adder_init : FnScope N_Adder_init ["self", "machine"] (defScope s_Adder_init) := ⟨rfl, rfl, rfl, by decide +kernel, rfl, by decide +kernel, by decide +kernel⟩
theorem b_Adder_init (kV doc pm : Value) (an : Option Addr) (cdv ct : Value) (us : List Value) (hl : us.length = (["self", "machine"] : List Str).length) : bindArgs (PySem.W.fnOf d_Adder_init.name d_Adder_init.qual d_Adder_init.params d_Adder_init.body d_Adder_init.scope .none kV doc pm an cdv ct) ⟨us, []⟩ = pure ((["self", "machine"] : List Str).zip us) := match us, hl with | [_, _], _ => rfl
theorem h_Adder_call : fnL[16]? = some d_Adder_call := rfl
def N_Adder_call : List Str := ["self", "vector", "step", "spot"]
theorem sc_Adder_call : FnScope N_Adder_call ["self", "vector", "step"] (defScope s_Adder_call) := ⟨rfl, rfl, rfl, by decide +kernel, rfl, by decide +kernel, by decide +kernel⟩
theorem b_Adder_call (kV doc pm : Value) (an : Option Addr) (cdv ct : Value) (us : List Value) (hl : us.length = (["self", "vector", "step"] : List Str).length) : bindArgs (PySem.W.fnOf d_Adder_call.name d_Adder_call.qual d_Adder_call.params d_Adder_call.body d_Adder_call.scope .none kV doc pm an cdv ct) ⟨us, []⟩ = pure ((["self", "vector", "step"] : List Str).zip us) := match us, hl with | [_, _, _], _ => rfl
theorem h_Ways_init : fnL[17]? = some d_Ways_init := rfl
def N_Ways_init : List Str := ["self", "machine", "limits", "start", "done", "state", "vector", "step"]
theorem sc_Ways_init : FnScope N_Ways_init ["self", "machine", "limits"] (defScope s_Ways_init) := ⟨rfl, rfl, rfl, by decide +kernel, rfl, by decide +kernel, by decide +kernel⟩
theorem b_Ways_init (kV doc pm : Value) (an : Option Addr) (cdv ct : Value) (us : List Value) (hl : us.length = (["self", "machine", "limits"] : List Str).length) : bindArgs (PySem.W.fnOf d_Ways_init.name d_Ways_init.qual d_Ways_init.params d_Ways_init.body d_Ways_init.scope .none kV doc pm an cdv ct) ⟨us, []⟩ = pure ((["self", "machine", "limits"] : List Str).zip us) := match us, hl with | [_, _, _], _ => rfl
theorem h_Ways_offer : fnL[18]? = some d_Ways_offer := rfl
def N_Ways_offer : List Str := ["self", "state", "vector", "origin", "held", "other"]
theorem sc_Ways_offer : FnScope N_Ways_offer ["self", "state", "vector", "origin"] (defScope s_Ways_offer) := ⟨rfl, rfl, rfl, by decide +kernel, rfl, by decide +kernel, by decide +kernel⟩
theorem b_Ways_offer (kV doc pm : Value) (an : Option Addr) (cdv ct : Value) (us : List Value) (hl : us.length = (["self", "state", "vector", "origin"] : List Str).length) : bindArgs (PySem.W.fnOf d_Ways_offer.name d_Ways_offer.qual d_Ways_offer.params d_Ways_offer.body d_Ways_offer.scope .none kV doc pm an cdv ct) ⟨us, []⟩ = pure ((["self", "state", "vector", "origin"] : List Str).zip us) := match us, hl with | [_, _, _, _], _ => rfl
theorem h_Ways_run : fnL[19]? = some d_Ways_run := rfl
def N_Ways_run : List Str := ["self", "state", "vector", "found", "step"]
theorem sc_Ways_run : FnScope N_Ways_run ["self", "state", "vector"] (defScope s_Ways_run) := ⟨rfl, rfl, rfl, by decide +kernel, rfl, by decide +kernel, by decide +kernel⟩
theorem b_Ways_run (kV doc pm : Value) (an : Option Addr) (cdv ct : Value) (us : List Value) (hl : us.length = (["self", "state", "vector"] : List Str).length) : bindArgs (PySem.W.fnOf d_Ways_run.name d_Ways_run.qual d_Ways_run.params d_Ways_run.body d_Ways_run.scope .none kV doc pm an cdv ct) ⟨us, []⟩ = pure ((["self", "state", "vector"] : List Str).zip us) := match us, hl with | [_, _, _], _ => rfl
theorem h_Ways_table : fnL[20]? = some d_Ways_table := rfl
def N_Ways_table : List Str := ["self", "state", "held"]
theorem sc_Ways_table : FnScope N_Ways_table ["self"] (defScope s_Ways_table) := ⟨rfl, rfl, rfl, by decide +kernel, rfl, by decide +kernel, by decide +kernel⟩
theorem b_Ways_table (kV doc pm : Value) (an : Option Addr) (cdv ct : Value) (us : List Value) (hl : us.length = (["self"] : List Str).length) : bindArgs (PySem.W.fnOf d_Ways_table.name d_Ways_table.qual d_Ways_table.params d_Ways_table.body d_Ways_table.scope .none kV doc pm an cdv ct) ⟨us, []⟩ = pure ((["self"] : List Str).zip us) := match us, hl with | [_], _ => rfl
theorem h_Ways_least : fnL[21]? = some d_Ways_least := rfl
def N_Ways_least : List Str := ["self", "goals", "goal", "vector"]
theorem sc_Ways_least : FnScope N_Ways_least ["self", "goals"] (defScope s_Ways_least) := ⟨rfl, rfl, rfl, by decide +kernel, rfl, by decide +kernel, by decide +kernel⟩
theorem b_Ways_least (kV doc pm : Value) (an : Option Addr) (cdv ct : Value) (us : List Value) (hl : us.length = (["self", "goals"] : List Str).length) : bindArgs (PySem.W.fnOf d_Ways_least.name d_Ways_least.qual d_Ways_least.params d_Ways_least.body d_Ways_least.scope .none kV doc pm an cdv ct) ⟨us, []⟩ = pure ((["self", "goals"] : List Str).zip us) := match us, hl with | [_, _], _ => rfl
theorem h_Ways_run_to : fnL[22]? = some d_Ways_run_to := rfl
def N_Ways_run_to : List Str := ["self", "goals", "vector", "goal"]
theorem sc_Ways_run_to : FnScope N_Ways_run_to ["self", "goals", "vector"] (defScope s_Ways_run_to) := ⟨rfl, rfl, rfl, by decide +kernel, rfl, by decide +kernel, by decide +kernel⟩
theorem b_Ways_run_to (kV doc pm : Value) (an : Option Addr) (cdv ct : Value) (us : List Value) (hl : us.length = (["self", "goals", "vector"] : List Str).length) : bindArgs (PySem.W.fnOf d_Ways_run_to.name d_Ways_run_to.qual d_Ways_run_to.params d_Ways_run_to.body d_Ways_run_to.scope .none kV doc pm an cdv ct) ⟨us, []⟩ = pure ((["self", "goals", "vector"] : List Str).zip us) := match us, hl with | [_, _, _], _ => rfl
theorem h_least_falls : fnL[23]? = some d_least_falls := rfl
def N_least_falls : List Str := ["machine", "goals", "ways", "vectors", "vector"]
theorem sc_least_falls : FnScope N_least_falls ["machine", "goals"] (defScope s_least_falls) := ⟨rfl, rfl, rfl, by decide +kernel, rfl, by decide +kernel, by decide +kernel⟩
theorem b_least_falls (kV doc pm : Value) (an : Option Addr) (cdv ct : Value) (us : List Value) (hl : us.length = (["machine", "goals"] : List Str).length) : bindArgs (PySem.W.fnOf d_least_falls.name d_least_falls.qual d_least_falls.params d_least_falls.body d_least_falls.scope .none kV doc pm an cdv ct) ⟨us, []⟩ = pure ((["machine", "goals"] : List Str).zip us) := match us, hl with | [_, _], _ => rfl
theorem h_Broken_init : fnL[24]? = some d_Broken_init := rfl
def N_Broken_init : List Str := ["self", "run"]
theorem sc_Broken_init : FnScope N_Broken_init ["self", "run"] (defScope s_Broken_init) := ⟨rfl, rfl, rfl, by decide +kernel, rfl, by decide +kernel, by decide +kernel⟩
theorem b_Broken_init (kV doc pm : Value) (an : Option Addr) (cdv ct : Value) (us : List Value) (hl : us.length = (["self", "run"] : List Str).length) : bindArgs (PySem.W.fnOf d_Broken_init.name d_Broken_init.qual d_Broken_init.params d_Broken_init.body d_Broken_init.scope .none kV doc pm an cdv ct) ⟨us, []⟩ = pure ((["self", "run"] : List Str).zip us) := match us, hl with | [_, _], _ => rfl
theorem h_shortest : fnL[25]? = some d_shortest := rfl
def N_shortest : List Str := ["machine", "goals", "limits", "places", "start", "origins", "level", "late", "state", "vector", "step", "more", "spot", "kind", "limit"]
theorem sc_shortest : FnScope N_shortest ["machine", "goals", "limits"] (defScope s_shortest) := ⟨rfl, rfl, rfl, by decide +kernel, rfl, by decide +kernel, by decide +kernel⟩
theorem b_shortest (kV doc pm : Value) (an : Option Addr) (cdv ct : Value) (us : List Value) (hl : us.length = (["machine", "goals", "limits"] : List Str).length) : bindArgs (PySem.W.fnOf d_shortest.name d_shortest.qual d_shortest.params d_shortest.body d_shortest.scope .none kV doc pm an cdv ct) ⟨us, []⟩ = pure ((["machine", "goals", "limits"] : List Str).zip us) := match us, hl with | [_, _, _], _ => rfl
theorem h_capped : fnL[26]? = some d_capped := rfl
def N_capped : List Str := ["number", "limit"]
theorem sc_capped : FnScope N_capped ["number", "limit"] (defScope s_capped) := ⟨rfl, rfl, rfl, by decide +kernel, rfl, by decide +kernel, by decide +kernel⟩
theorem b_capped (kV doc pm : Value) (an : Option Addr) (cdv ct : Value) (us : List Value) (hl : us.length = (["number", "limit"] : List Str).length) : bindArgs (PySem.W.fnOf d_capped.name d_capped.qual d_capped.params d_capped.body d_capped.scope .none kV doc pm an cdv ct) ⟨us, []⟩ = pure ((["number", "limit"] : List Str).zip us) := match us, hl with | [_, _], _ => rfl
theorem h_traced : fnL[27]? = some d_traced := rfl
def N_traced : List Str := ["origins", "node", "found", "state", "vector", "step"]
theorem sc_traced : FnScope N_traced ["origins", "node"] (defScope s_traced) := ⟨rfl, rfl, rfl, by decide +kernel, rfl, by decide +kernel, by decide +kernel⟩
theorem b_traced (kV doc pm : Value) (an : Option Addr) (cdv ct : Value) (us : List Value) (hl : us.length = (["origins", "node"] : List Str).length) : bindArgs (PySem.W.fnOf d_traced.name d_traced.qual d_traced.params d_traced.body d_traced.scope .none kV doc pm an cdv ct) ⟨us, []⟩ = pure ((["origins", "node"] : List Str).zip us) := match us, hl with | [_, _], _ => rfl
theorem h_judge_never : fnL[28]? = some d_judge_never := rfl
def N_judge_never : List Str := ["machine", "bad", "allowances", "limits", "run"]
theorem sc_judge_never : FnScope N_judge_never ["machine", "bad", "allowances"] (defScope s_judge_never) := ⟨rfl, rfl, rfl, by decide +kernel, rfl, by decide +kernel, by decide +kernel⟩
theorem b_judge_never (kV doc pm : Value) (an : Option Addr) (cdv ct : Value) (us : List Value) (hl : us.length = (["machine", "bad", "allowances"] : List Str).length) : bindArgs (PySem.W.fnOf d_judge_never.name d_judge_never.qual d_judge_never.params d_judge_never.body d_judge_never.scope .none kV doc pm an cdv ct) ⟨us, []⟩ = pure ((["machine", "bad", "allowances"] : List Str).zip us) := match us, hl with | [_, _, _], _ => rfl
theorem h_ranks_of : fnL[29]? = some d_ranks_of := rfl
def N_ranks_of : List Str := ["machine", "goals", "before", "state", "kind", "seen", "goal", "ranks", "level", "late"]
theorem sc_ranks_of : FnScope N_ranks_of ["machine", "goals"] (defScope s_ranks_of) := ⟨rfl, rfl, rfl, by decide +kernel, rfl, by decide +kernel, by decide +kernel⟩
theorem b_ranks_of (kV doc pm : Value) (an : Option Addr) (cdv ct : Value) (us : List Value) (hl : us.length = (["machine", "goals"] : List Str).length) : bindArgs (PySem.W.fnOf d_ranks_of.name d_ranks_of.qual d_ranks_of.params d_ranks_of.body d_ranks_of.scope .none kV doc pm an cdv ct) ⟨us, []⟩ = pure ((["machine", "goals"] : List Str).zip us) := match us, hl with | [_, _], _ => rfl
theorem h_dead_states : fnL[30]? = some d_dead_states := rfl
def N_dead_states : List Str := ["machine", "goals", "ranks", "state"]
theorem sc_dead_states : FnScope N_dead_states ["machine", "goals"] (defScope s_dead_states) := ⟨rfl, rfl, rfl, by decide +kernel, rfl, by decide +kernel, by decide +kernel⟩
theorem b_dead_states (kV doc pm : Value) (an : Option Addr) (cdv ct : Value) (us : List Value) (hl : us.length = (["machine", "goals"] : List Str).length) : bindArgs (PySem.W.fnOf d_dead_states.name d_dead_states.qual d_dead_states.params d_dead_states.body d_dead_states.scope .none kV doc pm an cdv ct) ⟨us, []⟩ = pure ((["machine", "goals"] : List Str).zip us) := match us, hl with | [_, _], _ => rfl
theorem h_Stuck_init : fnL[31]? = some d_Stuck_init := rfl
def N_Stuck_init : List Str := ["self", "run", "dead"]
theorem sc_Stuck_init : FnScope N_Stuck_init ["self", "run", "dead"] (defScope s_Stuck_init) := ⟨rfl, rfl, rfl, by decide +kernel, rfl, by decide +kernel, by decide +kernel⟩
theorem b_Stuck_init (kV doc pm : Value) (an : Option Addr) (cdv ct : Value) (us : List Value) (hl : us.length = (["self", "run", "dead"] : List Str).length) : bindArgs (PySem.W.fnOf d_Stuck_init.name d_Stuck_init.qual d_Stuck_init.params d_Stuck_init.body d_Stuck_init.scope .none kV doc pm an cdv ct) ⟨us, []⟩ = pure ((["self", "run", "dead"] : List Str).zip us) := match us, hl with | [_, _, _], _ => rfl
theorem h_judge_can : fnL[32]? = some d_judge_can := rfl
def N_judge_can : List Str := ["machine", "goals", "allowances", "dead", "limits", "run", "costs", "ranks", "state"]
theorem sc_judge_can : FnScope N_judge_can ["machine", "goals", "allowances"] (defScope s_judge_can) := ⟨rfl, rfl, rfl, by decide +kernel, rfl, by decide +kernel, by decide +kernel⟩
theorem b_judge_can (kV doc pm : Value) (an : Option Addr) (cdv ct : Value) (us : List Value) (hl : us.length = (["machine", "goals", "allowances"] : List Str).length) : bindArgs (PySem.W.fnOf d_judge_can.name d_judge_can.qual d_judge_can.params d_judge_can.body d_judge_can.scope .none kV doc pm an cdv ct) ⟨us, []⟩ = pure ((["machine", "goals", "allowances"] : List Str).zip us) := match us, hl with | [_, _, _], _ => rfl
theorem h_farthest : fnL[33]? = some d_farthest := rfl
def N_farthest : List Str := ["machine", "goals", "allowances", "found", "limits", "best"]
theorem sc_farthest : FnScope N_farthest ["machine", "goals", "allowances"] (defScope s_farthest) := ⟨rfl, rfl, rfl, by decide +kernel, rfl, by decide +kernel, by decide +kernel⟩
theorem b_farthest (kV doc pm : Value) (an : Option Addr) (cdv ct : Value) (us : List Value) (hl : us.length = (["machine", "goals", "allowances"] : List Str).length) : bindArgs (PySem.W.fnOf d_farthest.name d_farthest.qual d_farthest.params d_farthest.body d_farthest.scope .none kV doc pm an cdv ct) ⟨us, []⟩ = pure ((["machine", "goals", "allowances"] : List Str).zip us) := match us, hl with | [_, _, _], _ => rfl
theorem h_own_steps : fnL[34]? = some d_own_steps := rfl
def N_own_steps : List Str := ["machine", "goals", "state", "step"]
theorem sc_own_steps : FnScope N_own_steps ["machine", "goals", "state"] (defScope s_own_steps) := ⟨rfl, rfl, rfl, by decide +kernel, rfl, by decide +kernel, by decide +kernel⟩
theorem b_own_steps (kV doc pm : Value) (an : Option Addr) (cdv ct : Value) (us : List Value) (hl : us.length = (["machine", "goals", "state"] : List Str).length) : bindArgs (PySem.W.fnOf d_own_steps.name d_own_steps.qual d_own_steps.params d_own_steps.body d_own_steps.scope .none kV doc pm an cdv ct) ⟨us, []⟩ = pure ((["machine", "goals", "state"] : List Str).zip us) := match us, hl with | [_, _, _], _ => rfl
theorem h_Search_init : fnL[35]? = some d_Search_init := rfl
def N_Search_init : List Str := ["self", "machine", "goals"]
theorem sc_Search_init : FnScope N_Search_init ["self", "machine", "goals"] (defScope s_Search_init) := ⟨rfl, rfl, rfl, by decide +kernel, rfl, by decide +kernel, by decide +kernel⟩
theorem b_Search_init (kV doc pm : Value) (an : Option Addr) (cdv ct : Value) (us : List Value) (hl : us.length = (["self", "machine", "goals"] : List Str).length) : bindArgs (PySem.W.fnOf d_Search_init.name d_Search_init.qual d_Search_init.params d_Search_init.body d_Search_init.scope .none kV doc pm an cdv ct) ⟨us, []⟩ = pure ((["self", "machine", "goals"] : List Str).zip us) := match us, hl with | [_, _, _], _ => rfl
theorem h_Search_walk : fnL[36]? = some d_Search_walk := rfl
def N_Search_walk : List Str := ["self", "start", "path", "open_states", "taken", "state", "steps", "step"]
theorem sc_Search_walk : FnScope N_Search_walk ["self", "start"] (defScope s_Search_walk) := ⟨rfl, rfl, rfl, by decide +kernel, rfl, by decide +kernel, by decide +kernel⟩
theorem b_Search_walk (kV doc pm : Value) (an : Option Addr) (cdv ct : Value) (us : List Value) (hl : us.length = (["self", "start"] : List Str).length) : bindArgs (PySem.W.fnOf d_Search_walk.name d_Search_walk.qual d_Search_walk.params d_Search_walk.body d_Search_walk.scope .none kV doc pm an cdv ct) ⟨us, []⟩ = pure ((["self", "start"] : List Str).zip us) := match us, hl with | [_, _], _ => rfl
theorem h_Search_finish : fnL[37]? = some d_Search_finish := rfl
def N_Search_finish : List Str := ["self", "state", "best", "step"]
theorem sc_Search_finish : FnScope N_Search_finish ["self", "state"] (defScope s_Search_finish) := ⟨rfl, rfl, rfl, by decide +kernel, rfl, by decide +kernel, by decide +kernel⟩
theorem b_Search_finish (kV doc pm : Value) (an : Option Addr) (cdv ct : Value) (us : List Value) (hl : us.length = (["self", "state"] : List Str).length) : bindArgs (PySem.W.fnOf d_Search_finish.name d_Search_finish.qual d_Search_finish.params d_Search_finish.body d_Search_finish.scope .none kV doc pm an cdv ct) ⟨us, []⟩ = pure ((["self", "state"] : List Str).zip us) := match us, hl with | [_, _], _ => rfl
theorem h_Search_tail : fnL[38]? = some d_Search_tail := rfl
def N_Search_tail : List Str := ["self", "state", "found"]
theorem sc_Search_tail : FnScope N_Search_tail ["self", "state"] (defScope s_Search_tail) := ⟨rfl, rfl, rfl, by decide +kernel, rfl, by decide +kernel, by decide +kernel⟩
theorem b_Search_tail (kV doc pm : Value) (an : Option Addr) (cdv ct : Value) (us : List Value) (hl : us.length = (["self", "state"] : List Str).length) : bindArgs (PySem.W.fnOf d_Search_tail.name d_Search_tail.qual d_Search_tail.params d_Search_tail.body d_Search_tail.scope .none kV doc pm an cdv ct) ⟨us, []⟩ = pure ((["self", "state"] : List Str).zip us) := match us, hl with | [_, _], _ => rfl
theorem h_delay : fnL[39]? = some d_delay := rfl
def N_delay : List Str := ["machine", "goals", "allowances", "limits", "costs", "search", "state", "best", "run"]
theorem sc_delay : FnScope N_delay ["machine", "goals", "allowances"] (defScope s_delay) := ⟨rfl, rfl, rfl, by decide +kernel, rfl, by decide +kernel, by decide +kernel⟩
theorem b_delay (kV doc pm : Value) (an : Option Addr) (cdv ct : Value) (us : List Value) (hl : us.length = (["machine", "goals", "allowances"] : List Str).length) : bindArgs (PySem.W.fnOf d_delay.name d_delay.qual d_delay.params d_delay.body d_delay.scope .none kV doc pm an cdv ct) ⟨us, []⟩ = pure ((["machine", "goals", "allowances"] : List Str).zip us) := match us, hl with | [_, _, _], _ => rfl
theorem h_check_kinds : fnL[40]? = some d_check_kinds := rfl
def N_check_kinds : List Str := ["free", "one", "late", "kind"]
theorem sc_check_kinds : FnScope N_check_kinds ["free"] (defScope s_check_kinds) := ⟨rfl, rfl, rfl, by decide +kernel, rfl, by decide +kernel, by decide +kernel⟩
theorem b_check_kinds (kV doc pm : Value) (an : Option Addr) (cdv ct : Value) (us : List Value) (hl : us.length = (["free"] : List Str).length) : bindArgs (PySem.W.fnOf d_check_kinds.name d_check_kinds.qual d_check_kinds.params d_check_kinds.body d_check_kinds.scope .none kV doc pm an cdv ct) ⟨us, []⟩ = pure ((["free"] : List Str).zip us) := match us, hl with | [_], _ => rfl
theorem h_View_init : fnL[41]? = some d_View_init := rfl
def N_View_init : List Str := ["self", "machine", "free", "state", "kind", "seen", "goal"]
theorem sc_View_init : FnScope N_View_init ["self", "machine", "free"] (defScope s_View_init) := ⟨rfl, rfl, rfl, by decide +kernel, rfl, by decide +kernel, by decide +kernel⟩
theorem b_View_init (kV doc pm : Value) (an : Option Addr) (cdv ct : Value) (us : List Value) (hl : us.length = (["self", "machine", "free"] : List Str).length) : bindArgs (PySem.W.fnOf d_View_init.name d_View_init.qual d_View_init.params d_View_init.body d_View_init.scope .none kV doc pm an cdv ct) ⟨us, []⟩ = pure ((["self", "machine", "free"] : List Str).zip us) := match us, hl with | [_, _, _], _ => rfl
theorem h_View_closed : fnL[42]? = some d_View_closed := rfl
def N_View_closed : List Str := ["self", "states", "found", "rest", "goal", "state"]
theorem sc_View_closed : FnScope N_View_closed ["self", "states"] (defScope s_View_closed) := ⟨rfl, rfl, rfl, by decide +kernel, rfl, by decide +kernel, by decide +kernel⟩
theorem b_View_closed (kV doc pm : Value) (an : Option Addr) (cdv ct : Value) (us : List Value) (hl : us.length = (["self", "states"] : List Str).length) : bindArgs (PySem.W.fnOf d_View_closed.name d_View_closed.qual d_View_closed.params d_View_closed.body d_View_closed.scope .none kV doc pm an cdv ct) ⟨us, []⟩ = pure ((["self", "states"] : List Str).zip us) := match us, hl with | [_, _], _ => rfl
theorem h_View_start : fnL[43]? = some d_View_start := rfl
def N_View_start : List Str := ["self"]
theorem sc_View_start : FnScope N_View_start ["self"] (defScope s_View_start) := ⟨rfl, rfl, rfl, by decide +kernel, rfl, by decide +kernel, by decide +kernel⟩
theorem b_View_start (kV doc pm : Value) (an : Option Addr) (cdv ct : Value) (us : List Value) (hl : us.length = (["self"] : List Str).length) : bindArgs (PySem.W.fnOf d_View_start.name d_View_start.qual d_View_start.params d_View_start.body d_View_start.scope .none kV doc pm an cdv ct) ⟨us, []⟩ = pure ((["self"] : List Str).zip us) := match us, hl with | [_], _ => rfl
theorem h_View_behind : fnL[44]? = some d_View_behind := rfl
def N_View_behind : List Str := ["self", "states", "word", "state", "seen", "goal"]
theorem sc_View_behind : FnScope N_View_behind ["self", "states", "word"] (defScope s_View_behind) := ⟨rfl, rfl, rfl, by decide +kernel, rfl, by decide +kernel, by decide +kernel⟩
theorem b_View_behind (kV doc pm : Value) (an : Option Addr) (cdv ct : Value) (us : List Value) (hl : us.length = (["self", "states", "word"] : List Str).length) : bindArgs (PySem.W.fnOf d_View_behind.name d_View_behind.qual d_View_behind.params d_View_behind.body d_View_behind.scope .none kV doc pm an cdv ct) ⟨us, []⟩ = pure ((["self", "states", "word"] : List Str).zip us) := match us, hl with | [_, _, _], _ => rfl
theorem h_View_has : fnL[45]? = some d_View_has := rfl
def N_View_has : List Str := ["self", "trace", "states", "word"]
theorem sc_View_has : FnScope N_View_has ["self", "trace"] (defScope s_View_has) := ⟨rfl, rfl, rfl, by decide +kernel, rfl, by decide +kernel, by decide +kernel⟩
theorem b_View_has (kV doc pm : Value) (an : Option Addr) (cdv ct : Value) (us : List Value) (hl : us.length = (["self", "trace"] : List Str).length) : bindArgs (PySem.W.fnOf d_View_has.name d_View_has.qual d_View_has.params d_View_has.body d_View_has.scope .none kV doc pm an cdv ct) ⟨us, []⟩ = pure ((["self", "trace"] : List Str).zip us) := match us, hl with | [_, _], _ => rfl
theorem h_is_trace : fnL[46]? = some d_is_trace := rfl
def N_is_trace : List Str := ["machine", "trace", "free"]
theorem sc_is_trace : FnScope N_is_trace ["machine", "trace", "free"] (defScope s_is_trace) := ⟨rfl, rfl, rfl, by decide +kernel, rfl, by decide +kernel, by decide +kernel⟩
theorem b_is_trace (kV doc pm : Value) (an : Option Addr) (cdv ct : Value) (us : List Value) (hl : us.length = (["machine", "trace", "free"] : List Str).length) : bindArgs (PySem.W.fnOf d_is_trace.name d_is_trace.qual d_is_trace.params d_is_trace.body d_is_trace.scope .none kV doc pm an cdv ct) ⟨us, []⟩ = pure ((["machine", "trace", "free"] : List Str).zip us) := match us, hl with | [_, _, _], _ => rfl
theorem h_far_states : fnL[47]? = some d_far_states := rfl
def N_far_states : List Str := ["machine", "most", "found", "level", "size", "late", "state", "step"]
theorem sc_far_states : FnScope N_far_states ["machine", "most"] (defScope s_far_states) := ⟨rfl, rfl, rfl, by decide +kernel, rfl, by decide +kernel, by decide +kernel⟩
theorem h_law_draw : fnL[48]? = some d_law_draw := rfl
def N_law_draw : List Str := ["_law_script", "_law_at", "_law_many", "_law_row", "_law_cell", "_law_turn", "_law_step", "_law_mixed"]
theorem sc_law_draw : FnScope N_law_draw ["_law_script", "_law_at", "_law_many"] (defScope s_law_draw) := ⟨rfl, rfl, rfl, by decide +kernel, rfl, by decide +kernel, by decide +kernel⟩
theorem b_law_draw (kV doc pm : Value) (an : Option Addr) (cdv ct : Value) (us : List Value) (hl : us.length = (["_law_script", "_law_at", "_law_many"] : List Str).length) : bindArgs (PySem.W.fnOf d_law_draw.name d_law_draw.qual d_law_draw.params d_law_draw.body d_law_draw.scope .none kV doc pm an cdv ct) ⟨us, []⟩ = pure ((["_law_script", "_law_at", "_law_many"] : List Str).zip us) := match us, hl with | [_, _, _], _ => rfl
theorem h_law_machine : fnL[49]? = some d_law_machine := rfl
def N_law_machine : List Str := ["_law_script", "_law_at", "_law_most", "_law_kinds", "_law_words", "_law_many", "_law_steps", "_law_turn", "_law_spot", "_law_kind", "_law_seen", "_law_first"]
theorem sc_law_machine : FnScope N_law_machine ["_law_script", "_law_at", "_law_most", "_law_kinds", "_law_words"] (defScope s_law_machine) := ⟨rfl, rfl, rfl, by decide +kernel, rfl, by decide +kernel, by decide +kernel⟩
theorem b_law_machine (kV doc pm : Value) (an : Option Addr) (cdv ct : Value) (us : List Value) (hl : us.length = (["_law_script", "_law_at", "_law_most", "_law_kinds", "_law_words"] : List Str).length) : bindArgs (PySem.W.fnOf d_law_machine.name d_law_machine.qual d_law_machine.params d_law_machine.body d_law_machine.scope .none kV doc pm an cdv ct) ⟨us, []⟩ = pure ((["_law_script", "_law_at", "_law_most", "_law_kinds", "_law_words"] : List Str).zip us) := match us, hl with | [_, _, _, _, _], _ => rfl
theorem h_law_some : fnL[50]? = some d_law_some := rfl
def N_law_some : List Str := ["_law_script", "_law_at", "_law_many", "_law_state"]
theorem sc_law_some : FnScope N_law_some ["_law_script", "_law_at", "_law_many"] (defScope s_law_some) := ⟨rfl, rfl, rfl, by decide +kernel, rfl, by decide +kernel, by decide +kernel⟩
theorem b_law_some (kV doc pm : Value) (an : Option Addr) (cdv ct : Value) (us : List Value) (hl : us.length = (["_law_script", "_law_at", "_law_many"] : List Str).length) : bindArgs (PySem.W.fnOf d_law_some.name d_law_some.qual d_law_some.params d_law_some.body d_law_some.scope .none kV doc pm an cdv ct) ⟨us, []⟩ = pure ((["_law_script", "_law_at", "_law_many"] : List Str).zip us) := match us, hl with | [_, _, _], _ => rfl
theorem h_law_allowances : fnL[51]? = some d_law_allowances := rfl
def N_law_allowances : List Str := ["_law_script", "_law_at", "_law_kinds", "_law_found", "_law_spot", "_law_kind", "_law_one"]
theorem sc_law_allowances : FnScope N_law_allowances ["_law_script", "_law_at", "_law_kinds"] (defScope s_law_allowances) := ⟨rfl, rfl, rfl, by decide +kernel, rfl, by decide +kernel, by decide +kernel⟩
theorem b_law_allowances (kV doc pm : Value) (an : Option Addr) (cdv ct : Value) (us : List Value) (hl : us.length = (["_law_script", "_law_at", "_law_kinds"] : List Str).length) : bindArgs (PySem.W.fnOf d_law_allowances.name d_law_allowances.qual d_law_allowances.params d_law_allowances.body d_law_allowances.scope .none kV doc pm an cdv ct) ⟨us, []⟩ = pure ((["_law_script", "_law_at", "_law_kinds"] : List Str).zip us) := match us, hl with | [_, _, _], _ => rfl
theorem h_law : fnL[52]? = some d_law := rfl
def N_law : List Str := ["_law_script", "_law_many", "_law_steps", "_law_more", "_law_less", "_law_great", "_law_goals", "_law_allowances_here", "_law_above", "_law_below", "_law_turn", "_law_words", "_law_near", "_law_far", "_law_size", "_law_gap", "_law_row", "_law_line", "_law_falls", "_law_tail", "_law_free", "_law_spot", "_law_at", "_law_step", "_law_vector", "_law_state", "_law_one", "_law_a", "_law_b"]
theorem sc_law : FnScope N_law ["_law_script"] (defScope s_law) := ⟨rfl, rfl, rfl, by decide +kernel, rfl, by decide +kernel, by decide +kernel⟩
theorem b_law (kV doc pm : Value) (an : Option Addr) (cdv ct : Value) (us : List Value) (hl : us.length = (["_law_script"] : List Str).length) : bindArgs (PySem.W.fnOf d_law.name d_law.qual d_law.params d_law.body d_law.scope .none kV doc pm an cdv ct) ⟨us, []⟩ = pure ((["_law_script"] : List Str).zip us) := match us, hl with | [_], _ => rfl
def globs0 : List Str := ["is_below", "is_least", "is_number", "is_word", "is_step", "check_states", "is_within", "least_of", "check_allowances", "limits_of", "least_falls", "shortest", "capped", "traced", "judge_never", "ranks_of", "dead_states", "judge_can", "farthest", "own_steps", "delay", "check_kinds", "is_trace", "far_states", "_law_draw"]
def globs1 : List Str := ["_law_machine", "_law_some", "_law_allowances", "law", "Machine", "Adder", "Ways", "Least", "Kept", "Broken", "Stuck", "Able", "Farthest", "Search", "Longest", "View"]
def globs : List Str := globs0 ++ globs1
def frees : List Str := ["all", "any", "zip", "len", "isinstance", "int", "bool", "str", "tuple", "list", "dict", "sorted", "enumerate", "range", "max", "min", "super"]
def clss : List Str := ["Machine", "Adder", "Ways", "Least", "Kept", "Broken", "Stuck", "Able", "Farthest", "Search", "Longest", "View"]
def noats0 : List (Str × Str) := [("Machine", "many"), ("Machine", "steps"), ("Machine", "ways"), ("Machine", "kinds"), ("Machine", "words"), ("Adder", "spots"), ("Ways", "machine"), ("Ways", "limits"), ("Ways", "after"), ("Ways", "costs"), ("Ways", "origins"), ("Ways", "rest"), ("Least", "costs"), ("Least", "vectors"), ("Least", "runs"), ("Kept", "costs"), ("Broken", "run"), ("Stuck", "run"), ("Stuck", "dead"), ("Able", "costs"), ("Able", "ranks"), ("Farthest", "costs"), ("Farthest", "number"), ("Farthest", "run"), ("Farthest", "ranks")]
def noats1 : List (Str × Str) := [("Search", "machine"), ("Search", "goals"), ("Search", "ranks"), ("Search", "nexts"), ("Search", "loop"), ("Longest", "costs"), ("Longest", "number"), ("Longest", "run"), ("Longest", "ranks"), ("View", "hidden"), ("View", "shown")]
def noats : List (Str × Str) := noats0 ++ noats1
def meths : List (Str × Str) := [("Ways", "offer"), ("Ways", "run"), ("Ways", "table"), ("Ways", "least"), ("Ways", "run_to"), ("Search", "walk"), ("Search", "finish"), ("Search", "tail"), ("View", "closed"), ("View", "start"), ("View", "behind"), ("View", "has"), ("Adder", "__call__"), ("Kept", "__bool__"), ("Broken", "__bool__"), ("Stuck", "__bool__")]
def mkrs : List Str := ["Machine", "Adder", "Ways", "Least", "Kept", "Broken", "Stuck", "Able", "Farthest", "Search", "Longest", "View"]
def faL : List He.Fa := globs.map .glo ++ frees.map .free ++ clss.map .cls ++ noats.map (fun p => .noat p.1 p.2) ++ meths.map (fun p => .meth p.1 p.2) ++ mkrs.map .mkr ++ [.int "MOST_STATES" 3000, .int "MOST_LETTERS" 8]
/-- what the proof leans on -/
structure Txt (K : PySem.W.Frag) (mg : Str → Option Value) : Prop where
  glo : ∀ x ∈ globs, mg x = some (.ref (He.ga K x))
  free : ∀ x ∈ frees, mg x = none
  cls : ∀ x ∈ clss, Cls K (He.ga K x)
  noat : ∀ p ∈ noats, NoAttr K (He.ga K p.1) p.2
  meth : ∀ p ∈ meths, Meth K (He.ga K p.1) p.2 (He.ma K (He.ga K p.1) p.2)
  mkr : ∀ x ∈ mkrs, Mk K (He.ga K x) (He.ma K (He.ga K x) "__init__")
  fn : ∀ d ∈ fnL, ∃ fd, L2.FunD K d.name d.qual d.params d.body d.scope (d.dvs K) (d.kws K) (He.fAd K d.at_) fd
  mostS : ∃ t, mg "MOST_STATES" = some (.int 3000 t)
  mostL : ∃ t, mg "MOST_LETTERS" = some (.int 8 t)
section
variable {K : PySem.W.Frag} {mg : Str → Option Value}
theorem Txt.g (T : Txt K mg) (x : Str) (h : x ∈ globs := by decide +kernel) : mg x = some (.ref (He.ga K x)) := T.glo x h
theorem Txt.f (T : Txt K mg) (x : Str) (h : x ∈ frees := by decide +kernel) : mg x = none := T.free x h
theorem Txt.c (T : Txt K mg) (x : Str) (h : x ∈ clss := by decide +kernel) : Cls K (He.ga K x) := T.cls x h
theorem Txt.n (T : Txt K mg) (x f : Str) (h : (x, f) ∈ noats := by decide +kernel) : NoAttr K (He.ga K x) f := T.noat (x, f) h
theorem Txt.m (T : Txt K mg) (x f : Str) (h : (x, f) ∈ meths := by decide +kernel) : Meth K (He.ga K x) f (He.ma K (He.ga K x) f) := T.meth (x, f) h
theorem Txt.mk' (T : Txt K mg) (x : Str) (h : x ∈ mkrs := by decide +kernel) : Mk K (He.ga K x) (He.ma K (He.ga K x) "__init__") := T.mkr x h
variable {P : Program} {w : World} {base : Heap}
/-- THE RULE for a def of the text without defaults -/
theorem Txt.ok (T : Txt K mg) {d : He.DefD} {N ps : List Str} {sp : Sp} {k i : Nat} (hd : fnL[i]? = some d) (S : FnScope N ps d.scope) (h1 : d.dfl = []) (h2 : d.kwd = [])
    (hb : ∀ (kV doc pm : Value) (an : Option Addr) (cdv ct : Value) (us : List Value), us.length = ps.length → bindArgs (PySem.W.fnOf d.name d.qual d.params d.body d.scope .none kV doc pm an cdv ct) ⟨us, []⟩ = pure (ps.zip us))
    (len : ∀ vs H Q E, sp vs H Q E → vs.length = ps.length)
    (hbody : ∀ (cdv : Value) (A : Around) (outer : List Env) (s : Shared) (H : Hp) (vs : List V) (Q : VK) (E : XK), Room k (A.deeper (envOfC d.qual d.scope s.heap.objs.size (He.fAd K d.at_) cdv)) → sp vs H Q E →
      ∃ t, PSs (cxOf CX0 P w K mg base N d.qual d.scope (He.fAd K d.at_) cdv A outer s H E).nox d.body t ∧ t { nx := fun _ H' => Q .non H', rt := Q } (start N vs) H) : FnR P w K mg base CX0 (k + 1) (He.fAd K d.at_) sp := by
  obtain ⟨fd, F⟩ := T.fn d (List.mem_of_getElem? hd)
  have e1 : d.dvs K = [] := by unfold He.DefD.dvs; rw [h1]; rfl
  have e2 : d.kws K = [] := by unfold He.DefD.kws; rw [h2]; rfl
  rw [e1, e2] at F
  have G := (FunD.ok (CX := CX0) (P := P) (w := w) (mg := mg) (base := base) F S len fun cdv A outer s H vs Q E hr h => let ⟨t, a, b⟩ := hbody cdv A outer s H vs Q E hr h; ⟨t, a.nox, b⟩).raw (FunD.bindsN F hb) .nil
  exact G.imp fun vs H Q E h => by
    rw [List.append_nil]
    exact h
theorem Txt.kp (T : Txt K mg) {d : He.DefD} {i : Nat} (hd : fnL[i]? = some d) : PySem.W.keepIn K (.ref (He.fAd K d.at_)) = true := let ⟨_, F⟩ := T.fn d (List.mem_of_getElem? hd); F.kp
/-- the same, as a def, a method, a class by name -/
theorem Txt.okG (T : Txt K mg) {d : He.DefD} {N ps : List Str} {sp : Sp} {k i : Nat} {x : Str} (hd : fnL[i]? = some d) (hx : d.at_ = (x, none)) (hg : x ∈ globs) (S : FnScope N ps d.scope) (h1 : d.dfl = []) (h2 : d.kwd = [])
    (hb : ∀ (kV doc pm : Value) (an : Option Addr) (cdv ct : Value) (us : List Value), us.length = ps.length → bindArgs (PySem.W.fnOf d.name d.qual d.params d.body d.scope .none kV doc pm an cdv ct) ⟨us, []⟩ = pure (ps.zip us))
    (len : ∀ vs H Q E, sp vs H Q E → vs.length = ps.length)
    (hbody : ∀ (cdv : Value) (A : Around) (outer : List Env) (s : Shared) (H : Hp) (vs : List V) (Q : VK) (E : XK), Room k (A.deeper (envOfC d.qual d.scope s.heap.objs.size (He.fAd K d.at_) cdv)) → sp vs H Q E →
      ∃ t, PSs (cxOf CX0 P w K mg base N d.qual d.scope (He.fAd K d.at_) cdv A outer s H E).nox d.body t ∧ t { nx := fun _ H' => Q .non H', rt := Q } (start N vs) H) : GFn P w K mg base (k + 1) x sp := by
  have R := T.ok (P := P) (w := w) (base := base) (k := k) hd S h1 h2 hb len hbody
  have kp := T.kp hd
  have e : He.fAd K d.at_ = He.ga K x := by rw [hx]; rfl
  rw [e] at R kp
  exact ⟨R, T.glo x hg, kp⟩
theorem Txt.okM (T : Txt K mg) {d : He.DefD} {N ps : List Str} {sp : Sp} {k i : Nat} {C m : Str} (hd : fnL[i]? = some d) (hx : d.at_ = (C, some m)) (hc : C ∈ clss) (hm : (C, m) ∈ meths) (S : FnScope N ps d.scope) (h1 : d.dfl = []) (h2 : d.kwd = [])
    (hb : ∀ (kV doc pm : Value) (an : Option Addr) (cdv ct : Value) (us : List Value), us.length = ps.length → bindArgs (PySem.W.fnOf d.name d.qual d.params d.body d.scope .none kV doc pm an cdv ct) ⟨us, []⟩ = pure (ps.zip us))
    (len : ∀ vs H Q E, sp vs H Q E → vs.length = ps.length)
    (hbody : ∀ (cdv : Value) (A : Around) (outer : List Env) (s : Shared) (H : Hp) (vs : List V) (Q : VK) (E : XK), Room k (A.deeper (envOfC d.qual d.scope s.heap.objs.size (He.fAd K d.at_) cdv)) → sp vs H Q E →
      ∃ t, PSs (cxOf CX0 P w K mg base N d.qual d.scope (He.fAd K d.at_) cdv A outer s H E).nox d.body t ∧ t { nx := fun _ H' => Q .non H', rt := Q } (start N vs) H) : MFn P w K mg base (k + 1) C m sp := by
  have R := T.ok (P := P) (w := w) (base := base) (k := k) hd S h1 h2 hb len hbody
  have e : He.fAd K d.at_ = He.ma K (He.ga K C) m := by rw [hx]; rfl
  rw [e] at R
  exact ⟨R, T.cls C hc, T.meth (C, m) hm⟩
theorem Txt.okC (T : Txt K mg) {d : He.DefD} {N ps : List Str} {sp : Sp} {k i : Nat} {C : Str} (hd : fnL[i]? = some d) (hx : d.at_ = (C, (some "__init__" : Option Str))) (hc : C ∈ globs) (hm : C ∈ mkrs) (S : FnScope N ps d.scope) (h1 : d.dfl = []) (h2 : d.kwd = [])
    (hb : ∀ (kV doc pm : Value) (an : Option Addr) (cdv ct : Value) (us : List Value), us.length = ps.length → bindArgs (PySem.W.fnOf d.name d.qual d.params d.body d.scope .none kV doc pm an cdv ct) ⟨us, []⟩ = pure (ps.zip us))
    (len : ∀ vs H Q E, sp vs H Q E → vs.length = ps.length)
    (hbody : ∀ (cdv : Value) (A : Around) (outer : List Env) (s : Shared) (H : Hp) (vs : List V) (Q : VK) (E : XK), Room k (A.deeper (envOfC d.qual d.scope s.heap.objs.size (He.fAd K d.at_) cdv)) → sp vs H Q E →
      ∃ t, PSs (cxOf CX0 P w K mg base N d.qual d.scope (He.fAd K d.at_) cdv A outer s H E).nox d.body t ∧ t { nx := fun _ H' => Q .non H', rt := Q } (start N vs) H) : CFn P w K mg base (k + 1) C sp := by
  have R := T.ok (P := P) (w := w) (base := base) (k := k) hd S h1 h2 hb len hbody
  have e : He.fAd K d.at_ = He.ma K (He.ga K C) "__init__" := by rw [hx]; rfl
  rw [e] at R
  exact ⟨R, T.mkr C hm, T.glo C hc⟩
end
end Al
set_option maxHeartbeats 4000000
/-! HA: the facts as a Hook. -/
namespace Al
open PySem PySem.Spec PyProof.Rows L2
/-! ### an __init__ that names super -/
abbrev FnSv : Type := Option (Str × Str × Arguments × FuncBody × Scope × Addr × Addr)
def fnS (K : PySem.W.Frag) (C : Str) : FnSv := match K.lookup (He.ma K (He.ga K C) "__init__") with
  | some ⟨_, _, .func fd, _⟩ => some (fd.name, fd.qualname, fd.params, fd.body, fd.scope, fd.globals, fd.builtins)
  | _ => none
def supV (qual : Str) (st : Stmt) : FnSv := some ("__init__", qual, defArgs st, .stmts (defBody st), defScope st, mainGlobals, builtinsNs)
def cellB (K : PySem.W.Frag) (C : Addr) : List (Str × Addr) → Bool
  | [(x, cc)] => decide (x = "__class__") && (match K.lookup cc with
    | some ⟨_, _, .cell (some (.ref D)), _⟩ => decide (D = C)
    | _ => false)
  | _ => false
theorem cellB_ok {K : PySem.W.Frag} {C : Addr} {cl : List (Str × Addr)} (h : cellB K C cl = true) : ∃ cc p1 p2 p3, cl = [(("__class__" : Str), cc)] ∧ K.lookup cc = some ⟨p1, p2, .cell (some (.ref C)), p3⟩ := by
  match cl, h with
  | [(x, cc)], h =>
    obtain ⟨h1, h2⟩ := He.ba (show (decide (x = "__class__") && (match K.lookup cc with
      | some ⟨_, _, .cell (some (.ref D)), _⟩ => decide (D = C)
      | _ => false)) = true from h)
    have e := of_decide_eq_true h1
    subst e
    split at h2
    · rename_i p1 p2 D p3 q
      have e := of_decide_eq_true h2
      subst e
      exact ⟨cc, _, _, _, rfl, q⟩
    · cases h2
def noneB : Value → Bool
  | .none => true
  | _ => false
theorem noneB_ok {v : Value} (h : noneB v = true) : v = .none := by
  cases v with
  | none => rfl
  | _ => cases h
def fileB (K : PySem.W.Frag) (file qual : Str) : Value → Bool
  | .ref c => PySem.W.codeIn K (.ref c) qual && (match K.lookup c with
    | some ⟨_, _, .fields vs, _⟩ => (match (vs[2]? : Option Value) with
      | some (.str fl _) => file == fl
      | _ => false)
    | _ => false)
  | _ => false
theorem fileB_ok {K : PySem.W.Frag} {file qual : Str} {v : Value} (h : fileB K file qual v = true) : ∃ c o1 o2 o3 vs fl tf, v = .ref c ∧ PySem.W.codeIn K (.ref c) qual = true ∧ K.lookup c = some ⟨o1, o2, .fields vs, o3⟩ ∧ vs[2]? = some (.str fl tf) ∧ (file == fl) = true := by
  cases v with
  | ref c =>
    obtain ⟨h1, h2⟩ := He.ba (show (PySem.W.codeIn K (.ref c) qual && (match K.lookup c with
      | some ⟨_, _, .fields vs, _⟩ => (match (vs[2]? : Option Value) with
        | some (.str fl _) => file == fl
        | _ => false)
      | _ => false)) = true from h)
    split at h2
    · rename_i o1 o2 vs o3 q
      split at h2
      · rename_i fl tf q2
        exact ⟨c, _, _, _, vs, fl, tf, rfl, h1, q, q2, h2⟩
      · cases h2
    · cases h2
  | _ => cases h
def supF1 (K : PySem.W.Frag) (file : Str) (C qual : Str) : Bool := match K.lookup (He.ma K (He.ga K C) "__init__") with
  | some ⟨_, _, .func fd, _⟩ => cellB K (He.ga K C) fd.closure && (noneB fd.defaults && (noneB fd.kwdefaults && fileB K file qual fd.code))
  | _ => false
def eqB (a b : Option Bool) : Bool := decide (a = b)
def supF2 (K : PySem.W.Frag) (C : Str) : Bool := PySem.W.isClsIn K (He.ga K C) && (eqB (PySem.W.mroIn K (He.ga K C) (.ref (He.ga K C))) (some true) && He.eqO (PySem.W.ks_superIn K (He.ga K C) (He.ga K C) "__init__") (some (some (.ref (He.ma K (He.ga K "Tabled") "__init__")))))
def supG (K : PySem.W.Frag) : Bool := decide (PySem.W.typeIn K (.ref (He.ma K (He.ga K "Tabled") "__init__")) = some (.type "function")) && (PySem.W.fnIn K (He.ma K (He.ga K "Tabled") "__init__") && He.eqO (PySem.W.nsIn K cStatics "thirdparty.any") (some none))
/-! ### the five -/
def supL : List (Str × Str × Stmt) := [("Least", "Least.__init__", s_Least_init), ("Kept", "Kept.__init__", s_Kept_init), ("Able", "Able.__init__", s_Able_init), ("Farthest", "Farthest.__init__", s_Farthest_init), ("Longest", "Longest.__init__", s_Longest_init)]
/-- the rest, by a Bool -/
def insB (K : PySem.W.Frag) (C : Addr) : Bool := He.eqO (PySem.W.findIn K (.ref C) "__class__") (some (some (.builtin "object.__class__"))) && (He.eqO (PySem.W.specialIn K (.builtin "object.__class__") "__get__") (some (some (.builtin "getset_descriptor.__get__"))) &&
  (eqB (PySem.W.takesIn K (.builtin "object.__class__")) (some true) && (eqB (PySem.W.mroIn K C (.type "object")) (some true) && eqB (PySem.W.kitOne K (.ref C) (.ref C)) (some true))))
def tfL : List He.Defn := [("farthest", none), ("delay", none)]
abbrev theFile : Str := PySem.Challenge.pw_allbrokers_k28_whole_more_steps.main.file
def exB (K : PySem.W.Frag) : Bool := (supL.all fun q => supF1 K theFile q.1 q.2.1 && supF2 K q.1) && (supG K && (insB K (He.ga K "Able") && (eqB (PySem.W.kitOne K (.ref (He.ga K "Able")) (.ref (He.ga K "Stuck"))) (some false) && ((He.cT K ("farthest", none)).2 != (He.cT K ("delay", none)).2))))
/-! ### the Hook -/
abbrev AlY : Type := He.AlD × List FnSv × Bool
/-- what the dict names; a class's dict; what a function needs -/
def outG (o : Obj) : List Addr := match o.data with
  | .dict es _ => es.toList.flatMap fun e => He.refV e.val
  | _ => []
def nsG (o : Obj) : List Addr := match o.data with
  | .cls cd => [cd.ns]
  | _ => []
def fnG (o : Obj) : List Addr := match o.data with
  | .func fd => He.refV fd.code ++ (He.refV fd.defaults ++ (He.refV fd.kwdefaults ++ fd.closure.map (·.2)))
  | _ => []
def stepG (g : Addr → Option Obj) (f : Obj → List Addr) (as : List Addr) : List Addr := as.flatMap fun a => match g a with
  | some o => f o
  | none => []
/-- the module's dict, what it names, the classes' dicts, what they name, and what all functions need -/
def asY (g : Addr → Option Obj) : List Addr := mainGlobals :: (stepG g outG [mainGlobals] ++ (stepG g nsG (stepG g outG [mainGlobals]) ++ (stepG g outG (stepG g nsG (stepG g outG [mainGlobals])) ++ (stepG g fnG (stepG g outG [mainGlobals]) ++ (stepG g fnG (stepG g outG (stepG g nsG (stepG g outG [mainGlobals]))) ++ [cStatics])))))
def kY (g : Addr → Option Obj) : PySem.W.Frag := He.frT g (asY g)
def obsY (g : Addr → Option Obj) : AlY := (He.obsD faL fnL (kY g), supL.map fun q => fnS (kY g) q.1, exB (kY g) && He.tabsB g tfL (kY g))
def valY : AlY := (He.valD fnL, supL.map fun q => supV q.2.1 q.2.2, true)
structure SaysY (h : Heap) (K : PySem.W.Frag) : Prop where
  d : He.SaysD faL fnL K
  s : (supL.map fun q => fnS K q.1) = supL.map fun q => supV q.2.1 q.2.2
  more : exB K = true
  hd : ∀ p ∈ tfL, PySem.W.codeHdIn K (He.cT K p).1 (He.cT K p).2 = true
  out : ∀ p ∈ tfL, K.lookup (He.cT K p).2 = none
  empty : ∀ p ∈ tfL, h.get? (He.cT K p).2 = some { cls := .none, data := .fields #[] }
theorem saysY_of {h : Heap} (e : obsY h.get? = valY) : SaysY h (kY h.get?) := by
  have e1 : He.obsD faL fnL (kY h.get?) = He.valD fnL := congrArg (fun z : AlY => z.1) e
  have e2 : (supL.map fun q => fnS (kY h.get?) q.1) = supL.map fun q => supV q.2.1 q.2.2 := congrArg (fun z : AlY => z.2.1) e
  have e3 : (exB (kY h.get?) && He.tabsB h.get? tfL (kY h.get?)) = true := congrArg (fun z : AlY => z.2.2) e
  obtain ⟨h1, h2⟩ := He.ba e3
  have key : ∀ p ∈ tfL, PySem.W.codeHdIn (kY h.get?) (He.cT (kY h.get?) p).1 (He.cT (kY h.get?) p).2 = true ∧ ∃ o, h.get? (He.cT (kY h.get?) p).2 = some o ∧ He.emptyTab o = true := fun p hp => by
    obtain ⟨h3, h4⟩ := He.ba (List.all_eq_true.mp h2 p hp)
    refine ⟨h3, ?_⟩
    cases q : h.get? (He.cT (kY h.get?) p).2 with
    | none =>
      rw [q] at h4
      cases h4
    | some o =>
      rw [q] at h4
      exact ⟨o, rfl, h4⟩
  exact ⟨e1, e2, h1, fun p hp => (key p hp).1, fun p hp => by
    obtain ⟨_, o, q, z⟩ := key p hp
    exact He.frT_none q z, fun p hp => by
    obtain ⟨_, o, q, z⟩ := key p hp
    rw [q, He.emptyTab_eq z]⟩
def hookY : PySem.W.Hook where
  α := AlY
  obs := fun s => obsY s.heap.get?
  val := fun _ => valY
  says := fun _ h => ∃ K : PySem.W.Frag, K.In h ∧ SaysY h K
  of := fun _ _ e => ⟨_, He.frT_in, saysY_of e⟩
  keeps := fun _ _ _ ⟨K, hK, c⟩ k => ⟨K, PySem.W.Frag.In.keeps hK k, ⟨c.d, c.s, c.more, c.hd, c.out, fun p hp => k _ _ (c.empty p hp)⟩⟩
theorem obsY_eq {g : Addr → Option Obj} {s : Shared} (h : ∀ a, g a = s.heap.get? a) : obsY g = hookY.obs s := by
  have e : g = s.heap.get? := funext h
  rw [e] <;> rfl
end Al
set_option maxHeartbeats 0
/-! H1: the top, run. -/
namespace Al
open PySem PySem.Spec PyProof.Rows L2
abbrev RR : PySem.W.OpenRow := PySem.W.OpenLaw.row PySem.Challenge.rw_allbrokers_k28_whole_more_steps
def names0 : List Str := ["_wall", "BrokerError", "BadMachine", "BadStates", "BadAllowances", "BadKinds", "is_below", "is_least", "Evidence", "Good", "Bad", "Tabled", "MOST_STATES", "MOST_LETTERS", "is_number", "is_word", "is_step", "Machine", "check_state", "check_states", "is_within", "least_of", "check_allowances", "limits_of", "Adder", "Ways", "Least", "least_falls", "Kept", "Broken"]
def names1 : List Str := ["shortest", "capped", "traced", "judge_never", "ranks_of", "dead_states", "Able", "Stuck", "judge_can", "Farthest", "farthest", "own_steps", "Longest", "Endless", "Search", "delay", "check_kinds", "View", "is_trace", "far_states", "_law_draw", "_law_machine", "_law_some", "_law_allowances", "_law_limits"]
def names : List Str := names0 ++ names1
abbrev hkY : PySem.W.Hook := hookY
def ob (s : PySem.W.SharedT) : AlY := obsY (HandSHeadRun.getT s)
theorem ob_eq (s : PySem.W.SharedT) : ob s = hkY.obs s.abs := obsY_eq (HandSHeadRun.getT_eq s)
theorem run_top (w : World) : HandSHeadRun.RunEq RR (PySem.W.view RR.prog [65]) hkY ob 9000 names w := by
  intro os
  kernel_rfl
end Al
set_option maxHeartbeats 4000000
/-! K2: isinstance, attributes, comprehensions, all and any. -/
namespace Al
open PySem PySem.Spec PyProof.Rows L2
section
variable {X : Cx} {k : Nat} {sp : Sp} {x : Str} {p pos apos : Pos} {e o : Expr} {es : List Expr} {t : TA} {ta tb tv : TE} {C m f : Str}
/-! ### isinstance(e, T), T a built-in class -/
def rIsiV (K : PySem.W.Frag) (T : String) : List V → Hp → VK → Prop := fun vs H Q => ∃ (x : V) (t : String) (b : Bool), vs = [x, .ty T] ∧ TyX K H x (.type t) ∧ kitB t T = some b ∧ Q (.bl b) H
theorem call_isiV (K : PySem.W.Frag) (T : String) (hK : X.K = K := by rfl) : CallR X (.builtin "isinstance") (rIsiV K T) := by
  subst hK
  intro pins s σ H xs us Q I r h
  obtain ⟨x, t, b, rfl, ty, kb, q⟩ := h
  exact call_isi pins s σ H _ us Q I r ⟨x, .ty T, .type t, .type T, b, rfl, .ty T, ty, kit_ty kb, q⟩
theorem pe_isi (K : PySem.W.Frag) (T : String) {TS : Str} {p2 : Pos} (hm : X.mg "isinstance" = none) (hT : X.mg TS = none) (ha : PE X e ta) (hv : bootBuiltins TS = some (.type T) := by decide +kernel) (hg : Gl X "isinstance" := by rfl) (hg2 : Gl X TS := by rfl)
    (hn : TS ≠ "__name__" := by decide) (hd : (TS == ("__debug__" : Str)) = false := by decide) (hs : starEach [e, .Name TS p] X.env = (false, eval e X.env) :: starEach [.Name TS p] X.env := by rfl) (hs2 : starEach [.Name TS p] X.env = (false, eval (.Name TS p) X.env) :: starEach [] X.env := by rfl)
    (hpl : (backTo pos (starEach [.Name TS p] X.env)).any (·.1) = false := by rfl) (hK : X.K = K := by rfl) :
    PE X (.Call (.Name "isinstance" p2) [e, .Name TS p] [] pos) (tCB (rIsiV K T) (tCons ta (tCons (tC (.ty T)) tNil))) :=
  pe_callB (call_isiV K T hK) hg hm (by decide +kernel) (pa_cons ha (pa_cons (pe_bltn (v := .ty T) hg2 hT hv rfl hn hd) pa_nil hs2) hs) (he := hs) (hpl := hpl)
/-- a built-in class as a value; a whole number of the module -/
theorem pe_ty (T : String) {TS : Str} (hT : X.mg TS = none) (hv : bootBuiltins TS = some (.type T) := by decide +kernel) (hg : Gl X TS := by rfl) (hn : TS ≠ "__name__" := by decide) (hd : (TS == ("__debug__" : Str)) = false := by decide) : PE X (.Name TS p) (tC (.ty T)) :=
  pe_bltn (v := .ty T) hg hT hv rfl hn hd
theorem pe_gi {i : Int} (h : ∃ t, X.mg x = some (.int i t)) (hg : Gl X x := by rfl) (hd : (x == ("__debug__" : Str)) = false := by decide) : PE X (.Name x pos) (tC (.int i)) :=
  let ⟨t, e⟩ := h; pe_glob hg e ⟨t, rfl⟩ hd
/-! ### attributes of an own class that is told -/
def tAt (C : Addr) (ta : TE) (f : Str) : TE := fun σ H Q => ta σ H fun x H1 => ∃ a dx fs v, x = .ref a ∧ H1 a = some (.ins C dx fs) ∧ fs.lookup f = some v ∧ Q v H1
theorem pe_at {C : Addr} (c : Cls X.K C) (n : NoAttr X.K C f) (he : PE X e ta) (hb : attributeBase e f X.env (eval e X.env) = eval e X.env := by rfl) : PE X (.Attribute e f pos) (tAt C ta f) := by
  refine ⟨fun pins s σ H Q I h => ?_⟩
  refine attr_of hb (thn (he.run pins s σ H _ I h) fun u s1 ⟨x, H1, I1, rx, a, dx, fs, v, ex, ea, l, q⟩ => ?_)
  subst ex
  obtain rfl : u = Value.ref a := rx
  exact getattr_ok I1 ea c n l fun w s2 I2 rw' => ⟨v, H1, I2, rw', q⟩
def sAt (C : Addr) (ta tv : TE) (f : Str) : TS := fun D σ H => tv σ H fun y H1 => ta σ H1 fun x H2 => ∃ a dx fs, x = .ref a ∧ H2 a = some (.ins C dx fs) ∧ fs.length < 1000 ∧ D.nx σ (upd H2 a (.ins C dx (putF f y fs)))
theorem ps_at {C : Addr} {value : Expr} {pos' : Pos} (c : Cls X.K C) (n : NoAttr X.K C f) (ha : PE X o ta) (hv : PE X value tv) (hs : swapsWith value (some (.Attribute o f pos')) pos.line X.env = pure false := by rfl) :
    PS X (.Assign [.Attribute o f pos'] value pos) (sAt C ta tv f) := by
  refine ⟨fun pins s σ H D I h => ?_⟩
  refine plainObj_wpAny_Assign_Attribute (thn (hv.run pins s σ H _ I h) fun u s1 ⟨y, H1, I1, ry, q⟩ => thn (ha.run pins s1 σ H1 _ I1 q) fun ov s2 ⟨x, H2, I2, rx, a, dx, fs, ex, ea, l, q2⟩ => ?_) hs
  subst ex
  obtain rfl : ov = Value.ref a := rx
  exact setattr_ok I2 ea c n l ry fun s3 I3 => ⟨σ, _, I3, q2⟩
end
/-! ### names as targets: a local, a cell -/
section
variable {X : Cx} {i : Nat} {x : Str} {pos pos' : Pos} {e : Expr} {te : TE}
theorem pg_l (hN : X.N.Nodup) (hi : X.N[i]? = some x) (hx : X.env.scope.names.lookup x = some .local) : PG X (.Name x pos) (gName i) := pg_name hN hi (.inl hx) (.inr hx)
theorem pg_c (hN : X.N.Nodup) (hi : X.N[i]? = some x) (hx : X.env.scope.names.lookup x = some .cell) (hf : X.fn x = true) : PG X (.Name x pos) (gName i) := pg_name hN hi (.inr hx) (.inl hf)
theorem ps_l (hN : X.N.Nodup) (hi : X.N[i]? = some x) (hx : X.env.scope.names.lookup x = some .local) (he : PE X e te) (hs : swapsWith e (some (.Name x pos')) pos.line X.env = pure false := by rfl) :
    PS X (.Assign [.Name x pos'] e pos) (tAsg te (gName i)) := ps_set hN hi (.inl hx) he hs (.inr hx)
theorem ps_c (hN : X.N.Nodup) (hi : X.N[i]? = some x) (hx : X.env.scope.names.lookup x = some .cell) (hf : X.fn x = true) (he : PE X e te) (hs : swapsWith e (some (.Name x pos')) pos.line X.env = pure false := by rfl) :
    PS X (.Assign [.Name x pos'] e pos) (tAsg te (gName i)) := ps_set hN hi (.inr hx) he hs (.inl hf)
/-- (a, b, ..) = a tuple of n items; K, n told (within a comprehension's block) -/
theorem pg_t (K : PySem.W.Frag) (n : Nat) {es : List Expr} {k : Nat} {t : TGs} (hc : X.calm = true) (h : PGs X es t) (hK : X.K = K := by rfl)
    (hn : (assignEach es X.env).length = n := by rfl) (hst : (assignEach es X.env).findIdx? (·.1) = none := by rfl) : PG X (.Tuple es k pos) (gTup K n t) := by
  subst hK
  exact pg_tup hc h hn hst
end
/-! ### comprehensions: one turn, read for any continuation -/
def stp (g : TG) (tt : TT) (te : TE) (vs : List Nat) (σ : L2.St) (x : V) (H : Hp) (Kt : Option V → Hp → Prop) : Prop :=
  g x (wipe σ vs) H fun σ2 H2 => wipe σ2 vs = wipe σ vs ∧ tt σ2 H2 fun b H3 => if b = true then te σ2 H3 (fun y H4 => Kt (some y) H4) else Kt none H3
/-- what is asked of a comprehension's walk -/
abbrev LcW (J : It) (g : TG) (tt : TT) (te : TE) (vs : List Nat) (σ : L2.St) (H1 : Hp) (Q : Addr → Hp → Prop) : Prop := ∀ D, H1 D = none → ∃ W : Nat → Nat → Hp → Prop, (∃ m, W 0 m (upd H1 D (.lst []))) ∧ ∀ i m H, W i m H →
  (J.stop i H ∧ Q D H) ∨ (J.go i H ∧ ∃ Nx : Hp → Prop, (∀ H', Nx H' → ∃ m', m' < m ∧ W (i + 1) m' H') ∧ ∀ x H', J.yld i H x H' → g x (wipe σ vs) H' fun σ2 H2 => wipe σ2 vs = wipe σ vs ∧ tt σ2 H2 fun b H3 =>
    if b = true then te σ2 H3 fun y H4 => ∃ acc, H4 D = some (.lst acc) ∧ acc.length < sizeLine ∧ Nx (upd H4 D (.lst (acc ++ [y]))) else Nx H3)
/-- all but D as it was -/
def Sbut (D : Addr) (H H' : Hp) : Prop := ∀ b o, b ≠ D → H b = some o → H' b = some o
theorem Sbut.of {D : Addr} {H H' : Hp} (e : Same H H') : Sbut D H H' := fun b o _ h => e b o h
theorem Sbut.upd {D : Addr} {H : Hp} {o : HO} : Sbut D H (upd H D o) := fun b u nb h => by rw [upd_ne nb]; exact h
theorem Sbut.trans {D : Addr} {H H1 H2 : Hp} (a : Sbut D H H1) (b : Sbut D H1 H2) : Sbut D H H2 := fun c o nc h => b c o nc (a c o nc h)
section
variable {J : It} {n : Nat} {G : Hp → Prop} {Y : Nat → Hp → V → Hp → Prop} {g : TG} {tt : TT} {te : TE} {vs : List Nat} {σ : L2.St} {H1 : Hp} {Q : Addr → Hp → Prop}
theorem lcR (wk : Walk J n G Y) (R : Addr → Nat → Option V → Hp → Prop) (hR : ∀ D i o H H', R D i o H → Sbut D H H' → R D i o H') (hG : ∀ H', Same H1 H' → G H') (hn : n ≤ 1000000)
    (hs : ∀ (D : Addr) (i : Nat) (x : V) (H H' : Hp) (acc : List V), i < n → H1 D = none → Same H1 H → H D = some (.lst acc) → Y i H x H' → ∀ Kt : Option V → Hp → Prop, (∀ o H'', Same H H'' → R D i o H'' → Kt o H'') → stp g tt te vs σ x H' Kt)
    (hd : ∀ (D : Addr) (H' : Hp) (os : List (Option V)), H1 D = none → Same H1 H' → H' D = some (.lst (os.filterMap id)) → os.length = n → (∀ i o, os[i]? = some o → R D i o H') → Q D H') : LcW J g tt te vs σ H1 Q := by
  intro D hD
  refine lc_it (J := J) (Qd := fun H => Q D H) wk (fun i H => ∃ os : List (Option V), Same H1 H ∧ H D = some (.lst (os.filterMap id)) ∧ os.length = i ∧ ∀ j o, os[j]? = some o → R D j o H) ⟨[], smNew hD, upd_same, rfl, fun j o h => by simp at h⟩ (fun i H _ ⟨_, a, _⟩ => hG H a) ?_ ?_
  · rintro i x H H' hi ⟨os, s1, hDl, hl, hR0⟩ y
    have hlen : (os.filterMap id).length ≤ i := by rw [← hl]; exact List.length_filterMap_le _ _
    have key := hs D i x H H' _ hi hD s1 hDl y (fun o H4 => match o with
      | some y => ∃ acc, H4 D = some (.lst acc) ∧ acc.length < sizeLine ∧ ∃ os : List (Option V), Same H1 (upd H4 D (.lst (acc ++ [y]))) ∧ upd H4 D (.lst (acc ++ [y])) D = some (.lst (os.filterMap id)) ∧ os.length = i + 1 ∧ ∀ j o, os[j]? = some o → R D j o (upd H4 D (.lst (acc ++ [y])))
      | none => ∃ os : List (Option V), Same H1 H4 ∧ H4 D = some (.lst (os.filterMap id)) ∧ os.length = i + 1 ∧ ∀ j o, os[j]? = some o → R D j o H4) ?_
    · exact key
    · rintro o H4 s4 r4
      have old : ∀ j o', os[j]? = some o' → R D j o' H4 := fun j o' h => hR _ _ _ _ _ (hR0 j o' h) (.of s4)
      have snoc : ∀ j o', (os ++ [o])[j]? = some o' → R D j o' H4 := fun j o' h => by
        by_cases hj : j < os.length
        · rw [List.getElem?_append_left hj] at h
          exact old j o' h
        · rw [List.getElem?_append_right (by omega)] at h
          have e0 : j - os.length = 0 := by
            have q := (List.getElem?_eq_some_iff.mp h).1
            simp at q
            omega
          rw [e0] at h
          have e1 : o = o' := by simpa using h
          have e2 : j = i := by omega
          rw [← e1, e2]
          exact r4
      cases o with
      | some y =>
        refine ⟨_, s4 _ _ hDl, szLt (by omega), os ++ [some y], smMut (s1.trans s4) hD, ?_, by simp [hl], fun j o' h => hR _ _ _ _ _ (snoc j o' h) .upd⟩
        rw [upd_same, List.filterMap_append]
        rfl
      | none =>
        refine ⟨os ++ [none], s1.trans s4, ?_, by simp [hl], snoc⟩
        rw [List.filterMap_append]
        simpa using s4 _ _ hDl
  · rintro H ⟨os, s1, hDl, hl, hR0⟩
    exact hd D H os hD s1 hDl hl hR0
/-- elements that are values, told by the turn -/
theorem lcV (wk : Walk J n G Y) (F : Nat → Option V) (hG : ∀ H', Same H1 H' → G H') (hn : n ≤ 1000000)
    (hs : ∀ (i : Nat) (x : V) (H H' : Hp), i < n → Same H1 H → Y i H x H' → ∀ Kt : Option V → Hp → Prop, (∀ H'', Same H H'' → Kt (F i) H'') → stp g tt te vs σ x H' Kt)
    (hd : ∀ (D : Addr) (H' : Hp), H1 D = none → Same H1 H' → H' D = some (.lst ((List.range n).filterMap F)) → Q D H') : LcW J g tt te vs σ H1 Q := by
  refine lcR wk (fun _ i o _ => o = F i) (fun _ _ _ _ _ h _ => h) hG hn (fun D i x H H' acc hi hD s1 hDl y Kt k => hs i x H H' hi s1 y Kt fun H'' s => k _ H'' s rfl) fun D H' os hD s1 hDl hl hR => ?_
  refine hd D H' hD s1 ?_
  have e : os = (List.range n).map F := by
    apply List.ext_getElem?
    intro i
    rw [List.getElem?_map]
    by_cases hi : i < n
    · have h1 : os[i]? = some os[i] := List.getElem?_eq_getElem (by omega)
      rw [h1, hR i _ h1, List.getElem?_range hi]
      rfl
    · rw [List.getElem?_eq_none (by omega), List.getElem?_eq_none (by simpa using hi)]
      rfl
  rw [hDl, e, List.filterMap_map]
  rfl
end
theorem rangeFM {α β : Type} (xs : List α) (f : α → Option β) : (List.range xs.length).filterMap (fun i => xs[i]?.bind f) = xs.filterMap f := by
  have e : xs = (List.range xs.length).filterMap fun i => xs[i]? := by
    induction xs with
    | nil => rfl
    | cons a r ih =>
      rw [List.length_cons, List.range_succ_eq_map, List.filterMap_cons]
      simp only [List.getElem?_cons_zero, List.filterMap_map]
      congr 1
  conv => rhs; rw [e]
  rw [List.filterMap_filterMap]
section
variable {K : PySem.W.Frag} {g : TG} {tt : TT} {te : TE} {vs : List Nat} {σ : L2.St} {H1 : Hp} {Q : Addr → Hp → Prop} {a b : Addr} {xs ys : List V}
/-- over the items of a list or a tuple -/
theorem lcItems {J : It} {G : Hp → Prop} (wk : Walk J xs.length G (YAt xs)) (f : V → Option V) (hG : ∀ H', Same H1 H' → G H') (hn : xs.length ≤ 1000000)
    (hs : ∀ x H, x ∈ xs → Same H1 H → ∀ Kt : Option V → Hp → Prop, (∀ H'', Same H H'' → Kt (f x) H'') → stp g tt te vs σ x H Kt)
    (hd : ∀ (D : Addr) (H' : Hp), H1 D = none → Same H1 H' → H' D = some (.lst (xs.filterMap f)) → Q D H') : LcW J g tt te vs σ H1 Q := by
  refine lcV wk (fun i => xs[i]?.bind f) hG hn ?_ fun D H' h1 h2 h3 => hd D H' h1 h2 (by rw [rangeFM] at h3; exact h3)
  rintro i x H H' hi s1 ⟨rfl, hx⟩ Kt k
  refine hs x H' (List.mem_of_getElem? hx) s1 Kt fun H'' s => ?_
  have q := k H'' s
  rw [hx] at q
  exact q
theorem rangeP {α : Type} (us : List α) (f : α → V) : (List.range us.length).filterMap (fun i => us[i]?.map f) = us.map f := by
  have e := rangeFM us fun u => some (f u)
  rw [List.filterMap_eq_map'] at e
  rw [← e]
  congr 1
  funext i
  cases us[i]? <;> rfl
theorem lcList (f : V → Option V) (h : SqL K H1 a xs) (hn : xs.length ≤ 1000000)
    (hs : ∀ x H, x ∈ xs → Same H1 H → ∀ Kt : Option V → Hp → Prop, (∀ H'', Same H H'' → Kt (f x) H'') → stp g tt te vs σ x H Kt)
    (hd : ∀ (D : Addr) (H' : Hp), H1 D = none → Same H1 H' → H' D = some (.lst (xs.filterMap f)) → Q D H') : LcW (Itl K a) g tt te vs σ H1 Q :=
  lcItems walk_list f (fun H' s => s.seq h) hn hs hd
theorem lcTup (f : V → Option V) (h : SqT K H1 a xs) (hn : xs.length ≤ 1000000)
    (hs : ∀ x H, x ∈ xs → Same H1 H → ∀ Kt : Option V → Hp → Prop, (∀ H'', Same H H'' → Kt (f x) H'') → stp g tt te vs σ x H Kt)
    (hd : ∀ (D : Addr) (H' : Hp), H1 D = none → Same H1 H' → H' D = some (.lst (xs.filterMap f)) → Q D H') : LcW (Itt K a) g tt te vs σ H1 Q :=
  lcItems walk_tup f (fun H' s => smTup s h) hn hs hd
theorem paired_get {α β : Type} {F : α → β → Prop} : ∀ {xs : List α} {ys : List β} {i : Nat} {x : α}, Paired F xs ys → xs[i]? = some x → ∃ y, ys[i]? = some y ∧ F x y
  | _, _, _, _, .nil, h => by simp at h
  | _, _, 0, _, .cons r _, h => by
    simp at h
    subst h
    exact ⟨_, rfl, r⟩
  | _, _, i + 1, _, .cons _ t, h => by
    obtain ⟨y, h1, h2⟩ := paired_get (i := i) t (by simpa using h)
    exact ⟨y, by simpa using h1, h2⟩
/-- over objects that bear data -/
theorem lcData {α : Type} {J : It} {G : Hp → Prop} {as : List Addr} {us : List α} (R : Hp → Addr → α → Prop) (hR : ∀ H H' a u, Same H H' → R H a u → R H' a u) (hp : Paired (R H1) as us) (wk : Walk J (as.map V.ref).length G (YAt (as.map V.ref))) (f : α → Option V)
    (hG : ∀ H', Same H1 H' → G H') (hn : as.length ≤ 1000000)
    (hs : ∀ u a H, u ∈ us → Same H1 H → R H a u → ∀ Kt : Option V → Hp → Prop, (∀ H'', Same H H'' → Kt (f u) H'') → stp g tt te vs σ (.ref a) H Kt)
    (hd : ∀ D H', H1 D = none → Same H1 H' → H' D = some (.lst (us.filterMap f)) → Q D H') : LcW J g tt te vs σ H1 Q := by
  have hlen : (as.map V.ref).length = us.length := by rw [List.length_map]; exact Paired.length hp
  refine lcV wk (fun i => us[i]?.bind f) hG (by rw [List.length_map]; exact hn) ?_ fun D H' h1 h2 h3 => hd D H' h1 h2 (by rw [hlen, rangeFM] at h3; exact h3)
  rintro i x H H' hi s1 ⟨rfl, hx⟩ Kt k
  rw [List.getElem?_map] at hx
  cases ea : as[i]? with
  | none =>
    rw [ea] at hx
    cases hx
  | some a =>
    rw [ea] at hx
    cases hx
    obtain ⟨u, hu, hau⟩ := paired_get hp ea
    refine hs u a H' (List.mem_of_getElem? hu) s1 (hR _ _ _ _ s1 hau) Kt fun H'' s => ?_
    have q := k H'' s
    rw [hu] at q
    exact q
/-- over range(n) -/
theorem lcRng {n : Nat} (F : Nat → Option V) (hn : n ≤ 1000000)
    (hs : ∀ (i : Nat) H, i < n → Same H1 H → ∀ Kt : Option V → Hp → Prop, (∀ H'', Same H H'' → Kt (F i) H'') → stp g tt te vs σ (.int (0 + (i : Int))) H Kt)
    (hd : ∀ (D : Addr) (H' : Hp), H1 D = none → Same H1 H' → H' D = some (.lst ((List.range n).filterMap F)) → Q D H') : LcW (Itr 0 n) g tt te vs σ H1 Q := by
  refine lcV walk_range F (fun _ _ => trivial) hn ?_ hd
  rintro i x H H' hi s1 ⟨rfl, rfl⟩ Kt k
  exact hs i H' hi s1 Kt k
/-- over new pairs of two rows -/
theorem lcPairs {J : It} {n : Nat} {G : Hp → Prop} (wk : Walk J n G (YPair (fun i => xs[i]?) (fun i => ys[i]?))) (hnn : n = min xs.length ys.length) (f : V → V → Option V) (hG : ∀ H', Same H1 H' → G H') (hn : n ≤ 1000000)
    (hs : ∀ x y T H, (x, y) ∈ xs.zip ys → Same H1 H → H T = some (.tup [x, y]) → ∀ Kt : Option V → Hp → Prop, (∀ H'', Same H H'' → Kt (f x y) H'') → stp g tt te vs σ (.ref T) H Kt)
    (hd : ∀ (D : Addr) (H' : Hp), H1 D = none → Same H1 H' → H' D = some (.lst ((xs.zip ys).filterMap fun p => f p.1 p.2)) → Q D H') : LcW J g tt te vs σ H1 Q := by
  have hz : (xs.zip ys).length = n := by rw [List.length_zip]; omega
  refine lcV wk (fun i => (xs.zip ys)[i]?.bind fun p => f p.1 p.2) hG hn ?_ fun D H' h1 h2 h3 => hd D H' h1 h2 (by rw [← hz, rangeFM] at h3; exact h3)
  rintro i x H H' hi s1 ⟨T, u, v, rfl, hT, rfl, hu, hv⟩ Kt k
  have hz : (xs.zip ys)[i]? = some (u, v) := by rw [List.getElem?_zip_eq_some]; exact ⟨hu, hv⟩
  refine hs u v T _ (List.mem_of_getElem? hz) (s1.trans (smNew hT)) upd_same Kt fun H'' s => ?_
  have q := k H'' ((smNew hT).trans s)
  rw [hz] at q
  exact q
end
/-! ### all and any of what a comprehension made -/
section
variable {K : PySem.W.Frag} {H : Hp} {D : Addr} {Q : VK} {α : Type} {xs : List α} {f : α → Bool}
theorem bls_eq : (xs.filterMap fun x => some (V.bl (f x))) = (xs.map f).map V.bl := by
  rw [List.filterMap_eq_map', List.map_map]
  rfl
theorem rAll_of (h : H D = some (.lst (xs.filterMap fun x => some (.bl (f x))))) (b : Bool) (hb : xs.all f = b) (q : Q (.bl b) H) : rAll K [.ref D] H Q := by
  refine ⟨D, xs.map f, rfl, SqL.of (by rw [h, bls_eq]), ?_⟩
  rw [List.all_map]
  have e : xs.all (id ∘ f) = b := hb
  rw [e]
  exact q
theorem rAny_of (h : H D = some (.lst (xs.filterMap fun x => some (.bl (f x))))) (b : Bool) (hb : xs.any f = b) (q : Q (.bl b) H) : rAny K [.ref D] H Q := by
  refine ⟨D, xs.map f, rfl, SqL.of (by rw [h, bls_eq]), ?_⟩
  rw [List.any_map]
  have e : xs.any (id ∘ f) = b := hb
  rw [e]
  exact q
theorem all_yes : (xs.all fun _ => true) = true := by simp
end
end Al
set_option maxHeartbeats 4000000
/-! K3: vectors (tuples of ints) compared, sought in lists; slices of tuples. -/
namespace Al
open PySem PySem.Spec PyProof.Rows L2
theorem eqv_ints : ∀ ns ms : List Int, PyData.eqvAll (ns.map .int) (ms.map .int) = decide (ns = ms)
  | [], [] => rfl
  | [], _ :: _ => rfl
  | _ :: _, [] => rfl
  | n :: ns, m :: ms => by
    show (PyData.eqv (.int n) (.int m) && PyData.eqvAll (ns.map .int) (ms.map .int)) = _
    rw [eqv_ints ns ms]
    show ((n == m) && decide (ns = ms)) = decide (n :: ns = m :: ms)
    by_cases h1 : n = m <;> by_cases h2 : ns = ms <;> simp [h1, h2]
theorem lay_ints : ∀ ns : List Int, PyData.canLayAll0 (ns.map .int) = true
  | [] => rfl
  | n :: ns => by
    show (PyData.canLay0 (.int n) && PyData.canLayAll0 (ns.map .int)) = true
    rw [lay_ints ns]
    rfl
def dV (ns : List Int) : PyData := .tuple (ns.map .int)
theorem shaped_v (ns : List Int) : SeqAt.shaped (dV ns) = true := by
  unfold SeqAt.shaped dV
  have e : PyData.canLay0 (.tuple (ns.map .int)) = true := lay_ints ns
  rw [e, PyData.depth, PySem.W.depth_ints ns]
  rfl
theorem eqv_v (ns ms : List Int) : PyData.eqv (dV ns) (dV ms) = decide (ns = ms) := eqv_ints ns ms
theorem lay_vs : ∀ vs : List (List Int), PyData.canLayAll0 (vs.map dV) = true
  | [] => rfl
  | v :: vs => by
    show (PyData.canLay0 (dV v) && PyData.canLayAll0 (vs.map dV)) = true
    rw [lay_vs vs]
    have e : PyData.canLay0 (dV v) = true := lay_ints v
    rw [e]
    rfl
theorem depth_vs : ∀ vs : List (List Int), PyData.depthAll (vs.map dV) ≤ 1
  | [] => by simp [PyData.depthAll]
  | v :: vs => by
    show PyData.depthAll (dV v :: vs.map dV) ≤ 1
    have ih := depth_vs vs
    rw [PyData.depthAll]
    have e : PyData.depth (dV v) = 1 := by unfold dV; rw [PyData.depth, PySem.W.depth_ints v]
    omega
theorem shaped_vs (vs : List (List Int)) : SeqAt.shaped (.list (vs.map dV)) = true := by
  unfold SeqAt.shaped
  have e : PyData.canLay0 (.list (vs.map dV)) = true := lay_vs vs
  rw [e, PyData.depth]
  have := depth_vs vs
  simp
  omega
section
variable {K : PySem.W.Frag} {H H' : Hp} {a : Addr} {ns : List Int}
theorem dpAll_ints : ∀ ns : List Int, DpAll K H (ns.map V.int) (ns.map .int)
  | [] => .nil
  | n :: ns => .cons (.int n) (dpAll_ints ns)
theorem dp_v (h : SqT K H a (ns.map V.int)) : Dp K H (.ref a) (dV ns) := .tup h (dpAll_ints ns)
/-- a vector stands at a; the vectors vs stand at as -/
abbrev VecR (K : PySem.W.Frag) (H : Hp) (a : Addr) (v : List Int) : Prop := SqT K H a (v.map V.int)
theorem vecR_sm (H H' : Hp) (a : Addr) (u : List Int) (s : Same H H') (h : VecR K H a u) : VecR K H' a u := smTup s h
abbrev VecsAt (K : PySem.W.Frag) (H : Hp) (as : List Addr) (vs : List (List Int)) : Prop := Paired (VecR K H) as vs
theorem VecsAt.sm (s : Same H H') {as : List Addr} {vs : List (List Int)} (h : VecsAt K H as vs) : VecsAt K H' as vs := Paired.mapP h fun a b z => smTup s z
theorem dp_vs : ∀ {as : List Addr} {vs : List (List Int)}, VecsAt K H as vs → DpAll K H (as.map V.ref) (vs.map dV)
  | _, _, .nil => .nil
  | _, _, .cons h t => .cons (dp_v h) (dp_vs t)
end
theorem room65 {A : Around} {k : Nat} (hr : Room k A) : A.units + 65 < cLine := by have := hr.un; omega
/-! ### rules that tell the written part by its letter (within a comprehension's block) -/
section
variable {X : Cx} (K : PySem.W.Frag)
theorem opK {f : Value → Value → Sem Value} {r : PySem.W.Frag → R2} (h : OpR X f (r X.K)) (hK : X.K = K) : OpR X f (r K) := hK ▸ h
theorem ixT (hK : X.K = K := by rfl) : IxR X (rIxT K) := hK ▸ ix_tup
theorem ixL (hK : X.K = K := by rfl) : IxR X (rIxL K) := hK ▸ ix_list
theorem cLen (hK : X.K = K := by rfl) : CallR X (.builtin "len") (fun xs H Q => ∃ p ys, xs = [.ref p] ∧ Sq K H p ys ∧ Q (.int ys.length) H) := hK ▸ call_len_seq
theorem cTuple (hK : X.K = K := by rfl) : CallR X (.type "tuple") (fun xs H Q => ∃ p ys, xs = [.ref p] ∧ ((SqL K H p ys ∧ ∀ l, H l = none → Q (.ref l) (upd H l (.tup ys))) ∨ (SqT K H p ys ∧ Q (.ref p) H))) := hK ▸ call_tuple_of
theorem cList (hK : X.K = K := by rfl) : CallR X (.type "list") (fun xs H Q => ∃ p ys, xs = [.ref p] ∧ Sq K H p ys ∧ ∀ l, H l = none → Q (.ref l) (upd H l (.lst ys))) := hK ▸ call_list_of
theorem op_inK (hK : X.K = K := by rfl) : OpR X (compareOp .In) (rIn K false) := hK ▸ op_in_seq
theorem op_ninK (hK : X.K = K := by rfl) : OpR X (compareOp .NotIn) (rIn K true) := hK ▸ op_notIn_seq
theorem op_eqDK (hu : X.A.units + 64 < cLine) (hK : X.K = K := by rfl) : OpR X (compareOp .Eq) (rEqD K) := hK ▸ op_eqD hu
theorem op_neDK (hu : X.A.units + 64 < cLine) (hK : X.K = K := by rfl) : OpR X (compareOp .NotEq) (rNeD K) := hK ▸ op_neD hu
theorem cAll (hc : X.calm = true := by rfl) (hK : X.K = K := by rfl) : CallR X (.builtin "all") (rAll K) := hK ▸ cr_all hc
theorem cAny (hc : X.calm = true := by rfl) (hK : X.K = K := by rfl) : CallR X (.builtin "any") (rAny K) := hK ▸ cr_any hc
end
section
variable {X : Cx}
def rNeVec (K : PySem.W.Frag) : R2 := fun x y H Q => ∃ (a b : Addr) (ns ms : List Int), x = .ref a ∧ y = .ref b ∧ SqT K H a (ns.map V.int) ∧ SqT K H b (ms.map V.int) ∧ Q (.bl (!decide (ns = ms))) H
theorem op_neVec (K : PySem.W.Frag) (hu : X.A.units + 64 < cLine) (hK : X.K = K := by rfl) : OpR X (compareOp .NotEq) (rNeVec K) := by
  subst hK
  intro pins s σ H x y v u Q I rx ry h
  obtain ⟨a, b, ns, ms, rfl, rfl, ha, hb, q⟩ := h
  exact op_neD hu pins s σ H _ _ v u Q I rx ry ⟨dV ns, dV ms, dp_v ha, dp_v hb, shaped_v ns, shaped_v ms, by rw [eqv_v]; exact q⟩
def rEqVec (K : PySem.W.Frag) : R2 := fun x y H Q => ∃ (a b : Addr) (ns ms : List Int), x = .ref a ∧ y = .ref b ∧ SqT K H a (ns.map V.int) ∧ SqT K H b (ms.map V.int) ∧ Q (.bl (decide (ns = ms))) H
theorem op_eqVec (K : PySem.W.Frag) (hu : X.A.units + 64 < cLine) (hK : X.K = K := by rfl) : OpR X (compareOp .Eq) (rEqVec K) := by
  subst hK
  intro pins s σ H x y v u Q I rx ry h
  obtain ⟨a, b, ns, ms, rfl, rfl, ha, hb, q⟩ := h
  exact op_eqD hu pins s σ H _ _ v u Q I rx ry ⟨dV ns, dV ms, dp_v ha, dp_v hb, shaped_v ns, shaped_v ms, by rw [eqv_v]; exact q⟩
/-- a vector in a list of vectors -/
def rInVec (K : PySem.W.Frag) : R2 := fun x y H Q => ∃ (a b : Addr) (ns : List Int) (as : List Addr) (vs : List (List Int)), x = .ref a ∧ y = .ref b ∧ SqT K H a (ns.map V.int) ∧ SqL K H b (as.map V.ref) ∧ VecsAt K H as vs ∧ Q (.bl (decide (ns ∈ vs))) H
theorem any_eqv (ns : List Int) (vs : List (List Int)) : ((vs.map dV).any fun z => PyData.eqv z (dV ns)) = decide (ns ∈ vs) := by
  rw [List.any_map]
  induction vs with
  | nil => rfl
  | cons v vs ih =>
    rw [List.any_cons, ih]
    show (PyData.eqv (dV v) (dV ns) || decide (ns ∈ vs)) = decide (ns ∈ v :: vs)
    rw [eqv_v]
    by_cases h1 : v = ns <;> by_cases h2 : ns ∈ vs <;> simp [h1, h2]
    exact fun h => h1 h.symm
theorem op_inVec (K : PySem.W.Frag) (hu : X.A.units + 65 < cLine) (hK : X.K = K := by rfl) : OpR X (compareOp .In) (rInVec K) := by
  subst hK
  intro pins s σ H x y v u Q I rx ry h
  obtain ⟨a, b, ns, as, vs, rfl, rfl, ha, hb, hv, q⟩ := h
  refine op_inD hu pins s σ H _ _ v u Q I rx ry ⟨dV ns, vs.map dV, dp_v ha, .lst hb (dp_vs hv), shaped_v ns, shaped_vs vs, ?_⟩
  rw [any_eqv]
  exact q
end
/-! ### isinstance of a tuple -/
theorem tyTup {K : PySem.W.Frag} {H : Hp} {a : Addr} {xs : List V} (h : SqT K H a xs) : TyX K H (.ref a) (.type "tuple") := by
  rcases h with (h | ⟨o, h⟩) | ⟨o, its, n, h, c, _⟩
  · exact .base (.tup h)
  · exact .fTuple h
  · exact .kTuple h c
/-! ### slices -/
theorem cut_from (xs : List V) (k : Nat) : cutV xs (some (k : Int)) none = xs.drop k := by
  unfold cutV
  rw [HT.sIx_none, HT.sIx_nat]
  by_cases h : k ≤ xs.length
  · rw [Nat.min_eq_left h, List.take_of_length_le]
    simp
  · rw [Nat.min_eq_right (by omega), List.drop_of_length_le (Nat.le_refl _), List.drop_of_length_le (by omega)]
    simp
theorem cut_to (xs : List V) (k : Nat) : cutV xs none (some (k : Int)) = xs.take k := by
  unfold cutV
  rw [HT.sIx_none, HT.sIx_nat]
  by_cases h : k ≤ xs.length
  · simp [Nat.min_eq_left h]
  · rw [Nat.min_eq_right (by omega)]
    simp [List.take_of_length_le (show xs.length ≤ k by omega)]
/-- t[k:], t[:k] of a tuple: some tuple (the same one, or a new one) -/
def rCut (K : PySem.W.Frag) : V → Option Int → Option Int → Hp → VK → Prop := fun x lo hi H Q => ∃ a xs, x = .ref a ∧ SqT K H a xs ∧ ∀ p H', Same H H' → SqT K H' p (cutV xs lo hi) → Q (.ref p) H'
theorem sl_cut {X : Cx} (K : PySem.W.Frag) (hK : X.K = K := by rfl) : SlR X (rCut K) := by
  subst hK
  intro pins s σ H x v vl vu lo hi sl Q I rx hs pl pu h
  obtain ⟨a, xs, rfl, hx, q⟩ := h
  refine sl_tupA pins s σ H _ v vl vu lo hi sl Q I rx hs pl pu ⟨a, xs, rfl, hx, fun hw => q a H (Same.refl _) ?_, fun _ p hp => q p _ (smNew hp) (SqT.of upd_same)⟩
  have e : cutV xs lo hi = xs := by
    unfold cutV
    rw [hw.1, hw.2]
    simp
  rw [e]
  exact hx
end Al
set_option maxHeartbeats 4000000
/-! K4: dicts whose keys are tuples, nested too. -/
namespace Al
open PySem PySem.Spec PyProof.Rows L2
abbrev NK := NestedKey
mutual
/-- the thing x is the key k -/
inductive NkV (K : PySem.W.Frag) (H : Hp) : NK → V → Prop
  | int (i : Int) : NkV K H (.num i) (.int i)
  | str (x : Str) : NkV K H (.text x) (.str x)
  | tup {a : Addr} {xs : List V} {ks : List NK} : SqT K H a xs → NkAll K H ks xs → NkV K H (.tup ks) (.ref a)
inductive NkAll (K : PySem.W.Frag) (H : Hp) : List NK → List V → Prop
  | nil : NkAll K H [] []
  | cons {k : NK} {x : V} {ks : List NK} {xs : List V} : NkV K H k x → NkAll K H ks xs → NkAll K H (k :: ks) (x :: xs)
end
section
variable {K : PySem.W.Frag} {H H' : Hp}
mutual
theorem NkV.sm (e : Same H H') : ∀ (k : NK) (x : V), NkV K H k x → NkV K H' k x
  | .none, _, h => by cases h
  | .num i, _, h => by cases h; exact .int i
  | .text i, _, h => by cases h; exact .str i
  | .tup ks, _, h => by
    cases h with
    | tup h1 h2 => exact .tup (smTup e h1) (NkAll.sm e ks _ h2)
theorem NkAll.sm (e : Same H H') : ∀ (ks : List NK) (xs : List V), NkAll K H ks xs → NkAll K H' ks xs
  | [], _, h => by cases h; exact .nil
  | k :: ks, _, h => by
    cases h with
    | cons h1 h2 => exact .cons (NkV.sm e k _ h1) (NkAll.sm e ks _ h2)
end
end
section
variable {X : Cx} {pins : List (Addr × Obj)} {σ : L2.St} {H : Hp} {s : Shared}
mutual
theorem NkV.is (I : Inv X pins σ H s) : ∀ (k : NK) (x : V) (u : Value), NkV X.K H k x → RelV x u → NestedIs s.heap k u
  | .none, _, _, h, _ => by cases h
  | .num i, _, _, h, r => by
    cases h
    obtain ⟨t, rfl⟩ := r
    exact .int i t
  | .text i, _, _, h, r => by
    cases h
    obtain ⟨t, rfl⟩ := r
    exact .text i t
  | .tup ks, _, _, h, r => by
    cases h with
    | tup h1 h2 =>
      cases r
      obtain ⟨its, rv, ⟨o, e1, e2, n, e3⟩, _⟩ := I.tuple h1
      exact .tup e1 e2 e3 (by simpa using NkAll.is I ks _ its h2 rv)
theorem NkAll.is (I : Inv X pins σ H s) : ∀ (ks : List NK) (xs : List V) (us : List Value), NkAll X.K H ks xs → Vals xs us → NestedAll s.heap ks us
  | [], _, _, h, r => by
    cases h
    cases r
    exact .nil
  | k :: ks, _, _, h, r => by
    cases h with
    | cons h1 h2 =>
      cases r with
      | cons r1 r2 => exact .cons (NkV.is I k _ _ h1 r1) (NkAll.is I ks _ _ h2 r2)
end
end
/-! ### plain: entries -/
abbrev NE := NK × Addr × V
def nget (kvs : List NE) (k : NK) : Option V := (kvs.find? fun p => decide (p.1 = k)).map (·.2.2)
def nput (kvs : List NE) (k : NK) (b : Addr) (v : V) : List NE := if (nget kvs k).isSome then kvs.map (fun p => if p.1 = k then (p.1, p.2.1, v) else p) else kvs ++ [(k, b, v)]
def nRel : List NE → List (NK × Addr × Value) → Prop := Paired fun p q => p.1 = q.1 ∧ p.2.1 = q.2.1 ∧ RelV p.2.2 q.2.2
theorem nRel.at : ∀ {kvs : List NE} {xs : List (NK × Addr × Value)} (k : NK), nRel kvs xs → RelO (nget kvs k) ((atKey xs k).map (·.2))
  | _, _, k, .nil => trivial
  | p :: kvs, q :: xs, k, .cons ⟨h1, h2, h3⟩ t => by
    unfold nget atKey
    by_cases e : p.1 = k
    · rw [List.find?_cons_of_pos (by simpa using e), List.find?_cons_of_pos (by rw [← h1]; simpa using e)]
      exact h3
    · rw [List.find?_cons_of_neg (by simpa using e), List.find?_cons_of_neg (by rw [← h1]; simpa using e)]
      exact nRel.at k t
theorem relO_some {o : Option V} {u : Option Value} (h : RelO o u) : o.isSome = u.isSome := by
  cases o <;> cases u <;> first | rfl | exact h.elim
theorem nRel.map {k : NK} {v : V} {u : Value} (rv : RelV v u) : ∀ {kvs : List NE} {xs : List (NK × Addr × Value)}, nRel kvs xs → nRel (kvs.map (fun p => if p.1 = k then (p.1, p.2.1, v) else p)) (xs.map (putAt k u))
  | _, _, .nil => .nil
  | p :: kvs, q :: xs, .cons ⟨h1, h2, h3⟩ t => by
    refine .cons ?_ (nRel.map rv t)
    unfold putAt
    dsimp only
    by_cases e : p.1 = k
    · rw [if_pos e, if_pos (h1 ▸ e)]
      exact ⟨h1, h2, rv⟩
    · rw [if_neg e, if_neg (h1 ▸ e)]
      exact ⟨h1, h2, h3⟩
theorem nRel.append : ∀ {kvs kvs' : List NE} {xs xs' : List (NK × Addr × Value)}, nRel kvs xs → nRel kvs' xs' → nRel (kvs ++ kvs') (xs ++ xs')
  | _, _, _, _, .nil, h => h
  | _, _, _, _, .cons r t, h => .cons r (nRel.append t h)
theorem nRel.put {kvs : List NE} {xs : List (NK × Addr × Value)} (k : NK) (b : Addr) {v : V} {u : Value} (h : nRel kvs xs) (rv : RelV v u) : nRel (nput kvs k b v) (storedH xs k b u) := by
  have e := relO_some (h.at k)
  rw [Option.isSome_map] at e
  unfold nput storedH
  rw [e]
  split
  · exact h.map rv
  · exact h.append (.cons ⟨rfl, rfl, rv⟩ .nil)
theorem length_nput (kvs : List NE) (k : NK) (b : Addr) (v : V) : (nput kvs k b v).length ≤ kvs.length + 1 := by
  unfold nput
  split <;> simp
theorem nput_new {kvs : List NE} {k : NK} (b : Addr) (v : V) (h : nget kvs k = none) : nput kvs k b v = kvs ++ [(k, b, v)] := by
  unfold nput
  rw [h]
  rfl
/-! ### such a dict in the heap -/
section
variable (P : Program) (w : World)
def dN (d : Addr) (kvs : List NE) : HO := .ext fun h => kvs.length ≤ sizeLine ∧ (d == sysModules) = false ∧ ∃ xs, nRel kvs xs ∧ ∃ o es ep, h.get? d = some o ∧ o.ExactDict ∧ o.data = .dict es ep ∧ es.toList = xs.map (entryOfKey (nestedKind P w)) ∧ (xs.map (·.1)).Nodup
/-- at d stands a dict with the entries kvs, its keys' tuples stand too -/
structure ND (K : PySem.W.Frag) (H : Hp) (d : Addr) (kvs : List NE) : Prop where
  ob : H d = some (dN P w d kvs)
  ks : ∀ p ∈ kvs, NkV K H p.1 (.ref p.2.1) ∧ p.1.depth ≤ 8
end
theorem ND.sm {P : Program} {w : World} {K : PySem.W.Frag} {H H' : Hp} {d : Addr} {kvs : List NE} (e : Same H H') (h : ND P w K H d kvs) : ND P w K H' d kvs :=
  ⟨e _ _ h.ob, fun p hp => ⟨NkV.sm e _ _ (h.ks p hp).1, (h.ks p hp).2⟩⟩
theorem ND.emp {P : Program} {w : World} {K : PySem.W.Frag} {H : Hp} {d : Addr} (h : H d = some (dN P w d [])) : ND P w K H d [] := ⟨h, fun p hp => by simp at hp⟩
theorem dn_new {P : Program} {w : World} {H' : Hp} {h' : Heap} {d : Addr} {kvs : List NE} {xs : List (NK × Addr × Value)} (z : kvs.length ≤ sizeLine) (hd : (d == sysModules) = false) (r : nRel kvs xs) (dd : h'.DictOfH (nestedKind P w) d xs) : ObjOk P w H' h' d (dN P w d kvs) := by
  obtain ⟨o, es, ep, h1, h2, h3, h4, h5, h6⟩ := dd
  refine ⟨⟨z, hd, xs, r, o, es, ep, h1, h2, h3, h4, h6⟩, ⟨o, h1⟩, ?_⟩
  rintro ha hb ⟨z, hd, xs, r, o, es, ep, h1, h2⟩ k
  exact ⟨z, hd, xs, r, o, es, ep, k _ h1, h2⟩
section
variable {X : Cx} {pins : List (Addr × Obj)} {σ : L2.St} {H : Hp} {s : Shared} {d : Addr} {kvs : List NE} {y v : V} {k : NK} {E : Value → Shared → Prop} {u r : Value}
theorem nd_rd (I : Inv X pins σ H s) (h : ND X.prog X.w X.K H d kvs) : kvs.length ≤ sizeLine ∧ (d == sysModules) = false ∧ ∃ xs, nRel kvs xs ∧ s.heap.DictOfH (nestedKind X.prog X.w) d xs := by
  have x : ObjOk X.prog X.w H s.heap d (dN X.prog X.w d kvs) := I.hok d _ h.ob
  obtain ⟨⟨z, hd, xs, r, o, es, ep, h1, h2, h3, h4, h5⟩, _⟩ := x
  refine ⟨z, hd, xs, r, o, es, ep, h1, h2, h3, h4, fun q hq => ?_, h5⟩
  have key : ∀ {kvs : List NE} {xs : List (NK × Addr × Value)}, nRel kvs xs → (∀ p ∈ kvs, NkV X.K H p.1 (.ref p.2.1) ∧ p.1.depth ≤ 8) → ∀ q ∈ xs, NestedIs s.heap q.1 (.ref q.2.1) ∧ q.1.depth ≤ 8 := by
    intro kvs xs r
    induction r with
    | nil => intro _ q hq; simp at hq
    | @cons p q ps qs r t ih =>
      intro hk q' hq'
      rcases List.mem_cons.mp hq' with e | e
      · subst e
        obtain ⟨a1, a2⟩ := hk p (by simp)
        rw [← r.1, ← r.2.1]
        exact ⟨NkV.is I _ _ _ a1 rfl, a2⟩
      · exact ih (fun p hp => hk p (by simp [hp])) q' e
  exact key r h.ks q hq
/-- y is a key -/
structure KeyR (K : PySem.W.Frag) (H : Hp) (k : NK) (y : V) (b : Addr) : Prop where
  e : y = .ref b
  is : NkV K H k (.ref b)
  dp : k.depth ≤ 8
theorem KeyR.kis (I : Inv X pins σ H s) {b : Addr} (h : KeyR X.K H k y b) (ry : RelV y u) : u = .ref b ∧ (nestedKind X.prog X.w).is s.heap k b := by
  obtain ⟨rfl, h1, h2⟩ := h
  cases ry
  exact ⟨rfl, NkV.is I _ _ _ h1 rfl, h2⟩
theorem hu_n {A : Around} {n : Nat} (hr : Room n A) : (nestedKind X.prog X.w).room A := by have := hr.un; show A.units + 8 < cLine; omega
theorem hu_n1 {A : Around} {n : Nat} (hr : Room n A) : (nestedKind X.prog X.w).room A.in1 := by have := hr.un; show A.units + 1 + 8 < cLine; omega
theorem n_in {b : Addr} {Q : Value → Shared → Prop} (hu : X.A.units + 9 < cLine) (I : Inv X pins σ H s) (h : ND X.prog X.w X.K H d kvs) (hk : KeyR X.K H k y b) (ry : RelV y u) (q : ∀ s', Inv X pins σ H s' → Q (.bool (nget kvs k).isSome) s') : wpAny (model X.prog X.w) X.A (compareOp .In u (.ref d)) Q E s := by
  obtain ⟨z, hd, xs, r, dd⟩ := nd_rd I h
  obtain ⟨rfl, ki⟩ := hk.kis I ry
  refine wpAny_in_heap (knd := nestedKind X.prog X.w) (by show X.A.units + 1 + 8 < cLine; omega) ki hd dd ?_
  have e := relO_some (r.at k)
  rw [Option.isSome_map] at e
  rw [← e]
  exact q _ (I.tok _)
theorem n_notin {b : Addr} {Q : Value → Shared → Prop} (hu : X.A.units + 9 < cLine) (I : Inv X pins σ H s) (h : ND X.prog X.w X.K H d kvs) (hk : KeyR X.K H k y b) (ry : RelV y u) (q : ∀ s', Inv X pins σ H s' → Q (.bool (!(nget kvs k).isSome)) s') : wpAny (model X.prog X.w) X.A (compareOp .NotIn u (.ref d)) Q E s := by
  obtain ⟨z, hd, xs, r, dd⟩ := nd_rd I h
  obtain ⟨rfl, ki⟩ := hk.kis I ry
  refine notIn_keyed (knd := nestedKind X.prog X.w) (by show X.A.units + 1 + 8 < cLine; omega) ki hd ⟨xs, dd, rfl⟩ ?_
  rw [valueAt_pairsH, Option.isSome_map]
  have e := relO_some (r.at k)
  rw [Option.isSome_map] at e
  rw [← e]
  exact q _ (I.tok _)
theorem n_get {b : Addr} {Q : Value → Shared → Prop} (hu : X.A.units + 9 < cLine) (I : Inv X pins σ H s) (h : ND X.prog X.w X.K H d kvs) (hk : KeyR X.K H k y b) (ry : RelV y u) (g : nget kvs k = some v) (q : ∀ w' s', Inv X pins σ H s' → RelV v w' → Q w' s') : wpAny (model X.prog X.w) X.A (getItem (.ref d) u) Q E s := by
  obtain ⟨z, hd, xs, r, dd⟩ := nd_rd I h
  obtain ⟨rfl, ki⟩ := hk.kis I ry
  have e := r.at k
  rw [g] at e
  cases ha : atKey xs k with
  | none => rw [ha] at e; exact e.elim
  | some p =>
    rw [ha] at e
    exact wpAny_getItem_heap (knd := nestedKind X.prog X.w) (by show X.A.units + 1 + 8 < cLine; omega) ki dd ha (q _ _ (I.tok _) e)
theorem n_laid {b : Addr} {h' : Heap} {t' : Nat} {xs : List (NK × Addr × Value)} (I : Inv X pins σ H s) (h : ND X.prog X.w X.K H d kvs) (hz : kvs.length < sizeLine) (hd : (d == sysModules) = false) (r0 : nRel kvs xs) (rv : RelV v r) (hm : h'.DictOfH (nestedKind X.prog X.w) d (storedH xs k b r)) (hs : Heap.SameBut d s.heap h') :
    Inv X pins σ (upd H d (dN X.prog X.w d (nput kvs k b v))) { s with heap := h', toks := t' } := by
  refine d_write I (by rw [h.ob]; exact True.intro) hs (let ⟨q, _, _, hq, _⟩ := hm; ⟨q, hq⟩) (dn_new ?_ hd (r0.put k b rv) hm)
  have := length_nput kvs k b v
  omega
theorem n_put {b : Addr} {Q : Unit → Shared → Prop} (hu : X.A.units + 9 < cLine) (I : Inv X pins σ H s) (h : ND X.prog X.w X.K H d kvs) (hz : kvs.length < sizeLine) (hk : KeyR X.K H k y b) (ry : RelV y u) (rv : RelV v r)
    (q : ∀ s', Inv X pins σ (upd H d (dN X.prog X.w d (nput kvs k b v))) s' → Q () s') : wpAny (model X.prog X.w) X.A (setItem (.ref d) u r) Q E s := by
  obtain ⟨z, hd, xs, r0, dd⟩ := nd_rd I h
  obtain ⟨rfl, ki⟩ := hk.kis I ry
  have hl : xs.length = kvs.length := (Paired.length r0).symm
  refine wpAny_setItem_heap (knd := nestedKind X.prog X.w) (hsz := by omega) (by show X.A.units + 1 + 8 < cLine; omega) ki dd fun h' hm hs => ?_
  exact q _ (n_laid I h hz hd r0 rv hm hs)
theorem n_dictSet {b : Addr} {Q : Unit → Shared → Prop} (hu : X.A.units + 9 < cLine) (I : Inv X pins σ H s) (h : ND X.prog X.w X.K H d kvs) (hz : kvs.length < sizeLine) (hk : KeyR X.K H k y b) (ry : RelV y u) (rv : RelV v r)
    (q : ∀ s', Inv X pins σ (upd H d (dN X.prog X.w d (nput kvs k b v))) s' → Q () s') : wpAny (model X.prog X.w) X.A (dictSet d u r) Q E s := by
  obtain ⟨z, hd, xs, r0, dd⟩ := nd_rd I h
  obtain ⟨rfl, ki⟩ := hk.kis I ry
  have hl : xs.length = kvs.length := (Paired.length r0).symm
  refine wpAny_dictSet_heap (knd := nestedKind X.prog X.w) (hsz := by omega) (by show X.A.units + 8 < cLine; omega) ki dd fun h' hm hs => ?_
  exact q _ (n_laid I h hz hd r0 rv hm hs)
theorem dn_empty {P : Program} {w : World} {H : Hp} (h : Heap) (hb : sysModules < h.objs.size) : ObjOk P w H (h.push { cls := .type "dict", data := .dict #[] }) h.objs.size (dN P w h.objs.size []) :=
  dn_new (Nat.zero_le _) (beq_eq_false_iff_ne.mpr (Ne.symm (Nat.ne_of_lt hb))) .nil (Heap.DictOfH.new h)
end
/-! ### rules -/
def tNIn (P : Program) (w : World) (K : PySem.W.Frag) (ty td : TE) : TE := fun σ H Q => ty σ H fun y H1 => td σ H1 fun x H2 => ∃ a kvs k b, x = .ref a ∧ ND P w K H2 a kvs ∧ KeyR K H2 k y b ∧ Q (.bl (nget kvs k).isSome) H2
def tNNotIn (P : Program) (w : World) (K : PySem.W.Frag) (ty td : TE) : TE := fun σ H Q => ty σ H fun y H1 => td σ H1 fun x H2 => ∃ a kvs k b, x = .ref a ∧ ND P w K H2 a kvs ∧ KeyR K H2 k y b ∧ Q (.bl (!(nget kvs k).isSome)) H2
def tNGet (P : Program) (w : World) (K : PySem.W.Frag) (td ty : TE) : TE := fun σ H Q => td σ H fun x H1 => ty σ H1 fun y H2 => ∃ a kvs k b v, x = .ref a ∧ ND P w K H2 a kvs ∧ KeyR K H2 k y b ∧ nget kvs k = some v ∧ Q v H2
def sNPut (P : Program) (w : World) (K : PySem.W.Frag) (td ty tv : TE) : TS := fun D σ H => tv σ H fun v H1 => td σ H1 fun x H2 => ty σ H2 fun y H3 => ∃ a kvs k b, x = .ref a ∧ ND P w K H3 a kvs ∧ kvs.length < sizeLine ∧ KeyR K H3 k y b ∧ D.nx σ (upd H3 a (dN P w a (nput kvs k b v)))
def tNNew (P : Program) (w : World) : TE := fun _ H Q => ∀ p, H p = none → Q (.ref p) (upd H p (dN P w p []))
section
variable {X : Cx} {i o value : Expr} {pos pos' : Pos} {ty td tv : TE} {n : Nat}
theorem hu9 {A : Around} {n : Nat} (hr : Room n A) : A.units + 9 < cLine := by have := hr.un; omega
theorem pc_nin (hu : X.A.units + 9 < cLine) (hi : PE X i ty) (ho : PE X o td) : PC X .In i o (tNIn X.prog X.w X.K ty td) := by
  refine ⟨fun pins s σ H Q I h => ?_⟩
  refine thn (hi.run pins s σ H _ I h) fun iv s1 ⟨y, H1, I1, ry, q1⟩ => thn (ho.run pins s1 σ H1 _ I1 q1) fun u s2 ⟨x, H2, I2, rx, a, kvs, k, b, ex, h1, h2, q2⟩ => ?_
  subst ex
  obtain rfl : u = Value.ref a := rx
  exact n_in hu I2 h1 h2 ry fun s3 I3 => ⟨.bl _, H2, I3, rfl, q2⟩
theorem pc_nnotin (hu : X.A.units + 9 < cLine) (hi : PE X i ty) (ho : PE X o td) : PC X .NotIn i o (tNNotIn X.prog X.w X.K ty td) := by
  refine ⟨fun pins s σ H Q I h => ?_⟩
  refine thn (hi.run pins s σ H _ I h) fun iv s1 ⟨y, H1, I1, ry, q1⟩ => thn (ho.run pins s1 σ H1 _ I1 q1) fun u s2 ⟨x, H2, I2, rx, a, kvs, k, b, ex, h1, h2, q2⟩ => ?_
  subst ex
  obtain rfl : u = Value.ref a := rx
  exact n_notin hu I2 h1 h2 ry fun s3 I3 => ⟨.bl _, H2, I3, rfl, q2⟩
theorem pe_nget (hu : X.A.units + 9 < cLine) (ho : PE X o td) (hi : PE X i ty) (hs : NoSl i) : PE X (.Subscript o i pos) (tNGet X.prog X.w X.K td ty) := by
  refine ⟨fun pins s σ H Q I h => ?_⟩
  refine subD_of PySem.F.slot_dict_getitem.lookup hs (thn (ho.run pins s σ H _ I h) fun u s1 ⟨x, H1, I1, rx, q1⟩ => thn (hi.run pins s1 σ H1 _ I1 q1) fun iv s2 ⟨y, H2, I2, ry, a, kvs, k, b, v, ex, h1, h2, g, q2⟩ => ?_)
  subst ex
  obtain rfl : u = Value.ref a := rx
  obtain ⟨_, _, xs, _, dd⟩ := nd_rd I2 h1
  exact ⟨dd.typeIs, n_get hu I2 h1 h2 ry g fun w' s3 I3 rw' => ⟨v, H2, I3, rw', q2⟩⟩
theorem ps_nput (hu : X.A.units + 9 < cLine) (ho : PE X o td) (hi : PE X i ty) (hv : PE X value tv) (hs : swapsWith value (some (.Subscript o i pos')) pos.line X.env = pure false) :
    PS X (.Assign [.Subscript o i pos'] value pos) (sNPut X.prog X.w X.K td ty tv) := by
  refine ⟨fun pins s σ H D I h => ?_⟩
  refine wpAny_Assign_Subscript (thn (hv.run pins s σ H _ I h) fun r s1 ⟨v, H1, I1, rv, q1⟩ => thn (ho.run pins s1 σ H1 _ I1 q1) fun u s2 ⟨x, H2, I2, rx, q2⟩ => thn (hi.run pins s2 σ H2 _ I2 q2) fun iv s3 ⟨y, H3, I3, ry, a, kvs, k, b, ex, h1, hz, h2, q3⟩ => ?_) hs
  subst ex
  obtain rfl : u = Value.ref a := rx
  exact n_put hu I3 h1 hz h2 ry rv fun s4 I4 => ⟨σ, _, I4, q3⟩
theorem pe_nnew : PE X (.Dict [] [] pos) (tNNew X.prog X.w) := ⟨fun pins s σ H Q I h =>
  wpAny_Dict_empty ⟨.ref s.heap.objs.size, _, I.laid (a := s.heap.objs.size) (o := dN X.prog X.w s.heap.objs.size []) (t' := s.toks) (fun _ _ q => Heap.get?_push_of_some _ q) (Nat.le_refl _) (dn_empty s.heap I.big), rfl, h _ (I.hok.fresh (Nat.le_refl _))⟩⟩
end
end Al
set_option maxHeartbeats 4000000
/-! K5: dict comprehensions for any kind of dict; relational walks of dict comprehensions. -/
namespace Al
open PySem PySem.Spec PyProof.Rows L2
/-- a kind of dict that a comprehension builds: the new one, one entry stored -/
structure DcKind (X : Cx) (emp : Addr → HO) (put : Addr → V → V → Hp → (Hp → Prop) → Prop) : Prop where
  new : ∀ (H : Hp) (h : Heap), sysModules < h.objs.size → ObjOk X.prog X.w H (h.push { cls := .type "dict", data := .dict #[] }) h.objs.size (emp h.objs.size)
  set : ∀ (Y : Cx), Y.prog = X.prog → Y.w = X.w → Y.K = X.K → Y.A = X.A → ∀ (pins : List (Addr × Obj)) (s : Shared) (σ : L2.St) (H : Hp) (D : Addr) (y z : V) (u r : Value) (N : Hp → Prop) (E : Value → Shared → Prop) (Q : Unit → Shared → Prop),
    Inv Y pins σ H s → put D y z H N → RelV y u → RelV z r → (∀ s' H', Inv Y pins σ H' s' → N H' → Q () s') → wpAny (model Y.prog Y.w) Y.A (dictSet D u r) Q E s
def tDcG (emp : Addr → HO) (put : Addr → V → V → Hp → (Hp → Prop) → Prop) (wi : TI) (g : TG) (tt : TT) (tk tv : TE) (vs : List Nat) : TE := fun σ H Q => wi σ H fun J H1 => ∀ D, H1 D = none → ∃ W : Nat → Nat → Hp → Prop, (∃ m, W 0 m (upd H1 D (emp D))) ∧ ∀ i m H, W i m H →
  (J.stop i H ∧ Q (.ref D) H) ∨ (J.go i H ∧ ∃ N : Hp → Prop, (∀ H', N H' → ∃ m', m' < m ∧ W (i + 1) m' H') ∧ ∀ x H', J.yld i H x H' → g x (wipe σ vs) H' fun σ2 H2 => wipe σ2 vs = wipe σ vs ∧ tt σ2 H2 fun b H3 =>
    if b = true then tk σ2 H3 fun y H4 => tv σ2 H4 fun z H5 => put D y z H5 N else N H3)
section
variable {X : Cx} {kx vx tg iter : Expr} {ifs : List Expr} {scope : Scope} {own : List (Str × Nat)} {pos : Pos} {wi : TI} {g : TG} {tt : TT} {tk tv : TE} {emp : Addr → HO} {put : Addr → V → V → Hp → (Hp → Prop) → Prop}
/-- the rules of the parts of the block, wherever the block stands -/
structure DcParts (X : Cx) (kx vx tg : Expr) (ifs : List Expr) (scope : Scope) (g : TG) (tt : TT) (tk tv : TE) : Prop where
  tg : ∀ (s : Shared) (H : Hp) (C : Addr) (cl : List (Str × Addr)) (fp : List Addr), PG (X.blk s H scope (compEnvC scope cl C X.env) fp) tg g
  ifs : ∀ (s : Shared) (H : Hp) (C : Addr) (cl : List (Str × Addr)) (fp : List Addr), PTs (X.blk s H scope (compEnvC scope cl C X.env) fp) ifs tt
  kx : ∀ (s : Shared) (H : Hp) (C : Addr) (cl : List (Str × Addr)) (fp : List Addr), PE (X.blk s H scope (compEnvC scope cl C X.env) fp) kx tk
  vx : ∀ (s : Shared) (H : Hp) (C : Addr) (cl : List (Str × Addr)) (fp : List Addr), PE (X.blk s H scope (compEnvC scope cl C X.env) fp) vx tv
/-- the block's loop: B the context of the block -/
theorem dcg_loop {B : Cx} {it D : Addr} {fp : List Addr} {J : It} {tn : Nat → Heap → Prop} {σ0 : L2.St} {vs : List Nat} {Q : Hp → Prop} {R : Result → Shared → Prop} (dk : DcKind X emp put) (eP : B.prog = X.prog) (eW : B.w = X.w) (eK : B.K = X.K) (eA : B.A = X.A)
    (exe : B.xe = fun _ _ => False)
    (hc : B.calm = true) (T : Turn X.prog X.w X.K tg J fp it tn) (pg : PG B tg g) (pt : PTs B ifs tt) (pk : PE B kx tk) (pv : PE B vx tv)
    (stat : ∀ {σ' : L2.St} {H' : Hp} {s' : Shared}, Inv B [] σ' H' s' → (∀ b ∈ fp, H' b = none) → ∀ b ∈ fp, FpOk B [] H' b) {W : Nat → Nat → Hp → Prop}
    (turn : ∀ i m H, W i m H → (J.stop i H ∧ Q H) ∨ (J.go i H ∧ ∃ N : Hp → Prop, (∀ H', N H' → ∃ m', m' < m ∧ W (i + 1) m' H') ∧ ∀ x H', J.yld i H x H' → g x σ0 H' fun σ2 H2 => wipe σ2 vs = σ0 ∧ tt σ2 H2 fun b H3 =>
      if b = true then tk σ2 H3 fun y H4 => tv σ2 H4 fun z H5 => put D y z H5 N else N H3))
    (fin : ∀ (H' : Hp) (s' : Shared), Inv B [] σ0 H' s' → Q H' → R (.ok .next) s') {m0 : Nat} {s : Shared} (h : ∃ i H', Inv B [] σ0 H' s ∧ tn i s.heap ∧ (∀ b ∈ fp, H' b = none) ∧ W i m0 H') :
    codeAny (model X.prog X.w) X.A (.compLoop (.DictComp kx vx [⟨tg, iter, ifs, 0⟩] scope pos) 0 (.ref it) (.ref D) B.env) R s := by
  refine compLoop_anyD (fun n s' => ∃ i H', Inv B [] σ0 H' s' ∧ tn i s'.heap ∧ (∀ b ∈ fp, H' b = none) ∧ W i n H') ?_ m0 h
  rintro n sa ⟨i, Ha, Ia, sta, na, wa⟩
  rw [← eP, ← eW, ← eA]
  rw [← eP, ← eW, ← eK] at T
  rcases turn i n Ha wa with ⟨stop, qq⟩ | ⟨go, N, hN, step⟩
  · refine thnF (T.done B rfl rfl rfl hc i [] sa _ Ha (fun _ _ => False) Ia (stat Ia na) sta stop) fun r sb ⟨er, Ib⟩ => ?_
    rw [er]
    exact fin _ _ Ib qq
  · refine thnF (T.item B rfl rfl rfl hc i [] sa _ Ha (fun _ _ => False) Ia (stat Ia na) sta go) fun r sb ⟨u, er, hb⟩ => ?_
    rw [er]
    refine thnF hb fun _ sc ⟨x, Hc, Ic, rc, yc, stc, nc⟩ => ?_
    -- the turn's end
    have close : ∀ {σ' : L2.St} {s' : Shared} {H' : Hp}, wipe σ' vs = σ0 → Inv B ([] ++ pinsAt fp sc.heap) σ' H' s' → N H' → ∃ m, m < n ∧ ∃ i H', Inv B [] σ0 H' s' ∧ tn i s'.heap ∧ (∀ b ∈ fp, H' b = none) ∧ W i m H' := by
      intro σ' s' H' ew I' nx
      obtain ⟨m', hm, w'⟩ := hN H' nx
      have pn : ∀ b ∈ fp, ∀ o, sc.heap.get? b = some o → s'.heap.get? b = some o ∧ H' b = none := fun b hb o e => by
        have z := I'.pin (b, o) (List.mem_append_right _ (List.mem_append_right _ (mem_pinsAt hb e)))
        exact ⟨z.1, z.2.1⟩
      refine ⟨m', hm, i + 1, H', (I'.unpinned (pins := [])).weak (by rw [← ew, wipe_length]) (fun j v e => ?_), T.keep _ _ _ stc fun b hb o e => (pn b hb o e).1, fun b hb => ?_, w'⟩
      · rw [← ew] at e
        exact (wipe_some e).1
      · obtain ⟨o, e, _⟩ := T.obj _ _ stc b hb
        exact (pn b hb o e).2
    refine thnF (exe ▸ pg.run _ sc _ Hc x u _ (Ic.pinned (stat Ic nc) (T.obj _ _ stc)) rc (step x Hc yc)) fun _ sd ⟨σ2, Hd, Id, wd, qd⟩ => ?_
    refine thnF (exe ▸ pt.run _ sd σ2 Hd _ Id qd) fun b se ⟨He, Ie, qe⟩ => ?_
    cases b with
    | false => exact close wd Ie qe
    | true =>
      refine thnF (exe ▸ pk.run _ se σ2 He _ Ie qe) fun z sf ⟨y, Hf, If, rf, qf⟩ => ?_
      refine thnF (exe ▸ pv.run _ sf σ2 Hf _ If qf) fun z2 sg ⟨y2, Hg, Ig, rg, qg⟩ => ?_
      exact dk.set B eP eW eK eA _ _ _ _ _ _ _ _ _ _ _ _ Ig qg rf rg fun s' H' I' nx => close wd I' nx
theorem dcg_core {pins : List (Addr × Obj)} {s : Shared} {σ : L2.St} {H : Hp} {Q : VK} {pos' : Pos} {use : Option (Value → Sem Unit)} {Qf : Value → Shared → Prop} (dk : DcKind X emp put) (hc : X.calm = true) (hN : X.N.Nodup) (I : Inv X pins σ H s) (hi : PI X tg iter wi) (ok : BlkOk X.N X.env.scope scope own) (p : DcParts X kx vx tg ifs scope g tt tk tv) (hs : ∀ x, foldedSetIterable iter X.env x = pure x)
    (h : tDcG emp put wi g tt tk tv (own.map (·.2)) σ H Q)
    (hRR : ∀ D C s' m H', Inv X pins σ H' s' → Q (.ref D) H' → s'.heap.Ns C m → FpOk X pins H' C → compPost (model X.prog X.w) X.A X.xe use Qf (.ref D) C (.ok .next) s') :
    wpAny (model X.prog X.w) X.A (comprehension (.DictComp kx vx [⟨tg, iter, ifs, 0⟩] scope pos) scope X.env pos' newDict false (eval iter X.env) use) Qf X.xe s := by
  have free : ∀ y ∈ scope.names, y.2 = .free → ∃ c, X.env.cells.lookup y.1 = some c := fun y hy e => (ok.free y hy e).elim (fun k => I.ok.has _ (.inl k)) fun k => I.ok.has _ (.inr k)
  refine wpAny_comprehension_free (use := use) rfl hs (closure_ok free) ok.kind (fun y hy e => by rw [ok.uniq y hy, e]) (thn (hi.run pins s σ H _ I h) fun xv s1 hx => thn hx fun itv s2 h2 => ?_)
  obtain ⟨it, fp, tn, J, H2, rfl, I2, T, st2, f2, q⟩ := h2
  refine wpAny_newObj_type (newEnv_comp ?_)
  -- the new dict, at D
  obtain ⟨D, hD⟩ : ∃ D, D = s2.heap.objs.size := ⟨_, rfl⟩
  obtain ⟨W, ⟨m0, w0⟩, turn⟩ := q D (I2.hok.fresh (Nat.le_of_eq hD.symm))
  rw [← hD]
  have I3 : Inv X pins σ (upd H2 D (emp D)) { s2 with heap := s2.heap.push { cls := .type "dict", data := .dict #[] } } := by
    refine I2.laid (t' := s2.toks) (fun b o e => Heap.get?_push_of_some _ e) (Nat.le_of_eq hD.symm) ?_
    rw [hD]
    exact dk.new _ _ I2.big
  have below : ∀ b ∈ fp, b < s2.heap.objs.size := fun b hb => let ⟨_, e, _⟩ := T.obj _ _ st2 b hb; Heap.lt_size e
  have f3 : ∀ b ∈ fp, FpOk X pins (upd H2 D (emp D)) b ∧ b < (s2.heap.push { cls := .type "dict", data := .dict #[] }).objs.size := fun b hb => by
    have hlt := below b hb
    refine ⟨⟨?_, (f2 b hb).2⟩, by rw [Heap.size_push]; exact Nat.lt_succ_of_lt hlt⟩
    rw [upd_ne (by rw [hD]; exact Nat.ne_of_lt hlt)]
    exact (f2 b hb).1
  have I4 := block_start I3 ok hN f3
  obtain ⟨H3, hH3⟩ : ∃ H3, H3 = upd H2 D (emp D) := ⟨_, rfl⟩
  rw [← hH3] at I3 I4 f3 w0
  obtain ⟨s3, hs3⟩ : ∃ s3 : Shared, s3 = { s2 with heap := s2.heap.push { cls := .type "dict", data := .dict #[] } } := ⟨_, rfl⟩
  rw [← hs3] at I3 I4
  have z3 : s2.heap.push { cls := .type "dict", data := .dict #[] } = s3.heap := by rw [hs3]
  have v3 : ∀ b ∈ fp, FpOk X pins H3 b := fun b hb => (f3 b hb).1
  obtain ⟨cl, hcl⟩ : ∃ cl, cl = cellsFrom (s3.heap.objs.size + 1) scope.names (cloFrom X.env.cells scope.names []) := ⟨_, rfl⟩
  rw [← hcl] at I4
  obtain ⟨C, hC⟩ : ∃ C, C = s3.heap.objs.size := ⟨_, rfl⟩
  have pg := p.tg s3 H3 C cl fp
  have pt := p.ifs s3 H3 C cl fp
  have pk := p.kx s3 H3 C cl fp
  have pv := p.vx s3 H3 C cl fp
  obtain ⟨s4, hs4⟩ : ∃ s4 : Shared, s4 = { s3 with heap := pushCells (s3.heap.push { cls := .type "dict", data := .dict #[] }) scope.names } := ⟨_, rfl⟩
  rw [← hC, ← hs4] at I4
  have st4 : tn 0 s4.heap := T.keep _ _ _ st2 fun b _ o e => by
    rw [hs4]
    refine pushCells_keeps _ _ _ _ (Heap.get?_push_of_some _ ?_)
    rw [hs3]
    exact Heap.get?_push_of_some _ e
  have goal : codeAny (model X.prog X.w) X.A (.compStart (.DictComp kx vx [⟨tg, iter, ifs, 0⟩] scope pos) 0 (.ref it) (.ref D) (compEnvC scope cl C X.env)) (compPost (model X.prog X.w) X.A X.xe use Qf (.ref D) C) s4 := by
    have loop : codeAny (model X.prog X.w) X.A (.compLoop (.DictComp kx vx [⟨tg, iter, ifs, 0⟩] scope pos) 0 (.ref it) (.ref D) (X.blk s3 H3 scope (compEnvC scope cl C X.env) fp).env) (compPost (model X.prog X.w) X.A X.xe use Qf (.ref D) C) s4 := by
      refine dcg_loop (B := X.blk s3 H3 scope (compEnvC scope cl C X.env) fp) (σ0 := wipe σ (own.map (·.2))) (vs := own.map (·.2)) (Q := Q (.ref D)) (m0 := m0) dk rfl rfl rfl rfl rfl hc T pg pt pk pv ?_ turn ?_ ⟨0, H3, I4, st4, fun b hb => (v3 b hb).1, w0⟩
      · intro σ' H' s' I' hn b hb
        exact ⟨hn b hb, (I'.ok.exf b hb).1, I'.ok.exfs b hb, .inl hb, fun x c e => (I'.ok.exf b hb).2 x c e, fun p hp => by simp at hp⟩
      · intro H' s' I' qq
        have back : Inv X pins σ H' s' := I3.call' (ch := fp) I'.os I'.base I'.hok I'.bare fun b hb => ⟨(v3 b hb).2.2.2.1, (v3 b hb).2.1, (v3 b hb).2.2.2.2.1, (v3 b hb).2.2.2.2.2⟩
        have nC : H' C = none := I'.free
        obtain ⟨m, hn, _⟩ := I'.loc
        exact hRR D C s' m H' back qq hn (I3.fpOk (Nat.le_of_eq hC.symm) nC)
    exact codeAny_compStart_dict loop (T.self X.A 0 _ _ _ st4 loop)
  rw [hs4, hC, hcl, ← z3] at goal
  rw [hs3] at goal
  exact goal
theorem pe_dcg (dk : DcKind X emp put) (hc : X.calm = true) (hN : X.N.Nodup) (hi : PI X tg iter wi) (ok : BlkOk X.N X.env.scope scope own) (p : DcParts X kx vx tg ifs scope g tt tk tv) (hs : ∀ x, foldedSetIterable iter X.env x = pure x := by intro _; rfl) :
    PE X (.DictComp kx vx [⟨tg, iter, ifs, 0⟩] scope pos) (tDcG emp put wi g tt tk tv (own.map (·.2))) := by
  refine ⟨fun pins s σ H Q I h => ?_⟩
  rw [arm_eval_DictComp]
  refine dcg_core dk hc hN I hi ok p hs h fun D C s' m H' I' qq hn f => ?_
  obtain ⟨f0, f1, f2, f3, f4, f5⟩ := f
  exact ⟨m, hn, fun h'' sb => ⟨.ref D, H', I'.turned (t' := s'.toks) (fun b o hb e => (sb.2 b hb).trans e) f0 f1 f3 f4 f5, rfl, qq⟩⟩
/-- name = {..} on one line, the name a local -/
theorem ps_setDcg {i : Nat} {y : Str} {py spos : Pos} (dk : DcKind X emp put) (hc : X.calm = true) (hN : X.N.Nodup) (hy : X.N[i]? = some y) (hyl : X.env.scope.names.lookup y = some .local)
    (hsw : swapsWith (.DictComp kx vx [⟨tg, iter, ifs, 0⟩] scope pos) (some (.Name y py)) spos.line X.env = pure true) (hi : PI X tg iter wi) (ok : BlkOk X.N X.env.scope scope own) (p : DcParts X kx vx tg ifs scope g tt tk tv) (hs : ∀ x, foldedSetIterable iter X.env x = pure x := by intro _; rfl) :
    PS X (.Assign [.Name y py] (.DictComp kx vx [⟨tg, iter, ifs, 0⟩] scope pos) spos) (tAsg (tDcG emp put wi g tt tk tv (own.map (·.2))) (gName i)) := by
  refine ⟨fun pins s σ H D I h => ?_⟩
  rw [exec_Assign_Name_used _ _ _ _ hsw]
  refine wpAny_bind (wpAny_standAt (wpAny_bind ?_))
  show wpAny _ X.A (do let _ ← comprehension (.DictComp kx vx [⟨tg, iter, ifs, 0⟩] scope pos) scope X.env (firstIterPos [⟨tg, iter, ifs, 0⟩] pos) newDict false (eval iter X.env) (some (assign (.Name y py) X.env))) _ _ s
  have h : tDcG emp put wi g tt tk tv (own.map (·.2)) σ H (fun x H1 => gName i x σ H1 D.nx) := h
  refine wpAny_bind (thn (dcg_core (Qf := fun _ s' => SP X pins D .next s') dk hc hN I hi ok p hs h fun L C s' m H' I' q hn f => ?_) fun _ s' hq => wpAny_pure (wpAny_pure hq))
  show wpAny _ _ (assign (.Name y py) X.env (.ref L)) _ _ _
  refine wpAny_assign_Name (store_ok2 (v := V.ref L) I' hN hy (.inl hyl) rfl (fun s2 I2 ⟨a, sb, ha⟩ => ?_) (.inr hyl))
  obtain ⟨f0, f1, f2, f3, f4, f5⟩ := f
  have haC : C ≠ a := ha.elim (fun z => by rw [z]; exact f1) fun z e => f4 y a z e.symm
  exact ⟨m, hn.sameBut sb haC, fun h3 sb3 => ⟨_, H', I2.turned (t' := s2.toks) (fun b o hb e => (sb3.2 b hb).trans e) f0 f1 f3 f4 f5, q⟩⟩
theorem swd_true {gs : List Comprehension} {py : Pos} {y : Str} {l : Nat} {env : Env} (hk : env.scope.kind = .function) (hy : env.scope.names.lookup y = some .local) (hl : (py.line == pos.line) = true)
    (ha : (scope.names.any fun (n, k) => n == y && (k == .local || k == .cell)) = false) : swapsWith (.DictComp kx vx gs scope pos) (some (.Name y py)) l env = pure true := by
  have ky : env.kindOf y = some .local := hy
  have hb : env.blockKind = .function := by unfold Env.blockKind; rw [hk]; rfl
  unfold swapsWith
  simp only [hb, ky, ha, Expr.pos, hl]
  rfl
end
/-! ### the two kinds -/
def putKD : Addr → V → V → Hp → (Hp → Prop) → Prop := fun D y z H N => ∃ kvs k, y = kV k ∧ H D = some (.dK kvs) ∧ kvs.length < sizeLine ∧ N (upd H D (.dK (putK kvs k z)))
def putND (P : Program) (w : World) (K : PySem.W.Frag) : Addr → V → V → Hp → (Hp → Prop) → Prop := fun D y z H N => ∃ kvs k b, ND P w K H D kvs ∧ kvs.length < sizeLine ∧ KeyR K H k y b ∧ N (upd H D (dN P w D (nput kvs k b z)))
theorem dkindK {X : Cx} : DcKind X (fun _ => .dK []) putKD :=
  ⟨fun H h hb => dk_empty h hb, fun Y _ _ _ _ pins s σ H D y z u r N E Q I ⟨kvs, k, ey, e, hz, n⟩ ry rz q => by
    subst ey
    exact d_dictSet (X := Y) I e hz ry rz fun s' I' => q s' _ I' n⟩
theorem dkindN {X : Cx} (hu : X.A.units + 9 < cLine) : DcKind X (fun D => dN X.prog X.w D []) (putND X.prog X.w X.K) :=
  ⟨fun H h hb => dn_empty h hb, fun Y eP eW eK eA pins s σ H D y z u r N E Q I ⟨kvs, k, b, e, hz, kr, n⟩ ry rz q => by
    rw [← eP, ← eW, ← eK] at e
    rw [← eK] at kr
    rw [← eP, ← eW] at n
    exact n_dictSet (X := Y) (by rw [eA]; exact hu) I e hz kr ry rz fun s' I' => q s' _ I' n⟩
/-! ### plain: entries put one after the other -/
def putAll (ps : List (Key × V)) : List (Key × V) := ps.foldl (fun acc p => putK acc p.1 p.2) []
theorem putAll_snoc (ps : List (Key × V)) (p : Key × V) : putAll (ps ++ [p]) = putK (putAll ps) p.1 p.2 := by
  unfold putAll
  rw [List.foldl_append]
  rfl
theorem snocInd {α : Type} {C : List α → Prop} (h0 : C []) (h1 : ∀ xs x, C xs → C (xs ++ [x])) (xs : List α) : C xs := by
  have key : ∀ ys : List α, C ys.reverse := by
    intro ys
    induction ys with
    | nil => exact h0
    | cons y ys ih => rw [List.reverse_cons]; exact h1 _ _ ih
  have := key xs.reverse
  rwa [List.reverse_reverse] at this
theorem keys_putK {kvs : List (Key × V)} {k : Key} {v : V} : ((putK kvs k v).map (·.1)) = if (valV kvs k).isSome then kvs.map (·.1) else kvs.map (·.1) ++ [k] := by
  unfold putK
  rw [valV_any]
  cases h : (valV kvs k).isSome
  · simp
  · simp
    intro a b _
    by_cases e : a = k <;> simp [e]
theorem valV_mem {kvs : List (Key × V)} {k : Key} : (valV kvs k).isSome = true ↔ k ∈ kvs.map (·.1) := by
  rw [← valV_any]
  simp
theorem putAll_keys (ps : List (Key × V)) : ((putAll ps).map (·.1)).Nodup ∧ ∀ k, k ∈ (putAll ps).map (·.1) ↔ k ∈ ps.map (·.1) := by
  induction ps using snocInd with
  | h0 => exact ⟨by simp [putAll], fun k => by simp [putAll]⟩
  | h1 ps p ih =>
    obtain ⟨h1, h2⟩ := ih
    rw [putAll_snoc, keys_putK]
    by_cases h : (valV (putAll ps) p.1).isSome = true
    · rw [if_pos h]
      refine ⟨h1, fun k => ?_⟩
      rw [h2, List.map_append, List.mem_append]
      refine ⟨fun z => .inl z, fun z => z.elim id fun z => ?_⟩
      rw [show k = p.1 by simpa using z, ← h2]
      exact valV_mem.mp h
    · rw [if_neg h]
      have hn : p.1 ∉ (putAll ps).map (·.1) := fun z => h (valV_mem.mpr z)
      refine ⟨List.nodup_append.mpr ⟨h1, by simp, fun a ha b hb e => ?_⟩, fun k => ?_⟩
      · rw [show b = p.1 by simpa using hb] at e
        rw [e] at ha
        exact hn ha
      · rw [List.mem_append, h2, List.map_append, List.mem_append]
        simp
theorem putAll_nodup (ps : List (Key × V)) : (ps.map (·.1)).Nodup → putAll ps = ps := by
  induction ps using snocInd with
  | h0 => intro _; rfl
  | h1 ps p ih =>
    intro hn
    rw [List.map_append] at hn
    obtain ⟨n1, n2, n3⟩ := List.nodup_append.mp hn
    rw [putAll_snoc, ih n1]
    refine putK_new _ ?_
    cases h : valV ps p.1 with
    | none => rfl
    | some v =>
      have := valV_mem.mp (show (valV ps p.1).isSome = true by rw [h]; rfl)
      exact absurd rfl (n3 _ this p.1 (by simp))
theorem putAll_len (ps : List (Key × V)) : (putAll ps).length ≤ ps.length := by
  induction ps using snocInd with
  | h0 => exact Nat.le_refl _
  | h1 ps p ih =>
    rw [putAll_snoc, List.length_append]
    have := length_putK (putAll ps) p.1 p.2
    simp
    omega
theorem putAll_val (ps : List (Key × V)) (k : Key) (v : V) : valV (putAll ps) k = some v → (k, v) ∈ ps := by
  induction ps using snocInd with
  | h0 => intro h; simp [putAll, valV] at h
  | h1 ps p ih =>
    rw [putAll_snoc, valV_put]
    intro h
    by_cases e : k = p.1
    · rw [if_pos e] at h
      cases h
      rw [e]
      simp
    · rw [if_neg e] at h
      exact List.mem_append_left _ (ih h)
/-! ### relational walk of a dict comprehension, keys ints or texts -/
abbrev DcW (J : It) (g : TG) (tt : TT) (tk tv : TE) (vs : List Nat) (σ : L2.St) (H1 : Hp) (emp : Addr → HO) (put : Addr → V → V → Hp → (Hp → Prop) → Prop) (Q : Addr → Hp → Prop) : Prop := ∀ D, H1 D = none → ∃ W : Nat → Nat → Hp → Prop, (∃ m, W 0 m (upd H1 D (emp D))) ∧ ∀ i m H, W i m H →
  (J.stop i H ∧ Q D H) ∨ (J.go i H ∧ ∃ N : Hp → Prop, (∀ H', N H' → ∃ m', m' < m ∧ W (i + 1) m' H') ∧ ∀ x H', J.yld i H x H' → g x (wipe σ vs) H' fun σ2 H2 => wipe σ2 vs = wipe σ vs ∧ tt σ2 H2 fun b H3 =>
    if b = true then tk σ2 H3 fun y H4 => tv σ2 H4 fun z H5 => put D y z H5 N else N H3)
/-- one turn of it -/
def stpD (g : TG) (tt : TT) (tk tv : TE) (vs : List Nat) (σ : L2.St) (x : V) (H : Hp) (Kt : Option (V × V) → Hp → Prop) : Prop :=
  g x (wipe σ vs) H fun σ2 H2 => wipe σ2 vs = wipe σ vs ∧ tt σ2 H2 fun b H3 => if b = true then tk σ2 H3 fun y H4 => tv σ2 H4 fun z H5 => Kt (some (y, z)) H5 else Kt none H3
section
variable {J : It} {n : Nat} {G : Hp → Prop} {Y : Nat → Hp → V → Hp → Prop} {g : TG} {tt : TT} {tk tv : TE} {vs : List Nat} {σ : L2.St} {H1 : Hp} {Q : Addr → Hp → Prop}
theorem dcW_it {emp : Addr → HO} {put : Addr → V → V → Hp → (Hp → Prop) → Prop} {D : Addr} {Qd : Hp → Prop} (w : Walk J n G Y) (Pv : Nat → Hp → Prop) (h0 : Pv 0 (upd H1 D (emp D))) (hG : ∀ i H, i ≤ n → Pv i H → G H)
    (hs : ∀ i x H H', i < n → Pv i H → Y i H x H' → g x (wipe σ vs) H' fun σ2 H2 => wipe σ2 vs = wipe σ vs ∧ tt σ2 H2 fun b H3 => if b = true then tk σ2 H3 fun y H4 => tv σ2 H4 fun z H5 => put D y z H5 (Pv (i + 1)) else Pv (i + 1) H3) (hd : ∀ H, Pv n H → Qd H) :
    ∃ W : Nat → Nat → Hp → Prop, (∃ m, W 0 m (upd H1 D (emp D))) ∧ ∀ i m H, W i m H →
      (J.stop i H ∧ Qd H) ∨ (J.go i H ∧ ∃ N : Hp → Prop, (∀ H', N H' → ∃ m', m' < m ∧ W (i + 1) m' H') ∧ ∀ x H', J.yld i H x H' → g x (wipe σ vs) H' fun σ2 H2 => wipe σ2 vs = wipe σ vs ∧ tt σ2 H2 fun b H3 =>
        if b = true then tk σ2 H3 fun y H4 => tv σ2 H4 fun z H5 => put D y z H5 N else N H3) := by
  refine ⟨fun i m H => m = n - i ∧ i ≤ n ∧ Pv i H, ⟨n, rfl, Nat.zero_le _, h0⟩, fun i m H ⟨em, hi, p⟩ => ?_⟩
  rcases Nat.lt_or_ge i n with hlt | hge
  · exact .inr ⟨w.goes i H hlt (hG i H hi p), Pv (i + 1), fun H' p' => ⟨n - (i + 1), by omega, rfl, hlt, p'⟩, fun x H' y => hs i x H H' hlt p (w.yields i H x H' hlt (hG i H hi p) y)⟩
  · have e : i = n := by omega
    rw [e] at p ⊢
    exact .inl ⟨w.stops H (hG n H (Nat.le_refl _) p), hd H p⟩
theorem dkR (wk : Walk J n G Y) (R : Addr → Nat → Option (Key × V) → Hp → Prop) (hR : ∀ D i o H H', R D i o H → Sbut D H H' → R D i o H') (hG : ∀ H', Same H1 H' → G H') (hn : n ≤ 1000000)
    (hs : ∀ (D : Addr) (i : Nat) (x : V) (H H' : Hp) (acc : List (Key × V)), i < n → H1 D = none → Same H1 H → H D = some (.dK acc) → Y i H x H' → ∀ Kt : Option (V × V) → Hp → Prop, (∀ o H'', Same H H'' → R D i o H'' → Kt (o.map fun p => (kV p.1, p.2)) H'') → stpD g tt tk tv vs σ x H' Kt)
    (hd : ∀ (D : Addr) (H' : Hp) (os : List (Option (Key × V))), H1 D = none → Same H1 H' → H' D = some (.dK (putAll (os.filterMap id))) → os.length = n → (∀ i o, os[i]? = some o → R D i o H') → Q D H') : DcW J g tt tk tv vs σ H1 (fun _ => .dK []) putKD Q := by
  intro D hD
  refine dcW_it (emp := fun _ => .dK []) (Qd := fun H => Q D H) wk (fun i H => ∃ os : List (Option (Key × V)), Same H1 H ∧ H D = some (.dK (putAll (os.filterMap id))) ∧ os.length = i ∧ ∀ j o, os[j]? = some o → R D j o H) ⟨[], smNew hD, upd_same, rfl, fun j o h => by simp at h⟩ (fun i H _ ⟨_, a, _⟩ => hG H a) ?_ ?_
  · rintro i x H H' hi ⟨os, s1, hDl, hl, hR0⟩ y
    have hlen : (os.filterMap id).length ≤ i := by rw [← hl]; exact List.length_filterMap_le _ _
    have key := hs D i x H H' _ hi hD s1 hDl y (fun o H5 => match o with
      | some (y, z) => putKD D y z H5 fun H6 => ∃ os : List (Option (Key × V)), Same H1 H6 ∧ H6 D = some (.dK (putAll (os.filterMap id))) ∧ os.length = i + 1 ∧ ∀ j o, os[j]? = some o → R D j o H6
      | none => ∃ os : List (Option (Key × V)), Same H1 H5 ∧ H5 D = some (.dK (putAll (os.filterMap id))) ∧ os.length = i + 1 ∧ ∀ j o, os[j]? = some o → R D j o H5) ?_
    · exact key
    · rintro o H4 s4 r4
      have old : ∀ j o', os[j]? = some o' → R D j o' H4 := fun j o' h => hR _ _ _ _ _ (hR0 j o' h) (.of s4)
      have snoc : ∀ j o', (os ++ [o])[j]? = some o' → R D j o' H4 := fun j o' h => by
        by_cases hj : j < os.length
        · rw [List.getElem?_append_left hj] at h
          exact old j o' h
        · rw [List.getElem?_append_right (by omega)] at h
          have e0 : j - os.length = 0 := by
            have q := (List.getElem?_eq_some_iff.mp h).1
            simp at q
            omega
          rw [e0] at h
          have e1 : o = o' := by simpa using h
          have e2 : j = i := by omega
          rw [← e1, e2]
          exact r4
      cases o with
      | some p =>
        refine ⟨_, p.1, rfl, s4 _ _ hDl, szLt ?_, os ++ [some p], smMut (s1.trans s4) hD, ?_, by simp [hl], fun j o' h => hR _ _ _ _ _ (snoc j o' h) .upd⟩
        · have := putAll_len (os.filterMap id)
          omega
        · rw [upd_same, List.filterMap_append]
          show _ = some (HO.dK (putAll (os.filterMap id ++ [p])))
          rw [putAll_snoc]
      | none =>
        refine ⟨os ++ [none], s1.trans s4, ?_, by simp [hl], snoc⟩
        rw [List.filterMap_append]
        simpa using s4 _ _ hDl
  · rintro H ⟨os, s1, hDl, hl, hR0⟩
    exact hd D H os hD s1 hDl hl hR0
/-- entries that are values, told by the turn -/
theorem dkV (wk : Walk J n G Y) (F : Nat → Option (Key × V)) (hG : ∀ H', Same H1 H' → G H') (hn : n ≤ 1000000)
    (hs : ∀ (i : Nat) (x : V) (H H' : Hp), i < n → Same H1 H → Y i H x H' → ∀ Kt : Option (V × V) → Hp → Prop, (∀ H'', Same H H'' → Kt ((F i).map fun p => (kV p.1, p.2)) H'') → stpD g tt tk tv vs σ x H' Kt)
    (hd : ∀ (D : Addr) (H' : Hp), H1 D = none → Same H1 H' → H' D = some (.dK (putAll ((List.range n).filterMap F))) → Q D H') : DcW J g tt tk tv vs σ H1 (fun _ => .dK []) putKD Q := by
  refine dkR wk (fun _ i o _ => o = F i) (fun _ _ _ _ _ h _ => h) hG hn (fun D i x H H' acc hi hD s1 hDl y Kt k => hs i x H H' hi s1 y Kt fun H'' s => k _ H'' s rfl) fun D H' os hD s1 hDl hl hR => ?_
  refine hd D H' hD s1 ?_
  have e : os = (List.range n).map F := by
    apply List.ext_getElem?
    intro i
    rw [List.getElem?_map]
    by_cases hi : i < n
    · have h1 : os[i]? = some os[i] := List.getElem?_eq_getElem (by omega)
      rw [h1, hR i _ h1, List.getElem?_range hi]
      rfl
    · rw [List.getElem?_eq_none (by omega), List.getElem?_eq_none (by simpa using hi)]
      rfl
  rw [hDl, e, List.filterMap_map]
  rfl
end
section
variable {K : PySem.W.Frag} {g : TG} {tt : TT} {tk tv : TE} {vs : List Nat} {σ : L2.St} {H1 : Hp} {Q : Addr → Hp → Prop} {a : Addr} {xs : List V}
/-- over the items of a list or a tuple -/
theorem dkItems {J : It} {G : Hp → Prop} (wk : Walk J xs.length G (YAt xs)) (f : V → Option (Key × V)) (hG : ∀ H', Same H1 H' → G H') (hn : xs.length ≤ 1000000)
    (hs : ∀ x H, x ∈ xs → Same H1 H → ∀ Kt : Option (V × V) → Hp → Prop, (∀ H'', Same H H'' → Kt ((f x).map fun p => (kV p.1, p.2)) H'') → stpD g tt tk tv vs σ x H Kt)
    (hd : ∀ (D : Addr) (H' : Hp), H1 D = none → Same H1 H' → H' D = some (.dK (putAll (xs.filterMap f))) → Q D H') : DcW J g tt tk tv vs σ H1 (fun _ => .dK []) putKD Q := by
  refine dkV wk (fun i => xs[i]?.bind f) hG hn ?_ fun D H' h1 h2 h3 => hd D H' h1 h2 (by rw [rangeFM] at h3; exact h3)
  rintro i x H H' hi s1 ⟨rfl, hx⟩ Kt k
  refine hs x H' (List.mem_of_getElem? hx) s1 Kt fun H'' s => ?_
  have q := k H'' s
  rw [hx] at q
  exact q
/-- over objects that bear data -/
theorem dkData {α : Type} {J : It} {G : Hp → Prop} {as : List Addr} {us : List α} (R : Hp → Addr → α → Prop) (hR : ∀ H H' a u, Same H H' → R H a u → R H' a u) (hp : Paired (R H1) as us) (wk : Walk J (as.map V.ref).length G (YAt (as.map V.ref))) (f : α → Option (Key × V))
    (hG : ∀ H', Same H1 H' → G H') (hn : as.length ≤ 1000000)
    (hs : ∀ u a H, u ∈ us → Same H1 H → R H a u → ∀ Kt : Option (V × V) → Hp → Prop, (∀ H'', Same H H'' → Kt ((f u).map fun p => (kV p.1, p.2)) H'') → stpD g tt tk tv vs σ (.ref a) H Kt)
    (hd : ∀ D H', H1 D = none → Same H1 H' → H' D = some (.dK (putAll (us.filterMap f))) → Q D H') : DcW J g tt tk tv vs σ H1 (fun _ => .dK []) putKD Q := by
  have hlen : (as.map V.ref).length = us.length := by rw [List.length_map]; exact Paired.length hp
  refine dkV wk (fun i => us[i]?.bind f) hG (by rw [List.length_map]; exact hn) ?_ fun D H' h1 h2 h3 => hd D H' h1 h2 (by rw [hlen, rangeFM] at h3; exact h3)
  rintro i x H H' hi s1 ⟨rfl, hx⟩ Kt k
  rw [List.getElem?_map] at hx
  cases ea : as[i]? with
  | none =>
    rw [ea] at hx
    cases hx
  | some a =>
    rw [ea] at hx
    cases hx
    obtain ⟨u, hu, hau⟩ := paired_get hp ea
    refine hs u a H' (List.mem_of_getElem? hu) s1 (hR _ _ _ _ s1 hau) Kt fun H'' s => ?_
    have q := k H'' s
    rw [hu] at q
    exact q
/-- over range(n) -/
theorem dkRng {n : Nat} (F : Nat → Option (Key × V)) (hn : n ≤ 1000000)
    (hs : ∀ (i : Nat) H, i < n → Same H1 H → ∀ Kt : Option (V × V) → Hp → Prop, (∀ H'', Same H H'' → Kt ((F i).map fun p => (kV p.1, p.2)) H'') → stpD g tt tk tv vs σ (.int (0 + (i : Int))) H Kt)
    (hd : ∀ (D : Addr) (H' : Hp), H1 D = none → Same H1 H' → H' D = some (.dK (putAll ((List.range n).filterMap F))) → Q D H') : DcW (Itr 0 n) g tt tk tv vs σ H1 (fun _ => .dK []) putKD Q := by
  refine dkV walk_range F (fun _ _ => trivial) hn ?_ hd
  rintro i x H H' hi s1 ⟨rfl, rfl⟩ Kt k
  exact hs i H' hi s1 Kt k
end
end Al
set_option maxHeartbeats 4000000
/-! K6: {x: True for x in xs}, the xs tuples. -/
namespace Al
open PySem PySem.Spec PyProof.Rows L2
section
variable {K : PySem.W.Frag} {H H' : Hp} {D : Addr} {φ : Heap → Prop}
theorem sqT_sb (hD : H D = some (.ext φ)) (e : Sbut D H H') {a : Addr} {xs : List V} (h : SqT K H a xs) : SqT K H' a xs := by
  rcases h with (h | ⟨o, h⟩) | h
  · exact .inl (.inl (e _ _ (fun z => by rw [z, hD] at h; cases h) h))
  · exact .inl (.inr ⟨o, e _ _ (fun z => by rw [z, hD] at h; cases h) h⟩)
  · exact .inr h
mutual
theorem NkV.sb (hD : H D = some (.ext φ)) (e : Sbut D H H') : ∀ (k : NK) (x : V), NkV K H k x → NkV K H' k x
  | .none, _, h => by cases h
  | .num i, _, h => by cases h; exact .int i
  | .text i, _, h => by cases h; exact .str i
  | .tup ks, _, h => by
    cases h with
    | tup h1 h2 => exact .tup (sqT_sb hD e h1) (NkAll.sb hD e ks _ h2)
theorem NkAll.sb (hD : H D = some (.ext φ)) (e : Sbut D H H') : ∀ (ks : List NK) (xs : List V), NkAll K H ks xs → NkAll K H' ks xs
  | [], _, h => by cases h; exact .nil
  | k :: ks, _, h => by
    cases h with
    | cons h1 h2 => exact .cons (NkV.sb hD e k _ h1) (NkAll.sb hD e ks _ h2)
end
end
theorem ND.sb {P : Program} {w : World} {K : PySem.W.Frag} {H H' : Hp} {D : Addr} {φ : Heap → Prop} {kvs' : List NE} (hD : H D = some (.ext φ)) (e : Sbut D H H') (h' : H' D = some (dN P w D kvs')) (h : ∀ p ∈ kvs', NkV K H p.1 (.ref p.2.1) ∧ p.1.depth ≤ 8) : ND P w K H' D kvs' :=
  ⟨h', fun p hp => ⟨NkV.sb hD e _ _ (h p hp).1, (h p hp).2⟩⟩
/-- one more entry -/
theorem ND.put {P : Program} {w : World} {K : PySem.W.Frag} {H : Hp} {D b : Addr} {kvs : List NE} {k : NK} {v : V} (h : ND P w K H D kvs) (hk : NkV K H k (.ref b)) (hd : k.depth ≤ 8) : ND P w K (upd H D (dN P w D (nput kvs k b v))) D (nput kvs k b v) := by
  refine ND.sb h.ob .upd upd_same fun p hp => ?_
  unfold nput at hp
  split at hp
  · obtain ⟨q, hq, e⟩ := List.mem_map.mp hp
    have := h.ks q hq
    by_cases e2 : q.1 = k
    · rw [if_pos e2] at e
      rw [← e]
      exact this
    · rw [if_neg e2] at e
      rw [← e]
      exact this
  · rcases List.mem_append.mp hp with hp | hp
    · exact h.ks p hp
    · rw [show p = (k, b, v) by simpa using hp]
      exact ⟨hk, hd⟩
theorem nget_mem {kvs : List NE} {k : NK} : (nget kvs k).isSome = true ↔ k ∈ kvs.map (·.1) := by
  unfold nget
  simp
theorem nput_keys {kvs : List NE} {k : NK} {b : Addr} {v : V} : (nput kvs k b v).map (·.1) = if (nget kvs k).isSome then kvs.map (·.1) else kvs.map (·.1) ++ [k] := by
  unfold nput
  cases h : (nget kvs k).isSome
  · simp
  · simp
    intro a b c _
    by_cases e : a = k <;> simp [e]
theorem nput_nodup {kvs : List NE} {k : NK} {b : Addr} {v : V} (h : (kvs.map (·.1)).Nodup) : ((nput kvs k b v).map (·.1)).Nodup := by
  rw [nput_keys]
  split
  · exact h
  · rename_i hn
    refine List.nodup_append.mpr ⟨h, by simp, fun x hx y hy e => hn ?_⟩
    rw [show y = k by simpa using hy] at e
    rw [e] at hx
    exact nget_mem.mpr hx
theorem nput_addr {kvs : List NE} {k : NK} {b : Addr} {v : V} {p : NE} (h : p ∈ nput kvs k b v) : (p.1 = k ∧ p.2.1 = b) ∨ ∃ q ∈ kvs, p.1 = q.1 ∧ p.2.1 = q.2.1 := by
  unfold nput at h
  split at h
  · obtain ⟨q, hq, e⟩ := List.mem_map.mp h
    refine .inr ⟨q, hq, ?_⟩
    by_cases e2 : q.1 = k
    · rw [if_pos e2] at e
      rw [← e]
      exact ⟨rfl, rfl⟩
    · rw [if_neg e2] at e
      rw [← e]
      exact ⟨rfl, rfl⟩
  · rcases List.mem_append.mp h with h | h
    · exact .inr ⟨p, h, rfl, rfl⟩
    · rw [show p = (k, b, v) by simpa using h]
      exact .inl ⟨rfl, rfl⟩
/-- a dict whose keys are the keys vs, of us, borne by the tuples as -/
structure NSt (P : Program) (w : World) (K : PySem.W.Frag) (H : Hp) (D : Addr) (as : List Addr) (us vs : List NK) (es : List NE) : Prop where
  nd : ND P w K H D es
  dup : (es.map (·.1)).Nodup
  sub : ∀ e ∈ es, ∃ j : Nat, as[j]? = some e.2.1 ∧ us[j]? = some e.1
  all : ∀ u ∈ vs, u ∈ es.map (·.1)
/-- .. all of us -/
abbrev NSet (P : Program) (w : World) (K : PySem.W.Frag) (H : Hp) (D : Addr) (as : List Addr) (us : List NK) (es : List NE) : Prop := NSt P w K H D as us us es
section
variable {P : Program} {w : World} {K : PySem.W.Frag} {g : TG} {tt : TT} {tk tv : TE} {vs : List Nat} {σ : L2.St} {H1 : Hp} {Q : Addr → Hp → Prop} {J : It} {G : Hp → Prop} {as : List Addr} {us : List NK}
theorem dnSelf (hp : Paired (fun a u => NkV K H1 u (.ref a)) as us) (wk : Walk J (as.map V.ref).length G (YAt (as.map V.ref))) (hG : ∀ H', Same H1 H' → G H') (hn : as.length ≤ 1000000) (hdp : ∀ u ∈ us, u.depth ≤ 8)
    (hs : ∀ a H, a ∈ as → Same H1 H → ∀ Kt : Option (V × V) → Hp → Prop, (∀ H'', Same H H'' → Kt (some (.ref a, .bl true)) H'') → stpD g tt tk tv vs σ (.ref a) H Kt)
    (hd : ∀ D H' es, H1 D = none → Same H1 H' → NSet P w K H' D as us es → es.length ≤ as.length → Q D H') : DcW J g tt tk tv vs σ H1 (fun D => dN P w D []) (putND P w K) Q := by
  intro D hD
  have hlen : as.length = us.length := Paired.length hp
  refine dcW_it (emp := fun D => dN P w D []) (Qd := fun H => Q D H) wk (fun i H => ∃ es : List NE, Same H1 H ∧ NSt P w K H D as us (us.take i) es ∧ es.length ≤ i) ⟨[], smNew hD, ⟨ND.emp upd_same, by simp, by simp, by simp⟩, Nat.le_refl _⟩ (fun i H _ ⟨_, a, _⟩ => hG H a) ?_ ?_
  · rintro i x H H' hi ⟨es, s1, ns, hl⟩ ⟨rfl, hx⟩
    rw [List.length_map] at hi
    rw [List.getElem?_map] at hx
    cases ea : as[i]? with
    | none => rw [ea] at hx; cases hx
    | some a =>
      rw [ea] at hx
      cases hx
      obtain ⟨u, hu, hau⟩ := paired_get hp ea
      have key := hs a H' (List.mem_of_getElem? ea) s1 (fun o H5 => match o with
        | some (y, z) => putND P w K D y z H5 fun H6 => ∃ es : List NE, Same H1 H6 ∧ NSt P w K H6 D as us (us.take (i + 1)) es ∧ es.length ≤ i + 1
        | none => ∃ es : List NE, Same H1 H5 ∧ NSt P w K H5 D as us (us.take (i + 1)) es ∧ es.length ≤ i + 1) ?_
      · exact key
      · intro H4 s4
        have nd4 := ns.nd.sm s4
        have k4 : NkV K H4 u (.ref a) := NkV.sm (s1.trans s4) _ _ hau
        have hd4 := hdp u (List.mem_of_getElem? hu)
        have tk1 : us.take (i + 1) = us.take i ++ [u] := by rw [List.take_add_one, hu]; rfl
        refine ⟨es, u, a, nd4, szLt (by omega), ⟨rfl, k4, hd4⟩, nput es u a (.bl true), smMut (s1.trans s4) hD, ⟨nd4.put k4 hd4, nput_nodup ns.dup, fun p hp => ?_, fun v hv => ?_⟩, Nat.le_trans (length_nput _ _ _ _) (by omega)⟩
        · rcases nput_addr hp with ⟨e1, e2⟩ | ⟨q, hq, e1, e2⟩
          · rw [e1, e2]
            exact ⟨i, ea, hu⟩
          · rw [e1, e2]
            exact ns.sub q hq
        · rw [nput_keys]
          rw [tk1] at hv
          split
          · rename_i hm
            rcases List.mem_append.mp hv with hv | hv
            · exact ns.all v hv
            · rw [show v = u by simpa using hv]
              exact nget_mem.mp hm
          · rcases List.mem_append.mp hv with hv | hv
            · exact List.mem_append_left _ (ns.all v hv)
            · exact List.mem_append_right _ hv
  · rintro H ⟨es, s1, ns, hl⟩
    rw [List.length_map] at ns hl
    rw [hlen, List.take_length] at ns
    exact hd D H es hD s1 ns hl
end
end Al
set_option maxHeartbeats 4000000
/-! K7: sorted(..): of the keys of a dict, of a dict's items, of a list; the items in some order. -/
namespace Al
open PySem PySem.Spec PyProof.Rows L2
/-! ### lists that read as data, fewer than two items -/
theorem keyLt_general (x y : Value) : keyLt' general' x y = oneLt' false x y := rfl
section
variable {prog : Program} {w : World} {A : Around} {s : Shared}
theorem sortsAt_short {vs : List Value} {ds : List PyData} (e : PySem.W.EachIs (fun v d => ∃ as, Reads s.heap v d as) vs ds) (hal : PySem.W.AllAlike ds) (hn : ∀ d ∈ ds, d ≠ .none) (hl : ds.length ≤ 1) (hu : ∀ d, d ∈ ds → A.units + d.depth < cLine) : PySem.W.SortsAt prog w A s (PySem.W.dataKind s.heap ds) vs := by
  refine ⟨fun v hv => ?_, general', ?_, fun h2 => ?_⟩
  · obtain ⟨d, hd, as, r⟩ := e.left v hv
    exact ⟨_, PySem.W.dataKind_some hal hd r⟩
  · intro E x y a b Q ha hb hq
    obtain ⟨d, as, hd, ra, rfl⟩ := PySem.W.dataKind_inv ha
    obtain ⟨d', as', hd', rb, rfl⟩ := PySem.W.dataKind_inv hb
    rw [keyLt_general]
    exact PySem.W.oneLt_alike (fun z => by cases z) ra rb (hal d hd d' hd') (hn d hd) (by have := hu d hd; omega) hq
  · have := e.length
    omega
end
section
variable {h : Heap}
mutual
theorem reads_lt : ∀ (d : PyData) (v : Value) (as : List Addr), PySem.W.alike d d = true → Reads h v d as → ∀ a ∈ as, a < h.objs.size
  | .none, _, _, _, r, a, ha => by cases r; simp at ha
  | .bool _, _, _, _, r, a, ha => by cases r; simp at ha
  | .int _, _, _, _, r, a, ha => by cases r; simp at ha
  | .str _, _, _, _, r, a, ha => by cases r; simp at ha
  | .list xs, _, _, hal, r, a, ha => by
    cases r with
    | list h1 h2 h3 h4 =>
      rcases List.mem_cons.mp ha with e | e
      · rw [e]; exact Heap.lt_size h1
      · exact readsAll_lt xs _ _ (by simpa [PySem.W.alike] using hal) h4 a e
  | .tuple xs, _, _, hal, r, a, ha => by
    cases r with
    | tuple h1 h2 h3 h4 => exact readsAll_lt xs _ _ (by simpa [PySem.W.alike] using hal) h4 a ha
  | .dict _, _, _, hal, _, _, _ => by simp [PySem.W.alike] at hal
theorem readsAll_lt : ∀ (ds : List PyData) (vs : List Value) (as : List Addr), PySem.W.alikeAll ds ds = true → ReadsAll h vs ds as → ∀ a ∈ as, a < h.objs.size
  | [], _, _, _, r, a, ha => by cases r; simp at ha
  | d :: ds, _, _, hal, r, a, ha => by
    cases r with
    | cons h1 h2 =>
      rcases List.mem_append.mp ha with e | e
      · exact reads_lt d _ _ (PySem.W.alike_all_cons hal).1 h1 a e
      · exact readsAll_lt ds _ _ (PySem.W.alike_all_cons hal).2 h2 a e
end
end
theorem vals_perm : ∀ {us vs : List Value}, us.Perm vs → ∀ {xs : List V}, Vals xs vs → ∃ ys : List V, ys.Perm xs ∧ Vals ys us := by
  intro us vs hp
  induction hp with
  | nil => intro xs r; exact ⟨xs, .refl _, r⟩
  | cons x _ ih =>
    intro xs r
    cases r with
    | cons r1 r2 =>
      obtain ⟨ys, h1, h2⟩ := ih r2
      exact ⟨_ :: ys, .cons _ h1, .cons r1 h2⟩
  | swap x y l =>
    intro xs r
    cases r with
    | cons r1 r2 =>
      cases r2 with
      | cons r2 r3 => exact ⟨_ :: _ :: _, .swap .., .cons r2 (.cons r1 r3)⟩
  | trans _ _ ih1 ih2 =>
    intro xs r
    obtain ⟨ys, h1, h2⟩ := ih2 r
    obtain ⟨zs, h3, h4⟩ := ih1 h2
    exact ⟨zs, h3.trans h1, h4⟩
theorem sortVals_perm {κ : PyProof.Rows.KeyKind} (vs : List Value) : (PySem.W.sortVals κ false vs vs).Perm vs := by
  unfold PySem.W.sortVals
  refine ((List.mergeSort_perm _ _).map _).trans ?_
  have e : (vs.zip vs).map (·.2) = vs := List.map_snd_zip (Nat.le_refl _)
  rw [e]
/-- what is asked of the items: they read as data that can be sorted -/
structure Sable (K : PySem.W.Frag) (H : Hp) (xs : List V) (ds : List PyData) : Prop where
  rd : DpAll K H xs ds
  al : PySem.W.AllAlike ds
  so : PySem.W.Sortable ds ∨ (ds.length ≤ 1 ∧ ∀ d ∈ ds, d ≠ .none)
  dp : ∀ d ∈ ds, d.depth ≤ 8
  sz : xs.length ≤ sizeLine
section
variable {X : Cx} {pins : List (Addr × Obj)} {σ : L2.St} {H : Hp} {s : Shared}
theorem dpAll_len {K : PySem.W.Frag} {H : Hp} : ∀ {xs : List V} {ds : List PyData}, DpAll K H xs ds → xs.length = ds.length
  | _, _, .nil => rfl
  | _, _, .cons _ t => by rw [List.length_cons, List.length_cons, dpAll_len t]
theorem dp_each (I : Inv X pins σ H s) (a : Addr) (ha : s.heap.objs.size ≤ a) : ∀ {xs : List V} {ds : List PyData} {us : List Value}, DpAll X.K H xs ds → (∀ d ∈ ds, PySem.W.alike d d = true) → Vals xs us → PySem.W.EachIs (fun v d => ∃ as, Reads s.heap v d as ∧ a ∉ as) us ds
  | _, _, _, .nil, _, .nil => .nil
  | _, _, _, .cons h t, hal, .cons r rr => by
    refine .cons ?_ (dp_each I a ha t (fun d hd => hal d (by simp [hd])) rr)
    obtain ⟨as, rd⟩ := Dp.reads I _ _ _ h r
    exact ⟨as, rd, fun z => absurd (reads_lt _ _ _ (hal _ (by simp)) rd a z) (Nat.not_lt.mpr ha)⟩
theorem sorted_gathered {u : Value} {Q : VK} (hu : X.A.units + 20 < cLine)
    (hc : wpAny (model X.prog X.w) X.A.in1 (collect u) (fun its s1 => ∃ H1 xs ds, Inv X pins σ H1 s1 ∧ Vals xs its ∧ Sable X.K H1 xs ds ∧ ∀ ys p, ys.Perm xs → H1 p = none → Q (.ref p) (upd H1 p (.lst ys))) X.xe s) :
    wpAny (model X.prog X.w) X.A (call (.builtin "sorted") [u]) (EP X pins σ Q) X.xe s := by
  refine Calls.call_function_entry PyProof.Rows.kind_sorted PyProof.Rows.plain_sorted PyProof.Rows.entry_sorted (PyProof.Rows.args_sorted1 _) ?_
  unfold Builtin.«sorted»
  refine wpAny_bind (m := checkCount "sorted" 1 1 _) (wpAny_pure ?_)
  refine wpAny_bind (thn hc fun its s1 ⟨H1, xs, ds, I1, rv, sb, q⟩ => ?_)
  have li : its.length = xs.length := rv.length.symm
  refine wpAny_bind (wpAny_newList ?_ (by rw [li]; exact sb.sz))
  obtain ⟨a, ha⟩ : ∃ a, a = s1.heap.objs.size := ⟨_, rfl⟩
  obtain ⟨h', hh'⟩ : ∃ h', h' = s1.heap.push (seqObj "list" its.toArray 0) := ⟨_, rfl⟩
  have ho : h'.get? a = some (seqObj "list" its.toArray 0) := by rw [hh', ha]; exact Heap.get?_push_size _ rfl
  have old : ∀ b o, s1.heap.get? b = some o → h'.get? b = some o := fun b o e => by rw [hh']; exact Heap.get?_push_of_some _ e
  show wpAny _ _ _ _ _ { s1 with heap := s1.heap.push (seqObj "list" its.toArray 0) }
  rw [← hh', ← ha]
  have er : PySem.W.EachIs (fun v d => ∃ as, Reads h' v d as ∧ a ∉ as) its ds := (dp_each I1 a (Nat.le_of_eq ha.symm) sb.rd (fun d hd => sb.al d hd d hd) rv).mono fun _ _ ⟨as, r, hn⟩ => ⟨as, PyProof.Rows.Reads.keeps old r, hn⟩
  have er2 : PySem.W.EachIs (fun v d => ∃ as, Reads (PySem.W.sortingHeap h' a its) v d as) its ds := by
    have z := PySem.W.each_keepBut (h' := PySem.W.sortingHeap h' a its) (bs := ds) (enc := fun d => d) (fun _ _ hb q => PySem.W.sortingHeap_old hb q) (fun o q => by rw [ho] at q; rw [← Option.some.inj q]) (by rw [List.map_id']; exact sb.al) er
    exact z
  have room : ∀ d, d ∈ ds → X.A.in1.in1.units + d.depth < cLine := fun d hd => by
    have := sb.dp d hd
    show X.A.units + 1 + 1 + d.depth < cLine
    omega
  have S : PySem.W.SortsAt X.prog X.w X.A.in1.in1 { s1 with heap := PySem.W.sortingHeap h' a its } (PySem.W.dataKind (PySem.W.sortingHeap h' a its) ds) its := by
    rcases sb.so with hk | ⟨hk, hn⟩
    · exact PySem.W.SortsAt.data (s := { s1 with heap := PySem.W.sortingHeap h' a its }) er2 sb.al hk room
    · exact sortsAt_short (s := { s1 with heap := PySem.W.sortingHeap h' a its }) er2 sb.al hn hk room
  refine wpAny_bind (wpAny_holding (wpAny_call_entry PyProof.Rows.slot_list_sort ⟨_, ho, rfl⟩ PyProof.Rows.entry_list_sort (PySem.W.list_sort_vals (s := { s1 with heap := h' }) ho S (by rw [li]; exact sb.sz) ⟨_, rfl, ?_⟩) (PyProof.Rows.args_list_sort _)))
  obtain ⟨e', he'⟩ := PyProof.Rows.sortedHeap_at (vs := its) (out := (PySem.W.sortVals (PySem.W.dataKind (PySem.W.sortingHeap h' a its) ds) false its its).toArray) ho
  obtain ⟨ys, yp, yv⟩ := vals_perm (sortVals_perm (κ := PySem.W.dataKind (PySem.W.sortingHeap h' a its) ds) its) rv
  refine wpAny_pure ⟨_, rfl, .ref a, upd H1 a (.lst ys), I1.laid (t' := s1.toks) (fun b u e => ?_) (Nat.le_of_eq ha.symm) (show ObjOk X.prog X.w _ _ _ (.lst ys) from ⟨by rw [yp.length_eq]; exact sb.sz, _, e', yv, he'⟩), rfl, q ys _ yp (I1.hok.fresh (Nat.le_of_eq ha.symm))⟩
  have hb : b < s1.heap.objs.size := Heap.lt_size e
  rw [PyProof.Rows.sortedHeap_old (by rw [ha]; exact Nat.ne_of_lt hb) (Heap.lt_size (old b u e))]
  exact old b u e
end
/-! ### many new tuples at once -/
def layT (H : Hp) (as : List Addr) (tv : Addr → List V) : Hp := fun b => if b ∈ as then some (.tup (tv b)) else H b
section
variable {X : Cx} {pins : List (Addr × Obj)} {σ : L2.St} {H : Hp} {s : Shared} {as : List Addr} {tv : Addr → List V} {h' : Heap} {tk : Nat}
theorem layT_in {a : Addr} (h : a ∈ as) : layT H as tv a = some (.tup (tv a)) := by
  unfold layT
  rw [if_pos h]
theorem layT_off {a : Addr} (h : a ∉ as) : layT H as tv a = H a := by
  unfold layT
  rw [if_neg h]
theorem layT_same (new : ∀ a ∈ as, H a = none) : Same H (layT H as tv) := fun b u e => by
  rw [layT_off fun z => by rw [new b z] at e; cases e]
  exact e
theorem lay_many (I : Inv X pins σ H s) (hk : ∀ b o, s.heap.get? b = some o → h'.get? b = some o) (above : ∀ a ∈ as, s.heap.objs.size ≤ a)
    (each : ∀ a ∈ as, (tv a).length ≤ sizeLine ∧ ∃ its : List Value, Vals (tv a) its ∧ h'.get? a = some { cls := .type "tuple", data := .seq its.toArray }) : Inv X pins σ (layT H as tv) { s with heap := h', toks := tk } := by
  have new : ∀ a ∈ as, H a = none := fun a ha => I.hok.fresh (above a ha)
  have sm : Same H (layT H as tv) := layT_same new
  refine I.un (h' := h') (t' := tk) ⟨fun b o q _ _ _ => hk b o q, fun b o q _ _ _ => ⟨o.slots, hk b o q⟩, fun b o q n _ => ?_, fun b o q _ => ⟨o, hk b o q⟩, fun b xs q => sm b _ q, fun b o u q => sm b _ q, fun b ps q => ⟨#[], by rw [sm b _ q]; simp⟩⟩ fun b u q => ?_
  · rw [layT_off fun z => absurd (Heap.lt_size q) (Nat.not_lt.mpr (above b z))]
    exact n
  · by_cases hb : b ∈ as
    · rw [layT_in hb] at q
      cases q
      obtain ⟨z, its, rv, e⟩ := each b hb
      exact ⟨z, its, rv, ⟨_, e, rfl, _, rfl⟩⟩
    · rw [layT_off hb] at q
      exact (I.hok b u q).stay (fun c v _ y => hk c v y) (fun c y => sm c _ y) fun c xs y => sm c _ y
end
/-! ### the calls -/
section
variable {X : Cx}
/-- sorted(d), d with tuples as keys -/
def rSortedN (P : Program) (w : World) (K : PySem.W.Frag) : List V → Hp → VK → Prop := fun vs H Q => ∃ (a : Addr) (es : List NE) (ds : List PyData), vs = [.ref a] ∧ ND P w K H a es ∧ Sable K H (es.map fun e => .ref e.2.1) ds ∧ ∀ ys p, ys.Perm (es.map fun e => V.ref e.2.1) → H p = none → Q (.ref p) (upd H p (.lst ys))
theorem call_sortedN (hcalm : X.calm = true) (hu : X.A.units + 20 < cLine) : CallR X (.builtin "sorted") (rSortedN X.prog X.w X.K) := by
  intro pins s σ H vs us Q I r h
  obtain ⟨a, es, ds, rfl, nd, sb, q⟩ := h
  rw [Vals.ref1 r]
  refine sorted_gathered hu ?_
  obtain ⟨z, lo, xs, rel, dd⟩ := nd_rd I nd
  obtain ⟨ents, ep, hr, hs, he⟩ := dd.raw
  have hl : xs.length = es.length := (Paired.length rel).symm
  refine PySem.W.kdu_collect (A := X.A.in1) (KdlSrc.rawDict (es := ents) (ep := ep) lo) (I.ok.hd hcalm) hr (by omega) fun h' tk acc hk hacc => ?_
  refine ⟨H, _, ds, I.kept hk, ?_, sb, q⟩
  have key : ∀ (n : Nat) (es : List NE) (xs : List (NK × Addr × Value)) (vs : List Value), nRel es xs → vs.length = xs.length → (∀ (j : Nat) (v : Value), vs[j]? = some v → ∃ y, xs[j]? = some y ∧ v = Value.ref y.2.1) → Vals (es.map fun e => V.ref e.2.1) vs := by
    intro n es xs vs rel
    induction rel generalizing vs with
    | nil =>
      intro hl _
      cases vs with
      | nil => exact .nil
      | cons v vs => simp at hl
    | @cons p q ps qs r t ih =>
      intro hl hv
      cases vs with
      | nil => simp at hl
      | cons v vs =>
        obtain ⟨y, hy, ev⟩ := hv 0 v rfl
        cases (show q = y by simpa using hy)
        refine .cons ?_ (ih vs (by simpa using hl) fun j u hj => ?_)
        · rw [ev]
          show Value.ref _ = Value.ref _
          rw [r.2.1]
        · obtain ⟨y, hy, ev⟩ := hv (j + 1) u (by simpa using hj)
          exact ⟨y, by simpa using hy, ev⟩
  have al : acc.toList.length = xs.length := by rw [Array.length_toList, hacc.1, hs]
  refine key 0 es xs acc.toList rel al fun j v e => ?_
  obtain ⟨hj, e1⟩ := hacc.2 j v (by rw [← Array.getElem?_toList]; exact e)
  obtain ⟨y, hy, e2, _, _⟩ := he j hj
  exact ⟨y, hy, by rw [e1, e2]⟩
/-- sorted(d), d with ints as keys -/
def rSortedKi : List V → Hp → VK → Prop := fun vs H Q => ∃ (a : Addr) (kvs : List (Key × V)) (ks : List Int), vs = [.ref a] ∧ Rd H a (.dK kvs) ∧ kvs.map (·.1) = ks.map Sum.inl ∧ ∀ (ys : List Int) p, ys.Perm ks → H p = none → Q (.ref p) (upd H p (.lst (ys.map V.int)))
theorem perm_map_inv {α β : Type} {f : α → β} (hf : ∀ a b, f a = f b → a = b) : ∀ {xs : List α} {ys : List β}, ys.Perm (xs.map f) → ∃ zs : List α, zs.Perm xs ∧ ys = zs.map f := by
  have key : ∀ {us vs : List β}, us.Perm vs → ∀ xs : List α, vs = xs.map f → ∃ zs : List α, zs.Perm xs ∧ us = zs.map f := by
    intro us vs hp
    induction hp with
    | nil => intro xs e; exact ⟨xs, .refl _, e⟩
    | cons x _ ih =>
      intro xs e
      cases xs with
      | nil => simp at e
      | cons a xs =>
        obtain ⟨e1, e2⟩ := List.cons.inj e
        obtain ⟨zs, h1, h2⟩ := ih xs e2
        exact ⟨a :: zs, .cons _ h1, by rw [h2, e1]; rfl⟩
    | swap x y l =>
      intro xs e
      match xs, e with
      | a :: b :: xs, e =>
        obtain ⟨e1, e2⟩ := List.cons.inj e
        obtain ⟨e3, e4⟩ := List.cons.inj e2
        exact ⟨b :: a :: xs, .swap .., by rw [e1, e3, e4]; rfl⟩
    | trans _ _ ih1 ih2 =>
      intro xs e
      obtain ⟨zs, h1, h2⟩ := ih2 xs e
      obtain ⟨ws, h3, h4⟩ := ih1 zs h2
      exact ⟨ws, h3.trans h1, h4⟩
  intro xs ys h
  exact key h xs rfl
theorem alike_int (ks : List Int) : PySem.W.AllAlike (ks.map .int) := by
  intro d hd d' hd'
  obtain ⟨i, _, rfl⟩ := List.mem_map.mp hd
  obtain ⟨j, _, rfl⟩ := List.mem_map.mp hd'
  rfl
theorem sable_ints {K : PySem.W.Frag} {H : Hp} (ks : List Int) (hz : ks.length ≤ sizeLine) : Sable K H (ks.map V.int) (ks.map .int) := by
  refine ⟨dpAll_ints ks, alike_int ks, ?_, fun d hd => ?_, by rw [List.length_map]; exact hz⟩
  · refine .inl (.inr fun d hd => ?_)
    obtain ⟨i, _, rfl⟩ := List.mem_map.mp hd
    exact ⟨(fun z => by cases z), (fun xs z => by cases z)⟩
  · obtain ⟨i, _, rfl⟩ := List.mem_map.mp hd
    simp [PyData.depth]
theorem call_sortedKi (hcalm : X.calm = true) (hu : X.A.units + 20 < cLine) : CallR X (.builtin "sorted") rSortedKi := by
  intro pins s σ H vs us Q I r h
  obtain ⟨a, kvs, ks, rfl, hd, hks, q⟩ := h
  rw [Vals.ref1 r]
  refine sorted_gathered hu ?_
  obtain ⟨z, lo, vs, rel, dd⟩ := dk_rd I.hok hd
  obtain ⟨ep, hat⟩ := dd.dictAt
  have hkeys : vs.map (·.1) = ks.map Sum.inl := rel.keys.symm.trans hks
  have hl : vs.length = ks.length := by
    have e := congrArg List.length hkeys
    rw [List.length_map, List.length_map] at e
    exact e
  have hl2 : kvs.length = vs.length := Paired.length rel
  refine PySem.W.kdu_collect (A := X.A.in1) (PySem.W.kdl_dict (knd := mixKind X.prog X.w) (kvs := vs) (ep := ep) lo) (I.ok.hd hcalm) hat (by omega) fun h' tk acc hk hacc => ?_
  have hal : acc.toList.length = ks.length := by rw [Array.length_toList, hacc.1, hl]
  refine ⟨H, ks.map V.int, ks.map .int, I.kept hk, ?_, sable_ints ks (by omega), fun ys p hp hn => ?_⟩
  · have key : ∀ (ks : List Int) (us : List Value), us.length = ks.length → (∀ (j : Nat) (v : Value), us[j]? = some v → ∃ i t, ks[j]? = some i ∧ v = Value.int i t) → Vals (ks.map V.int) us := by
      intro ks
      induction ks with
      | nil =>
        intro us hl _
        cases us with
        | nil => exact .nil
        | cons u us => simp at hl
      | cons k ks ih =>
        intro us hl hv
        cases us with
        | nil => simp at hl
        | cons u us =>
          obtain ⟨i, t, hi, ev⟩ := hv 0 u rfl
          cases (show k = i by simpa using hi)
          refine .cons ⟨t, ev⟩ (ih us (by simpa using hl) fun j v hj => ?_)
          obtain ⟨i, t, hi, ev⟩ := hv (j + 1) v (by simpa using hj)
          exact ⟨i, t, by simpa using hi, ev⟩
    refine key ks acc.toList hal fun j v e => ?_
    obtain ⟨k, x, e1, e2⟩ := hacc.2 j v (by rw [← Array.getElem?_toList]; exact e)
    have e3 : (vs.map (·.1))[j]? = some k := by rw [List.getElem?_map, e1]; rfl
    rw [hkeys, List.getElem?_map] at e3
    cases e4 : ks[j]? with
    | none => rw [e4] at e3; cases e3
    | some y =>
      rw [e4] at e3
      have e5 : Sum.inl y = k := Option.some.inj e3
      subst e5
      rcases keyIs_shape (show keyIs (Sum.inl y) v = true from e2) with ⟨i, t, ek, ev⟩ | ⟨z, t, ek, ev⟩
      · cases ek
        exact ⟨y, t, rfl, ev⟩
      · cases ek
  · obtain ⟨zs, h1, h2⟩ := perm_map_inv (fun a b e => by cases e; rfl) hp
    rw [h2]
    exact q zs p h1 hn
/-- sorted(list) -/
def rSortedL (K : PySem.W.Frag) : List V → Hp → VK → Prop := fun vs H Q => ∃ (a : Addr) (xs : List V) (ds : List PyData), vs = [.ref a] ∧ SqL K H a xs ∧ Sable K H xs ds ∧ ∀ ys p, ys.Perm xs → H p = none → Q (.ref p) (upd H p (.lst ys))
theorem call_sortedL (K : PySem.W.Frag) (hu : X.A.units + 20 < cLine) (hK : X.K = K := by rfl) : CallR X (.builtin "sorted") (rSortedL K) := by
  subst hK
  intro pins s σ H vs us Q I r h
  obtain ⟨a, xs, ds, rfl, hs, sb, q⟩ := h
  rw [Vals.ref1 r]
  refine sorted_gathered hu ?_
  obtain ⟨its, rv, hl, hz⟩ := I.list hs
  refine PyProof.Rows.collect_list hl.isList ⟨H, xs, ds, ?_, rv, sb, q⟩ (by rw [← rv.length]; exact hz)
  refine I.kept (t' := s.toks) fun b o e => ?_
  rw [Heap.get?_update_ne _ _ _ _ (Nat.ne_of_lt (Heap.lt_size e))]
  exact Heap.get?_push_of_some _ e
end
end Al
set_option maxHeartbeats 4000000
/-! K8: sorted(d.items()). -/
namespace Al
open PySem PySem.Spec PyProof.Rows L2
def tSortedItems (K : PySem.W.Frag) (te : TE) : TE := fun σ H Q => te σ H fun x H1 => ∃ (d : Addr) (kvs : List (Key × V)), x = .ref d ∧ H1 d = some (.dK kvs) ∧
  ∀ (H2 : Hp) (ts : List Addr), Same H1 H2 → Paired (fun (t : Addr) (p : Key × V) => H2 t = some (.tup [kV p.1, p.2])) ts kvs → ∃ ds, Sable K H2 (ts.map V.ref) ds ∧ ∀ ys p, ys.Perm (ts.map V.ref) → H2 p = none → Q (.ref p) (upd H2 p (.lst ys))
theorem paired_of {α β : Type} {F : α → β → Prop} : ∀ {xs : List α} {ys : List β}, xs.length = ys.length → (∀ (i : Nat) x y, xs[i]? = some x → ys[i]? = some y → F x y) → Paired F xs ys
  | [], [], _, _ => .nil
  | [], _ :: _, h, _ => by simp at h
  | _ :: _, [], h, _ => by simp at h
  | x :: xs, y :: ys, h, k => .cons (k 0 x y rfl rfl) (paired_of (by simpa using h) fun i a b ha hb => k (i + 1) a b (by simpa using ha) (by simpa using hb))
section
variable {X : Cx} {e : Expr} {te : TE} {p apos cpos pos : Pos}
theorem pe_sortedItems (hc : X.calm = true) (hu : X.A.units + 20 < cLine) (he : PE X e te) (hm : X.mg "sorted" = none) (hg : Gl X "sorted" := by rfl) (hbase : attributeBase e "items" X.env (eval e X.env) = eval e X.env := by rfl) (hline : (apos.endLine == cpos.line) = true := by rfl)
    (hs : starEach [.Call (.Attribute e "items" apos) [] [] cpos] X.env = (false, eval (.Call (.Attribute e "items" apos) [] [] cpos) X.env) :: starEach [] X.env := by rfl) :
    PE X (.Call (.Name "sorted" p) [.Call (.Attribute e "items" apos) [] [] cpos] [] pos) (tSortedItems X.K te) := by
  refine ⟨fun pins s σ H Q I h => ?_⟩
  refine wpAny_Call_Name_kw (ld_blt I hg hm (show bootBuiltins "sorted" = some (.builtin "sorted") by decide +kernel) (PyProof.Rows.callWith_builtin1 ?_ hs rfl))
  rw [hs]
  refine Calls.spliced_cons (wpAny_Call_method (T := "dict") (id := "dict.items") hbase rfl hline F.plainAttrs_dict F.slot_dict_items F.type_dict_items (thn (he.run pins s σ H _ I h) fun u s1 ⟨x, H1, I1, rx, d, kvs, ex, hd, q⟩ => ?_))
  subst ex
  obtain rfl : u = Value.ref d := rx
  obtain ⟨hz, hs0, vs, kv, hdo⟩ := I1.hok d _ hd
  obtain ⟨ep, hat⟩ := hdo.dictAt
  have lk : kvs.length = vs.length := Paired.length kv
  refine ⟨hdo.typeIs, hdo.mapOf.noDict, method_meetsIn F.slot_dict_items F.entry_dict_items rfl (PySem.evalArgs_none ⟨rfl, hdo.typeIs, F.args_dict_items_1 _, _, meets_dict_items (mixKind X.prog X.w) d hs0, ⟨vs, hdo⟩, Calls.spliced_nil ?_⟩)⟩
  have I2 : Inv X pins σ H1 { s1 with heap := s1.heap.push { cls := .type "dict_items", data := .fields #[.ref d] } } := I1.kept (t' := s1.toks) fun b ob q => Heap.get?_push_of_some _ q
  refine sorted_gathered hu (PySem.W.kdx_collect (knd := mixKind X.prog X.w) (kvs := vs) (ep := ep) (I1.ok.hd hc) ⟨_, Heap.get?_push_size _ rfl, rfl, rfl⟩ (hat.push _) (by omega) fun h' tk as hk hl hG => ?_)
  have nd : as.Nodup := hG.rise.imp fun h => Nat.ne_of_lt h
  -- what the tuple at a holds
  have ix : ∀ (j : Nat) (a : Addr), as[j]? = some a → as.idxOf a = j := fun j a e => by
    obtain ⟨hj, e⟩ := List.getElem?_eq_some_iff.mp e
    rw [← e]
    exact nd.idxOf_getElem _ _
  obtain ⟨tv, htv⟩ : ∃ tv : Addr → List V, ∀ (j : Nat) (a : Addr) (p : Key × V), as[j]? = some a → kvs[j]? = some p → tv a = [kV p.1, p.2] :=
    ⟨fun a => match kvs[as.idxOf a]? with | some p => [kV p.1, p.2] | none => [], fun j a p ha hp => by
      show (match kvs[as.idxOf a]? with | some p => [kV p.1, p.2] | none => []) = _
      rw [ix j a ha, hp]⟩
  have at_ : ∀ (j : Nat) (a : Addr), as[j]? = some a → ∃ p, kvs[j]? = some p ∧ tv a = [kV p.1, p.2] ∧ ∃ key v, RelV (kV p.1) key ∧ RelV p.2 v ∧ h'.get? a = some { cls := .type "tuple", data := .seq #[key, v] } := fun j a ha => by
    obtain ⟨key, k, v, f1, f2, f3⟩ := hG.pairs j a ha
    have hj : j < kvs.length := by
      rw [lk]
      exact (List.getElem?_eq_some_iff.mp f1).1
    have ep : kvs[j]? = some kvs[j] := List.getElem?_eq_getElem hj
    obtain ⟨q, g1, g2, g3⟩ := paired_get kv ep
    rw [f1] at g1
    cases g1
    refine ⟨_, ep, htv j a _ ha ep, key, v, ?_, g3, f3⟩
    rw [g2]
    exact relV_key (show keyIs k key = true from f2)
  have I3 : Inv X pins σ (layT H1 as tv) { s1 with heap := h', toks := tk } := by
    refine lay_many (s := { s1 with heap := s1.heap.push { cls := .type "dict_items", data := .fields #[.ref d] } }) I2 hk (fun a ha => Nat.le_of_lt (hG.above a ha)) fun a ha => ?_
    obtain ⟨j, hj⟩ := List.mem_iff_getElem?.mp ha
    obtain ⟨p, _, e, key, v, r1, r2, f⟩ := at_ j a hj
    rw [e]
    exact ⟨by show 2 ≤ sizeLine; decide, [key, v], .cons r1 (.cons r2 .nil), f⟩
  obtain ⟨ds, sb, qq⟩ := q (layT H1 as tv) as (layT_same fun a ha => I2.hok.fresh (Nat.le_of_lt (hG.above a ha))) (paired_of (by omega) fun j a p ha hp => by
    rw [layT_in (List.mem_of_getElem? ha), htv j a p ha hp])
  refine ⟨_, as.map V.ref, ds, I3, ?_, sb, qq⟩
  exact LiI.vals_refs as
end
end Al
set_option maxHeartbeats 4000000
/-! K9: an __init__ that begins with super().__init__(e, ..). -/
namespace Al
open PySem PySem.Spec PyProof.Rows L2
/-- what the text has of such an __init__ (at f, of the class at C; g: the __init__ that super gives) -/
structure SupD (P : Program) (K : PySem.W.Frag) (f C g : Addr) (name qual : Str) (params : Arguments) (body : List Stmt) (scope : Scope) : Prop where
  ex : ∃ (oc : Value) (od : Option Addr) (osl : Array (Option Value)) (doc pm ct : Value) (an : Option Addr) (c cc : Addr) (o1 : Value) (o2 : Option Addr) (o3 : Array (Option Value)) (vs : Array Value) (file : Str) (tf : Tok) (p1 : Value) (p2 : Option Addr) (p3 : Array (Option Value)) (cd : ClassData),
    K.lookup f = some ⟨oc, od, .func (PySem.W.fnX name qual params body scope [("__class__", cc)] .none .none doc pm an (.ref c) ct), osl⟩ ∧ PySem.W.codeIn K (.ref c) qual = true ∧ K.lookup c = some ⟨o1, o2, .fields vs, o3⟩ ∧ vs[2]? = some (.str file tf) ∧ ((P.main.file : Str) == file) = true ∧
    K.lookup cc = some ⟨p1, p2, .cell (some (.ref C)), p3⟩ ∧ PySem.W.clsIn K C = some cd
  sub : PySem.W.mroIn K C (.ref C) = some true
  base : PySem.W.ks_superIn K C C "__init__" = some (some (.ref g))
  ty : PySem.W.typeIn K (.ref g) = some (.type "function")
  fi : PySem.W.fnIn K g = true
  opq : PySem.W.nsIn K cStatics "thirdparty.any" = some none
/-- what its scope must be -/
structure SupSc (P : Program) (N ps : List Str) (scope : Scope) (params : Arguments) : Prop where
  ns : NdefX.NScope N ps ["__class__"] scope
  sup : scope.names.lookup ("super" : Str) = some .globalImplicit
  self : ∃ ar r, params.posonlyargs ++ params.args = ar :: r ∧ ps.head? = some ar.arg
  top : (P.main.scope.names.lookup ("super" : Str)).isSome = false
section
variable {P : Program} {w : World} {K : PySem.W.Frag} {mg : Str → Option Value} {base : Heap} {k : Nat} {f C g : Addr} {name qual : Str} {params : Arguments} {scope : Scope} {N ps : List Str} {sp spT : Sp} {rest : List Stmt} {e : Expr} {es : List Expr} {p0 p1 apos pos pos2 : Pos}
theorem superIn_some {name : Str} {v : Value} (h : PySem.W.ks_superIn K C C name = some (some v)) : ∃ cd, PySem.W.clsIn K C = some cd ∧ PySem.W.alongIn K name ((cd.mro.dropWhile (· != .ref C)).drop 1) = some (some v) := by
  unfold PySem.W.ks_superIn at h
  obtain ⟨cd, h1, h2⟩ := Option.bind_eq_some_iff.mp h
  exact ⟨cd, h1, h2⟩
/-- super().__init__(e, ..) in the body's context -/
theorem wp_super {X : Cx} {body : List Stmt} {sc : Scope} {L c cc x dx : Addr} {pins : List (Addr × Obj)} {σ : L2.St} {H : Hp} {s : Shared} {fs : List (Str × V)} {ta : TA} {Q : VK}
    (D : SupD P K f C g name qual params body scope) (eP : X.prog = P) (eK : X.K = K) (hm : X.mg "super" = none) (hcx : X.env = PySem.W.envX qual scope L f (.ref c) [("__class__", cc)])
    (hc : ∃ o1 o2 o3 vs file tf, K.lookup c = some ⟨o1, o2, .fields vs, o3⟩ ∧ vs[2]? = some (.str file tf) ∧ ((P.main.file : Str) == file) = true) (hcc : ∃ p1 p2 p3, K.lookup cc = some ⟨p1, p2, .cell (some (.ref C)), p3⟩)
    (hf : ∃ oc od osl fd, K.lookup f = some ⟨oc, od, .func fd, osl⟩ ∧ fd.params = params) (S : SupSc P N ps scope params) (hN : X.N = N)
    (F : FnR X.prog X.w X.K X.mg X.base CX0 k g spT) (hr : Room k X.A) (I : Inv X pins σ H s) (hx : H x = some (.ins C dx fs)) (h0 : σ[0]? = some (some (.ref x))) (ha : PA X (e :: es) ta)
    (h : ta σ H fun vs H1 => spT (.ref x :: vs) H1 Q E0)
    (hst : starEach (e :: es) X.env = (false, eval e X.env) :: starEach es X.env) (hpl : (backTo pos (starEach es X.env)).any (·.1) = false) {pl : Sem Bool}
    (he : eval (.Call (.Attribute (.Call (.Name "super" p0) [] [] p1) "__init__" apos) (e :: es) [] pos) X.env = (do
      let ov ← attributeBase (.Call (.Name "super" p0) [] [] p1) "__init__" X.env (eval (.Call (.Name "super" p0) [] [] p1) X.env)
      standAt apos.atName
      let (f, first) ← holding [ov] (getMethod ov "__init__" pl)
      callWith pos f first (backTo pos (starEach (e :: es) X.env)) [])) :
    _root_.PySem.wpAt (model X.prog X.w) X.A (.func body X.env) (eval (.Call (.Attribute (.Call (.Name "super" p0) [] [] p1) "__init__" apos) (e :: es) [] pos) X.env) (EP X pins σ Q) X.xe s := by
  obtain ⟨o1, o2, o3, vs, file, tf, c1, c2, c3⟩ := hc
  obtain ⟨q1, q2, q3, cc1⟩ := hcc
  obtain ⟨oc, od, osl, fd, f1, f2⟩ := hf
  obtain ⟨ar, rr, a1, a2⟩ := S.self
  subst eP eK
  have KI := I.kIn
  obtain ⟨cd, cls1, cls2⟩ := superIn_some D.base
  obtain ⟨oD, od1, od2⟩ : ∃ oD, s.heap.get? C = some oD ∧ oD.data = .cls cd := by
    unfold PySem.W.clsIn at cls1
    split at cls1
    · rename_i a b cd' sl ho
      cases cls1
      exact ⟨_, KI _ _ ho, rfl⟩
    · cases cls1
  obtain ⟨mA, O, _, _, _, _⟩ := ins_get I.hok hx
  obtain ⟨odd, J, _⟩ := O.look
  obtain ⟨gf, g1, g2⟩ : ∃ of, s.heap.get? g = some of ∧ of.cls = .type "function" := by
    have ht' : (X.K.lookup g).map (·.cls) = some (.type "function") := D.ty
    cases z : X.K.lookup g with
    | none => rw [z] at ht'; cases ht'
    | some of => rw [z] at ht'; exact ⟨of, KI _ _ z, Option.some.inj ht'⟩
  have N0 : X.N[0]? = some ar.arg := by
    have h1 := S.ns.pre
    cases ps with
    | nil => cases a2
    | cons p ps =>
      rw [hN]
      cases hNN : N with
      | nil => rw [hNN] at h1; simp at h1
      | cons n N' =>
        rw [hNN] at h1
        simp at h1 a2
        rw [← a2, ← h1.1]
        rfl
  have arIn : ar.arg ∈ ps := List.mem_of_mem_head? a2
  have lk : X.env.scope.names.lookup ar.arg = some .local := by rw [hcx]; exact S.ns.par _ arIn
  obtain ⟨m, hns, hlo⟩ := I.loc
  obtain ⟨u, ru, lo⟩ := hlo 0 ar.arg (.ref x) N0 h0 (.inl lk)
  obtain rfl : u = Value.ref x := ru
  have hv : m ar.arg = some (.ref x) := by
    rcases lo with ⟨_, z⟩ | ⟨z | z, _⟩
    · exact z
    · have : X.env.scope.names.lookup ar.arg = some .cell := z
      rw [lk] at this
      cases this
    · have : X.env.scope.names.lookup ar.arg = some .free := z
      rw [lk] at this
      cases this
  refine ks_wpAt_MethodCall (pl := pl) ?_ he
  have hks : X.env.kindOf "super" = some .globalImplicit := by rw [hcx]; exact S.sup
  have hkc : X.env.kindOf "__class__" = some .free := by rw [hcx]; exact S.ns.frk _ (by simp)
  refine ks_wpAt_super_base (body := body) (env := X.env) (f := f) (cc := c) (fd := fd) (ar := ar) (vs := vs) (file := file) (tf := tf) hks hkc (by decide) (by rw [hcx]) (KI _ _ f1) rfl (by rw [f2, a1]; rfl) (by rw [hcx]) (KI _ _ c1) rfl c2 c3 S.top ?_
  obtain ⟨mb, b1, b2⟩ := I.mod.blt
  refine PySem.W.ks_loadName_global I.ok.kind hks (Calls.loadGlobal_builtin (by rw [I.ok.glob]; exact I.mod.glob.keeps I.bk) hm (by rw [I.ok.blt]; exact b1.keeps I.bk) ((b2 _ (by decide)).trans (show bootBuiltins "super" = some (.type "super") by decide +kernel)) ⟨rfl, ?_⟩)
  refine wpAny_loadName_free I.ok.kind hkc (by rw [hcx]; rfl) ⟨_, KI _ _ cc1, rfl⟩ ?_
  refine wpAny_loadName_local I.ok.kind (show X.env.scope.names.lookup ar.arg = some .local from lk) hns hv ?_
  obtain ⟨hh, gg, dd, tt, os⟩ := s
  refine ks_wpAny_isType_cls od1 od2 ⟨rfl, ?_⟩
  refine ks_wpAny_call_super od1 od2 J.at_ J.cls (fun c e => ?_) (PySem.W.looks_mroIn KI D.sub) (fun h' e k => ?_)
  · have := J.no
    unfold PySem.W.notCls at this
    rw [e] at this
    exact Bool.noConfusion this
  · have I1 : Inv X pins σ H { heap := h', gens := gg, drawn := dd, toks := tt, os := os } := I.kept (t' := tt) k
    have KI1 : X.K.In h' := I1.kIn
    refine ks_wpAny_getMethod_super (h := h') (g := gg) (d := dd) (t := tt) (os := os) (x := x) (C := C) (D := C) e (PySem.W.looks_opaque KI1 D.opq) (l₀ := cd.mro) (fun A Q E s k q => wpAny_bind ((PySem.W.looks_clsIn KI1 cls1) A _ E s k (wpAny_pure q))) rfl KI1 cls2 (k _ _ g1) g2 ?_ (by decide) ?_
    · intro ex
      rw [ex] at J
      have q1 := J.at_.symm.trans od1
      have q2 := J.no
      rw [Option.some.inj q1] at q2
      unfold PySem.W.notCls at q2
      rw [od2] at q2
      exact Bool.noConfusion q2
    · have I2 := ClX.met_new (g := g) (C := x) I1
      refine ClX.callwith_cm I2 (ClX.base_none I1 (Nat.le_refl _)) D.fi (thn (ha.run pos _ _ σ H _ I2 h) fun us s3 ⟨vs, H2, I3, rv, q2⟩ => ⟨⟨ClX.pin_at I3, I3.kIn⟩, ?_⟩) hst hpl
      exact ClX.run_cm F hr passR I3 rv q2
/-- the context of the body -/
abbrev scx (P : Program) (w : World) (K : PySem.W.Frag) (mg : Str → Option Value) (base : Heap) (N : List Str) (name qual : Str) (params : Arguments) (body : List Stmt) (scope : Scope) (c cc f : Addr) (A : Around) (outer : List Env) (s : Shared) (H : Hp) (E : XK) : Cx :=
  NdefX.ncx CX0 P w K mg base N ⟨name, qual, params, body, scope, [("__class__", cc)], c⟩ f A outer s H E
/-- THE RULE: an __init__ whose first statement is super().__init__(e, ..) -/
theorem sup_of (D : SupD P K f C g name qual params (.Expr (.Call (.Attribute (.Call (.Name "super" p0) [] [] p1) "__init__" apos) (e :: es) [] pos) pos2 :: rest) scope) (S : SupSc P N ps scope params) (hm : mg "super" = none)
    (hb : ∀ (doc pm ct : Value) (an : Option Addr) (c cc : Addr) (us : List Value), us.length = ps.length → bindArgs (PySem.W.fnX name qual params (.Expr (.Call (.Attribute (.Call (.Name "super" p0) [] [] p1) "__init__" apos) (e :: es) [] pos) pos2 :: rest) scope [("__class__", cc)] .none .none doc pm an (.ref c) ct) ⟨us, []⟩ = pure (ps.zip us))
    (len : ∀ vs H Q E, sp vs H Q E → vs.length = ps.length) (F : FnR P w K mg base CX0 k g spT)
    (hbody : ∀ (c cc : Addr) (A : Around) (outer : List Env) (s : Shared) (H : Hp) (vs : List V) (Q : VK) (E : XK), Room k (A.deeper (PySem.W.envX qual scope s.heap.objs.size f (.ref c) [("__class__", cc)])) → sp vs H Q E →
      ∃ (x dx : Addr) (fs : List (Str × V)) (ta : TA) (t : TS), vs.head? = some (.ref x) ∧ H x = some (.ins C dx fs) ∧ PA (scx P w K mg base N name qual params [] scope c cc f A outer s H E) (e :: es) ta ∧ PSs (scx P w K mg base N name qual params [] scope c cc f A outer s H E) rest t ∧
        ta (NdefX.startF N vs [none]) H fun us H1 => spT (.ref x :: us) H1 (fun _ H2 => t { nx := fun _ H' => Q .non H', rt := Q } (NdefX.startF N vs [none]) H2) E0)
    (hx : ∀ (L c cc : Addr), swapsWith (.Call (.Attribute (.Call (.Name "super" p0) [] [] p1) "__init__" apos) (e :: es) [] pos) none pos2.line (PySem.W.envX qual scope L f (.ref c) [("__class__", cc)]) = pure false := by intros; rfl)
    (hi : ∀ (L c cc : Addr), interactive (PySem.W.envX qual scope L f (.ref c) [("__class__", cc)]) = false := by intros; rfl)
    (hst : ∀ (L c cc : Addr), starEach (e :: es) (PySem.W.envX qual scope L f (.ref c) [("__class__", cc)]) = (false, eval e (PySem.W.envX qual scope L f (.ref c) [("__class__", cc)])) :: starEach es (PySem.W.envX qual scope L f (.ref c) [("__class__", cc)]) := by intros; rfl)
    (hpl : ∀ (L c cc : Addr), (backTo pos (starEach es (PySem.W.envX qual scope L f (.ref c) [("__class__", cc)]))).any (·.1) = false := by intros; rfl) {pl : Sem Bool}
    (he : ∀ (L c cc : Addr), eval (.Call (.Attribute (.Call (.Name "super" p0) [] [] p1) "__init__" apos) (e :: es) [] pos) (PySem.W.envX qual scope L f (.ref c) [("__class__", cc)]) = (do
      let ov ← attributeBase (.Call (.Name "super" p0) [] [] p1) "__init__" (PySem.W.envX qual scope L f (.ref c) [("__class__", cc)]) (eval (.Call (.Name "super" p0) [] [] p1) (PySem.W.envX qual scope L f (.ref c) [("__class__", cc)]))
      standAt apos.atName
      let (fv, first) ← holding [ov] (getMethod ov "__init__" pl)
      callWith pos fv first (backTo pos (starEach (e :: es) (PySem.W.envX qual scope L f (.ref c) [("__class__", cc)]))) []) := by intros; rfl) :
    FnR P w K mg base CX0 (k + 1) f sp := by
  intro A outer s H us vs Q E hr e0 r hsp
  have hl := len _ _ _ _ hsp
  obtain ⟨oc, od, osl, doc, pm, ct, an, c, cc, o1, o2, o3, gs, file, tf, q1, q2, q3, cd, f1, f2, c1, c2, c3, cc1, _⟩ := D.ex
  have KX : K.In s.heap := e0.mod.kin.keeps fun b o e => (e0.bs b o e).1
  have lim : s.heap.NoLimit := e0.mod.nolimit.keeps fun b o e => (e0.bs b o e).1
  have hloc : ∀ y ∈ ps.zip us, scope.names.lookup y.1 = some .local := fun ⟨n, v⟩ hy => S.ns.par n (List.of_mem_zip hy).1
  refine ks_codeAny_call_defAt (binds := ps.zip us) hr.depth (KX _ _ f1) rfl lim (PySem.W.codeRec_of KX f2) rfl (.of_eq (hb doc pm ct an c cc us (by rw [← r.length]; exact hl))) S.ns.nocell hloc (fun h₁ hns kp => ?_) S.ns.co S.ns.gen S.ns.kind
  have cl0 : ∀ y a, List.lookup y [(("__class__" : Str), cc)] = some a → y = "__class__" ∧ a = cc := fun y a e => by
    have := PySem.mem_of_lookup e
    simp at this
    exact this
  have Hcc : H cc = none := by
    have z := e0.mod.kin _ _ cc1
    exact (e0.bs _ _ z).2
  have C0 : NdefX.CellsAt [("__class__", cc)] ["__class__"] [none] s.heap H := by
    refine ⟨rfl, fun y a e => ?_, fun x y a e1 e2 => ?_, fun i y hy => ?_⟩
    · rw [(cl0 y a e).2]
      exact ⟨Hcc, _, _, KX _ _ cc1, rfl⟩
    · rw [(cl0 x a e1).1, (cl0 y a e2).1]
    · cases i with
      | zero =>
        have : ("__class__" : Str) = y := by simpa using hy
        rw [← this]
        exact ⟨cc, rfl, fun v z => by simp at z⟩
      | succ i => simp at hy
  have I : Inv (scx P w K mg base N name qual params [] scope c cc f A outer s H E) [] (NdefX.startF N vs [none]) H { s with heap := h₁, toks := s.toks + (ps.zip us).length } :=
    NdefX.inv_startN (F := ⟨name, qual, params, [], scope, [("__class__", cc)], c⟩) S.ns hr.hd e0 hl r C0 hns kp
  obtain ⟨x, dx, fs, ta, t, hv, hxi, ha, ht, hq⟩ := hbody c cc A outer s H vs Q E (hr.deeper _) hsp
  have fin : ∀ {σ' : L2.St} {H' : Hp} {v : V} {u : Value} {s' : Shared}, Inv (scx P w K mg base N name qual params [] scope c cc f A outer s H E) [] σ' H' s' → RelV v u → Q v H' → CE outer P w H s Q u s' :=
    fun {σ' H' v u s'} J rv q => ⟨v, H', J.os, J.bare, J.base, J.hok, rv, q⟩
  have h00 : (NdefX.startF N vs [none])[0]? = some (some (.ref x)) := by
    cases vs with
    | nil => cases hv
    | cons v vs =>
      cases Option.some.inj hv
      rfl
  refine ks_wpAt_execs_cons (ks_wpAt_Expr_any (ks_wpAt_mono (wp_super (X := scx P w K mg base N name qual params [] scope c cc f A outer s H E) (L := s.heap.objs.size) (sc := scope) D rfl rfl hm rfl ⟨o1, o2, o3, gs, file, tf, c1, c2, c3⟩ ⟨q1, q2, q3, cc1⟩ ⟨oc, od, osl, _, f1, rfl⟩ S rfl F (hr.deeper _) I hxi h00 ha hq (hst _ _ _) (hpl _ _ _) (he _ _ _))
    (fun u s' ⟨v, H', I', _, q⟩ => ?_) fun e s' hs => hs) (hi _ _ _) (hx _ _ _))
  refine wpAt_of_wpAny (wpAny_mono (ht.run [] s' _ H' _ I' q) (fun fl s2 hs => ?_) fun e s2 hs => hs)
  cases fl with
  | ret u =>
    obtain ⟨v, σ', H', J, rv, q⟩ := hs
    exact fin J rv q
  | next =>
    obtain ⟨σ', H', J, q⟩ := hs
    exact fin (v := V.non) (u := Value.none) J rfl q
  | brk =>
    obtain ⟨_, _, _, q⟩ := hs
    exact False.elim q
  | cont =>
    obtain ⟨_, _, _, q⟩ := hs
    exact False.elim q
end
end Al
set_option maxHeartbeats 4000000
/-! F2: the facts on the five __init__ that call super's. -/
namespace Al
open PySem PySem.Spec PyProof.Rows L2
def SupF (P : Program) (K : PySem.W.Frag) (C qual : Str) (st : Stmt) : Prop := SupD P K (He.ma K (He.ga K C) "__init__") (He.ga K C) (He.ma K (He.ga K "Tabled") "__init__") "__init__" qual (defArgs st) (defBody st) (defScope st)
structure Txt2 (P : Program) (K : PySem.W.Frag) : Prop where
  least : SupF P K "Least" "Least.__init__" s_Least_init
  kept : SupF P K "Kept" "Kept.__init__" s_Kept_init
  able : SupF P K "Able" "Able.__init__" s_Able_init
  farthest : SupF P K "Farthest" "Farthest.__init__" s_Farthest_init
  longest : SupF P K "Longest" "Longest.__init__" s_Longest_init
  insA : C8.InsC K (He.ga K "Able")
  noSt : PySem.W.kitOne K (.ref (He.ga K "Able")) (.ref (He.ga K "Stuck")) = some false
  top : (P.main.scope.names.lookup ("super" : Str)).isSome = false
def N_Kept_init : List Str := ["self", "costs", "__class__"]
def N_Least_init : List Str := ["self", "vectors", "runs", "costs", "__class__", "run"]
def N_Able_init : List Str := ["self", "ranks", "costs", "__class__"]
def N_Farthest_init : List Str := ["self", "number", "run", "ranks", "costs", "__class__"]
theorem ns_Kept : NdefX.NScope N_Kept_init ["self", "costs"] ["__class__"] (defScope s_Kept_init) := NdefX.nscope_by (by decide +kernel)
theorem ns_Least : NdefX.NScope N_Least_init ["self", "vectors", "runs", "costs"] ["__class__"] (defScope s_Least_init) := NdefX.nscope_by (by decide +kernel)
theorem ns_Able : NdefX.NScope N_Able_init ["self", "ranks", "costs"] ["__class__"] (defScope s_Able_init) := NdefX.nscope_by (by decide +kernel)
theorem ns_Farthest : NdefX.NScope N_Farthest_init ["self", "number", "run", "ranks", "costs"] ["__class__"] (defScope s_Farthest_init) := NdefX.nscope_by (by decide +kernel)
theorem ns_Longest : NdefX.NScope N_Farthest_init ["self", "number", "run", "ranks", "costs"] ["__class__"] (defScope s_Longest_init) := NdefX.nscope_by (by decide +kernel)
end Al
set_option maxHeartbeats 4000000
/-! D1: is_number, capped, is_below, is_within. -/
namespace Al
open PySem PySem.Spec PyProof.Rows L2
/-! ### plain words -/
/-- a limit -/
def lv : Option Int → V
  | none => .non
  | some i => .int i
def belowB (ns : List Int) (ls : List (Option Int)) : Bool := (ns.zip ls).all fun p => match p.2 with | none => true | some l => decide (p.1 ≤ l)
def belowV : V → V → Bool
  | .int n, .int l => decide (n ≤ l)
  | _, _ => true
theorem below_eq : ∀ (ns : List Int) (ls : List (Option Int)), ((ns.map V.int).zip (ls.map lv)).all (fun p => belowV p.1 p.2) = belowB ns ls
  | [], ls => by simp [belowB]
  | n :: ns, [] => by simp [belowB]
  | n :: ns, l :: ls => by
    have ih := below_eq ns ls
    unfold belowB at ih ⊢
    rw [List.map_cons, List.map_cons, List.zip_cons_cons, List.all_cons, List.zip_cons_cons, List.all_cons, ih]
    cases l <;> rfl
section
variable {P : Program} {w : World} {K : PySem.W.Frag} {mg : Str → Option Value} {base : Heap}
def spNumber : Sp := fun vs H Q _ => ∃ i : Int, vs = [.int i] ∧ Q (.bl true) H
theorem ok_is_number (T : Txt K mg) : GFn P w K mg base 1 "is_number" spNumber := by
  refine T.okG h_is_number rfl (by decide +kernel) sc_is_number rfl rfl b_is_number (fun vs H Q E h => ?_) (fun cdv A outer s H vs Q E hr h => ?_)
  · obtain ⟨i, rfl, _⟩ := h
    rfl
  · obtain ⟨i, rfl, q⟩ := h
    refine ⟨_, pss_one (ps_ret (pe_and (pe_isi K "int" (T.f "isinstance") (T.f "int") (pv 0)) (pe_one (pe_not (pe_isi K "bool" (T.f "isinstance") (T.f "bool") (pv 0)))))), ?_⟩
    refine ⟨_, rfl, _, _, true, rfl, .base (.int i), by decide +kernel, true, rfl, ?_⟩
    exact ⟨_, rfl, _, _, false, rfl, .base (.int i), by decide +kernel, false, rfl, q⟩
def spBelow (K : PySem.W.Frag) : Sp := fun vs H Q _ => ∃ (va la : Addr) (ns : List Int) (ls : List (Option Int)), vs = [.ref va, .ref la] ∧ SqT K H va (ns.map V.int) ∧ Sq K H la (ls.map lv) ∧ ns.length ≤ 1000000 ∧ ∀ H', Same H H' → Q (.bl (belowB ns ls)) H'
theorem ok_is_below (T : Txt K mg) : GFn P w K mg base 1 "is_below" (spBelow K) := by
  refine T.okG h_is_below rfl (by decide +kernel) sc_is_below rfl rfl b_is_below (fun vs H Q E h => ?_) (fun cdv A outer s H vs Q E hr h => ?_)
  · obtain ⟨va, la, ns, ls, rfl, _⟩ := h
    rfl
  · obtain ⟨va, la, ns, ls, rfl, hv, hl, hn, q⟩ := h
    refine ⟨_, pss_one (ps_ret (pe_callB (cr_all rfl) (by rfl) (T.f "all") (by decide +kernel) (pa_cons (pe_lc (own := [("number", 2), ("limit", 3)]) rfl sc_is_below.nd
      (piOr (pi_zipM (T.f "zip") (pa_cons (pv 0) (pa_cons (pv 1) pa_nil))) (RZ.pi_zipA (by rfl) (T.f "zip") (pa_cons (pv 0) (pa_cons (pv 1) pa_nil))))
      (blkOk_by (own := [("number", 2), ("limit", 3)]) (N := N_is_below) (sc := defScope s_is_below) (by decide +kernel))
      (fun _ _ _ _ _ => pg_t K 2 rfl (pgs_cons (pg_l (i := 2) sc_is_below.nd rfl rfl) (pgs_cons (pg_l (i := 3) sc_is_below.nd rfl rfl) pgs_nil))) (fun _ _ _ _ _ => pts_nil)
      (fun _ _ _ _ _ => pe_or (pe_cmp (pc_isN (pv 3)) rfl) (pe_one (pe_cmpR op_le (pv 2) (pv 3) (nomark _))))) pa_nil))), ?_⟩
    have turn : ∀ x y T' H1, (x, y) ∈ (ns.map V.int).zip (ls.map lv) → Same H H1 → H1 T' = some (.tup [x, y]) → ∀ Kt : Option V → Hp → Prop, (∀ H'', Same H1 H'' → Kt (some (.bl (belowV x y))) H'') →
        stp (gTup K 2 (gCons (gName 2) (gCons (gName 3) gNil))) tYes (tOrV (tIsN (tVar 3)) (tOp (rI0 fun i j => .bl (decide (i ≤ j))) (tVar 2) (tVar 3))) [2, 3] (start N_is_below [.ref va, .ref la]) (.ref T') H1 Kt := by
      intro x y T' H1 hm s1 hT Kt k
      obtain ⟨h1, h2⟩ := List.of_mem_zip hm
      obtain ⟨n, _, rfl⟩ := List.mem_map.mp h1
      obtain ⟨l, _, rfl⟩ := List.mem_map.mp h2
      refine ⟨T', _, rfl, SqT.of hT, rfl, _, _, rfl, _, _, rfl, rfl, rfl, ?_⟩
      cases l with
      | none => exact ⟨_, rfl, true, rfl, k _ (Same.refl _)⟩
      | some l => exact ⟨_, rfl, false, rfl, _, rfl, _, rfl, n, l, rfl, rfl, k _ (Same.refl _)⟩
    have fin : ∀ D H', H D = none → Same H H' → H' D = some (.lst (((ns.map V.int).zip (ls.map lv)).filterMap fun p => some (.bl (belowV p.1 p.2)))) →
        ∃ (a : Addr) (bs : List Bool), [V.ref D] = [V.ref a] ∧ SqL K H' a (bs.map V.bl) ∧ Q (.bl (bs.all id)) H' := by
      intro D H' hD s1 hL
      refine ⟨D, ((ns.map V.int).zip (ls.map lv)).map fun p => belowV p.1 p.2, rfl, SqL.of ?_, ?_⟩
      · rw [hL, List.filterMap_eq_map', List.map_map]
        rfl
      · rw [List.all_map]
        have e := below_eq ns ls
        show Q (.bl (((ns.map V.int).zip (ls.map lv)).all fun p => belowV p.1 p.2)) H'
        rw [e]
        exact q H' s1
    have hlen : min (ns.map V.int).length (ls.map lv).length ≤ 1000000 := by
      rw [List.length_map]
      omega
    rcases hl with hl | hl
    · refine .inl ⟨_, rfl, _, rfl, va, la, _, _, rfl, hv, hl, lcPairs (walk_zipM rfl) rfl (fun x y => some (.bl (belowV x y))) (fun H' s1 => ⟨smTup s1 hv, s1.seq hl⟩) hlen turn ?_⟩
      exact fin
    · refine .inr ⟨_, rfl, _, rfl, va, la, _, _, rfl, .inr ⟨hv, hl, lcPairs (walk_zipT rfl) rfl (fun x y => some (.bl (belowV x y))) (fun H' s1 => ⟨smTup s1 hv, smTup s1 hl⟩) hlen turn ?_⟩⟩
      exact fin
end
end Al
set_option maxHeartbeats 4000000
/-! D2: is_within, is_least, capped, is_word. -/
namespace Al
open PySem PySem.Spec PyProof.Rows L2
section
variable {P : Program} {w : World} {K : PySem.W.Frag} {mg : Str → Option Value} {base : Heap}
theorem ok_is_within (T : Txt K mg) : GFn P w K mg base 2 "is_within" (spBelow K) := by
  refine T.okG h_is_within rfl (by decide +kernel) sc_is_within rfl rfl b_is_within (fun vs H Q E h => ?_) (fun cdv A outer s H vs Q E hr h => ?_)
  · obtain ⟨va, la, ns, ls, rfl, _⟩ := h
    rfl
  · obtain ⟨va, la, ns, ls, rfl, hv, hl, hn, q⟩ := h
    refine ⟨_, pss_one (ps_ret (pe_f (ok_is_below T) hr (pa_cons (pv 0) (pa_cons (pv 1) pa_nil)))), ?_⟩
    exact ⟨_, rfl, _, rfl, va, la, ns, ls, rfl, hv, hl, hn, q⟩
def spCapped : Sp := fun vs H Q _ => ∃ (n : Int) (l : Option Int), vs = [.int n, lv l] ∧ Q (.int (if l = none then n else n + 1)) H
theorem ok_capped (T : Txt K mg) : GFn P w K mg base 1 "capped" spCapped := by
  refine T.okG h_capped rfl (by decide +kernel) sc_capped rfl rfl b_capped (fun vs H Q E h => ?_) (fun cdv A outer s H vs Q E hr h => ?_)
  · obtain ⟨n, l, rfl, _⟩ := h
    rfl
  · obtain ⟨n, l, rfl, q⟩ := h
    refine ⟨_, pss_one (ps_ret (pe_ifExp (pt_cmp (pc_isN (pv 1)) rfl) (pv 0) (pe_op op_add (pv 0) pe_int))), ?_⟩
    cases l with
    | none => exact ⟨_, rfl, true, rfl, _, rfl, q⟩
    | some l => exact ⟨_, rfl, false, rfl, _, rfl, n, 1, rfl, rfl, q⟩
/-- no other vector of some is below -/
def leastB (v : List Int) (vs : List (List Int)) : Bool := !(vs.any fun u => (!decide (u = v)) && belowB u (v.map some))
theorem map_lv (ns : List Int) : (ns.map some).map lv = ns.map V.int := by
  rw [List.map_map]
  rfl
def spLeast (K : PySem.W.Frag) : Sp := fun vs H Q _ => ∃ (va la : Addr) (v : List Int) (as : List Addr) (us : List (List Int)), vs = [.ref va, .ref la] ∧ SqT K H va (v.map V.int) ∧ SqL K H la (as.map V.ref) ∧ VecsAt K H as us ∧ as.length ≤ 1000000 ∧ (∀ u ∈ us, u.length ≤ 1000000) ∧ ∀ H', Same H H' → Q (.bl (leastB v us)) H'
theorem ok_is_least (T : Txt K mg) : GFn P w K mg base 2 "is_least" (spLeast K) := by
  refine T.okG h_is_least rfl (by decide +kernel) sc_is_least rfl rfl b_is_least (fun vs H Q E h => ?_) (fun cdv A outer s H vs Q E hr h => ?_)
  · obtain ⟨va, la, v, as, us, rfl, _⟩ := h
    rfl
  · obtain ⟨va, la, v, as, us, rfl, hv, hl, hvs, hn, hd, q⟩ := h
    refine ⟨_, pss_one (ps_ret (pe_not (pe_callB (cr_any rfl) (by rfl) (T.f "any") (by decide +kernel) (pa_cons (pe_lc (own := [("other", 2)]) rfl sc_is_least.nd (pi_list (pv 1))
      (blkOk_by (own := [("other", 2)]) (N := N_is_least) (sc := defScope s_is_least) (by decide +kernel))
      (fun _ _ _ _ _ => pg_l (i := 2) sc_is_least.nd rfl rfl) (fun _ _ _ _ _ => pts_nil)
      (fun _ _ _ _ _ => pe_and (pe_cmpR (op_neVec K hr.units) (pv 2) (pv 0) (nomark _)) (pe_one (pe_f (ok_is_below T) hr (pa_cons (pv 2) (pa_cons (pv 0) pa_nil)))))) pa_nil)))), ?_⟩
    refine ⟨_, rfl, la, rfl, ⟨_, hl⟩, ?_⟩
    refine lcData (VecR K) vecR_sm hvs walk_list (fun u => some (.bl ((!decide (u = v)) && belowB u (v.map some)))) (fun H' s1 => s1.seq hl) hn ?_ ?_
    · intro u a H2 hu s1 hau Kt k
      have hv' := smTup s1 hv
      refine ⟨rfl, _, rfl, _, rfl, a, va, u, v, rfl, rfl, hau, hv', _, rfl, ?_⟩
      by_cases e : u = v
      · rw [decide_eq_true e] at k ⊢
        exact k _ (Same.refl _)
      · rw [decide_eq_false e] at k ⊢
        refine ⟨_, rfl, _, rfl, a, va, u, v.map some, rfl, hau, .inr ?_, hd u hu, fun H' s2 => k H' s2⟩
        rw [map_lv]
        exact hv'
    · intro D H' hD s1 hL
      refine ⟨D, us.map fun u => (!decide (u = v)) && belowB u (v.map some), rfl, SqL.of ?_, _, rfl, ?_⟩
      · rw [hL, List.filterMap_eq_map', List.map_map]
        rfl
      · rw [List.any_map]
        exact q H' s1
end
end Al
set_option maxHeartbeats 4000000
/-! M0: machines as data, and how the heap bears them. -/
namespace Al
open PySem PySem.Spec PyProof.Rows L2
/-- a step: state, kind of fall or nothing, word seen or nothing, state -/
structure Stp where
  s : Int
  k : Str
  w : Str
  g : Int
  deriving DecidableEq
def Stp.vs (t : Stp) : List V := [.int t.s, .str t.k, .str t.w, .int t.g]
/-- one small letter -/
def Letter (x : Str) : Prop := ∃ c : Nat, 97 ≤ c ∧ c ≤ 122 ∧ x = ⟨#[c]⟩
structure Mch where
  n : Nat
  steps : List Stp
  kinds : List Str
/-- nothing, or one small letter -/
def WordOr (x : Str) : Prop := x = "" ∨ Letter x
structure StpOk (n : Nat) (t : Stp) : Prop where
  s0 : 0 ≤ t.s
  s1 : t.s < n
  g0 : 0 ≤ t.g
  g1 : t.g < n
  kw : WordOr t.k
  ww : WordOr t.w
structure MOk (M : Mch) : Prop where
  n1 : 1 ≤ M.n
  n2 : M.n ≤ 100
  st : ∀ t ∈ M.steps, StpOk M.n t
  len : M.steps.length ≤ 1000
  k2 : M.kinds.length ≤ 2
  knd : M.kinds.Nodup
  kin : ∀ t ∈ M.steps, t.k ≠ "" → t.k ∈ M.kinds
  kst : ∀ k ∈ M.kinds, Letter k ∧ ∃ t ∈ M.steps, t.k = k
section
variable {K : PySem.W.Frag} {H H' : Hp} {m a : Addr} {M : Mch} {σ : L2.St} {Q : VK} {i : Nat}
abbrev StpR (H : Hp) (a : Addr) (t : Stp) : Prop := H a = some (.tup t.vs)
theorem stpR_sm (H H' : Hp) (a : Addr) (t : Stp) (s : Same H H') (h : StpR H a t) : StpR H' a t := s _ _ h
abbrev StpsAt (H : Hp) (as : List Addr) (ts : List Stp) : Prop := Paired (StpR H) as ts
theorem StpsAt.sm (s : Same H H') {as : List Addr} {ts : List Stp} (h : StpsAt H as ts) : StpsAt H' as ts := Paired.mapP h fun a b z => s _ _ z
def fMach (many steps ways kinds words : V) : List (Str × V) := [("many", many), ("steps", steps), ("ways", ways), ("kinds", kinds), ("words", words)]
section
variable (x1 x2 x3 x4 x5 : V)
theorem fm_many : (fMach x1 x2 x3 x4 x5).lookup ("many" : Str) = some x1 := by kernel_rfl
theorem fm_steps : (fMach x1 x2 x3 x4 x5).lookup ("steps" : Str) = some x2 := by kernel_rfl
theorem fm_ways : (fMach x1 x2 x3 x4 x5).lookup ("ways" : Str) = some x3 := by kernel_rfl
theorem fm_kinds : (fMach x1 x2 x3 x4 x5).lookup ("kinds" : Str) = some x4 := by kernel_rfl
theorem fm_words : (fMach x1 x2 x3 x4 x5).lookup ("words" : Str) = some x5 := by kernel_rfl
end
/-- the ways: a list for each state -/
def wayKvs (n : Nat) (wa : Nat → Addr) : List (Key × V) := (List.range n).map fun (s : Nat) => (.inl (s : Int), .ref (wa s))
theorem wayKvs_get (n : Nat) (wa : Nat → Addr) (s : Nat) (h : s < n) : valV (wayKvs n wa) (.inl (s : Int)) = some (.ref (wa s)) := by
  unfold valV wayKvs
  have e : ((List.range n).map fun (s : Nat) => ((.inl (s : Int) : Key), V.ref (wa s))).find? (fun kv => decide (kv.1 = .inl (s : Int))) = some (.inl (s : Int), .ref (wa s)) := by
    rw [List.find?_map, List.find?_eq_some_iff_append.mpr]
    · rfl
    · refine ⟨by simp, List.range s, (List.range (n - (s + 1))).map (· + (s + 1)), ?_, fun x hx => ?_⟩
      · have e1 : List.range n = List.range (s + (1 + (n - (s + 1)))) := by congr 1; omega
        rw [e1, List.range_add, List.range_add]
        simp [List.map_append, Function.comp_def]
        intro a _
        omega
      · have : x < s := List.mem_range.mp hx
        simp
        omega
  rw [e]
  rfl
/-- the machine M stands at m -/
structure MAt (K : PySem.W.Frag) (H : Hp) (m : Addr) (M : Mch) : Prop where
  ok : MOk M
  at_ : ∃ (dx ts wd kl wl : Addr) (sa : List Addr) (wa : Nat → Addr), H m = some (.ins (He.ga K "Machine") dx (fMach (.int M.n) (.ref ts) (.ref wd) (.ref kl) (.ref wl))) ∧ H ts = some (.tup (sa.map V.ref)) ∧ StpsAt H sa M.steps ∧
    H wd = some (.dK (wayKvs M.n wa)) ∧ (∀ s, s < M.n → ∃ la, H (wa s) = some (.lst (la.map V.ref)) ∧ StpsAt H la (M.steps.filter fun t => decide (t.s = s))) ∧ H kl = some (.lst (M.kinds.map V.str))
theorem MAt.sm (s : Same H H') (h : MAt K H m M) : MAt K H' m M := by
  obtain ⟨ok, dx, ts, wd, kl, wl, sa, wa, h1, h2, h3, h4, h5, h6⟩ := h
  refine ⟨ok, dx, ts, wd, kl, wl, sa, wa, s _ _ h1, s _ _ h2, h3.sm s, s _ _ h4, fun i hi => ?_, s _ _ h6⟩
  obtain ⟨la, a1, a2⟩ := h5 i hi
  exact ⟨la, s _ _ a1, a2.sm s⟩
/-! readings of machine.x where the machine stands in a slot -/
theorem rd_many (h : MAt K H m M) (hi : σ[i]? = some (some (.ref m))) (q : Q (.int M.n) H) : tAt (He.ga K "Machine") (tVar i) "many" σ H Q := by
  obtain ⟨ok, dx, ts, wd, kl, wl, sa, wa, h1, _⟩ := h
  exact ⟨_, hi, m, dx, _, _, rfl, h1, fm_many .., q⟩
theorem rd_steps (h : MAt K H m M) (hi : σ[i]? = some (some (.ref m))) (q : ∀ ts sa, H ts = some (.tup (sa.map V.ref)) → StpsAt H sa M.steps → Q (.ref ts) H) : tAt (He.ga K "Machine") (tVar i) "steps" σ H Q := by
  obtain ⟨ok, dx, ts, wd, kl, wl, sa, wa, h1, h2, h3, _⟩ := h
  exact ⟨_, hi, m, dx, _, _, rfl, h1, fm_steps .., q ts sa h2 h3⟩
theorem rd_kinds (h : MAt K H m M) (hi : σ[i]? = some (some (.ref m))) (q : ∀ kl, H kl = some (.lst (M.kinds.map V.str)) → Q (.ref kl) H) : tAt (He.ga K "Machine") (tVar i) "kinds" σ H Q := by
  obtain ⟨ok, dx, ts, wd, kl, wl, sa, wa, h1, h2, h3, h4, h5, h6⟩ := h
  exact ⟨_, hi, m, dx, _, _, rfl, h1, fm_kinds .., q kl h6⟩
/-- machine.ways[state] -/
theorem rd_way {j : Nat} {s : Nat} {ty : TE} (h : MAt K H m M) (hi : σ[i]? = some (some (.ref m))) (hs : s < M.n) (hj : ∀ Q : VK, Q (.int (s : Int)) H → ty σ H Q)
    (q : ∀ lw la, H lw = some (.lst (la.map V.ref)) → StpsAt H la (M.steps.filter fun t => decide (t.s = s)) → Q (.ref lw) H) : tDGet (tAt (He.ga K "Machine") (tVar i) "ways") ty σ H Q := by
  obtain ⟨ok, dx, ts, wd, kl, wl, sa, wa, h1, h2, h3, h4, h5, h6⟩ := h
  obtain ⟨la, a1, a2⟩ := h5 s hs
  refine ⟨_, hi, m, dx, _, _, rfl, h1, fm_ways .., hj _ ⟨wd, .ref (wa s), rfl, ?_, q _ la a1 a2⟩⟩
  have e := DGet.k (k := .inl (s : Int)) h4
  rw [wayKvs_get _ _ _ hs] at e
  exact e
end
end Al
set_option maxHeartbeats 4000000
/-! D3: is_word, check_states, is_step. -/
namespace Al
open PySem PySem.Spec PyProof.Rows L2
section
variable {P : Program} {w : World} {K : PySem.W.Frag} {mg : Str → Option Value} {base : Heap}
theorem one_lt (a b : Nat) : ([a] < [b]) ↔ a < b := by rw [List.cons_lt_cons_iff]; simp
theorem blF {p : Prop} [Decidable p] (h : ¬ p) : V.bl (!decide p) = V.bl true := by rw [decide_eq_false h]; rfl
def spWord : Sp := fun vs H Q _ => ∃ x : Str, vs = [.str x] ∧ Letter x ∧ ∀ H', Same H H' → Q (.bl true) H'
theorem ok_is_word (T : Txt K mg) : GFn P w K mg base 1 "is_word" spWord := by
  refine T.okG h_is_word rfl (by decide +kernel) sc_is_word rfl rfl b_is_word (fun vs H Q E h => ?_) (fun cdv A outer s H vs Q E hr h => ?_)
  · obtain ⟨x, rfl, _⟩ := h
    rfl
  · obtain ⟨x, rfl, ⟨c, h1, h2, rfl⟩, q⟩ := h
    refine ⟨_, (pss_cons (ps_if (PW.pt (pw_or (pt_not (pt_val (pe_isi K "str" (T.f "isinstance") (T.f "str") (pv 0)))) (pw_or1 (pt_not (pt_chain op_le op_le pe_int (pe_callB call_len_str (by rfl) (T.f "len") (by decide +kernel) (pa_cons (pv 0) pa_nil)) (pe_gi T.mostL)))))) 
        (pss_one (ps_ret pe_bl))
        pss_nil)
        (pss_one (ps_ret (pe_callB (cAll K) (by rfl) (T.f "all") (by decide +kernel) (pa_cons (pe_lc (own := [("sign", 1)]) rfl sc_is_word.nd (pi_str (pv 0)) (blkOk_by (own := [("sign", 1)]) (N := N_is_word) (sc := defScope s_is_word) (by decide +kernel)) (fun _ _ _ _ _ => (pg_l (i := 1) sc_is_word.nd rfl rfl)) (fun _ _ _ _ _ => pts_nil) (fun _ _ _ _ _ => (pe_chain op_le_str op_le_str pe_str (pv 1) pe_str))) pa_nil))))), ?_⟩
    refine ⟨_, rfl, _, _, true, rfl, .base (.str _), by decide +kernel, true, rfl, ?_⟩
    refine ⟨_, rfl, _, rfl, (show 1 ≤ sizeLine by decide), 1, 1, rfl, rfl, true, rfl, 1, 8, rfl, rfl, true, rfl, ?_⟩
    refine ⟨_, rfl, _, rfl, ?_⟩
    refine lcV walk_str (fun _ => some (.bl true)) (fun _ _ => trivial) (by show 1 ≤ 1000000; decide) ?_ ?_
    · rintro i x H1 H2 hi s1 ⟨rfl, c', hc, rfl⟩ Kt k
      have e : c' = c := by
        have hi1 : i = 0 := by
          have : i < 1 := hi
          omega
        subst hi1
        exact (Option.some.inj hc).symm
      subst e
      refine ⟨rfl, ?_⟩
      refine ⟨_, rfl, _, _, rfl, rfl, true, blF (by show ¬ ([c'] < [97]); rw [one_lt]; omega), _, _, rfl, rfl, ?_⟩
      have e : (V.bl (!decide (([122] : List Nat) < [c']))) = V.bl true := blF (by rw [one_lt]; omega)
      show Kt (some (V.bl (!decide (([122] : List Nat) < [c'])))) _
      rw [e]
      exact k _ (Same.refl _)
    · intro D H' hD s1 hL
      exact ⟨D, [true], rfl, SqL.of hL, q H' s1⟩
theorem blT {p : Prop} [Decidable p] (h : p) : V.bl (decide p) = V.bl true := by rw [decide_eq_true h]
theorem asc_len : ∀ {ss : List Int} {n : Nat}, ss.Pairwise (· < ·) → (∀ s ∈ ss, 0 ≤ s ∧ s < n) → ss.length ≤ n := by
  have key : ∀ {ss : List Int} {a n : Int}, ss.Pairwise (· < ·) → (∀ s ∈ ss, a ≤ s ∧ s < n) → a ≤ n → (ss.length : Int) ≤ n - a := by
    intro ss
    induction ss with
    | nil => intro a n _ _ h; simp; omega
    | cons x r ih =>
      intro a n hp hb ha
      obtain ⟨h1, h2⟩ := List.pairwise_cons.mp hp
      have hx := hb x (by simp)
      have := ih (a := x + 1) (n := n) h2 (fun s hs => ⟨by have := h1 s hs; omega, (hb s (by simp [hs])).2⟩) (by omega)
      simp
      omega
  intro ss n hp hb
  have := key (a := 0) (n := n) hp hb (by omega)
  omega
theorem asc_zip : ∀ {ss : List Int} {x y : V}, ss.Pairwise (· < ·) → (x, y) ∈ (ss.map V.int).zip ((ss.drop 1).map V.int) → ∃ i j, i < j ∧ x = .int i ∧ y = .int j
  | [], _, _, _, h => by simp at h
  | [a], _, _, _, h => by simp at h
  | a :: b :: r, x, y, hp, h => by
    obtain ⟨h1, h2⟩ := List.pairwise_cons.mp hp
    have h' : (x, y) ∈ (V.int a, V.int b) :: ((b :: r).map V.int).zip (((b :: r).drop 1).map V.int) := h
    rcases List.mem_cons.mp h' with e | e
    · obtain ⟨rfl, rfl⟩ := Prod.mk.inj e
      exact ⟨a, b, h1 b (by simp), rfl, rfl⟩
    · exact asc_zip h2 e
def spChk (K : PySem.W.Frag) : Sp := fun vs H Q _ => ∃ (m sa : Addr) (M : Mch) (ss : List Int), vs = [.ref m, .ref sa] ∧ MAt K H m M ∧ SqT K H sa (ss.map V.int) ∧ ss.Pairwise (· < ·) ∧ (∀ s ∈ ss, 0 ≤ s ∧ s < M.n) ∧ ∀ H', Same H H' → Q .non H'
theorem ok_check_states (T : Txt K mg) : GFn P w K mg base 2 "check_states" (spChk K) := by
  refine T.okG h_check_states rfl (by decide +kernel) sc_check_states rfl rfl b_check_states (fun vs H Q E h => ?_) (fun cdv A outer s H vs Q E hr h => ?_)
  · obtain ⟨m, sa, M, ss, rfl, _⟩ := h
    rfl
  · obtain ⟨m, sa, M, ss, rfl, hM, hS, hp, hb, q⟩ := h
    refine ⟨_, (pss_cons (ps_if (PW.pt (pw_or (pt_not (pt_val (pe_isi K "tuple" (T.f "isinstance") (T.f "tuple") (pv 1)))) (pw_or1 (pt_not (pt_val (pe_callB (cAll K) (by rfl) (T.f "all") (by decide +kernel) (pa_cons (pe_lc (own := [("one", 2)]) rfl sc_check_states.nd (pi_tup (pv 1)) (blkOk_by (own := [("one", 2)]) (N := N_check_states) (sc := defScope s_check_states) (by decide +kernel)) (fun _ _ _ _ _ => (pg_l (i := 2) sc_check_states.nd rfl rfl)) (fun _ _ _ _ _ => pts_nil) (fun _ _ _ _ _ => (pe_and (pe_f (ok_is_number T) (hr.mono (by decide)) (pa_cons (pv 2) pa_nil)) (pe_one (pe_chain op_le op_lt pe_int (pv 2) (pe_at (T.c "Machine") (T.n "Machine" "many") (pv 0))))))) pa_nil))))))) 
        pss_never
        pss_nil)
        (pss_one (ps_if (pt_not (pt_val (pe_callB (cAll K) (by rfl) (T.f "all") (by decide +kernel) (pa_cons (pe_lc (own := [("one", 2), ("late", 3)]) rfl sc_check_states.nd (RZ.pi_zipA (by rfl) (T.f "zip") (pa_cons (pv 1) (pa_cons (pe_slice (sl_cut K) (pv 1) (po_some pe_int) po_none) pa_nil))) (blkOk_by (own := [("one", 2), ("late", 3)]) (N := N_check_states) (sc := defScope s_check_states) (by decide +kernel)) (fun _ _ _ _ _ => (pg_t K 2 rfl (pgs_cons (pg_l (i := 2) sc_check_states.nd rfl rfl) (pgs_cons (pg_l (i := 3) sc_check_states.nd rfl rfl) pgs_nil)))) (fun _ _ _ _ _ => pts_nil) (fun _ _ _ _ _ => (pe_cmpR op_lt (pv 2) (pv 3) (nomark _)))) pa_nil)))) 
        pss_never
        pss_nil))), ?_⟩
    have nsmall : ss.length ≤ 1000000 := Nat.le_trans (asc_len hp hb) (Nat.le_trans hM.ok.n2 (by decide))
    refine ⟨_, rfl, _, "tuple", true, rfl, tyTup hS, by decide +kernel, true, rfl, ?_⟩
    refine ⟨_, rfl, sa, rfl, ⟨_, hS⟩, ?_⟩
    refine lcTup (fun _ => some (.bl true)) hS (by rw [List.length_map]; exact nsmall) ?_ ?_
    · intro x H1 hx s1 Kt k
      obtain ⟨i, hi, rfl⟩ := List.mem_map.mp hx
      obtain ⟨i0, i1⟩ := hb i hi
      refine ⟨rfl, _, rfl, i, rfl, true, rfl, ?_⟩
      refine ⟨_, rfl, 0, i, rfl, rfl, true, blT i0, ?_⟩
      refine rd_many (hM.sm s1) rfl ⟨i, M.n, rfl, rfl, ?_⟩
      show Kt (some (V.bl (decide (i < (M.n : Int))))) _
      rw [decide_eq_true i1]
      exact k _ (Same.refl _)
    · intro D H1 hD s1 hL
      dsimp only [tNil]
      refine rAll_of hL true all_yes ?_
      refine ⟨true, rfl, ?_⟩
      refine ⟨_, rfl, _, rfl, 1, rfl, sa, _, rfl, smTup s1 hS, fun p H2 s2 hp2 => ?_⟩
      rw [show (1 : Int) = ((1 : Nat) : Int) from rfl, cut_from, ← List.map_drop] at hp2
      have hS2 := smTup (s1.trans s2) hS
      have nz : min (ss.map V.int).length ((ss.drop 1).map V.int).length ≤ 1000000 := by rw [List.length_map]; omega
      refine ⟨sa, p, _, _, rfl, .inr ⟨hS2, hp2, lcPairs (walk_zipT rfl) rfl (fun _ _ => some (.bl true)) (fun H' s1 => ⟨smTup s1 hS2, smTup s1 hp2⟩) nz ?_ ?_⟩⟩
      · intro x y T' H3 hm s3 hT Kt k
        obtain ⟨i, j, hij, rfl, rfl⟩ := asc_zip hp hm
        refine ⟨T', _, rfl, SqT.of hT, rfl, _, _, rfl, _, _, rfl, rfl, rfl, ?_⟩
        refine ⟨_, rfl, _, rfl, i, j, rfl, rfl, ?_⟩
        show Kt (some (V.bl (decide (i < j)))) _
        rw [decide_eq_true hij]
        exact k _ (Same.refl _)
      · intro D2 H3 hD2 s3 hL2
        dsimp only [tNil]
        refine rAll_of hL2 true all_yes ?_
        exact ⟨true, rfl, q _ (s1.trans (s2.trans s3))⟩
end
end Al
set_option maxHeartbeats 4000000
/-! K10: bool(x), x an instance with an own __bool__. -/
namespace Al
open PySem PySem.Spec PyProof.Rows L2
section
variable {X : Cx} {k : Nat} {C f : Addr} {sp : Sp}
def rBoolO (C : Addr) (sp : Sp) : List V → Hp → VK → Prop := fun xs H Q => ∃ a dx fs, xs = [.ref a] ∧ H a = some (.ins C dx fs) ∧ sp [.ref a] H (fun v H' => ∃ b, v = .bl b ∧ Q (.bl b) H') E0
theorem tru_own {pins : List (Addr × Obj)} {s : Shared} {σ : L2.St} {H : Hp} {Q : VK} {E : Value → Shared → Prop} {a dx : Addr} {fs : List (Str × V)} {T : Bool → Shared → Prop} (G : FnR X.prog X.w X.K X.mg X.base CX0 k f sp) (hr : Room (k + 2) X.A) (hs : PySem.W.findIn X.K (.ref C) "__bool__" = some (some (.ref f))) (hf : PySem.W.isFn X.K (.ref f) = true)
    (I : Inv X pins σ H s) (ha : H a = some (.ins C dx fs)) (q : sp [.ref a] H (fun v H' => ∃ b, v = .bl b ∧ Q (.bl b) H') E0) (hT : ∀ b s2, EP X pins σ Q (.bool b) s2 → T b s2) : wpAny (model X.prog X.w) X.A.in1.in1 (truthy (.ref a)) T E s := by
  obtain ⟨mA, O, _, _, _, _⟩ := ins_get I.hok ha
  obtain ⟨od, J, _⟩ := O.look
  unfold truthy
  refine wpAny_bind (m := callSpecial? (.ref a) (Str.ofString "__bool__")) (PySem.W.special_fn I.kIn J hs (beq_iff_eq.mp hf) ?_)
  have z : wpAny (model X.prog X.w) X.A.in1.in1 (call (.ref f) [.ref a]) (fun u s2 => ∃ b, u = .bool b ∧ EP X pins σ Q (.bool b) s2) E s := by
    refine wpAny_call (codeAny_mono (G X.A.in1.in1 X.stack s H [.ref a] [.ref a] _ E0 (hr.in1.in1) I.env0.in1.in1 (.cons rfl .nil) q) fun r s2 hq => ?_)
    cases r with
    | error e => exact (show False from hq).elim
    | ok fl =>
      cases fl with
      | ret u =>
        obtain ⟨v, H', I', rv, b, rfl, q'⟩ := I.after hq
        obtain rfl : u = Value.bool b := rv
        exact ⟨b, rfl, .bl b, H', I', rfl, q'⟩
      | next => exact False.elim hq
      | brk => exact False.elim hq
      | cont => exact False.elim hq
  refine thn z fun u s2 ⟨b, eu, hq⟩ => ?_
  subst eu
  exact wpAny_pure (hT b s2 hq)
theorem call_boolO (G : FnR X.prog X.w X.K X.mg X.base CX0 k f sp) (hr : Room (k + 2) X.A) (hs : PySem.W.findIn X.K (.ref C) "__bool__" = some (some (.ref f))) (hf : PySem.W.isFn X.K (.ref f) = true) : CallR X (.type "bool") (rBoolO C sp) := by
  intro pins s σ H xs us Q I r h
  obtain ⟨a, dx, fs, rfl, ha, q⟩ := h
  rw [Vals.ref1 r]
  have g : MeetsIn X.prog X.w (Builtin.«bool.__new__» ⟨[.type "bool", .ref a], []⟩) (fun A R s' => A = X.A.in1 ∧ s' = s ∧ ∀ b s2, EP X pins σ Q (.bool b) s2 → R (.ok (.ret (.bool b))) s2) := by
    refine .of_wp fun A R s' hs' => ?_
    obtain ⟨rfl, rfl, hR⟩ := hs'
    have f1 := F.conv_sub_bool
    repeat (any_goals (first | assumption | (with_reducible refine tru_own G hr hs hf I ha q fun b s2 hq => ?_) | wp_step))
    all_goals first | exact ⟨_, rfl, hR _ _ hq⟩ | skip
  refine callType_newIn F.called_bool F.newNe_bool (F.typeCall_bool_1 _) (F.newCall_bool_1 _) (fun obj => F.args_object_init_2 obj _) F.entry_bool_new g ⟨rfl, rfl, fun b s2 hq => ?_⟩
  exact ⟨rfl, hq⟩
end
end Al
set_option maxHeartbeats 4000000
/-! K11: max(d, key=lambda state: ..), d a dict with ints as keys. -/
namespace Al
open PySem PySem.Spec PyProof.Rows L2
section
variable {X : Cx} {pins : List (Addr × Obj)} {σ : L2.St}
/-- what the key function at f gives for the ints ks, in the heaps Hs -/
def KeyFn (X : Cx) (pins : List (Addr × Obj)) (σ : L2.St) (f : Addr) (ks : List Int) (kf : Int → Int) (Hs : Hp → Prop) : Prop :=
  ∀ i ∈ ks, ∀ (t : Tok) (s : Shared) (pn : List (Addr × Obj)) (H : Hp) (E : Value → Shared → Prop), Hs H → Inv X (pn ++ pins) σ H s → wpAny (model X.prog X.w) X.A.in1 (call (.ref f) [.int i t]) (fun v s' => ∃ t', v = .int (kf i) t' ∧ Inv X (pn ++ pins) σ H s') E s
/-- b is the best of the first j -/
def BestOf (kf : Int → Int) (ks : List Int) (j : Nat) (b : Int) : Prop := b ∈ ks ∧ ∀ x ∈ ks.take j, kf x ≤ kf b
section
variable {d I S f : Addr} {ks : List Int} {kf : Int → Int} {St : Nat → Heap → Prop} {Hd : Hp} {od : Obj} {u : HO}
/-- the iterator is asked, the key function is called -/
theorem max_turn {H : Hp} {j : Nat} {s : Shared} {Q : Option Value → Shared → Prop} {E : Value → Shared → Prop} (W : Walks X.prog X.w X.A.in1 I [I, d] [I] ks.length (fun i v => ∃ k t, ks[i]? = some k ∧ v = .int k t) St) (hId : d ≠ I) (hj : j < ks.length)
    (Iv : Inv X pins σ H s) (st : St j s.heap) (fI : FpOk X pins H I)
    (q : ∀ k t s', ks[j]? = some k → Inv X pins σ H s' → St (j + 1) s'.heap → Q (some (.int k t)) s') : wpAny (model X.prog X.w) X.A.in1 (pyNext (.ref I)) Q E s := by
  refine W.item j s Q E hj st fun v h' tk ⟨k, t, hk, ev⟩ st' kp => ?_
  subst ev
  exact q k t _ hk (Iv.turnedL (ch := [I]) (fun b o hb e => kp b o hb e) (fun b hb => by rw [List.mem_singleton.mp hb]; exact fI)) st'
theorem max_call {H : Hp} {Hs : Hp → Prop} {j : Nat} {k : Int} {t : Tok} {s : Shared} {Q : Value → Shared → Prop} {E : Value → Shared → Prop} (W : Walks X.prog X.w X.A.in1 I [I, d] [I] ks.length (fun i v => ∃ k t, ks[i]? = some k ∧ v = .int k t) St) (stI : ∀ i h, St i h → ∃ o, h.get? I = some o ∧ ∀ v, o.data ≠ .cell v)
    (K : KeyFn X pins σ f ks kf Hs) (hH : Hs H) (hd : H d = some (.frz od u)) (hk : k ∈ ks) (Iv : Inv X pins σ H s) (st : St j s.heap) (fI : FpOk X pins H I)
    (q : ∀ t' s', Inv X pins σ H s' → St j s'.heap → Q (.int (kf k) t') s') : wpAny (model X.prog X.w) X.A.in1 (call (.ref f) [.int k t]) Q E s := by
  obtain ⟨o, ho, hc⟩ := stI _ _ st
  have Ip : Inv X ([(I, o)] ++ pins) σ H s := Iv.pins_of fun p hp => by
    rcases List.mem_append.mp hp with hp | hp
    · rw [List.mem_singleton.mp hp]
      exact ⟨ho, fI.1, fI.2.1, fI.2.2.1, hc⟩
    · exact Iv.pin p (List.mem_append_right _ hp)
  refine thn (K k hk t s [(I, o)] H E hH Ip) fun v s' ⟨t', ev, I'⟩ => ?_
  subst ev
  refine q t' s' (I'.pins_of fun p hp => I'.pin p (List.mem_append_right _ (List.mem_append_right _ hp))) (W.frame j _ _ st fun b hb ob e => ?_)
  rcases List.mem_cons.mp hb with hb | hb
  · subst hb
    rw [ho] at e
    cases e
    exact (I'.pin (_, o) (List.mem_append_right _ (List.mem_append_left _ (List.mem_singleton.mpr rfl)))).1
  · rw [List.mem_singleton.mp hb] at e ⊢
    have e1 : s.heap.get? d = some od := (Iv.hok d _ hd).1
    have e2 : s'.heap.get? d = some od := (I'.hok d _ hd).1
    rw [e1] at e
    cases e
    exact e2
theorem lst_at {H : Hp} {s : Shared} {a : Addr} {xs : List V} (Iv : Inv X pins σ H s) (h : H a = some (.lst xs)) : ∃ (its : List Value) (n : Nat), Vals xs its ∧ s.heap.get? a = some { cls := .type "list", data := .seq its.toArray n } := (Iv.hok a _ h).2
theorem lst_put {H : Hp} {s : Shared} {a : Addr} {xs ys : List V} {its its' : List Value} {n : Nat} (Iv : Inv X pins σ H s) (h : H a = some (.lst xs)) (ho : s.heap.get? a = some { cls := .type "list", data := .seq its.toArray n }) (hz : ys.length ≤ sizeLine) (rv : Vals ys its') :
    Inv X pins σ (upd H a (.lst ys)) { s with heap := s.heap.update a (Obj.mapSeq fun _ => its'.toArray) } := by
  have sb := Heap.SameBut.update s.heap a (Obj.mapSeq fun _ => its'.toArray)
  obtain ⟨c, hc⟩ : ∃ c, (s.heap.update a (Obj.mapSeq fun _ => its'.toArray)).get? a = some (seqObj "list" its'.toArray c) := ⟨_, get?_update_seq (show s.heap.get? a = some (seqObj "list" its.toArray n) from ho) fun _ => its'.toArray⟩
  exact Iv.write (t' := s.toks) (x := a) (e := a) (by rw [h]; exact True.intro) (.inl rfl) (fun b o hb e => (sb.2 b hb).trans e) ⟨_, hc⟩ (show ObjOk X.prog X.w _ _ _ (.lst ys) from ⟨hz, its', c, rv, hc⟩)
theorem max_loop {Hs : Hp → Prop} {R : Result → Shared → Prop} (W : Walks X.prog X.w X.A.in1 I [I, d] [I] ks.length (fun i v => ∃ k t, ks[i]? = some k ∧ v = .int k t) St) (stI : ∀ i h, St i h → ∃ o, h.get? I = some o ∧ ∀ v, o.data ≠ .cell v) (hId : d ≠ I)
    (K : KeyFn X pins σ f ks kf Hs) (hHs : ∀ xs, Hs (upd Hd S (.lst xs))) (hd : Hd d = some (.frz od u)) (hSd : S ≠ d) (fI : ∀ xs, FpOk X pins (upd Hd S (.lst xs)) I)
    (hR : ∀ b t s', BestOf kf ks ks.length b → Inv X pins σ (upd Hd S (.lst [])) s' → R (.ok (.ret (.int b t))) s') :
    ∀ (r j : Nat) (b : Int) (s : Shared), ks.length - j = r → j ≤ ks.length → BestOf kf ks j b → Inv X pins σ (upd Hd S (.lst [.int b, .int (kf b)])) s → St j s.heap →
      codeAny (model X.prog X.w) X.A (.builtin "max.loop" ⟨[.ref I, .ref f, .ref S], []⟩) R s := by
  have hname : (toString "max" ++ toString ".loop" : String) = "max.loop" := by decide
  have hd' : ∀ xs, upd Hd S (.lst xs) d = some (.frz od u) := fun xs => by rw [upd_ne (Ne.symm hSd)]; exact hd
  intro r
  induction r with
  | zero =>
    intro j b s hr hj hb Iv st
    have ej : j = ks.length := by omega
    subst ej
    obtain ⟨its, n, rv, ho⟩ := lst_at Iv upd_same
    obtain ⟨v1, v2, rfl, ⟨t1, rfl⟩, ⟨t2, rfl⟩⟩ : ∃ v1 v2, its = [v1, v2] ∧ RelV (.int b) v1 ∧ RelV (.int (kf b)) v2 := by
      cases rv with
      | cons r1 r2 =>
        cases r2 with
        | cons r2 r3 =>
          cases r3
          exact ⟨_, _, rfl, r1, r2⟩
    refine codeAny_builtin PySem.F.entry_max_loop ?_
    rw [Around.under_plainId PySem.F.plain_max_loop _]
    show wpAny _ X.A.in1 (seqItems? (.ref S) >>= _) _ _ _
    refine wpAny_bind (wpAny_seqItems ho rfl ?_)
    show wpAny _ X.A.in1 (tryCatch (pyNext (.ref I)) _ >>= _) _ _ _
    refine wpAny_bind (wpAny_tryCatch (W.done _ _ _ st fun h' tk' kp => ?_))
    have I1 : Inv X pins σ (upd Hd S (.lst [.int b, .int (kf b)])) { s with heap := h', toks := tk' } := Iv.turnedL (ch := [I]) (fun b o hb e => kp b o hb e) (fun b hb => by rw [List.mem_singleton.mp hb]; exact fI _)
    have nSI : S ∉ [I] := fun z => by
      have := (fI [.int b, .int (kf b)]).1
      rw [← List.mem_singleton.mp z, upd_same] at this
      cases this
    have ho' : h'.get? S = some { cls := .type "list", data := .seq [Value.int b t1, Value.int (kf b) t2].toArray n } := kp S _ nSI ho
    show wpAny _ X.A.in1 (updateSeq S (fun _ => #[]) >>= _) _ _ _
    refine wpAny_bind ?_
    refine wpAny_updateSeq ho' rfl (wpAny_bind (wpAny_letGo (wpAny_pure ?_)))
    have I2 := lst_put (ys := []) (its' := []) I1 upd_same ho' (Nat.zero_le _) .nil
    rw [upd_upd] at I2
    exact hR b t1 _ hb I2
  | succ r ih =>
    intro j b s hr hj hb Iv st
    have hlt : j < ks.length := by omega
    obtain ⟨its, n, rv, ho⟩ := lst_at Iv upd_same
    obtain ⟨v1, v2, rfl, ⟨t1, rfl⟩, ⟨t2, rfl⟩⟩ : ∃ v1 v2, its = [v1, v2] ∧ RelV (.int b) v1 ∧ RelV (.int (kf b)) v2 := by
      cases rv with
      | cons r1 r2 =>
        cases r2 with
        | cons r2 r3 =>
          cases r3
          exact ⟨_, _, rfl, r1, r2⟩
    refine codeAny_builtin PySem.F.entry_max_loop ?_
    rw [Around.under_plainId PySem.F.plain_max_loop _]
    show wpAny _ X.A.in1 (seqItems? (.ref S) >>= _) _ _ _
    refine wpAny_bind (wpAny_seqItems ho rfl ?_)
    show wpAny _ X.A.in1 (tryCatch (pyNext (.ref I)) _ >>= _) _ _ _
    refine wpAny_bind (wpAny_tryCatch (max_turn W hId hlt Iv st (fI _) fun k t sa hk Ia sta => ?_))
    have km : k ∈ ks := List.mem_of_getElem? hk
    show wpAny _ X.A.in1 (tryCatch (holding [.int k t] (call (.ref f) [.int k t])) _ >>= _) _ _ _
    refine wpAny_bind (wpAny_tryCatch (wpAny_holding (max_call W stI K (hHs _) (hd' _) km Ia sta (fI _) fun t' sb Ib stb => ?_)))
    show wpAny _ X.A.in1 (tryCatch (holding [.int k t, .int (kf k) t'] (richCompare .Gt (.int (kf k) t') (.int (kf b) t2) >>= _)) _ >>= _) _ _ _
    refine wpAny_bind (wpAny_tryCatch (wpAny_holding (wpAny_bind (PySem.P.gt_int ?_))))
    refine wpAny_bind (wpAny_holding (wpAny_truthy_bool ?_))
    refine wpAny_bind (wpAny_letGo (wpAny_pure ?_))
    have tk1 : ks.take (j + 1) = ks.take j ++ [k] := by rw [List.take_add_one, hk]; rfl
    by_cases hb' : kf k > kf b
    · simp only [hb', decide_true, if_true]
      obtain ⟨its2, n2, rv2, ho2⟩ := lst_at Ib upd_same
      refine wpAny_bind ?_
      have hz2 : its2.toArray.size ≤ sizeLine := by rw [List.size_toArray, ← rv2.length]; show 2 ≤ sizeLine; decide
      refine wpAny_updateSeq (hz := hz2) ho2 rfl (wpAny_bind (wpAny_letGo ?_))
      rw [hname]
      have I2 := lst_put (ys := [.int k, .int (kf k)]) (its' := [.int k t, .int (kf k) t']) Ib upd_same ho2 (by show 2 ≤ sizeLine; decide) (.cons ⟨_, rfl⟩ (.cons ⟨_, rfl⟩ .nil))
      rw [upd_upd] at I2
      refine wpAny_pure ⟨plainId_quiet PySem.F.plain_max_loop _, ih (j + 1) k _ (by omega) hlt ⟨km, fun x hx => ?_⟩ I2 (W.frame _ _ _ stb fun b' hb2 o e => ?_)⟩
      · rw [tk1] at hx
        rcases List.mem_append.mp hx with hx | hx
        · have := hb.2 x hx
          omega
        · rw [List.mem_singleton.mp hx]
          exact Int.le_refl _
      · have nb : b' ≠ S := fun z => by
          rcases List.mem_cons.mp hb2 with e' | e'
          · have := (fI []).1
            rw [← e', z, upd_same] at this
            cases this
          · exact hSd (z.symm.trans (List.mem_singleton.mp e'))
        exact (Heap.SameBut.update sb.heap S (Obj.mapSeq fun _ => #[Value.int k t, Value.int (kf k) t'])).2 b' nb |>.trans e
    · simp only [hb', decide_false, Bool.false_eq_true, if_false]
      refine wpAny_bind (wpAny_letGo ?_)
      rw [hname]
      refine wpAny_pure ⟨plainId_quiet PySem.F.plain_max_loop _, ih (j + 1) b _ (by omega) hlt ⟨hb.1, fun x hx => ?_⟩ Ib stb⟩
      rw [tk1] at hx
      rcases List.mem_append.mp hx with hx | hx
      · exact hb.2 x hx
      · rw [List.mem_singleton.mp hx]
        omega
theorem Walks.cast_n {prog : Program} {w : World} {A : Around} {I : Addr} {fp wr : List Addr} {n m : Nat} {P : Nat → Value → Prop} {St : Nat → Heap → Prop} (e : n = m) (W : Walks prog w A I fp wr n P St) : Walks prog w A I fp wr m P St := e ▸ W
/-- max(d, key=f) -/
theorem max_start {kvs : List (Key × V)} {Hs : Hp → Prop} {H : Hp} {s : Shared} {Q : VK} (hc : X.calm = true) (hd : H d = some (.frz od (.dK kvs))) (hks : kvs.map (·.1) = ks.map Sum.inl) (hne : ks ≠ [])
    (K : KeyFn X pins σ f ks kf Hs) (hHs : ∀ S xs, H S = none → Hs (upd H S (.lst xs))) (Iv : Inv X pins σ H s) (q : ∀ b S, BestOf kf ks ks.length b → H S = none → Q (.int b) (upd H S (.lst []))) :
    wpAny (model X.prog X.w) X.A (call (.builtin "max") [.ref d] [(Str.ofString "key", .ref f)]) (EP X pins σ Q) X.xe s := by
  have hname : (toString "max" ++ toString ".loop" : String) = "max.loop" := by decide
  obtain ⟨z, lo, vs, rel, dd⟩ := dk_rd Iv.hok (show Rd H d (.dK kvs) from .inr ⟨od, hd⟩)
  obtain ⟨ep, hat⟩ := dd.dictAt
  have hl : kvs.length = ks.length := by
    have e := congrArg List.length hks
    rw [List.length_map, List.length_map] at e
    exact e
  have lv : kvs.length = vs.length := Paired.length rel
  refine PyProof.Rows.kmk_tree PySem.F.kind_max PySem.F.plain_max PySem.F.entry_max (PyProof.Rows.kmk_max_key _ _) ?_
  show wpAny _ X.A.in1 (Builtin.Builtins.bindParams "max" ["key", "default"] 0 ⟨[], [(Str.ofString "key", .ref f)]⟩ >>= _) _ _ s
  refine wpAny_bind (wpAny_of_eq (show Builtin.Builtins.bindParams "max" ["key", "default"] 0 ⟨[], [(Str.ofString "key", .ref f)]⟩ = pure [some (.ref f), none] from rfl) ?_)
  refine wpAny_bind (wpAny_pure ?_)
  refine wpAny_bind (wpAny_pyIter_dict lo hat ?_)
  obtain ⟨I, eI⟩ : ∃ I, I = s.heap.objs.size := ⟨_, rfl⟩
  have hdl : d < s.heap.objs.size := hat.lt_size
  have hId : d ≠ I := by rw [eI]; exact Nat.ne_of_lt hdl
  have W0 := Walks.dictKeys (prog := X.prog) (w := X.w) (A := X.A.in1) (knd := mixKind X.prog X.w) (Iv.ok.hd hc) I d hId vs ep
  have st0 : (s.heap.push { cls := .type "dict_keyiterator", data := .fields #[.ref d, .int 0 0, .int vs.length 0, .int ep 0] }).IsKeyIter I d 0 vs.length ep ∧ (s.heap.push { cls := .type "dict_keyiterator", data := .fields #[.ref d, .int 0 0, .int vs.length 0, .int ep 0] }).DictAt (mixKind X.prog X.w) d vs ep := by
    rw [eI]
    exact ⟨⟨_, Heap.get?_push_size _ rfl, rfl, rfl⟩, hat.push _⟩
  rw [← eI]
  have W : Walks X.prog X.w X.A.in1 I [I, d] [I] ks.length (fun i v => ∃ k t, ks[i]? = some k ∧ v = .int k t) (fun i h => h.IsKeyIter I d i vs.length ep ∧ Heap.DictAt (mixKind X.prog X.w) h d vs ep) := by
    have e : vs.length = ks.length := by omega
    refine Walks.cast_n e ?_
    refine W0.mono_item fun i v hi ⟨k, x, e1, e2⟩ => ?_
    have e3 : (kvs.map (·.1))[i]? = some k := by
      obtain ⟨p, hp, hr⟩ : ∃ p, kvs[i]? = some p ∧ p.1 = k := by
        have hi2 : i < kvs.length := by omega
        have ep : kvs[i]? = some kvs[i] := List.getElem?_eq_getElem hi2
        obtain ⟨q, g1, g2, g3⟩ := paired_get rel ep
        rw [e1] at g1
        cases g1
        exact ⟨_, ep, g2⟩
      rw [List.getElem?_map, hp, ← hr]
      rfl
    rw [hks, List.getElem?_map] at e3
    cases e4 : ks[i]? with
    | none => rw [e4] at e3; cases e3
    | some y =>
      rw [e4] at e3
      have e5 : Sum.inl y = k := Option.some.inj e3
      subst e5
      rcases keyIs_shape (show keyIs (Sum.inl y) v = true from e2) with ⟨i, t, ek, ev⟩ | ⟨z, t, ek, ev⟩
      · cases ek
        exact ⟨y, t, rfl, ev⟩
      · cases ek
  have I1 : Inv X pins σ H { s with heap := s.heap.push { cls := .type "dict_keyiterator", data := .fields #[.ref d, .int 0 0, .int vs.length 0, .int ep 0] } } := Iv.kept (t' := s.toks) fun b o e => Heap.get?_push_of_some _ e
  refine wpAny_bind (wpAny_newList ?_ (Nat.zero_le _))
  obtain ⟨h1, eh1⟩ : ∃ h1, h1 = s.heap.push { cls := .type "dict_keyiterator", data := .fields #[.ref d, .int 0 0, .int vs.length 0, .int ep 0] } := ⟨_, rfl⟩
  rw [← eh1] at I1 st0
  have sz1 : h1.objs.size = I + 1 := by rw [eh1, eI]; exact size_push' ..
  obtain ⟨S, eS⟩ : ∃ S, S = h1.objs.size := ⟨_, rfl⟩
  have hSn : H S = none := I1.hok.fresh (Nat.le_of_eq eS.symm)
  have hSd : S ≠ d := by rw [eS, sz1, eI]; exact Nat.ne_of_gt (Nat.lt_succ_of_lt hdl)
  have hSI : S ≠ I := by rw [eS, sz1]; exact Nat.succ_ne_self _
  have I2 : Inv X pins σ (upd H S (.lst [])) { s with heap := h1.push (seqObj "list" #[] 0) } := I1.laid (t' := s.toks) (fun b o e => Heap.get?_push_of_some _ e) (Nat.le_of_eq eS.symm) ⟨Nat.zero_le _, [], 0, .nil, by rw [eS]; exact Heap.get?_push_size _ rfl⟩
  have fI : ∀ xs, FpOk X pins (upd H S (.lst xs)) I := fun xs => Iv.fpOk (Nat.le_of_eq eI.symm) (by rw [upd_ne hSI.symm]; exact Iv.hok.fresh (Nat.le_of_eq eI.symm))
  have st2 := W.frame 0 _ (h1.push (seqObj "list" #[] 0)) st0 fun b _ o e => Heap.get?_push_of_some _ e
  have stI : ∀ i h, (Heap.IsKeyIter h I d i vs.length ep ∧ h.DictAt (mixKind X.prog X.w) d vs ep) → ∃ o, h.get? I = some o ∧ ∀ v, o.data ≠ .cell v := fun i h ⟨⟨o, e1, e2, e3⟩, _⟩ => ⟨o, e1, fun v z => by rw [e3] at z; cases z⟩
  rw [hname]
  show wpAny _ _ _ _ _ { s with heap := (s.heap.push _).push (seqObj "list" #[] 0) }
  rw [← eh1, ← eS]
  refine wpAny_pure ⟨plainId_quiet PySem.F.plain_max_loop _, ?_⟩
  -- the first turn
  refine codeAny_builtin PySem.F.entry_max_loop ?_
  rw [Around.under_plainId PySem.F.plain_max_loop _]
  show wpAny _ X.A.in1 (seqItems? (.ref S) >>= _) _ _ _
  have gS : (h1.push (seqObj "list" #[] 0)).get? S = some (seqObj "list" #[] 0) := by rw [eS]; exact Heap.get?_push_size _ rfl
  refine wpAny_bind (wpAny_seqItems gS rfl ?_)
  show wpAny _ X.A.in1 (tryCatch (pyNext (.ref I)) _ >>= _) _ _ _
  have h0 : 0 < ks.length := List.length_pos_iff.mpr hne
  refine wpAny_bind (wpAny_tryCatch (max_turn W hId h0 I2 st2 (fI _) fun k t sa hk Ia sta => ?_))
  have km : k ∈ ks := List.mem_of_getElem? hk
  show wpAny _ X.A.in1 (tryCatch (holding [.int k t] (call (.ref f) [.int k t])) _ >>= _) _ _ _
  refine wpAny_bind (wpAny_tryCatch (wpAny_holding (max_call (od := od) (u := .dK kvs) W stI K (hHs S _ hSn) (by rw [upd_ne hSd.symm]; exact hd) km Ia sta (fI _) fun t' sb Ib stb => ?_)))
  obtain ⟨its2, n2, rv2, ho2⟩ := lst_at Ib upd_same
  have hz2 : its2.toArray.size ≤ sizeLine := by rw [List.size_toArray, ← rv2.length]; exact Nat.zero_le _
  show wpAny _ X.A.in1 (updateSeq S (fun _ => #[.int k t, .int (kf k) t']) >>= _) _ _ _
  refine wpAny_bind ?_
  refine wpAny_updateSeq (hz := hz2) ho2 rfl ?_
  rw [hname]
  have I3 := lst_put (ys := [.int k, .int (kf k)]) (its' := [.int k t, .int (kf k) t']) Ib upd_same ho2 (by show 2 ≤ sizeLine; decide) (.cons ⟨_, rfl⟩ (.cons ⟨_, rfl⟩ .nil))
  rw [upd_upd] at I3
  refine wpAny_pure ⟨plainId_quiet PySem.F.plain_max_loop _, max_loop W stI hId K (fun xs => hHs S xs hSn) hd hSd fI (fun b t s' hb I' => ⟨.int b, _, I', ⟨t, rfl⟩, q b S hb hSn⟩) _ 1 k _ rfl h0 ⟨km, fun x hx => ?_⟩ I3 (W.frame _ _ _ stb fun b' hb2 o e => ?_)⟩
  · have e : ks.take 1 = [k] := by
      cases ks with
      | nil => cases hk
      | cons a r =>
        cases Option.some.inj hk
        rfl
    rw [e] at hx
    rw [List.mem_singleton.mp hx]
    exact Int.le_refl _
  · have nb : b' ≠ S := fun z => by
      rcases List.mem_cons.mp hb2 with e' | e'
      · exact hSI (z.symm.trans e')
      · exact hSd (z.symm.trans (List.mem_singleton.mp e'))
    exact (Heap.SameBut.update sb.heap S (Obj.mapSeq fun _ => #[Value.int k t, Value.int (kf k) t'])).2 b' nb |>.trans e
end
/-! ### the key: a lambda with one parameter -/
abbrev lamNF (X : Cx) (params : Arguments) (scope : Scope) (c' : Addr) : NdefX.NF := ⟨"<lambda>", X.env.qual ++ "<lambda>", params, [], scope, cloFrom X.env.cells scope.names [], c'⟩
/-- the context of its body -/
abbrev lamX (X : Cx) (Nl : List Str) (params : Arguments) (scope : Scope) (f c' : Addr) (A : Around) (outer : List Env) (s : Shared) (H : Hp) : Cx := NdefX.ncx CX0 X.prog X.w X.K X.mg X.base Nl (lamNF X params scope c') f A outer s H E0
theorem key_lam {k : Nat} {f c' : Addr} {pm ctv : Value} {params : Arguments} {body : Expr} {scope : Scope} {Nl ps fr : List Str} {js : List Nat} {tb : TE} {ks : List Int} {kf : Int → Int} {Hs : Hp → Prop} (hr : Room (k + 2) X.A) (S : NdefX.NScope Nl ps fr scope) (hps : ps.length = 1)
    (Cp : NdefX.Caps X (cloFrom X.env.cells scope.names []) fr js)
    (hbind : ∀ (u : Value) (pm ctv : Value) (c' : Addr), bindArgs (PySem.W.kla_fn "<lambda>" (X.env.qual ++ "<lambda>") params body scope (cloFrom X.env.cells scope.names []) pm (.ref c') ctv) ⟨[u], []⟩ = pure (ps.zip [u]))
    (hco : ∀ H, Hs H → H c' = some (LamX.CodeO c' (X.env.qual ++ "<lambda>")))
    (hbody : ∀ (A : Around) (outer : List Env) (s : Shared) (H : Hp), Room k (A.deeper (NdefX.envF (lamNF X params scope c') f s.heap.objs.size)) → PE (lamX X Nl params scope f c' A outer s H) body tb)
    (hrun : ∀ i ∈ ks, ∀ H, Hs H → ∀ Q : VK, Q (.int (kf i)) H → tb (NdefX.startF Nl [.int i] (js.map (NdefX.slotAt σ))) H Q) :
    KeyFn X ((f, PySem.W.kla_obj "<lambda>" (X.env.qual ++ "<lambda>") params body scope (cloFrom X.env.cells scope.names []) pm c' ctv) :: pins) σ f ks kf Hs := by
  intro i hi t s pn H E hH I
  have of1 : s.heap.get? f = some (PySem.W.kla_obj "<lambda>" (X.env.qual ++ "<lambda>") params body scope (cloFrom X.env.cells scope.names []) pm c' ctv) := (I.pin (f, _) (List.mem_append_right _ (List.mem_append_right _ List.mem_cons_self))).1
  obtain ⟨⟨oc, vs, tt, hoc, hdc, hvc⟩, _, _⟩ := I.hok c' _ (hco H hH)
  have C := NdefX.cells_of I Cp
  have hr1 : Room (k + 1) X.A.in1 := hr.in1
  have rc : codeAny (model X.prog X.w) X.A.in1 (.call (.ref f) ⟨[.int i t], []⟩) (CR CX0 X.stack X.prog X.w H s (fun v H' => v = .int (kf i) ∧ H' = H) E0) s := by
    refine PySem.W.kla_callFunE hr1.depth of1 rfl S.co S.gen rfl ⟨c', oc, vs, tt, rfl, hoc, hdc, hvc⟩ ?_
    rw [hbind]
    refine wpAny_pure (wpAny_newFunctionEnv S.nocell (fun ⟨n, _⟩ hy => S.par n (List.of_mem_zip hy).1) (fun h₁ hns hsb => ⟨I.nolimit.fresh _ hsb, ?_⟩) S.kind)
    show codeAny _ _ (.expr body (NdefX.envF (lamNF X params scope c') f s.heap.objs.size)) _ _
    have kp : ∀ b o, s.heap.get? b = some o → h₁.get? b = some o := fun b o e => hsb.extBut b o (Nat.ne_of_lt (Heap.lt_size e)) (Heap.get?_push_of_some _ e)
    have J : Inv (lamX X Nl params scope f c' X.A.in1 X.stack s H) [] (NdefX.startF Nl [.int i] (js.map (NdefX.slotAt σ))) H { s with heap := h₁, toks := s.toks + (ps.zip [Value.int i t]).length } :=
      NdefX.inv_startN (F := lamNF X params scope c') (us := [.int i t]) S hr1.hd I.env0.in1 (by rw [hps]; rfl) (.cons ⟨t, rfl⟩ .nil) C hns kp
    refine PySem.W.kla_codeExpr (wpAny_mono ((hbody _ _ s H (hr1.deeper _)).run [] _ _ H _ J (hrun i hi H hH (fun v H' => v = .int (kf i) ∧ H' = H) ⟨rfl, rfl⟩)) (fun v s' hq => ?_) fun e s' hq => hq)
    obtain ⟨w', H', J', rv, q⟩ := hq
    exact ⟨w', H', J'.os, J'.bare, J'.base, J'.hok, rv, q⟩
  refine wpAny_call (codeAny_mono rc fun r s' hq => ?_)
  cases r with
  | error e => exact (show False from hq).elim
  | ok fl =>
    cases fl with
    | ret u =>
      obtain ⟨v, H', I', rv, ev, eH⟩ := I.after hq
      subst ev eH
      obtain ⟨t', eu⟩ := rv
      exact ⟨t', eu, I'⟩
    | next => exact False.elim hq
    | brk => exact False.elim hq
    | cont => exact False.elim hq
/-- max(e, key=lambda ..), e a dict: the dict is locked meanwhile -/
def tMaxKey (T : List (Addr × Str)) (te : TE) (Nl : List Str) (js : List Nat) (tb : TE) : TE := fun σ H Q => te σ H fun x H1 => LamX.Tabs T H1 ∧ ∃ (d : Addr) (kvs : List (Key × V)) (ks : List Int) (kf : Int → Int), x = .ref d ∧ H1 d = some (.dK kvs) ∧ kvs.map (·.1) = ks.map Sum.inl ∧ ks ≠ [] ∧
  ∀ H2, LamX.ExtN H1 H2 → LamX.Tabs T H2 → (∀ i ∈ ks, ∀ H3, Rd H3 d (.dK kvs) → (∀ b u, b ≠ d → H2 b = some u → H3 b = some u) → ∀ Q' : VK, Q' (.int (kf i)) H3 → tb (NdefX.startF Nl [.int i] (js.map (NdefX.slotAt σ))) H3 Q') ∧
    ∀ b ∈ ks, (∀ j ∈ ks, kf j ≤ kf b) → ∀ H3, Same H2 H3 → Q (.int b) H3
theorem pe_maxKey {T : List (Addr × Str)} {c P : Addr} {k : Nat} {e : Expr} {te tb : TE} {params : Arguments} {body : Expr} {scope : Scope} {lpos kpos p pos : Pos} {Nl ps fr : List Str} {js : List Nat} (hc : X.calm = true) (hr : Room (k + 2) X.A) (he : PE X e te) (hm : X.mg "max" = none)
    (S : NdefX.NScope Nl ps fr scope) (hps : ps.length = 1) (hfree : ∀ y ∈ scope.names, y.2 = .free → X.env.scope.names.lookup y.1 = some .cell ∨ X.env.scope.names.lookup y.1 = some .free) (hfr : ∀ y ∈ fr, (y, NameKind.free) ∈ scope.names) (hjs : js.map (fun j => X.N[j]?) = fr.map some)
    (hbind : ∀ (u : Value) (pm ctv : Value) (c' : Addr), bindArgs (PySem.W.kla_fn "<lambda>" (X.env.qual ++ "<lambda>") params body scope (cloFrom X.env.cells scope.names []) pm (.ref c') ctv) ⟨[u], []⟩ = pure (ps.zip [u]))
    (TB : LamX.TabB X.base X.mg c P) (hcode : X.env.code = .ref c) (hmT : (P, X.env.qual ++ "<lambda>") ∈ T) (hu : ∀ p ∈ T, p.1 = P → p.2 = X.env.qual ++ "<lambda>") (hdef : defaultsOf params X.env = ([], []))
    (hbody : ∀ (f c' : Addr) (A : Around) (outer : List Env) (s : Shared) (H : Hp), Room k (A.deeper (NdefX.envF (lamNF X params scope c') f s.heap.objs.size)) → PE (lamX X Nl params scope f c' A outer s H) body tb)
    (hg : Gl X "max" := by rfl) (hst : backTo pos (starEach [e] X.env) = (false, eval e X.env) :: backTo pos (starEach [] X.env) := by rfl) (hpl : (backTo pos (starEach [e] X.env)).any (·.1) = false := by rfl) :
    PE X (.Call (.Name "max" p) [e] [⟨some "key", .Lambda params body scope lpos, kpos⟩] pos) (tMaxKey T te Nl js tb) := by
  refine ⟨fun pins s σ H Q I h => ?_⟩
  refine wpAny_Call_Name_kw (ld_blt I hg hm (show bootBuiltins "max" = some (.builtin "max") by decide +kernel) ?_)
  refine PyProof.Rows.callWith_kw ?_ hst hpl (by rfl) (by rfl)
  rw [hst]
  refine Calls.spliced_cons (thn (he.run pins s σ H _ I h) fun u s1 ⟨x, H1, I1, rx, hT, d, kvs, ks, kf, ex, hd, hks, hne, q⟩ => Calls.spliced_nil ?_)
  subst ex
  obtain rfl : u = Value.ref d := rx
  have free : ∀ y ∈ scope.names, y.2 = .free → ∃ c, X.env.cells.lookup y.1 = some c := fun y hy e => (hfree y hy e).elim (fun z => I.ok.has _ (.inl z)) fun z => I.ok.has _ (.inr z)
  show wpAny _ _ (evalAll [(do let v ← eval (.Lambda params body scope lpos) X.env; standAt pos; pure v)]) _ _ s1
  refine wpAny_evalAll_cons (wpAny_bind (LamX.lam_make2 I1 TB hcode hmT hu hT hdef free fun f c' pm ctv H2 s2 I2 eN T2 hf hfn hfr2 hco => wpAny_bind (wpAny_standAt (wpAny_pure (wpAny_evalAll_nil ?_)))))
  show wpAny _ _ (call (.builtin "max") [.ref d] [(Str.ofString "key", .ref f)]) _ _ s2
  obtain ⟨q1, q2⟩ := q H2 eN T2
  have hd2 : H2 d = some (.dK kvs) := eN d _ hd fun ps z => by cases z
  have Cp := NdefX.Caps.made (X := X) (scope := scope) (fr := fr) (js := js) I.ok hfree hfr hjs
  obtain ⟨od, I3⟩ := I2.lock hd2 True.intro
  have nf := I2.nofrz hd2 True.intro
  have fd : f ≠ d := fun z => by rw [z, hd2] at hfn; cases hfn
  have I4 : Inv X ((f, PySem.W.kla_obj "<lambda>" (X.env.qual ++ "<lambda>") params body scope (cloFrom X.env.cells scope.names []) pm c' ctv) :: pins) σ (upd H2 d (.frz od (.dK kvs))) s2 := I3.pins_of fun r hr => by
    rcases List.mem_cons.mp hr with e' | e'
    · rw [e']
      refine ⟨hf, by rw [upd_ne fd]; exact hfn, fun z => ?_, fun z => ?_, fun v z => by cases z⟩
      · obtain ⟨m, ⟨o, es, ep, ho, hd, _⟩, _⟩ := I2.loc
        have z' : f = X.env.locals := z
        rw [← z', hf] at ho
        cases ho
        cases hd
      · refine hfr2 ?_
        rcases I2.ok.stk with e2 | ⟨e2, _⟩
        · rw [e2]
          exact z
        · rw [e2]
          unfold frs
          rw [List.filterMap_cons]
          split
          · exact z
          · exact List.mem_cons_of_mem _ z
    · exact I3.pin r (List.mem_append_right _ e')
  have cd : c' ≠ d := fun z => by
    rw [z, hd2] at hco
    unfold LamX.CodeO at hco
    cases hco
  have K := key_lam (X := X) (pins := pins) (σ := σ) (f := f) (c' := c') (pm := pm) (ctv := ctv) (params := params) (body := body) (scope := scope) (ks := ks) (kf := kf) (tb := tb)
    (Hs := fun H3 => H3 c' = some (LamX.CodeO c' (X.env.qual ++ "<lambda>")) ∧ Rd H3 d (.dK kvs) ∧ ∀ b u, b ≠ d → H2 b = some u → H3 b = some u) hr S hps Cp hbind (fun H3 z => z.1) (fun A outer s H hr => hbody f c' A outer s H hr) (fun i hi H3 z Q' q' => q1 i hi H3 z.2.1 z.2.2 Q' q')
  have at_ : ∀ Sx xs, upd H2 d (.frz od (.dK kvs)) Sx = none → Rd (upd (upd H2 d (.frz od (.dK kvs))) Sx (.lst xs)) d (.dK kvs) ∧ ∀ b u, b ≠ d → H2 b = some u → upd (upd H2 d (.frz od (.dK kvs))) Sx (.lst xs) b = some u := fun Sx xs hn => by
    have nd : d ≠ Sx := fun z => by rw [← z, upd_same] at hn; cases hn
    refine ⟨.inr ⟨od, by rw [upd_ne nd, upd_same]⟩, fun b u hb e2 => ?_⟩
    have nb : b ≠ Sx := fun z => by rw [← z, upd_ne hb, e2] at hn; cases hn
    rw [upd_ne nb, upd_ne hb]
    exact e2
  refine thn (max_start (Q := fun v H' => H' d = some (.frz od (.dK kvs)) ∧ Q v (upd H' d (.dK kvs))) hc upd_same hks hne K (fun Sx xs hn => ⟨(at_ Sx xs hn).2 _ _ cd hco, at_ Sx xs hn⟩) I4 fun b Sx hb hn => ⟨?_, ?_⟩) fun v s' ⟨x, H', I', r, e2, q'⟩ => ⟨x, _, (ClX.unpin I').unlock e2 nf, r, q'⟩
  · have nd : d ≠ Sx := fun z => by rw [← z, upd_same] at hn; cases hn
    rw [upd_ne nd, upd_same]
  · refine q2 b hb.1 (fun j hj => hb.2 j (by rw [List.take_length]; exact hj)) _ fun a u e2 => ?_
    by_cases ha : a = d
    · rw [ha] at e2 ⊢
      rw [hd2] at e2
      rw [upd_same]
      exact e2
    · rw [upd_ne ha]
      exact (at_ Sx [] hn).2 a u ha e2
end
theorem hu20 {A : Around} {n : Nat} (hr : Room n A) : A.units + 20 < cLine := by have := hr.un; omega
/-- either of two readings of a call -/
theorem callR_or {X : Cx} {f : Value} {r1 r2 : List V → Hp → VK → Prop} (h1 : CallR X f r1) (h2 : CallR X f r2) : CallR X f (fun xs H Q => r1 xs H Q ∨ r2 xs H Q) := fun pins s σ H xs us Q I r h => h.elim (fun z => h1 pins s σ H xs us Q I r z) fun z => h2 pins s σ H xs us Q I r z
end Al
set_option maxHeartbeats 4000000
/-! D4: is_step. -/
namespace Al
open PySem PySem.Spec PyProof.Rows L2
section
variable {P : Program} {w : World} {K : PySem.W.Frag} {mg : Str → Option Value} {base : Heap}
/-- known words: the empty one is among them -/
def KnownAt (H : Hp) (d : Addr) (n : Nat) : Prop := ∃ kvs : List (Key × V), H d = some (.dK kvs) ∧ kvs.length ≤ n ∧ (valV kvs (.inr "")).isSome = true
theorem KnownAt.put {H : Hp} {d : Addr} {kvs : List (Key × V)} {n : Nat} {x : Str} {v : V} (h2 : kvs.length ≤ n) (h3 : (valV kvs (.inr "")).isSome = true) : KnownAt (upd H d (.dK (putK kvs (.inr x) v))) d (n + 1) := by
  refine ⟨_, upd_same, ?_, ?_⟩
  · have := length_putK kvs (.inr x) v
    omega
  · rw [valV_put]
    split
    · rfl
    · exact h3
def spStep : Sp := fun vs H Q _ => ∃ (ta kd : Addr) (n m : Nat) (t : Stp), vs = [.ref ta, .int n, .ref kd] ∧ StpR H ta t ∧ StpOk n t ∧ KnownAt H kd m ∧ m + 2 ≤ 1000000 ∧ ∀ H', Sbut kd H H' → KnownAt H' kd (m + 2) → Q (.bl true) H'
theorem ok_is_step (T : Txt K mg) : GFn P w K mg base 2 "is_step" spStep := by
  refine T.okG h_is_step rfl (by decide +kernel) sc_is_step rfl rfl b_is_step (fun vs H Q E h => ?_) (fun cdv A outer s H vs Q E hr h => ?_)
  · obtain ⟨ta, kd, n, m, t, rfl, _⟩ := h
    rfl
  · obtain ⟨ta, kd, n, m, t, rfl, ht, ok, hk, hm, q⟩ := h
    refine ⟨_, (pss_cons (ps_if (PW.pt (pw_or (pt_not (pt_val (pe_isi K "tuple" (T.f "isinstance") (T.f "tuple") (pv 0)))) (pw_or1 (pt_cmpR op_ne (pe_callB (cLen K) (by rfl) (T.f "len") (by decide +kernel) (pa_cons (pv 0) pa_nil)) pe_int (nomark _))))) 
        (pss_one (ps_ret pe_bl))
        pss_nil)
        (pss_cons (ps_asg (pv 0) (pg_t K 4 rfl (pgs_cons (pg_l (i := 3) sc_is_step.nd rfl rfl) (pgs_cons (pg_l (i := 4) sc_is_step.nd rfl rfl) (pgs_cons (pg_l (i := 5) sc_is_step.nd rfl rfl) (pgs_cons (pg_l (i := 6) sc_is_step.nd rfl rfl) pgs_nil))))))
        (pss_cons (ps_if (PW.pt (pw_or (pt_not (pt_val (pe_f (ok_is_number T) (hr.mono (by decide)) (pa_cons (pv 3) pa_nil)))) (pw_or (pt_not (pt_val (pe_f (ok_is_number T) (hr.mono (by decide)) (pa_cons (pv 6) pa_nil)))) (pw_or (pt_not (pt_chain op_le op_lt pe_int (pv 3) (pv 1))) (pw_or1 (pt_not (pt_chain op_le op_lt pe_int (pv 6) (pv 1)))))))) 
        (pss_one (ps_ret pe_bl))
        pss_nil)
        (pss_cons (ps_for PassesOwn.never rfl (pi_tup (pe_tup (pa_cons (pv 4) (pa_cons (pv 5) pa_nil)))) (pg_l (i := 7) sc_is_step.nd rfl rfl)
        (pss_cons (ps_if (PW.pt (pw_or (pt_not (pt_val (pe_isi K "str" (T.f "isinstance") (T.f "str") (pv 7)))) (pw_or1 (PW.pt (pw_and (pt_cmp (pc_dnotin (hu_of hr) (pv 7) (pv 2))) (pw_and1 (pt_not (pt_val (pe_f (ok_is_word T) (hr.mono (by decide)) (pa_cons (pv 7) pa_nil)))))))))) 
          (pss_one (ps_ret pe_bl))
          pss_nil)
          (pss_one (ps_dput (hu_of hr) (pv 2) (pv 7) pe_bl rfl))))
        (pss_one (ps_ret pe_bl)))))), ?_⟩
    refine ⟨_, rfl, _, "tuple", true, rfl, tyTup (SqT.of ht), by decide +kernel, true, rfl, ?_⟩
    refine ⟨_, rfl, _, _, rfl, .inr (SqT.of ht), rfl, false, rfl, ?_⟩
    refine ⟨_, rfl, ta, t.vs, rfl, SqT.of ht, rfl, _, _, rfl, _, _, rfl, _, _, rfl, _, _, rfl, rfl, ?_⟩
    refine ⟨_, rfl, t.s, rfl, true, rfl, _, rfl, t.g, rfl, true, rfl, ?_⟩
    refine ⟨_, rfl, 0, t.s, rfl, rfl, true, blT ok.s0, _, rfl, t.s, n, rfl, rfl, true, blT ok.s1, ?_⟩
    refine ⟨_, rfl, 0, t.g, rfl, rfl, true, blT ok.g0, _, rfl, t.g, n, rfl, rfl, true, blT ok.g1, ?_⟩
    refine ⟨_, rfl, _, rfl, (by show 2 ≤ sizeLine; decide), fun p hp => ⟨p, rfl, ⟨_, SqT.of upd_same⟩, ?_⟩⟩
    refine for_it (walk_tup (xs := [V.str t.k, V.str t.w])) (fun i σ H' => ∃ o, σ = [some (.ref ta), some (.int n), some (.ref kd), some (.int t.s), some (.str t.k), some (.str t.w), some (.int t.g), o] ∧ Sbut kd H H' ∧ KnownAt H' kd (m + i) ∧ H' p = some (.tup [V.str t.k, V.str t.w]))
      ⟨none, rfl, .of (smNew hp), ?_, upd_same⟩ (fun i σ H' _ ⟨_, _, _, _, e⟩ => SqT.of e) ?_ ?_
    · obtain ⟨kvs, a, b, c⟩ := hk
      exact ⟨kvs, smNew hp _ _ a, b, c⟩
    · rintro i x σ H1 H2 hi ⟨o, rfl, sb, ⟨kvs, a, b, c⟩, ep⟩ ⟨rfl, hx⟩
      have npk : p ≠ kd := fun z => by rw [z, a] at ep; cases ep
      obtain ⟨z, rfl, hz⟩ : ∃ z : Str, x = .str z ∧ WordOr z := by
        rcases i with _ | _ | i
        · exact ⟨t.k, (Option.some.inj hx).symm, ok.kw⟩
        · exact ⟨t.w, (Option.some.inj hx).symm, ok.ww⟩
        · exact absurd hi (by simp)
      refine ⟨_, rfl, _, "str", true, rfl, .base (.str _), by decide +kernel, true, rfl, ?_⟩
      have put : ∀ H3, Same H2 H3 → sDPut (tVar 2) (tVar 7) (tC (.bl true)) ⟨fun σ H' => ∃ o, σ = [some (.ref ta), some (.int n), some (.ref kd), some (.int t.s), some (.str t.k), some (.str t.w), some (.int t.g), o] ∧ Sbut kd H H' ∧ KnownAt H' kd (m + (i + 1)) ∧ H' p = some (.tup [V.str t.k, V.str t.w]), Q, fun _ _ => False, fun _ _ => False⟩
          [some (.ref ta), some (.int n), some (.ref kd), some (.int t.s), some (.str t.k), some (.str t.w), some (.int t.g), some (.str z)] H3 := fun H3 s3 =>
        ⟨_, rfl, _, rfl, kd, _, rfl, DPut.k (k := .inr z) (s3 _ _ a) (szLt (by simp at hi; omega)), _, rfl, sb.trans ((Sbut.of s3).trans .upd), KnownAt.put b c, by rw [upd_ne npk]; exact s3 _ _ ep⟩
      refine ⟨_, rfl, _, rfl, kd, _, rfl, DGet.k (k := .inr z) a, _, rfl, ?_⟩
      cases hv : (valV kvs (.inr z)).isSome with
      | true => exact put H2 (Same.refl _)
      | false =>
        refine ⟨_, rfl, z, rfl, ?_, fun H3 s3 => ⟨true, rfl, put H3 s3⟩⟩
        rcases hz with rfl | hz
        · rw [c] at hv
          cases hv
        · exact hz
    · rintro σ H1 ⟨o, rfl, sb, kn, ep⟩
      exact q H1 sb kn
end
end Al
set_option maxHeartbeats 4000000
/-! M1: a dict of lists for the states; words of lists. -/
namespace Al
open PySem PySem.Spec PyProof.Rows L2
/-! ### plain -/
theorem two_len {α : Type} {p q : α} : ∀ {xs : List α}, xs.Nodup → (∀ a ∈ xs, a = p ∨ a = q) → xs.length ≤ 2
  | [], _, _ => by simp
  | [_], _, _ => by simp
  | [_, _], _, _ => by simp
  | a :: b :: c :: r, h, k => by
    have ha := k a (by simp)
    have hb := k b (by simp)
    have hc := k c (by simp)
    simp at h
    rcases ha with rfl | rfl <;> rcases hb with rfl | rfl <;> rcases hc with rfl | rfl <;> simp at h
theorem inr_keys : ∀ {kvs : List (Key × V)}, (∀ k ∈ kvs.map (·.1), ∃ x, k = Sum.inr x) → ∃ ks : List Str, kvs.map (·.1) = ks.map Sum.inr
  | [], _ => ⟨[], rfl⟩
  | p :: kvs, h => by
    obtain ⟨ks, e⟩ := inr_keys (kvs := kvs) fun k hk => h k (by simp at hk ⊢; exact .inr hk)
    obtain ⟨x, ex⟩ := h p.1 (by simp)
    exact ⟨x :: ks, by rw [List.map_cons, List.map_cons, e, ex]⟩
theorem inl_keys : ∀ {kvs : List (Key × V)}, (∀ k ∈ kvs.map (·.1), ∃ x : Int, k = Sum.inl x) → ∃ ks : List Int, kvs.map (·.1) = ks.map Sum.inl
  | [], _ => ⟨[], rfl⟩
  | p :: kvs, h => by
    obtain ⟨ks, e⟩ := inl_keys (kvs := kvs) fun k hk => h k (by simp at hk ⊢; exact .inr hk)
    obtain ⟨x, ex⟩ := h p.1 (by simp)
    exact ⟨x :: ks, by rw [List.map_cons, List.map_cons, e, ex]⟩
theorem nodup_map_inv {α β : Type} {f : α → β} {xs : List α} (h : (xs.map f).Nodup) : xs.Nodup := by
  induction xs with
  | nil => exact .nil
  | cons a r ih =>
    rw [List.map_cons] at h
    obtain ⟨h1, h2⟩ := List.nodup_cons.mp h
    exact List.nodup_cons.mpr ⟨fun z => h1 (List.mem_map_of_mem z), ih h2⟩
theorem same_but {H H1 H2 : Hp} {D : Addr} (hn : H D = none) (s : Same H H1) (b : Sbut D H1 H2) : Same H H2 := fun a o e => b a o (ne_of_none e hn) (s a o e)
theorem none_same {H H1 : Hp} {p : Addr} (s : Same H H1) (h : H1 p = none) : H p = none := by
  cases e : H p with
  | none => rfl
  | some o => rw [s p o e] at h; cases h
/-! ### a list for each state -/
theorem wayKvs_succ (n : Nat) (wa : Nat → Addr) : wayKvs (n + 1) wa = wayKvs n wa ++ [(.inl (n : Int), .ref (wa n))] := by
  unfold wayKvs
  rw [List.range_succ, List.map_append]
  rfl
theorem wayKvs_congr {n : Nat} {wa wb : Nat → Addr} (h : ∀ s, s < n → wa s = wb s) : wayKvs n wa = wayKvs n wb := by
  unfold wayKvs
  refine List.map_congr_left fun s hs => ?_
  rw [h s (List.mem_range.mp hs)]
theorem wayKvs_none (n : Nat) (wa : Nat → Addr) (s : Nat) (h : n ≤ s) : valV (wayKvs n wa) (.inl (s : Int)) = none := by
  cases e : valV (wayKvs n wa) (.inl (s : Int)) with
  | none => rfl
  | some v =>
    have := valV_mem.mp (show (valV (wayKvs n wa) (.inl (s : Int))).isSome = true by rw [e]; rfl)
    unfold wayKvs at this
    rw [List.map_map] at this
    obtain ⟨i, hi, e2⟩ := List.mem_map.mp this
    have h1 := List.mem_range.mp hi
    have h2 : (i : Int) = (s : Int) := Sum.inl.inj e2
    omega
theorem wayKvs_len (n : Nat) (wa : Nat → Addr) : (wayKvs n wa).length = n := by
  unfold wayKvs
  rw [List.length_map, List.length_range]
/-- the dict at d has for each state below n the list at wa state, with the items f state -/
structure LD (H : Hp) (d : Addr) (n : Nat) (wa : Nat → Addr) (f : Nat → List V) : Prop where
  dk : H d = some (.dK (wayKvs n wa))
  ls : ∀ s, s < n → H (wa s) = some (.lst (f s))
  inj : ∀ s t, s < n → t < n → wa s = wa t → s = t
theorem LD.sm {H H' : Hp} {d : Addr} {n : Nat} {wa : Nat → Addr} {f : Nat → List V} (s : Same H H') (h : LD H d n wa f) : LD H' d n wa f := ⟨s _ _ h.dk, fun i hi => s _ _ (h.ls i hi), h.inj⟩
theorem LD.sb {H H' : Hp} {d x : Addr} {n : Nat} {wa : Nat → Addr} {f : Nat → List V} {o : HO} (hx : H x = some o) (n1 : ∀ kvs, o ≠ .dK kvs) (n2 : ∀ xs, o ≠ .lst xs) (s : Sbut x H H') (h : LD H d n wa f) : LD H' d n wa f :=
  ⟨s _ _ (fun z => by have e := h.dk; rw [z, hx] at e; exact n1 _ (Option.some.inj e)) h.dk, fun i hi => s _ _ (fun z => by have e := h.ls i hi; rw [z, hx] at e; exact n2 _ (Option.some.inj e)) (h.ls i hi), h.inj⟩
theorem LD.congr {H : Hp} {d : Addr} {n : Nat} {wa : Nat → Addr} {f f' : Nat → List V} (h : LD H d n wa f) (e : ∀ s, s < n → f s = f' s) : LD H d n wa f' := ⟨h.dk, fun s hs => by rw [← e s hs]; exact h.ls s hs, h.inj⟩
theorem LD.get {H : Hp} {d : Addr} {n : Nat} {wa : Nat → Addr} {f : Nat → List V} (h : LD H d n wa f) {s : Nat} (hs : s < n) : DGet H d (.int (s : Int)) (some (.ref (wa s))) := by
  have e := DGet.k (k := .inl (s : Int)) h.dk
  rw [wayKvs_get _ _ _ hs] at e
  exact e
theorem zip_get {α β : Type} {xs : List α} {ys : List β} {i : Nat} {a : α} {b : β} (h1 : xs[i]? = some a) (h2 : ys[i]? = some b) : (xs.zip ys)[i]? = some (a, b) := by rw [List.getElem?_zip_eq_some]; exact ⟨h1, h2⟩
theorem take_snoc {α : Type} {xs : List α} {i : Nat} {a : α} (h : xs[i]? = some a) : xs.take (i + 1) = xs.take i ++ [a] := by rw [List.take_add_one, h]; rfl
theorem LD.app {H : Hp} {d : Addr} {n : Nat} {wa : Nat → Addr} {f : Nat → List V} {s : Nat} {x : V} (h : LD H d n wa f) (hs : s < n) : LD (upd H (wa s) (.lst (f s ++ [x]))) d n wa (fun t => if t = s then f s ++ [x] else f t) := by
  refine ⟨?_, fun t ht => ?_, h.inj⟩
  · rw [upd_ne fun z => by
      have e := h.ls s hs
      rw [← z, h.dk] at e
      cases e]
    exact h.dk
  · by_cases e : t = s
    · rw [if_pos e, e, upd_same]
    · rw [if_neg e, upd_ne fun z => e (h.inj t s ht hs z)]
      exact h.ls t ht
/-- what changed lies among the lists: all else is as it was -/
def Sfar (A : Addr → Prop) (H H' : Hp) : Prop := ∀ b o, ¬ A b → H b = some o → H' b = some o
section
variable {g : TG} {tt : TT} {tk tv : TE} {vs : List Nat} {σ : L2.St} {H1 : Hp} {Q : Addr → Hp → Prop}
/-- {state: [] for state in range(n)} -/
theorem dkLists {n : Nat} (hn : n ≤ 1000000) (hs : ∀ (i : Nat) H, i < n → ∀ Kt : Option (V × V) → Hp → Prop, (∀ p, H p = none → Kt (some (.int (i : Int), .ref p)) (upd H p (.lst []))) → stpD g tt tk tv vs σ (.int (0 + (i : Int))) H Kt)
    (hd : ∀ (D : Addr) (H' : Hp) (wa : Nat → Addr), H1 D = none → Same H1 H' → LD H' D n wa (fun _ => []) → (∀ s, s < n → H1 (wa s) = none) → Q D H') : DcW (Itr 0 n) g tt tk tv vs σ H1 (fun _ => .dK []) putKD Q := by
  intro D hD
  refine dcW_it (emp := fun _ => .dK []) (Qd := fun H => Q D H) walk_range (fun i H => ∃ wa : Nat → Addr, Same H1 H ∧ LD H D i wa (fun _ => []) ∧ ∀ s, s < i → H1 (wa s) = none) ⟨fun _ => 0, smNew hD, ⟨upd_same, fun s hs => absurd hs (Nat.not_lt_zero _), fun s t hs => absurd hs (Nat.not_lt_zero _)⟩, fun s hs => absurd hs (Nat.not_lt_zero _)⟩ (fun _ _ _ _ => trivial) ?_ ?_
  · rintro i x H H' hi ⟨wa, s1, ld, fr⟩ ⟨rfl, rfl⟩
    have key := hs i H' hi (fun o H5 => match o with
      | some (y, z) => putKD D y z H5 fun H6 => ∃ wa : Nat → Addr, Same H1 H6 ∧ LD H6 D (i + 1) wa (fun _ => []) ∧ ∀ s, s < i + 1 → H1 (wa s) = none
      | none => ∃ wa : Nat → Addr, Same H1 H5 ∧ LD H5 D (i + 1) wa (fun _ => []) ∧ ∀ s, s < i + 1 → H1 (wa s) = none) ?_
    · exact key
    · intro p hp
      have nDp : D ≠ p := fun z => by rw [← z, ld.dk] at hp; cases hp
      have old : ∀ s, s < i → wa s ≠ p := fun s hs z => by
        have e := ld.ls s hs
        rw [z, hp] at e
        cases e
      have oldD : ∀ s, s < i → wa s ≠ D := fun s hs z => by
        have e := ld.ls s hs
        rw [z, ld.dk] at e
        cases e
      have hp1 : H1 p = none := by
        cases e : H1 p with
        | none => rfl
        | some o => rw [s1 p o e] at hp; cases hp
      have ek : wayKvs (i + 1) (fun s => if s = i then p else wa s) = wayKvs i wa ++ [(.inl (i : Int), .ref p)] := by
        rw [wayKvs_succ, wayKvs_congr (wb := wa) fun s hs => if_neg (Nat.ne_of_lt hs), if_pos rfl]
      refine ⟨wayKvs i wa, .inl (i : Int), rfl, by rw [upd_ne nDp]; exact ld.dk, szLt (by rw [wayKvs_len]; omega), fun s => if s = i then p else wa s, smMut (s1.trans (smNew hp)) hD, ⟨?_, fun s hs => ?_, fun s t hs ht e => ?_⟩, fun s hs => ?_⟩
      · rw [upd_same, putK_new _ (wayKvs_none i wa i (Nat.le_refl _)), ek]
      · by_cases e : s = i
        · rw [if_pos e, upd_ne nDp.symm, upd_same]
        · rw [if_neg e, upd_ne (oldD s (by omega)), upd_ne (old s (by omega))]
          exact ld.ls s (by omega)
      · by_cases e1 : s = i <;> by_cases e2 : t = i
        · omega
        · rw [if_pos e1, if_neg e2] at e
          exact absurd e.symm (old t (by omega))
        · rw [if_neg e1, if_pos e2] at e
          exact absurd e (old s (by omega))
        · rw [if_neg e1, if_neg e2] at e
          exact ld.inj s t (by omega) (by omega) e
      · dsimp only
        by_cases e : s = i
        · rw [if_pos e]
          exact hp1
        · rw [if_neg e]
          exact fr s (by omega)
  · rintro H ⟨wa, s1, ld, fr⟩
    exact hd D H wa hD s1 ld fr
end
/-! ### steps as keys -/
def nkStp (t : Stp) : NK := .tup [.num t.s, .text t.k, .text t.w, .num t.g]
theorem nkStp_inj {t u : Stp} (h : nkStp t = nkStp u) : t = u := by
  unfold nkStp at h
  injection h with h
  simp at h
  obtain ⟨s, k, w, g⟩ := t
  obtain ⟨s', k', w', g'⟩ := u
  simp at h
  simp [h]
theorem nkStp_dep (t : Stp) : (nkStp t).depth ≤ 8 := by
  unfold nkStp
  simp [NestedKey.depth, NestedKey.depthAll]
theorem nkv_stp {K : PySem.W.Frag} {H : Hp} {a : Addr} {t : Stp} (h : StpR H a t) : NkV K H (nkStp t) (.ref a) := .tup (SqT.of h) (.cons (.int _) (.cons (.str _) (.cons (.str _) (.cons (.int _) .nil))))
def dStp (t : Stp) : PyData := .tuple [.int t.s, .str t.k, .str t.w, .int t.g]
theorem dp_stp {K : PySem.W.Frag} {H : Hp} {a : Addr} {t : Stp} (h : StpR H a t) : Dp K H (.ref a) (dStp t) := .tup (SqT.of h) (.cons (.int _) (.cons (.str _) (.cons (.str _) (.cons (.int _) .nil))))
theorem dp_stps {K : PySem.W.Frag} {H : Hp} : ∀ {as : List Addr} {ts : List Stp}, StpsAt H as ts → DpAll K H (as.map V.ref) (ts.map dStp)
  | _, _, .nil => .nil
  | _, _, .cons h t => .cons (dp_stp h) (dp_stps t)
theorem sable_stps {K : PySem.W.Frag} {H : Hp} {as : List Addr} {ts : List Stp} (h : StpsAt H as ts) (hz : as.length ≤ sizeLine) : Sable K H (as.map V.ref) (ts.map dStp) := by
  refine ⟨dp_stps h, PySem.W.AllAlike.of fun t u => ?_, .inl (PySem.W.Sortable.tuples fun t => ⟨_, _, rfl⟩), fun d hd => ?_, by rw [List.length_map]; exact hz⟩
  · simp [dStp, PySem.W.alike, PySem.W.alikeAll]
  · obtain ⟨t, _, rfl⟩ := List.mem_map.mp hd
    simp [dStp, PyData.depth, PyData.depthAll]
/-- the same data, in another order -/
theorem stps_perm {H : Hp} : ∀ {as bs : List Addr}, bs.Perm as → ∀ {ts : List Stp}, StpsAt H as ts → ∃ us, us.Perm ts ∧ StpsAt H bs us := by
  intro as bs hp
  induction hp with
  | nil => intro ts r; exact ⟨ts, .refl _, r⟩
  | cons x _ ih =>
    intro ts r
    cases r with
    | cons r1 r2 =>
      obtain ⟨us, h1, h2⟩ := ih r2
      exact ⟨_ :: us, .cons _ h1, .cons r1 h2⟩
  | swap x y l =>
    intro ts r
    cases r with
    | cons r1 r2 =>
      cases r2 with
      | cons r2 r3 => exact ⟨_ :: _ :: _, .swap .., .cons r2 (.cons r1 r3)⟩
  | trans _ _ ih1 ih2 =>
    intro ts r
    obtain ⟨us, h1, h2⟩ := ih2 r
    obtain ⟨vs, h3, h4⟩ := ih1 h2
    exact ⟨vs, h3.trans h1, h4⟩
theorem paired_get2 {α β : Type} {F : α → β → Prop} {xs : List α} {ys : List β} {i : Nat} {x : α} {y : β} (h : Paired F xs ys) (hx : xs[i]? = some x) (hy : ys[i]? = some y) : F x y := by
  obtain ⟨z, hz, f⟩ := paired_get h hx
  rw [hy] at hz
  cases hz
  exact f
/-- the entries of a dict of steps, as steps -/
theorem nset_list {H : Hp} {sa : List Addr} {ts : List Stp} (hst : StpsAt H sa ts) : ∀ {es : List NE}, (∀ e ∈ es, ∃ j : Nat, sa[j]? = some e.2.1 ∧ (ts.map nkStp)[j]? = some e.1) → ∃ us : List Stp, es.map (·.1) = us.map nkStp ∧ StpsAt H (es.map (·.2.1)) us ∧ ∀ u ∈ us, u ∈ ts
  | [], _ => ⟨[], rfl, .nil, fun u hu => by simp at hu⟩
  | e :: es, h => by
    obtain ⟨us, h1, h2, h3⟩ := nset_list hst (es := es) fun e' he => h e' (by simp [he])
    obtain ⟨j, j1, j2⟩ := h e (by simp)
    rw [List.getElem?_map] at j2
    cases ht : ts[j]? with
    | none => rw [ht] at j2; cases j2
    | some t =>
      rw [ht] at j2
      refine ⟨t :: us, ?_, .cons (paired_get2 hst j1 ht) h2, fun u hu => ?_⟩
      · rw [List.map_cons, List.map_cons, h1, ← Option.some.inj j2]
      · rcases List.mem_cons.mp hu with rfl | hu
        · exact List.mem_of_getElem? ht
        · exact h3 u hu
theorem nset_stps {P : Program} {w : World} {K : PySem.W.Frag} {H : Hp} {D : Addr} {sa : List Addr} {ts : List Stp} {es : List NE} (hst : StpsAt H sa ts) (ns : NSet P w K H D sa (ts.map nkStp) es) :
    ∃ us : List Stp, StpsAt H (es.map (·.2.1)) us ∧ us.Nodup ∧ ∀ t, t ∈ us ↔ t ∈ ts := by
  obtain ⟨us, h1, h2, h3⟩ := nset_list hst ns.sub
  refine ⟨us, h2, nodup_map_inv (f := nkStp) (by rw [← h1]; exact ns.dup), fun t => ⟨h3 t, fun ht => ?_⟩⟩
  have := ns.all (nkStp t) (List.mem_map_of_mem ht)
  rw [h1] at this
  obtain ⟨u, hu, e⟩ := List.mem_map.mp this
  rw [← nkStp_inj e]
  exact hu
theorem stps_nk {K : PySem.W.Frag} {H : Hp} {sa : List Addr} {ts : List Stp} (h : StpsAt H sa ts) : Paired (fun a u => NkV K H u (.ref a)) sa (ts.map nkStp) := by
  induction h with
  | nil => exact .nil
  | cons r _ ih => exact .cons (nkv_stp r) ih
/-! ### the machine's attributes, one after the other -/
abbrev fM1 (a : V) : List (Str × V) := [("many", a)]
abbrev fM2 (a b : V) : List (Str × V) := [("many", a), ("steps", b)]
abbrev fM3 (a b c : V) : List (Str × V) := [("many", a), ("steps", b), ("ways", c)]
abbrev fM4 (a b c d : V) : List (Str × V) := [("many", a), ("steps", b), ("ways", c), ("kinds", d)]
section
variable (a b c d e : V)
theorem pfM2 : putF ("steps" : Str) b (fM1 a) = fM2 a b := by kernel_rfl
theorem pfM3 : putF ("ways" : Str) c (fM2 a b) = fM3 a b c := by kernel_rfl
theorem pfM4 : putF ("kinds" : Str) d (fM3 a b c) = fM4 a b c d := by kernel_rfl
theorem pfM5 : putF ("words" : Str) e (fM4 a b c d) = fMach a b c d e := by kernel_rfl
theorem lkM3 : (fM3 a b c).lookup ("ways" : Str) = some c := by kernel_rfl
theorem lkM3s : (fM3 a b c).lookup ("steps" : Str) = some b := by kernel_rfl
theorem lkM4s : (fM4 a b c d).lookup ("steps" : Str) = some b := by kernel_rfl
end
/-! ### the words of steps -/
def fldF (fld : Stp → Str) (t : Stp) : Option (Key × V) := if fld t = "" then none else some (.inr (fld t), .bl true)
theorem fld_keys (fld : Stp → Str) (ts : List Stp) : ∃ ks : List Str, (putAll (ts.filterMap (fldF fld))).map (·.1) = ks.map Sum.inr ∧ ks.Nodup ∧ ∀ k, k ∈ ks ↔ k ≠ "" ∧ ∃ t ∈ ts, fld t = k := by
  obtain ⟨h1, h2⟩ := putAll_keys (ts.filterMap (fldF fld))
  have hm : ∀ k, k ∈ (ts.filterMap (fldF fld)).map (·.1) ↔ ∃ x : Str, k = .inr x ∧ x ≠ "" ∧ ∃ t ∈ ts, fld t = x := by
    intro k
    rw [List.mem_map]
    constructor
    · rintro ⟨p, hp, rfl⟩
      obtain ⟨t, ht, e⟩ := List.mem_filterMap.mp hp
      unfold fldF at e
      split at e
      · cases e
      · rename_i hn
        cases e
        exact ⟨fld t, rfl, hn, t, ht, rfl⟩
    · rintro ⟨x, rfl, hx, t, ht, rfl⟩
      exact ⟨(.inr (fld t), .bl true), List.mem_filterMap.mpr ⟨t, ht, by unfold fldF; rw [if_neg hx]⟩, rfl⟩
  obtain ⟨ks, hk⟩ := inr_keys (kvs := putAll (ts.filterMap (fldF fld))) fun k hk => by
    obtain ⟨x, e, _⟩ := (hm k).mp ((h2 k).mp hk)
    exact ⟨x, e⟩
  refine ⟨ks, hk, nodup_map_inv (f := Sum.inr) (by rw [← hk]; exact h1), fun k => ?_⟩
  have e1 : k ∈ ks ↔ (Sum.inr k : Key) ∈ (putAll (ts.filterMap (fldF fld))).map (·.1) := by
    rw [hk, List.mem_map]
    exact ⟨fun h => ⟨k, h, rfl⟩, fun ⟨y, hy, e⟩ => by cases e; exact hy⟩
  rw [e1, h2, hm]
  constructor
  · rintro ⟨x, e, a, b⟩
    cases e
    exact ⟨a, b⟩
  · rintro ⟨a, b⟩
    exact ⟨k, rfl, a, b⟩
theorem stps_filter {H : Hp} {f : Stp → Bool} : ∀ {as : List Addr} {ts : List Stp}, StpsAt H as ts → StpsAt H (((as.zip ts).filter fun p => f p.2).map (·.1)) (ts.filter f)
  | _, _, .nil => .nil
  | a :: as, t :: ts, .cons h r => by
    rw [List.zip_cons_cons]
    by_cases e : f t = true
    · rw [List.filter_cons_of_pos (by simpa using e), List.filter_cons_of_pos e, List.map_cons]
      exact .cons h (stps_filter r)
    · rw [List.filter_cons_of_neg (by simpa using e), List.filter_cons_of_neg e]
      exact stps_filter r
/-- a machine's parts by name -/
structure MPc (K : PySem.W.Frag) (H : Hp) (m : Addr) (M : Mch) (dx ts wd kl : Addr) (fs : List (Str × V)) (sa : List Addr) (wa : Nat → Addr) : Prop where
  m : H m = some (.ins (He.ga K "Machine") dx fs)
  many : fs.lookup ("many" : Str) = some (.int M.n)
  steps : fs.lookup ("steps" : Str) = some (.ref ts)
  ways : fs.lookup ("ways" : Str) = some (.ref wd)
  kinds : fs.lookup ("kinds" : Str) = some (.ref kl)
  ts : H ts = some (.tup (sa.map V.ref))
  st : StpsAt H sa M.steps
  wd : H wd = some (.dK (wayKvs M.n wa))
  wl : ∀ s, s < M.n → ∃ la, H (wa s) = some (.lst (la.map V.ref)) ∧ StpsAt H la (M.steps.filter fun t => decide (t.s = s))
  kl : H kl = some (.lst (M.kinds.map V.str))
theorem MAt.pc {K : PySem.W.Frag} {H : Hp} {m : Addr} {M : Mch} (h : MAt K H m M) : ∃ dx ts wd kl fs sa wa, MPc K H m M dx ts wd kl fs sa wa := by
  obtain ⟨ok, dx, ts, wd, kl, wl, sa, wa, h1, h2, h3, h4, h5, h6⟩ := h
  exact ⟨dx, ts, wd, kl, _, sa, wa, h1, fm_many .., fm_steps .., fm_ways .., fm_kinds .., h2, h3, h4, h5, h6⟩
theorem MPc.sm {K : PySem.W.Frag} {H H' : Hp} {m : Addr} {M : Mch} {dx ts wd kl : Addr} {fs : List (Str × V)} {sa : List Addr} {wa : Nat → Addr} (s : Same H H') (h : MPc K H m M dx ts wd kl fs sa wa) : MPc K H' m M dx ts wd kl fs sa wa :=
  ⟨s _ _ h.m, h.many, h.steps, h.ways, h.kinds, s _ _ h.ts, h.st.sm s, s _ _ h.wd, fun i hi => let ⟨la, a, b⟩ := h.wl i hi; ⟨la, s _ _ a, b.sm s⟩, s _ _ h.kl⟩
/-- machine.ways[state] -/
theorem MPc.way {K : PySem.W.Frag} {H : Hp} {m : Addr} {M : Mch} {dx ts wd kl : Addr} {fs : List (Str × V)} {sa : List Addr} {wa : Nat → Addr} (h : MPc K H m M dx ts wd kl fs sa wa) {s : Nat} (hs : s < M.n) : DGet H wd (.int (s : Int)) (some (.ref (wa s))) := by
  have e := DGet.k (k := .inl (s : Int)) h.wd
  rw [wayKvs_get _ _ _ hs] at e
  exact e
section
variable {K : PySem.W.Frag} {g : TG} {tt : TT} {te : TE} {vs : List Nat} {σ : L2.St} {H1 : Hp} {Q : Addr → Hp → Prop} {a : Addr} {α : Type} {us : List α} {j : α → V}
/-- a comprehension over data that are written as values -/
theorem lcMapI {J : It} {G : Hp → Prop} (wk : Walk J (us.map j).length G (YAt (us.map j))) (f : α → Option V) (hG : ∀ H', Same H1 H' → G H') (hn : us.length ≤ 1000000)
    (hs : ∀ u H, u ∈ us → Same H1 H → ∀ Kt : Option V → Hp → Prop, (∀ H'', Same H H'' → Kt (f u) H'') → stp g tt te vs σ (j u) H Kt)
    (hd : ∀ (D : Addr) (H' : Hp), H1 D = none → Same H1 H' → H' D = some (.lst (us.filterMap f)) → Q D H') : LcW J g tt te vs σ H1 Q := by
  refine lcV wk (fun i => us[i]?.bind f) hG (by rw [List.length_map]; exact hn) ?_ fun D H' h1 h2 h3 => hd D H' h1 h2 (by rw [List.length_map, rangeFM] at h3; exact h3)
  rintro i x H H' hi s1 ⟨rfl, hx⟩ Kt k
  rw [List.getElem?_map] at hx
  cases e : us[i]? with
  | none => rw [e] at hx; cases hx
  | some u =>
    rw [e] at hx
    cases hx
    refine hs u H' (List.mem_of_getElem? e) s1 Kt fun H'' s => ?_
    have q := k H'' s
    rw [e] at q
    exact q
theorem lcMapL (f : α → Option V) (h : SqL K H1 a (us.map j)) (hn : us.length ≤ 1000000)
    (hs : ∀ u H, u ∈ us → Same H1 H → ∀ Kt : Option V → Hp → Prop, (∀ H'', Same H H'' → Kt (f u) H'') → stp g tt te vs σ (j u) H Kt)
    (hd : ∀ (D : Addr) (H' : Hp), H1 D = none → Same H1 H' → H' D = some (.lst (us.filterMap f)) → Q D H') : LcW (Itl K a) g tt te vs σ H1 Q :=
  lcMapI walk_list f (fun H' s => s.seq h) hn hs hd
theorem lcMapT (f : α → Option V) (h : SqT K H1 a (us.map j)) (hn : us.length ≤ 1000000)
    (hs : ∀ u H, u ∈ us → Same H1 H → ∀ Kt : Option V → Hp → Prop, (∀ H'', Same H H'' → Kt (f u) H'') → stp g tt te vs σ (j u) H Kt)
    (hd : ∀ (D : Addr) (H' : Hp), H1 D = none → Same H1 H' → H' D = some (.lst (us.filterMap f)) → Q D H') : LcW (Itt K a) g tt te vs σ H1 Q :=
  lcMapI walk_tup f (fun H' s => smTup s h) hn hs hd
/-- a dict comprehension over such data -/
theorem dkMapI {tk tv : TE} {J : It} {G : Hp → Prop} (wk : Walk J (us.map j).length G (YAt (us.map j))) (f : α → Option (Key × V)) (hG : ∀ H', Same H1 H' → G H') (hn : us.length ≤ 1000000)
    (hs : ∀ u H, u ∈ us → Same H1 H → ∀ Kt : Option (V × V) → Hp → Prop, (∀ H'', Same H H'' → Kt ((f u).map fun p => (kV p.1, p.2)) H'') → stpD g tt tk tv vs σ (j u) H Kt)
    (hd : ∀ (D : Addr) (H' : Hp), H1 D = none → Same H1 H' → H' D = some (.dK (putAll (us.filterMap f))) → Q D H') : DcW J g tt tk tv vs σ H1 (fun _ => .dK []) putKD Q := by
  refine dkV wk (fun i => us[i]?.bind f) hG (by rw [List.length_map]; exact hn) ?_ fun D H' h1 h2 h3 => hd D H' h1 h2 (by rw [List.length_map, rangeFM] at h3; exact h3)
  rintro i x H H' hi s1 ⟨rfl, hx⟩ Kt k
  rw [List.getElem?_map] at hx
  cases e : us[i]? with
  | none => rw [e] at hx; cases hx
  | some u =>
    rw [e] at hx
    cases hx
    refine hs u H' (List.mem_of_getElem? e) s1 Kt fun H'' s => ?_
    have q := k H'' s
    rw [e] at q
    exact q
end
theorem filterMap_some {α β : Type} (f : α → β) (xs : List α) : (xs.filterMap fun x => some (f x)) = xs.map f := List.filterMap_eq_map' ▸ rfl
/-! ### objects kept by a test -/
def keepA {α : Type} (p : α → Bool) (as : List Addr) (us : List α) : List Addr := ((as.zip us).filter fun q => p q.2).map (·.1)
theorem keepA_data {α : Type} {F : Addr → α → Prop} {p : α → Bool} : ∀ {as : List Addr} {us : List α}, Paired F as us → Paired F (keepA p as us) (us.filter p)
  | _, _, .nil => .nil
  | a :: as, u :: us, .cons h r => by
    unfold keepA
    rw [List.zip_cons_cons]
    by_cases e : p u = true
    · rw [List.filter_cons_of_pos (by simpa using e), List.filter_cons_of_pos e, List.map_cons]
      exact .cons h (keepA_data r)
    · rw [List.filter_cons_of_neg (by simpa using e), List.filter_cons_of_neg e]
      exact keepA_data r
theorem filterMap_keep {α : Type} (p : α → Bool) (zs : List (Addr × α)) : (zs.filterMap fun q => if p q.2 = true then some (V.ref q.1) else none) = ((zs.filter fun q => p q.2).map (·.1)).map V.ref := by
  induction zs with
  | nil => rfl
  | cons z zs ih =>
    by_cases e : p z.2 = true
    · rw [List.filter_cons_of_pos (by simpa using e), List.filterMap_cons]
      simp [e, ih]
    · rw [List.filter_cons_of_neg (by simpa using e), List.filterMap_cons]
      simp [e, ih]
theorem lcKeep {g : TG} {tt : TT} {te : TE} {vs : List Nat} {σ : L2.St} {H1 : Hp} {Q : Addr → Hp → Prop} {α : Type} {J : It} {G : Hp → Prop} {as : List Addr} {us : List α} (R : Hp → Addr → α → Prop) (hR : ∀ H H' a u, Same H H' → R H a u → R H' a u) (hp : Paired (R H1) as us) (wk : Walk J (as.map V.ref).length G (YAt (as.map V.ref))) (p : α → Bool)
    (hG : ∀ H', Same H1 H' → G H') (hn : as.length ≤ 1000000)
    (hs : ∀ u a H, u ∈ us → Same H1 H → R H a u → ∀ Kt : Option V → Hp → Prop, (∀ H'', Same H H'' → Kt (if p u = true then some (.ref a) else none) H'') → stp g tt te vs σ (.ref a) H Kt)
    (hd : ∀ D H', H1 D = none → Same H1 H' → H' D = some (.lst ((keepA p as us).map V.ref)) → Q D H') : LcW J g tt te vs σ H1 Q := by
  have hl : as.length = us.length := Paired.length hp
  have hz : (as.zip us).length = (as.map V.ref).length := by rw [List.length_zip, List.length_map]; omega
  refine lcV wk (fun i => (as.zip us)[i]?.bind fun q => if p q.2 = true then some (V.ref q.1) else none) hG (by rw [List.length_map]; exact hn) ?_ fun D H' h1 h2 h3 => hd D H' h1 h2 (by rw [← hz, rangeFM, filterMap_keep] at h3; exact h3)
  rintro i x H H' hi s1 ⟨rfl, hx⟩ Kt k
  rw [List.getElem?_map] at hx
  cases ea : as[i]? with
  | none => rw [ea] at hx; cases hx
  | some a =>
    rw [ea] at hx
    cases hx
    obtain ⟨u, hu, hau⟩ := paired_get hp ea
    refine hs u a H' (List.mem_of_getElem? hu) s1 (hR _ _ _ _ s1 hau) Kt fun H'' s => ?_
    have q := k H'' s
    rw [zip_get ea hu] at q
    exact q
end Al
set_option maxHeartbeats 4000000
/-! D5: Machine.__init__. -/
namespace Al
open PySem PySem.Spec PyProof.Rows L2
/-- a kind of the law's machines -/
def KindOk (k : Str) : Prop := k = "" ∨ k = "x" ∨ k = "y"
def WdOk (k : Str) : Prop := k = "" ∨ k = "a" ∨ k = "b"
/-- what a machine made of n and ts is -/
structure MSame (M : Mch) (n : Nat) (ts : List Stp) : Prop where
  n : M.n = n
  mem : ∀ t, t ∈ M.steps ↔ t ∈ ts
  nd : M.steps.Nodup
  srt : sortedS M.kinds = true
  knd : ∀ k, k ∈ M.kinds ↔ k ≠ "" ∧ ∃ t ∈ ts, t.k = k
section
variable {P : Program} {w : World} {K : PySem.W.Frag} {mg : Str → Option Value} {base : Heap}
def spMachine (K : PySem.W.Frag) : Sp := fun vs H Q _ => ∃ (x dx sl : Addr) (n : Nat) (sa : List Addr) (ts : List Stp), vs = [.ref x, .int n, .ref sl] ∧ H x = some (.ins (He.ga K "Machine") dx []) ∧ H sl = some (.lst (sa.map V.ref)) ∧ StpsAt H sa ts ∧ 1 ≤ n ∧ n ≤ 100 ∧ sa.length ≤ 500 ∧
  (∀ t ∈ ts, StpOk n t ∧ KindOk t.k ∧ WdOk t.w) ∧ ∀ H' M, Sbut x H H' → MAt K H' x M → MSame M n ts → Q .non H'
theorem stps_sb {H H' : Hp} {D : Addr} {o : HO} (hD : H D = some o) (no : ∀ xs, o ≠ .tup xs) (e : Sbut D H H') {as : List Addr} {ts : List Stp} (h : StpsAt H as ts) : StpsAt H' as ts :=
  Paired.mapP h fun a b z => e _ _ (fun z' => by have z : H a = some (.tup b.vs) := z; rw [z', hD] at z; exact no _ (Option.some.inj z)) z
theorem ok_Machine_init (T : Txt K mg) : CFn P w K mg base 3 "Machine" (spMachine K) := by
  refine T.okC h_Machine_init rfl (by decide +kernel) (by decide +kernel) sc_Machine_init rfl rfl b_Machine_init (fun vs H Q E h => ?_) (fun cdv A outer s H vs Q E hr h => ?_)
  · obtain ⟨x, dx, sl, n, sa, ts, rfl, _⟩ := h
    rfl
  · obtain ⟨x, dx, sl, n, sa, ts, rfl, hx, hsl, hst, n1, n2, hlen, hok, q⟩ := h
    refine ⟨_, (pss_cons (ps_if (PW.pt (pw_or (pt_not (pt_val (pe_f (ok_is_number T) (hr.mono (by decide)) (pa_cons (pv 1) pa_nil)))) (pw_or (pt_not (pt_chain op_le op_le pe_int (pv 1) (pe_gi T.mostS))) (pw_or1 (pt_not (pt_val (pe_callB call_isiT (by rfl) (T.f "isinstance") (by decide +kernel) (pa_cons (pv 2) (pa_cons (pe_tup (pa_cons (pe_ty "list" (T.f "list")) (pa_cons (pe_ty "tuple" (T.f "tuple")) pa_nil))) pa_nil))))))))) 
        pss_never
        pss_nil)
        (pss_cons (ps_l (i := 3) sc_Machine_init.nd rfl rfl (pe_disp (pps_cons pe_str pe_bl pps_nil) (by rfl) (by rfl) (fun z => by cases z) (by decide)))
        (pss_cons (ps_for PassesOwn.never rfl (pi_enum (by rfl) (T.f "enumerate") (pa_cons (pv 2) pa_nil)) (pg_t K 2 rfl (pgs_cons (pg_l (i := 4) sc_Machine_init.nd rfl rfl) (pgs_cons (pg_l (i := 5) sc_Machine_init.nd rfl rfl) pgs_nil)))
        (pss_one (ps_if (pt_not (pt_val (pe_f (ok_is_step T) (hr.mono (by decide)) (pa_cons (pv 5) (pa_cons (pv 1) (pa_cons (pv 3) pa_nil)))))) 
          pss_never
          pss_nil)))
        (pss_cons (ps_at (T.c "Machine") (T.n "Machine" "many") (pv 0) (pv 1))
        (pss_cons (ps_at (T.c "Machine") (T.n "Machine" "steps") (pv 0) (pe_callTy (cTuple K) (by rfl) (T.f "tuple") (by decide +kernel) (pa_cons (pe_callB (call_sortedN rfl (hu20 hr)) (by rfl) (T.f "sorted") (by decide +kernel) (pa_cons (pe_dcg (own := [("step", 5)]) (dkindN (hu9 hr)) rfl sc_Machine_init.nd (pi_list (pv 2)) (blkOk_by (own := [("step", 5)]) (N := N_Machine_init) (sc := defScope s_Machine_init) (by decide +kernel)) ⟨(fun _ _ _ _ _ => (pg_l (i := 5) sc_Machine_init.nd rfl rfl)), (fun _ _ _ _ _ => pts_nil), (fun _ _ _ _ _ => (pv 5)), (fun _ _ _ _ _ => pe_bl)⟩) pa_nil)) pa_nil)))
        (pss_cons (ps_at (T.c "Machine") (T.n "Machine" "ways") (pv 0) (pe_dcg (own := [("state", 6)]) dkindK rfl sc_Machine_init.nd (pi_range1 (by rfl) (T.f "range") (pa_cons (pv 1) pa_nil)) (blkOk_by (own := [("state", 6)]) (N := N_Machine_init) (sc := defScope s_Machine_init) (by decide +kernel)) ⟨(fun _ _ _ _ _ => (pg_l (i := 6) sc_Machine_init.nd rfl rfl)), (fun _ _ _ _ _ => pts_nil), (fun _ _ _ _ _ => (pv 6)), (fun _ _ _ _ _ => (pe_lst pa_nil))⟩))
        (pss_cons (ps_for PassesOwn.never rfl (pi_tup (pe_at (T.c "Machine") (T.n "Machine" "steps") (pv 0))) (pg_l (i := 5) sc_Machine_init.nd rfl rfl)
        (pss_one (ps_expr (pe_bm PySem.F.plainAttrs_list PySem.F.slot_list_append PySem.F.type_list_append mt_append (pe_dget (hu_of hr) (pe_at (T.c "Machine") (T.n "Machine" "ways") (pv 0)) (pe_ix (ixT K) (pv 5) pe_int (fun _ _ => rfl)) (fun _ _ => rfl)) (pa_cons (pv 5) pa_nil)))))
        (pss_cons (ps_at (T.c "Machine") (T.n "Machine" "kinds") (pv 0) (pe_callB (call_sortedD rfl) (by rfl) (T.f "sorted") (by decide +kernel) (pa_cons (pe_dcg (own := [("step", 5)]) dkindK rfl sc_Machine_init.nd (pi_tup (pe_at (T.c "Machine") (T.n "Machine" "steps") (pv 0))) (blkOk_by (own := [("step", 5)]) (N := N_Machine_init) (sc := defScope s_Machine_init) (by decide +kernel)) ⟨(fun _ _ _ _ _ => (pg_l (i := 5) sc_Machine_init.nd rfl rfl)), (fun _ _ _ _ _ => (pts_one (pt_cmpR op_ne (pe_ix (ixT K) (pv 5) pe_int (fun _ _ => rfl)) pe_str (nomark _)))), (fun _ _ _ _ _ => (pe_ix (ixT K) (pv 5) pe_int (fun _ _ => rfl))), (fun _ _ _ _ _ => pe_bl)⟩) pa_nil)))
        (pss_one (ps_at (T.c "Machine") (T.n "Machine" "words") (pv 0) (pe_callB (call_sortedD rfl) (by rfl) (T.f "sorted") (by decide +kernel) (pa_cons (pe_dcg (own := [("step", 5)]) dkindK rfl sc_Machine_init.nd (pi_tup (pe_at (T.c "Machine") (T.n "Machine" "steps") (pv 0))) (blkOk_by (own := [("step", 5)]) (N := N_Machine_init) (sc := defScope s_Machine_init) (by decide +kernel)) ⟨(fun _ _ _ _ _ => (pg_l (i := 5) sc_Machine_init.nd rfl rfl)), (fun _ _ _ _ _ => (pts_one (pt_cmpR op_ne (pe_ix (ixT K) (pv 5) pe_int (fun _ _ => rfl)) pe_str (nomark _)))), (fun _ _ _ _ _ => (pe_ix (ixT K) (pv 5) pe_int (fun _ _ => rfl))), (fun _ _ _ _ _ => pe_bl)⟩) pa_nil)))))))))))), ?_⟩
    refine ⟨_, rfl, n, rfl, true, rfl, _, rfl, 1, n, rfl, rfl, true, blT (by omega), n, 3000, rfl, rfl, true, blT (by omega), ?_⟩
    refine ⟨_, rfl, (by show 2 ≤ sizeLine; decide), fun p hp => ⟨_, p, _, .type "list", [.type "list", .type "tuple"], true, rfl, upd_same, .cons (.ty _) (.cons (.ty _) .nil), .base (.lst (smNew hp _ _ hsl)), kitAny_cons (b := true) (kit_ty (by decide +kernel)) (fun z => by cases z) (fun _ => rfl), true, rfl, ?_⟩⟩
    intro kd hkd
    refine ⟨upd_same, [(.inr "", .bl true)], rfl, by decide, ?_⟩
    rw [upd_upd]
    have s0 : Same H (upd (upd H p (.tup [.ty "list", .ty "tuple"])) kd (.dK (mergeK [] [(.inr "", .bl true)]))) := (smNew hp).trans (smNew hkd)
    have hk0 : KnownAt (upd (upd H p (.tup [.ty "list", .ty "tuple"])) kd (.dK (mergeK [] [(.inr "", .bl true)]))) kd 1 := ⟨_, upd_same, by decide, by decide +kernel⟩
    have nkd : H kd = none := none_same (smNew hp) hkd
    refine ⟨_, rfl, sl, sa.map V.ref, rfl, .of (s0 _ _ hsl), ?_⟩
    refine for_it (walk_enum (xs := sa.map V.ref)) (fun i σ H' => ∃ o4 o5, σ = [some (.ref x), some (.int n), some (.ref sl), some (.ref kd), o4, o5, none] ∧ Same H H' ∧ KnownAt H' kd (1 + 2 * i)) ⟨none, none, rfl, s0, hk0⟩
      (fun i σ H' _ ⟨_, _, _, sm, _⟩ => .of (sm _ _ hsl)) ?_ ?_
    · rintro i v σ H1 H2 hi ⟨o4, o5, rfl, sm, kn⟩ ⟨T', u, z, rfl, hT, rfl, hu, hz⟩
      have hz : (sa.map V.ref)[i]? = some z := hz
      rw [List.length_map] at hi
      rw [List.getElem?_map] at hz
      cases ha : sa[i]? with
      | none => rw [ha] at hz; cases hz
      | some a =>
        rw [ha] at hz
        cases hz
        cases hu
        obtain ⟨t, ht, hta⟩ := paired_get hst ha
        have s2 : Same H (upd H1 T' (.tup [.int (i : Int), .ref a])) := sm.trans (smNew hT)
        refine ⟨T', _, rfl, SqT.of upd_same, rfl, _, _, rfl, _, _, rfl, rfl, ?_⟩
        refine ⟨_, rfl, _, rfl, _, rfl, a, kd, n, 1 + 2 * i, t, rfl, s2 _ _ hta, (hok t (List.mem_of_getElem? ht)).1, ?_, by omega, fun H3 sb3 kn3 => ⟨true, rfl, _, _, rfl, same_but nkd s2 sb3, kn3⟩⟩
        obtain ⟨kvs, e1, e2⟩ := kn
        exact ⟨kvs, smNew hT _ _ e1, e2⟩
    · rintro σ H1 ⟨o4, o5, rfl, sm, kn⟩
      clear kn hk0 s0 hkd hp
      refine ⟨_, rfl, _, rfl, x, dx, [], rfl, sm _ _ hx, by decide, ?_⟩
      have sbA : Sbut x H (upd H1 x (.ins (He.ga K "Machine") dx (putF "many" (.int n) []))) := (Sbut.of sm).trans .upd
      have exA : (upd H1 x (.ins (He.ga K "Machine") dx (putF "many" (.int n) []))) x = some (.ins (He.ga K "Machine") dx (fM1 (.int n))) := upd_same
      generalize upd H1 x (.ins (He.ga K "Machine") dx (putF "many" (.int n) [])) = HA at sbA exA
      have slA : HA sl = some (.lst (sa.map V.ref)) := sbA _ _ (fun z => by rw [z, hx] at hsl; cases hsl) hsl
      have stA : StpsAt HA sa ts := stps_sb hx (fun xs z => by cases z) sbA hst
      refine ⟨_, rfl, sl, rfl, ⟨_, .of slA⟩, ?_⟩
      refine dnSelf (P := P) (w := w) (K := K) (stps_nk stA) walk_list (fun H' s1 => .of (s1 _ _ slA)) (by omega) (fun u hu => by obtain ⟨t, _, rfl⟩ := List.mem_map.mp hu; exact nkStp_dep t) (fun a H' ha s1 Kt k => ⟨rfl, _, rfl, k _ (Same.refl _)⟩) fun D H' es hD s1 ns hl => ?_
      obtain ⟨us, u1, u2, u3⟩ := nset_stps (stA.sm s1) ns
      refine ⟨D, es, us.map dStp, rfl, ns.nd, ?_, fun ys q1 hy hq1 => ?_⟩
      · have := sable_stps (K := K) u1 (by rw [List.length_map]; exact szOf (by omega))
        rw [List.map_map] at this
        exact this
      rw [show (es.map fun e => V.ref e.2.1) = (es.map (·.2.1)).map V.ref by rw [List.map_map]; rfl] at hy
      obtain ⟨ta, ta1, rfl⟩ := perm_map_inv (fun a b e => by cases e; rfl) hy
      obtain ⟨steps, st1, st2⟩ := stps_perm ta1 u1
      have tlen : ta.length ≤ 500 := by rw [ta1.length_eq, List.length_map]; omega
      refine ⟨q1, _, rfl, .inl ⟨.of upd_same, fun tp htp => ?_⟩⟩
      have s2 : Same HA (upd (upd H' q1 (.lst (ta.map V.ref))) tp (.tup (ta.map V.ref))) := (s1.trans (smNew hq1)).trans (smNew htp)
      have etp : (upd (upd H' q1 (.lst (ta.map V.ref))) tp (.tup (ta.map V.ref))) tp = some (.tup (ta.map V.ref)) := upd_same
      have sst := (st2.sm (smNew hq1 (o := .lst (ta.map V.ref)))).sm (smNew htp (o := .tup (ta.map V.ref)))
      generalize upd (upd H' q1 (.lst (ta.map V.ref))) tp (.tup (ta.map V.ref)) = HB at s2 etp sst
      refine ⟨_, rfl, x, dx, _, rfl, s2 _ _ exA, (by show 1 < 1000; decide), ?_⟩
      have ntp : tp ≠ x := fun z => by have e := s2 _ _ exA; rw [← z, etp] at e; cases e
      have sbB : Sbut x H (upd HB x (.ins (He.ga K "Machine") dx (putF "steps" (.ref tp) (fM1 (.int n))))) := (sbA.trans (Sbut.of s2)).trans .upd
      have exB : (upd HB x (.ins (He.ga K "Machine") dx (putF "steps" (.ref tp) (fM1 (.int n))))) x = some (.ins (He.ga K "Machine") dx (fM2 (.int n) (.ref tp))) := by
        rw [upd_same, pfM2]
      have tpB : (upd HB x (.ins (He.ga K "Machine") dx (putF "steps" (.ref tp) (fM1 (.int n))))) tp = some (.tup (ta.map V.ref)) := by rw [upd_ne ntp]; exact etp
      have stB : StpsAt (upd HB x (.ins (He.ga K "Machine") dx (putF "steps" (.ref tp) (fM1 (.int n))))) ta steps := stps_sb (s2 _ _ exA) (fun xs z => by cases z) .upd sst
      have mem : ∀ t, t ∈ steps ↔ t ∈ ts := fun t => (st1.mem_iff).trans (u3 t)
      have snd : steps.Nodup := (st1.nodup_iff).mpr u2
      generalize upd HB x (.ins (He.ga K "Machine") dx (putF "steps" (.ref tp) (fM1 (.int n)))) = HC at sbB exB tpB stB
      clear s2 etp sst sbA exA slA stA s1 ns u1 u2 u3 st1 st2
      refine ⟨_, rfl, n, rfl, by omega, by omega, ?_⟩
      rw [show ((n : Int).toNat) = n from rfl]
      refine dkLists (by omega) (fun i H' hi Kt k => ⟨rfl, _, rfl, (by show 0 ≤ sizeLine; decide), fun p hp => ?_⟩) fun D2 H3 wa hD2 s3 ld fr => ?_
      · have e : (0 : Int) + (i : Int) = i := by omega
        have := k p hp
        rw [← e] at this
        exact this
      refine ⟨_, rfl, x, dx, _, rfl, s3 _ _ exB, (by show 2 < 1000; decide), ?_⟩
      have sbD : Sbut x H (upd H3 x (.ins (He.ga K "Machine") dx (putF "ways" (.ref D2) (fM2 (.int n) (.ref tp))))) := (sbB.trans (Sbut.of s3)).trans .upd
      have exD : (upd H3 x (.ins (He.ga K "Machine") dx (putF "ways" (.ref D2) (fM2 (.int n) (.ref tp))))) x = some (.ins (He.ga K "Machine") dx (fM3 (.int n) (.ref tp) (.ref D2))) := by rw [upd_same, pfM3]
      have tpD : (upd H3 x (.ins (He.ga K "Machine") dx (putF "ways" (.ref D2) (fM2 (.int n) (.ref tp))))) tp = some (.tup (ta.map V.ref)) := by rw [upd_ne ntp]; exact s3 _ _ tpB
      have stD : StpsAt (upd H3 x (.ins (He.ga K "Machine") dx (putF "ways" (.ref D2) (fM2 (.int n) (.ref tp))))) ta steps := stps_sb (s3 _ _ exB) (fun xs z => by cases z) .upd (stB.sm s3)
      have ldD : LD (upd H3 x (.ins (He.ga K "Machine") dx (putF "ways" (.ref D2) (fM2 (.int n) (.ref tp))))) D2 n wa (fun _ => []) := ld.sb (s3 _ _ exB) (fun _ z => by cases z) (fun _ z => by cases z) .upd
      have frD : ∀ s, s < n → H (wa s) = none := fun s hs => by
        have h1 := fr s hs
        have nx : wa s ≠ x := fun z => by rw [z, exB] at h1; cases h1
        cases e : H (wa s) with
        | none => rfl
        | some o => rw [sbB _ _ nx e] at h1; cases h1
      generalize upd H3 x (.ins (He.ga K "Machine") dx (putF "ways" (.ref D2) (fM2 (.int n) (.ref tp)))) = HD at sbD exD tpD stD ldD
      clear ld s3 sbB exB tpB stB fr hD2
      have hl2 : ta.length = steps.length := Paired.length stD
      refine ⟨_, rfl, x, dx, _, _, rfl, exD, lkM3s _ _ _, tp, rfl, ⟨_, .of tpD⟩, ?_⟩
      refine for_it walk_tup (fun i σ H' => ∃ o5, σ = [some (.ref x), some (.int n), some (.ref sl), some (.ref kd), o4, o5, none] ∧ Sbut x H H' ∧ H' x = some (.ins (He.ga K "Machine") dx (fM3 (.int n) (.ref tp) (.ref D2))) ∧ H' tp = some (.tup (ta.map V.ref)) ∧ StpsAt H' ta steps ∧
          LD H' D2 n wa (fun s => (((ta.zip steps).take i).filter (fun p => decide (p.2.s = (s : Int)))).map (fun p => V.ref p.1))) ⟨o5, rfl, sbD, exD, tpD, stD, ldD⟩ (fun i σ H' _ ⟨_, _, _, _, e, _⟩ => .of e) ?_ ?_
      · rintro i v σ H4 H5 hi ⟨o5, rfl, sb, ex, etp, est, eld⟩ ⟨rfl, hv⟩
        rw [List.length_map] at hi
        rw [List.getElem?_map] at hv
        cases ha : ta[i]? with
        | none => rw [ha] at hv; cases hv
        | some a =>
          rw [ha] at hv
          cases hv
          obtain ⟨t, ht, hta⟩ := paired_get est ha
          have tok := (hok t ((mem t).mp (List.mem_of_getElem? ht))).1
          obtain ⟨si, esi⟩ : ∃ si : Nat, t.s = si := ⟨t.s.toNat, by have := tok.s0; omega⟩
          have hsi : si < n := by have := tok.s1; omega
          refine ⟨_, rfl, x, dx, _, _, rfl, ex, lkM3 _ _ _, ?_⟩
          have small : ∀ s : Nat, ((((ta.zip steps).take i).filter (fun p => decide (p.2.s = (s : Int)))).map (fun p => V.ref p.1)).length < sizeLine := fun s => by
            refine szLt ?_
            rw [List.length_map]
            refine Nat.lt_of_le_of_lt (List.length_filter_le _ _) (Nat.lt_of_le_of_lt (List.length_take_le _ _) ?_)
            omega
          have els := eld.ls si hsi
          have nsx : wa si ≠ x := fun z => by rw [z, ex] at els; cases els
          have nst : wa si ≠ tp := fun z => by rw [z, etp] at els; cases els
          refine ⟨_, rfl, a, t.vs, 0, .int t.s, rfl, rfl, .of hta, rfl, D2, .ref (wa si), rfl, by rw [esi]; exact eld.get hsi, .inl ⟨rfl, _, .of els⟩, _, rfl, wa si, _, _, rfl, rfl, els, small si, _, rfl, ?_, ?_, ?_, ?_, ?_⟩
          · intro b o nb e
            rw [upd_ne fun z => by have e2 := frD si hsi; rw [← z, e] at e2; cases e2]
            exact sb b o nb e
          · rw [upd_ne nsx.symm]
            exact ex
          · rw [upd_ne nst.symm]
            exact etp
          · exact stps_sb els (fun xs z => by cases z) .upd est
          · refine (eld.app hsi).congr fun s hs => ?_
            rw [take_snoc (zip_get ha ht), List.filter_append, List.map_append]
            by_cases e : s = si
            · rw [if_pos e, e, List.filter_cons_of_pos (by simpa using esi)]
              rfl
            · rw [if_neg e, List.filter_cons_of_neg (by simp; omega)]
              simp
      · rintro σ H4 ⟨o5, rfl, sb, ex, etp, est, eld⟩
        have turn : ∀ (fld : Stp → Str) (ix : Int) (H0' : Hp) (u : Stp) (a : Addr) (H' : Hp), (atI u.vs ix = some (.str (fld u))) → Same H0' H' → StpR H' a u → ∀ Kt : Option (V × V) → Hp → Prop, (∀ H'', Same H' H'' → Kt ((fldF fld u).map fun p => (kV p.1, p.2)) H'') →
            stpD (gName 5) (tTest (tOp rNe (tOp (rIxT K) (tVar 5) (tC (.int ix))) (tC (.str "")))) (tOp (rIxT K) (tVar 5) (tC (.int ix))) (tC (.bl true)) [5] [some (.ref x), some (.int n), some (.ref sl), some (.ref kd), o4, o5, none] (.ref a) H' Kt := by
          intro fld ix H0' u a H' hix s1 hau Kt k
          refine ⟨rfl, _, rfl, a, u.vs, ix, .str (fld u), rfl, rfl, .of hau, hix, rfl, _, rfl, ?_⟩
          by_cases e : fld u = ""
          · rw [e]
            show Kt none H'
            have := k H' (Same.refl _)
            unfold fldF at this
            rw [if_pos e] at this
            exact this
          · have en : decide (V.str (fld u) = V.str "") = false := decide_eq_false fun z => e (by injection z)
            rw [en]
            refine ⟨_, rfl, a, u.vs, ix, .str (fld u), rfl, rfl, .of hau, hix, ?_⟩
            have := k H' (Same.refl _)
            unfold fldF at this
            rw [if_neg e] at this
            exact this
        have szk : ta.length ≤ 1000000 := by omega
        -- kinds
        refine ⟨_, rfl, x, dx, _, _, rfl, ex, lkM3s _ _ _, tp, rfl, ⟨_, .of etp⟩, ?_⟩
        refine dkData StpR stpR_sm est walk_tup (fldF Stp.k) (fun H' s1 => .of (s1 _ _ etp)) szk (fun u a H' hu s1 hau Kt k => turn Stp.k 1 _ u a H' rfl s1 hau Kt k) fun D3 H5 hD3 s5 e5 => ?_
        obtain ⟨ks, k1, k2, k3⟩ := fld_keys Stp.k steps
        have kl : ks.length ≤ 2 := two_len (p := ("x" : Str)) (q := ("y" : Str)) k2 fun k hk => by
          obtain ⟨h1, t, ht, rfl⟩ := (k3 k).mp hk
          exact ((hok t ((mem t).mp ht)).2.1).elim (fun z => absurd z h1) id
        refine ⟨D3, _, ks, rfl, .inl e5, k1, by omega, fun ys kp yp ysrt hkp => ?_⟩
        refine ⟨_, rfl, x, dx, _, rfl, smNew hkp _ _ (s5 _ _ ex), (by show 3 < 1000; decide), ?_⟩
        have nkp : kp ≠ x := fun z => by rw [z, s5 _ _ ex] at hkp; cases hkp
        have sx := (s5.trans (smNew (o := .lst (ys.map V.str)) hkp)) _ _ ex
        have sbE : Sbut x H (upd (upd H5 kp (.lst (ys.map V.str))) x (.ins (He.ga K "Machine") dx (putF "kinds" (.ref kp) (fM3 (.int n) (.ref tp) (.ref D2))))) := (sb.trans (Sbut.of (s5.trans (smNew hkp)))).trans .upd
        have exE : (upd (upd H5 kp (.lst (ys.map V.str))) x (.ins (He.ga K "Machine") dx (putF "kinds" (.ref kp) (fM3 (.int n) (.ref tp) (.ref D2))))) x = some (.ins (He.ga K "Machine") dx (fM4 (.int n) (.ref tp) (.ref D2) (.ref kp))) := by rw [upd_same, pfM4]
        have etE : (upd (upd H5 kp (.lst (ys.map V.str))) x (.ins (He.ga K "Machine") dx (putF "kinds" (.ref kp) (fM3 (.int n) (.ref tp) (.ref D2))))) tp = some (.tup (ta.map V.ref)) := by rw [upd_ne ntp]; exact smNew hkp _ _ (s5 _ _ etp)
        have kE : (upd (upd H5 kp (.lst (ys.map V.str))) x (.ins (He.ga K "Machine") dx (putF "kinds" (.ref kp) (fM3 (.int n) (.ref tp) (.ref D2))))) kp = some (.lst (ys.map V.str)) := by rw [upd_ne nkp, upd_same]
        have estE : StpsAt (upd (upd H5 kp (.lst (ys.map V.str))) x (.ins (He.ga K "Machine") dx (putF "kinds" (.ref kp) (fM3 (.int n) (.ref tp) (.ref D2))))) ta steps := stps_sb sx (fun xs z => by cases z) .upd ((est.sm s5).sm (smNew hkp))
        have eldE := (eld.sm (s5.trans (smNew (o := .lst (ys.map V.str)) hkp))).sb sx (fun _ z => by cases z) (fun _ z => by cases z) (.upd (o := .ins (He.ga K "Machine") dx (putF "kinds" (.ref kp) (fM3 (.int n) (.ref tp) (.ref D2)))))
        generalize upd (upd H5 kp (.lst (ys.map V.str))) x (.ins (He.ga K "Machine") dx (putF "kinds" (.ref kp) (fM3 (.int n) (.ref tp) (.ref D2)))) = HE at sbE exE etE kE estE eldE
        clear eld est etp ex sb e5 s5
        -- words
        refine ⟨_, rfl, x, dx, _, _, rfl, exE, lkM4s _ _ _ _, tp, rfl, ⟨_, .of etE⟩, ?_⟩
        refine dkData StpR stpR_sm estE walk_tup (fldF Stp.w) (fun H' s1 => .of (s1 _ _ etE)) szk (fun u a H' hu s1 hau Kt k => turn Stp.w 2 _ u a H' rfl s1 hau Kt k) fun D4 H6 hD4 s6 e6 => ?_
        obtain ⟨ws, w1, w2, w3⟩ := fld_keys Stp.w steps
        have wl : ws.length ≤ 2 := two_len (p := ("a" : Str)) (q := ("b" : Str)) w2 fun k hk => by
          obtain ⟨h1, t, ht, rfl⟩ := (w3 k).mp hk
          exact ((hok t ((mem t).mp ht)).2.2).elim (fun z => absurd z h1) id
        refine ⟨D4, _, ws, rfl, .inl e6, w1, by omega, fun zs wp zp zsrt hwp => ?_⟩
        refine ⟨_, rfl, x, dx, _, rfl, smNew hwp _ _ (s6 _ _ exE), (by show 4 < 1000; decide), ?_⟩
        have s7 : Same HE (upd H6 wp (.lst (zs.map V.str))) := s6.trans (smNew hwp)
        refine q _ ⟨n, steps, ys⟩ ((sbE.trans (Sbut.of s7)).trans .upd) ?_ ?_
        · have kmem : ∀ k ∈ ys, k ≠ "" ∧ ∃ t ∈ steps, t.k = k := fun k hk => (k3 k).mp (yp.mem_iff.mp hk)
          refine ⟨⟨n1, n2, fun t ht => (hok t ((mem t).mp ht)).1, (by show steps.length ≤ 1000; omega), by rw [yp.length_eq]; exact kl, yp.nodup_iff.mpr k2, fun t ht hk => yp.mem_iff.mpr ((k3 _).mpr ⟨hk, t, ht, rfl⟩), fun k hk => ?_⟩, ?_⟩
          · obtain ⟨h1, t, ht, rfl⟩ := kmem k hk
            refine ⟨?_, t, ht, rfl⟩
            rcases (hok t ((mem t).mp ht)).2.1 with e | e | e
            · exact absurd e h1
            · exact ⟨120, by decide, by decide, e⟩
            · exact ⟨121, by decide, by decide, e⟩
          · have sx6 := s7 _ _ exE
            have nwx : ∀ b o, (upd H6 wp (.lst (zs.map V.str))) b = some o → (∀ C d f, o ≠ .ins C d f) → b ≠ x := fun b o e h1 z => by rw [z, sx6] at e; exact h1 _ _ _ (Option.some.inj e).symm
            have get : ∀ b o, HE b = some o → (∀ C d f, o ≠ .ins C d f) → upd (upd H6 wp (.lst (zs.map V.str))) x (.ins (He.ga K "Machine") dx (putF "words" (.ref wp) (fM4 (.int n) (.ref tp) (.ref D2) (.ref kp)))) b = some o := fun b o e h1 => by
              rw [upd_ne (nwx b o (s7 _ _ e) h1)]
              exact s7 _ _ e
            refine ⟨dx, tp, D2, kp, wp, ta, wa, by rw [upd_same, pfM5], get _ _ etE (fun _ _ _ z => by cases z), stps_sb sx6 (fun xs z => by cases z) .upd (estE.sm s7), get _ _ eldE.dk (fun _ _ _ z => by cases z), fun s hs => ⟨((ta.zip steps).filter (fun p => decide (p.2.s = (s : Int)))).map (·.1), ?_, ?_⟩, get _ _ kE (fun _ _ _ z => by cases z)⟩
            · have := get _ _ (eldE.ls s hs) (fun _ _ _ z => by cases z)
              rw [List.length_map, List.take_of_length_le (by rw [List.length_zip]; omega)] at this
              rw [this, List.map_map]
              rfl
            · exact stps_filter (f := fun t => decide (t.s = (s : Int))) (stps_sb sx6 (fun xs z => by cases z) .upd (estE.sm s7))
        · refine ⟨rfl, mem, snd, ysrt, fun k => ?_⟩
          show k ∈ ys ↔ _
          rw [yp.mem_iff, k3]
          exact ⟨fun ⟨a, t, ht, e⟩ => ⟨a, t, (mem t).mp ht, e⟩, fun ⟨a, t, ht, e⟩ => ⟨a, t, (mem t).mpr ht, e⟩⟩
end
end Al
set_option maxHeartbeats 4000000
/-! D6: check_allowances, limits_of. -/
namespace Al
open PySem PySem.Spec PyProof.Rows L2
/-- allowances as a dict's entries -/
def alK (al : List (Str × Option Int)) : List (Key × V) := al.map fun p => (.inr p.1, lv p.2)
structure AlOk (al : List (Str × Option Int)) : Prop where
  wd : ∀ p ∈ al, Letter p.1
  nn : ∀ p ∈ al, ∀ i, p.2 = some i → 0 ≤ i
  sz : al.length ≤ 1000
  nd : (al.map (·.1)).Nodup
def alGet (al : List (Str × Option Int)) (k : Str) : Option Int := match (al.find? fun p => decide (p.1 = k)) with
  | some p => p.2
  | none => some 0
theorem unlock_same {H H' : Hp} {d : Addr} {u : HO} {od : Obj} (hd : H d = some u) (s : Same (upd H d (.frz od u)) H') : Same H (upd H' d u) := fun b o e => by
  by_cases hb : b = d
  · rw [hb] at e ⊢
    rw [upd_same, ← e, hd]
  · rw [upd_ne hb]
    exact s b o (by rw [upd_ne hb]; exact e)
theorem alK_nd {al : List (Str × Option Int)} (h : AlOk al) : ((alK al).map (·.1)).Nodup := by
  unfold alK
  rw [List.map_map]
  have e : ((·.1) ∘ fun p : Str × Option Int => ((.inr p.1 : Key), lv p.2)) = fun p => (Sum.inr p.1 : Key) := rfl
  rw [e]
  have := h.nd
  induction al with
  | nil => exact .nil
  | cons a r ih =>
    obtain ⟨h1, h2⟩ := List.nodup_cons.mp this
    refine List.nodup_cons.mpr ⟨fun z => h1 ?_, ih ⟨fun p hp => h.wd p (by simp [hp]), fun p hp => h.nn p (by simp [hp]), by have := h.sz; simp at this; omega, h2⟩ h2⟩
    obtain ⟨p, hp, e⟩ := List.mem_map.mp z
    exact List.mem_map.mpr ⟨p, hp, Sum.inr.inj e⟩
theorem alK_get (al : List (Str × Option Int)) (k : Str) : (valV (alK al) (.inr k)).getD (.int 0) = lv (alGet al k) := by
  unfold valV alK alGet
  rw [List.find?_map]
  have e : ((fun kv : Key × V => decide (kv.1 = .inr k)) ∘ fun p : Str × Option Int => ((.inr p.1 : Key), lv p.2)) = fun p => decide (p.1 = k) := by
    funext p
    simp
  rw [e]
  cases al.find? fun p => decide (p.1 = k) <;> rfl
theorem all_flat : ∀ ks : List Str, (ks.map V.str).all flatV = true
  | [] => rfl
  | k :: ks => by rw [List.map_cons, List.all_cons, all_flat ks]; rfl
theorem inV_str (k : Str) (ks : List Str) : inV (V.str k) (ks.map V.str) = decide (k ∈ ks) := by
  induction ks with
  | nil => rfl
  | cons a r ih =>
    have e : inV (V.str k) ((a :: r).map V.str) = ((a == k) || inV (V.str k) (r.map V.str)) := rfl
    rw [e, ih]
    by_cases h1 : a = k
    · simp [h1]
    · have h3 : ¬ k = a := fun z => h1 z.symm
      simp [h1, h3]
section
variable {P : Program} {w : World} {K : PySem.W.Frag} {mg : Str → Option Value} {base : Heap}
def spChkAl : Sp := fun vs H Q _ => ∃ (a : Addr) (al : List (Str × Option Int)), vs = [.ref a] ∧ H a = some (.dK (alK al)) ∧ AlOk al ∧ ∀ H', Same H H' → Q .non H'
theorem ok_check_allowances (T : Txt K mg) : GFn P w K mg base 2 "check_allowances" spChkAl := by
  refine T.okG h_check_allowances rfl (by decide +kernel) sc_check_allowances rfl rfl b_check_allowances (fun vs H Q E h => ?_) (fun cdv A outer s H vs Q E hr h => ?_)
  · obtain ⟨a, al, rfl, _⟩ := h
    rfl
  · obtain ⟨a, al, rfl, ha, ok, q⟩ := h
    refine ⟨_, (pss_cons (ps_lock (ps_if (PW.pt (pw_or (pt_not (pt_val (pe_isi K "dict" (T.f "isinstance") (T.f "dict") (pv 0)))) (pw_or1 (pt_not (pt_val (pe_callB (cAll K) (by rfl) (T.f "all") (by decide +kernel) (pa_cons (pe_lc (own := [("kind", 2)]) rfl sc_check_allowances.nd (pi_keys (pv 0)) (blkOk_by (own := [("kind", 2)]) (N := N_check_allowances) (sc := defScope s_check_allowances) (by decide +kernel)) (fun _ _ _ _ _ => (pg_l (i := 2) sc_check_allowances.nd rfl rfl)) (fun _ _ _ _ _ => pts_nil) (fun _ _ _ _ _ => (pe_f (ok_is_word T) (hr.mono (by decide)) (pa_cons (pv 2) pa_nil)))) pa_nil))))))) 
        pss_never
        pss_nil))
        (pss_cons (ps_lock (ps_setLc (i := 1) (own := [("kind", 2)]) rfl sc_check_allowances.nd rfl rfl (sw_true rfl rfl rfl (by decide +kernel)) (pi_keys (pv 0)) (blkOk_by (own := [("kind", 2)]) (N := N_check_allowances) (sc := defScope s_check_allowances) (by decide +kernel)) (fun _ _ _ _ _ => (pg_l (i := 2) sc_check_allowances.nd rfl rfl)) (fun _ _ _ _ _ => pts_nil) (fun _ _ _ _ _ => (pe_dget (hu_of hr) (pv 0) (pv 2) (fun _ _ => rfl)))))
        (pss_one (ps_if (pt_not (pt_val (pe_callB (cAll K) (by rfl) (T.f "all") (by decide +kernel) (pa_cons (pe_lc (own := [("limit", 3)]) rfl sc_check_allowances.nd (pi_list (pv 1)) (blkOk_by (own := [("limit", 3)]) (N := N_check_allowances) (sc := defScope s_check_allowances) (by decide +kernel)) (fun _ _ _ _ _ => (pg_l (i := 3) sc_check_allowances.nd rfl rfl)) (fun _ _ _ _ _ => pts_nil) (fun _ _ _ _ _ => (pe_or (pe_cmp (pc_isN (pv 3)) rfl) (pe_one (pe_and (pe_f (ok_is_number T) (hr.mono (by decide)) (pa_cons (pv 3) pa_nil)) (pe_one (pe_cmpR op_ge (pv 3) pe_int (nomark _)))))))) pa_nil)))) 
        pss_never
        pss_nil)))), ?_⟩
    refine ⟨a, _, ha, True.intro, fun od => ?_⟩
    have hf : (upd H a (.frz od (.dK (alK al)))) a = some (.frz od (.dK (alK al))) := upd_same
    refine ⟨_, rfl, _, "dict", true, rfl, .fDict hf, by decide +kernel, true, rfl, ?_⟩
    refine ⟨_, rfl, a, od, rfl, .inl ⟨_, hf, ?_⟩⟩
    have kl : (alK al).length ≤ 1000000 := by unfold alK; rw [List.length_map]; have := ok.sz; omega
    refine lcV walk_keys (fun _ => some (.bl true)) (fun H' s1 => s1 _ _ hf) kl ?_ ?_
    · rintro i x H1 H2 hi s1 ⟨rfl, k, v, hk, rfl⟩ Kt kk
      unfold alK at hk
      rw [List.getElem?_map] at hk
      cases hp : al[i]? with
      | none => rw [hp] at hk; cases hk
      | some p =>
        rw [hp] at hk
        cases hk
        exact ⟨rfl, _, rfl, p.1, rfl, ok.wd p (List.mem_of_getElem? hp), fun H' s2 => kk H' s2⟩
    · intro D H1 hD s1 hL
      dsimp only [tNil]
      refine rAll_of hL true all_yes ?_
      refine ⟨true, rfl, s1 _ _ hf, ?_⟩
      have s2 := unlock_same ha s1
      generalize upd H1 a (.dK (alK al)) = H2 at s2
      refine ⟨a, _, s2 _ _ ha, True.intro, fun od2 => ?_⟩
      have hf2 : (upd H2 a (.frz od2 (.dK (alK al)))) a = some (.frz od2 (.dK (alK al))) := upd_same
      refine ⟨_, rfl, a, od2, rfl, .inl ⟨_, hf2, ?_⟩⟩
      have el : (alK al).length = al.length := by unfold alK; rw [List.length_map]
      refine lcV walk_keys (fun i => al[i]?.map fun p => lv p.2) (fun H' s1 => s1 _ _ hf2) kl ?_ ?_
      · rintro i x H3 H4 hi s3 ⟨rfl, k, v, hk, rfl⟩ Kt kk
        have hv := val_nodup (alK_nd ok) _ (List.mem_of_getElem? hk)
        unfold alK at hk
        rw [List.getElem?_map] at hk
        cases hp : al[i]? with
        | none => rw [hp] at hk; cases hk
        | some p =>
          rw [hp] at hk
          cases hk
          have q2 := kk H4 (Same.refl _)
          rw [hp] at q2
          exact ⟨rfl, _, rfl, _, rfl, a, lv p.2, rfl, .inl ⟨_, .inr p.1, .inr ⟨od2, s3 _ _ hf2⟩, rfl, hv.symm⟩, q2⟩
      · intro D2 H3 hD2 s3 hL2
        rw [el, rangeP] at hL2
        refine ⟨s3 _ _ hf2, ?_⟩
        have s4 := s2.trans (unlock_same (s2 _ _ ha) s3)
        have hL3 : (upd H3 a (.dK (alK al))) D2 = some (.lst (al.map fun p => lv p.2)) := by
          rw [upd_ne fun z => by rw [z] at hL2; rw [s3 _ _ hf2] at hL2; cases hL2]
          exact hL2
        generalize upd H3 a (.dK (alK al)) = H4 at s4 hL3
        refine ⟨_, rfl, D2, rfl, ⟨_, .of hL3⟩, ?_⟩
        refine lcList (fun _ => some (.bl true)) (.of hL3) (by rw [List.length_map]; omega) ?_ ?_
        · intro x H5 hx s5 Kt kk
          obtain ⟨p, hp, rfl⟩ := List.mem_map.mp hx
          refine ⟨rfl, _, rfl, ?_⟩
          cases e : p.2 with
          | none => exact ⟨true, rfl, kk _ (Same.refl _)⟩
          | some i =>
            have h0 := ok.nn p hp i e
            refine ⟨false, rfl, _, rfl, i, rfl, _, rfl, _, rfl, i, 0, rfl, rfl, ?_⟩
            show Kt (some (V.bl (decide (0 ≤ i)))) _
            rw [decide_eq_true h0]
            exact kk _ (Same.refl _)
        · intro D3 H5 hD3 s5 hL5
          dsimp only [tNil]
          refine rAll_of hL5 true all_yes ?_
          exact ⟨true, rfl, q _ (s4.trans s5)⟩
def spLimits (K : PySem.W.Frag) : Sp := fun vs H Q _ => ∃ (m a : Addr) (M : Mch) (al : List (Str × Option Int)), vs = [.ref m, .ref a] ∧ MAt K H m M ∧ H a = some (.dK (alK al)) ∧ AlOk al ∧ (∀ p ∈ al, p.1 ∈ M.kinds) ∧ ∀ H' p, Same H H' → H' p = some (.tup ((M.kinds.map (alGet al)).map lv)) → Q (.ref p) H'
theorem ok_limits_of (T : Txt K mg) : GFn P w K mg base 3 "limits_of" (spLimits K) := by
  refine T.okG h_limits_of rfl (by decide +kernel) sc_limits_of rfl rfl b_limits_of (fun vs H Q E h => ?_) (fun cdv A outer s H vs Q E hr h => ?_)
  · obtain ⟨m, a, M, al, rfl, _⟩ := h
    rfl
  · obtain ⟨m, a, M, al, rfl, hm, ha, ok, hk, q⟩ := h
    refine ⟨_, (pss_cons (ps_expr (pe_f (ok_check_allowances T) (hr.mono (by decide)) (pa_cons (pv 1) pa_nil)))
        (pss_cons (ps_lock (ps_if (pt_not (pt_val (pe_callB (cAll K) (by rfl) (T.f "all") (by decide +kernel) (pa_cons (pe_lc (own := [("kind", 2)]) rfl sc_limits_of.nd (pi_keys (pv 1)) (blkOk_by (own := [("kind", 2)]) (N := N_limits_of) (sc := defScope s_limits_of) (by decide +kernel)) (fun _ _ _ _ _ => (pg_l (i := 2) sc_limits_of.nd rfl rfl)) (fun _ _ _ _ _ => pts_nil) (fun _ _ _ _ _ => (pe_cmpR (op_inK K) (pv 2) (pe_at (T.c "Machine") (T.n "Machine" "kinds") (pv 0)) rfl))) pa_nil)))) 
        pss_never
        pss_nil))
        (pss_one (ps_ret (pe_callTy (cTuple K) (by rfl) (T.f "tuple") (by decide +kernel) (pa_cons (pe_lc (own := [("kind", 2)]) rfl sc_limits_of.nd (pi_list (pe_at (T.c "Machine") (T.n "Machine" "kinds") (pv 0))) (blkOk_by (own := [("kind", 2)]) (N := N_limits_of) (sc := defScope s_limits_of) (by decide +kernel)) (fun _ _ _ _ _ => (pg_l (i := 2) sc_limits_of.nd rfl rfl)) (fun _ _ _ _ _ => pts_nil) (fun _ _ _ _ _ => (pe_dget2 (hu_of hr) (pv 1) (pv 2) pe_int  ⟨by rfl, by rfl, by rfl, by rfl⟩))) pa_nil)))))), ?_⟩
    refine ⟨_, rfl, a, al, rfl, ha, ok, fun H1 s1 => ?_⟩
    refine ⟨a, _, s1 _ _ ha, True.intro, fun od => ?_⟩
    have hf : (upd H1 a (.frz od (.dK (alK al)))) a = some (.frz od (.dK (alK al))) := upd_same
    have kl : (alK al).length ≤ 1000000 := by unfold alK; rw [List.length_map]; have := ok.sz; omega
    obtain ⟨okM, dx, ts, wd, kl', wl, sa, wa, h1, h2, h3, h4, h5, h6⟩ := hm.sm s1
    have h1' := (upd_ne (H := H1) (o := .frz od (.dK (alK al))) (show m ≠ a from fun z => by rw [z, s1 _ _ ha] at h1; cases h1)).trans h1
    have h6' := (upd_ne (H := H1) (o := .frz od (.dK (alK al))) (show kl' ≠ a from fun z => by rw [z, s1 _ _ ha] at h6; cases h6)).trans h6
    refine ⟨_, rfl, a, od, rfl, .inl ⟨_, hf, ?_⟩⟩
    refine lcV walk_keys (fun _ => some (.bl true)) (fun H' s1 => s1 _ _ hf) kl ?_ ?_
    · rintro i x H2 H3 hi s2 ⟨rfl, k, v, hk', rfl⟩ Kt kk
      unfold alK at hk'
      rw [List.getElem?_map] at hk'
      cases hp : al[i]? with
      | none => rw [hp] at hk'; cases hk'
      | some p =>
        rw [hp] at hk'
        cases hk'
        refine ⟨rfl, _, rfl, _, rfl, m, dx, _, _, rfl, s2 _ _ h1', fm_kinds .., kl', _, rfl, .inl (.of (s2 _ _ h6')), rfl, all_flat _, ?_⟩
        show Kt (some (V.bl (inV (V.str p.1) (M.kinds.map V.str)))) _
        rw [inV_str, decide_eq_true (hk p (List.mem_of_getElem? hp))]
        exact kk _ (Same.refl _)
    · intro D H2 hD s2 hL
      dsimp only [tNil]
      refine rAll_of hL true all_yes ?_
      refine ⟨true, rfl, s2 _ _ hf, ?_⟩
      have s3 := s1.trans (unlock_same (s1 _ _ ha) s2)
      generalize upd H2 a (.dK (alK al)) = H3 at s3
      obtain ⟨dx2, ts2, wd2, kl2, fs2, sa2, wa2, pc⟩ := (hm.sm s3).pc
      have hkl := pc.kl
      refine ⟨_, rfl, m, dx2, _, _, rfl, pc.m, pc.kinds, kl2, rfl, ⟨_, .of hkl⟩, ?_⟩
      refine lcMapL (fun k => some (lv (alGet al k))) (.of hkl) (by have := hm.ok.k2; omega) ?_ ?_
      · intro k H4 hx s4 Kt kk
        refine ⟨rfl, _, rfl, a, rfl, .inl ⟨_, .inl ((s3.trans s4) _ _ ha)⟩, _, rfl, valV (alK al) (.inr k), DGet.k (k := .inr k) ((s3.trans s4) _ _ ha), ?_⟩
        show Kt (some ((valV (alK al) (.inr k)).getD (.int 0))) _
        rw [alK_get]
        exact kk _ (Same.refl _)
      · intro D3 H4 hD3 s4 hL4
        dsimp only [tNil]
        refine ⟨D3, _, rfl, .inl ⟨.of hL4, fun p hp => ?_⟩⟩
        refine q _ p (s3.trans (s4.trans (smNew hp))) ?_
        rw [upd_same, filterMap_some, List.map_map]
        rfl
end
end Al
set_option maxHeartbeats 4000000
/-! D7: Adder, own_steps. -/
namespace Al
open PySem PySem.Spec PyProof.Rows L2
theorem all_flatI : ∀ ks : List Int, (ks.map V.int).all flatV = true
  | [] => rfl
  | k :: ks => by rw [List.map_cons, List.all_cons, all_flatI ks]; rfl
theorem inV_int (k : Int) (ks : List Int) : inV (V.int k) (ks.map V.int) = decide (k ∈ ks) := by
  induction ks with
  | nil => rfl
  | cons a r ih =>
    have e : inV (V.int k) ((a :: r).map V.int) = ((a == k) || inV (V.int k) (r.map V.int)) := rfl
    rw [e, ih]
    by_cases h1 : a = k
    · simp [h1]
    · have h3 : ¬ k = a := fun z => h1 z.symm
      simp [h1, h3]
/-- the own steps of a state; none at a goal -/
def ownL (M : Mch) (ss : List Int) (s : Int) : List Stp := if s ∈ ss then [] else (M.steps.filter fun t => decide (t.s = s)).filter fun t => decide (t.k = "")
/-- the place of each kind -/
def spotK (kinds : List Str) : List (Key × V) := (List.range kinds.length).filterMap fun (i : Nat) => kinds[i]?.map fun k => (.inr k, .int (i : Int))
theorem spotK_keys (kinds : List Str) : (spotK kinds).map (·.1) = kinds.map Sum.inr := by
  unfold spotK
  rw [List.map_filterMap]
  have e : (fun (i : Nat) => Option.map (fun x : Key × V => x.1) (kinds[i]?.map fun k => ((.inr k : Key), V.int (i : Int)))) = fun (i : Nat) => kinds[i]?.bind fun k => some (.inr k : Key) := by
    funext i
    cases kinds[i]? <;> rfl
  rw [e, rangeFM, filterMap_some]
theorem spotK_nd {kinds : List Str} (h : kinds.Nodup) : ((spotK kinds).map (·.1)).Nodup := by
  rw [spotK_keys]
  induction kinds with
  | nil => exact .nil
  | cons a r ih =>
    obtain ⟨h1, h2⟩ := List.nodup_cons.mp h
    refine List.nodup_cons.mpr ⟨fun z => h1 ?_, ih h2⟩
    obtain ⟨p, hp, e⟩ := List.mem_map.mp z
    rw [← Sum.inr.inj e]
    exact hp
theorem spotK_get {kinds : List Str} (h : kinds.Nodup) {i : Nat} {k : Str} (hk : kinds[i]? = some k) : valV (spotK kinds) (.inr k) = some (.int (i : Int)) := by
  have hm : ((.inr k, .int (i : Int)) : Key × V) ∈ spotK kinds := List.mem_filterMap.mpr ⟨i, List.mem_range.mpr (List.getElem?_eq_some_iff.mp hk).1, by rw [hk]; rfl⟩
  exact val_nodup (spotK_nd h) _ hm
theorem atV {v : List Int} {i : Nat} (h : i < v.length) : atI (v.map V.int) (i : Int) = some (.int v[i]) := atI_nat (by rw [List.getElem?_map, List.getElem?_eq_getElem h]; rfl)
/-- an Adder for the kinds -/
def AddAt (K : PySem.W.Frag) (H : Hp) (x : Addr) (kinds : List Str) : Prop := ∃ dx d, H x = some (.ins (He.ga K "Adder") dx [(("spots" : Str), .ref d)]) ∧ H d = some (.dK (spotK kinds))
theorem AddAt.sm {K : PySem.W.Frag} {H H' : Hp} {x : Addr} {kinds : List Str} (s : Same H H') (h : AddAt K H x kinds) : AddAt K H' x kinds := by
  obtain ⟨dx, d, a, b⟩ := h
  exact ⟨dx, d, s _ _ a, s _ _ b⟩
/-- one more fall of the kind k -/
def vecAdd (kinds : List Str) (v : List Int) (k : Str) : List Int := if k = "" then v else v.take (kinds.idxOf k) ++ (v.getD (kinds.idxOf k) 0 + 1) :: v.drop (kinds.idxOf k + 1)
section
variable {P : Program} {w : World} {K : PySem.W.Frag} {mg : Str → Option Value} {base : Heap}
def spAddI (K : PySem.W.Frag) : Sp := fun vs H Q _ => ∃ (x dx m : Addr) (M : Mch), vs = [.ref x, .ref m] ∧ H x = some (.ins (He.ga K "Adder") dx []) ∧ MAt K H m M ∧ ∀ H', Sbut x H H' → AddAt K H' x M.kinds → Q .non H'
/-- {kind: spot for spot, kind in enumerate(machine.kinds)} -/
theorem dk_spots {g : TG} {tt : TT} {tk tv : TE} {vs : List Nat} {σ : L2.St} {H1 : Hp} {Q : Addr → Hp → Prop} {kl : Addr} {kinds : List Str} (hk : H1 kl = some (.lst (kinds.map V.str))) (nd : kinds.Nodup) (h2 : kinds.length ≤ 1000000)
    (hs : ∀ (i : Nat) (k : Str) (T : Addr) (H : Hp), H T = some (.tup [.int (i : Int), .str k]) → ∀ Kt : Option (V × V) → Hp → Prop, (Kt (some (.str k, .int (i : Int))) H) → stpD g tt tk tv vs σ (.ref T) H Kt)
    (hd : ∀ D H', H1 D = none → Same H1 H' → H' D = some (.dK (spotK kinds)) → Q D H') : DcW (Ite K kl) g tt tk tv vs σ H1 (fun _ => .dK []) putKD Q := by
  refine dkV (walk_enum (xs := kinds.map V.str)) (fun i => kinds[i]?.map fun k => (.inr k, .int (i : Int))) (fun H' s => .of (s _ _ hk)) (by rw [List.length_map]; exact h2) ?_ fun D H' h1 h2 h3 => hd D H' h1 h2 ?_
  · rintro i x H H' hi s1 ⟨T, u, v, rfl, hT, rfl, hu, hv⟩ Kt k
    have hv : (kinds.map V.str)[i]? = some v := hv
    rw [List.getElem?_map] at hv
    cases e : kinds[i]? with
    | none => rw [e] at hv; cases hv
    | some kk =>
      rw [e] at hv
      cases hv
      cases hu
      refine hs i kk T _ upd_same Kt ?_
      have q := k _ (smNew hT (o := .tup [.int (i : Int), .str kk]))
      rw [e] at q
      exact q
  · rw [List.length_map] at h3
    rw [h3]
    exact congrArg some (congrArg HO.dK (putAll_nodup _ (spotK_nd nd)))
theorem ok_Adder_init (T : Txt K mg) : CFn P w K mg base 1 "Adder" (spAddI K) := by
  refine T.okC h_Adder_init rfl (by decide +kernel) (by decide +kernel) sc_Adder_init rfl rfl b_Adder_init (fun vs H Q E h => ?_) (fun cdv A outer s H vs Q E hr h => ?_)
  · obtain ⟨x, dx, m, M, rfl, _⟩ := h
    rfl
  · obtain ⟨x, dx, m, M, rfl, hx, hm, q⟩ := h
    refine ⟨_, (pss_one (ps_at (T.c "Adder") (T.n "Adder" "spots") (pv 0) (pe_dcg (own := [("spot", 2), ("kind", 3)]) dkindK rfl sc_Adder_init.nd (pi_enum (by rfl) (T.f "enumerate") (pa_cons (pe_at (T.c "Machine") (T.n "Machine" "kinds") (pv 1)) pa_nil)) (blkOk_by (own := [("spot", 2), ("kind", 3)]) (N := N_Adder_init) (sc := defScope s_Adder_init) (by decide +kernel)) ⟨(fun _ _ _ _ _ => (pg_t K 2 rfl (pgs_cons (pg_l (i := 2) sc_Adder_init.nd rfl rfl) (pgs_cons (pg_l (i := 3) sc_Adder_init.nd rfl rfl) pgs_nil)))), (fun _ _ _ _ _ => pts_nil), (fun _ _ _ _ _ => (pv 3)), (fun _ _ _ _ _ => (pv 2))⟩))), ?_⟩
    obtain ⟨mdx, ts, wd, kl, fs, sa, wa, pc⟩ := hm.pc
    refine ⟨_, rfl, m, mdx, _, _, rfl, pc.m, pc.kinds, kl, _, rfl, .of pc.kl, ?_⟩
    refine dk_spots pc.kl hm.ok.knd (by have := hm.ok.k2; omega) (fun i k T H hT Kt kt => ⟨T, _, rfl, SqT.of hT, rfl, _, _, rfl, _, _, rfl, rfl, rfl, _, rfl, _, rfl, kt⟩) fun D H' hD s1 e1 => ?_
    refine ⟨_, rfl, x, dx, [], rfl, s1 _ _ hx, by decide, q _ ((Sbut.of s1).trans .upd) ⟨dx, D, upd_same, ?_⟩⟩
    rw [upd_ne fun z => by rw [z, s1 _ _ hx] at e1; cases e1]
    exact e1
def spAdd (K : PySem.W.Frag) : Sp := fun vs H Q _ => ∃ (x va ta : Addr) (kinds : List Str) (v : List Int) (t : Stp), vs = [.ref x, .ref va, .ref ta] ∧ AddAt K H x kinds ∧ VecR K H va v ∧ StpR H ta t ∧ v.length = kinds.length ∧ kinds.Nodup ∧ kinds.length ≤ 2 ∧ (t.k ≠ "" → t.k ∈ kinds) ∧ ∀ H' p, Same H H' → VecR K H' p (vecAdd kinds v t.k) → Q (.ref p) H'
theorem ok_Adder_call (T : Txt K mg) : MFn P w K mg base 1 "Adder" "__call__" (spAdd K) := by
  refine T.okM h_Adder_call rfl (by decide +kernel) (by decide +kernel) sc_Adder_call rfl rfl b_Adder_call (fun vs H Q E h => ?_) (fun cdv A outer s H vs Q E hr h => ?_)
  · obtain ⟨x, va, ta, kinds, v, t, rfl, _⟩ := h
    rfl
  · obtain ⟨x, va, ta, kinds, v, t, rfl, hx, hv, ht, hl, nd, k2, hk, q⟩ := h
    refine ⟨_, (pss_cons (ps_if (pt_cmpR op_eq (pe_ix (ixT K) (pv 2) pe_int (fun _ _ => rfl)) pe_str (nomark _)) 
        (pss_one (ps_ret (pv 1)))
        pss_nil)
        (pss_cons (ps_l (i := 3) sc_Adder_call.nd rfl rfl (pe_dget (hu_of hr) (pe_at (T.c "Adder") (T.n "Adder" "spots") (pv 0)) (pe_ix (ixT K) (pv 2) pe_int (fun _ _ => rfl)) (fun _ _ => rfl)))
        (pss_one (ps_ret (pe_tup (StX.pa_star (pe_slice (sl_cut K) (pv 1) po_none (po_some (pv 3))) (pa_cons (pe_op op_add (pe_ix (ixT K) (pv 1) (pv 3) (fun _ _ => rfl)) pe_int) (StX.pa_star (pe_slice (sl_cut K) (pv 1) (po_some (pe_op op_add (pv 3) pe_int)) po_none) pa_nil)))))))), ?_⟩
    refine ⟨_, rfl, ta, t.vs, 1, .str t.k, rfl, rfl, .of ht, rfl, rfl, _, rfl, ?_⟩
    by_cases e : t.k = ""
    · have ed : decide (V.str t.k = V.str "") = true := by rw [e]; simp
      rw [ed]
      exact ⟨_, rfl, q H va (Same.refl _) (by unfold vecAdd; rw [if_pos e]; exact hv)⟩
    · have ed : decide (V.str t.k = V.str "") = false := decide_eq_false fun z => e (by injection z)
      rw [ed]
      have hki := hk e
      obtain ⟨sp, esp⟩ : ∃ sp, sp = kinds.idxOf t.k := ⟨_, rfl⟩
      have hsp : sp < kinds.length := by rw [esp]; exact List.idxOf_lt_length_of_mem hki
      have gsp : kinds[sp]? = some t.k := by
        rw [List.getElem?_eq_getElem hsp]
        congr 1
        subst esp
        exact List.getElem_idxOf hsp
      have hspv : sp < v.length := by omega
      obtain ⟨dx, d, hxx, hd⟩ := hx
      have dg := DGet.k (k := .inr t.k) hd
      rw [spotK_get nd gsp] at dg
      refine ⟨_, rfl, x, dx, _, _, rfl, hxx, rfl, _, rfl, ta, t.vs, 1, .str t.k, rfl, rfl, .of ht, rfl, d, _, rfl, dg, ?_⟩
      refine ⟨_, rfl, _, rfl, (sp : Int), rfl, va, _, rfl, hv, fun p H1 s1 hp => ⟨p, _, rfl, .inl hp, ?_⟩⟩
      refine ⟨_, rfl, _, rfl, va, _, (sp : Int), .int v[sp], rfl, rfl, smTup s1 hv, atV hspv, v[sp], 1, rfl, rfl, ?_⟩
      refine ⟨_, rfl, _, rfl, (sp : Int), 1, rfl, rfl, (sp : Int) + 1, rfl, va, _, rfl, smTup s1 hv, fun p2 H2 s2 hp2 => ⟨p2, _, rfl, .inl hp2, ?_⟩⟩
      have hp3 : SqT K H2 p2 ((v.drop (sp + 1)).map V.int) := by
        rw [List.map_drop, ← cut_from]
        exact hp2
      have hp4 : SqT K H1 p ((v.take sp).map V.int) := by
        rw [List.map_take, ← cut_to]
        exact hp
      have el : vecAdd kinds v t.k = v.take sp ++ (v[sp] + 1) :: v.drop (sp + 1) := by
        unfold vecAdd
        rw [if_neg e, ← esp, List.getD_eq_getElem?_getD, List.getElem?_eq_getElem hspv]
        rfl
      have eq2 : cutV (v.map V.int) none (some (sp : Int)) ++ (V.int (v[sp] + 1) :: (cutV (v.map V.int) (some ((sp : Int) + 1)) none ++ [])) = (vecAdd kinds v t.k).map V.int := by
        rw [el, List.map_append, List.map_cons, List.map_take, List.map_drop, show ((sp : Int) + 1) = ((sp + 1 : Nat) : Int) from rfl, cut_from, cut_to, List.append_nil]
      have hlen : (vecAdd kinds v t.k).length ≤ 2 := by
        rw [el]
        simp only [List.length_append, List.length_cons, List.length_take, List.length_drop]
        omega
      show _ ≤ _ ∧ _
      rw [eq2]
      refine ⟨by rw [List.length_map]; exact Nat.le_trans hlen (by decide), fun p3 hp3 => q _ p3 ((s1.trans s2).trans (smNew hp3)) ?_⟩
      exact .of upd_same
def spOwn (K : PySem.W.Frag) : Sp := fun vs H Q _ => ∃ (m ga : Addr) (M : Mch) (ss : List Int) (i : Int), vs = [.ref m, .ref ga, .int i] ∧ MAt K H m M ∧ SqT K H ga (ss.map V.int) ∧ 0 ≤ i ∧ i < M.n ∧
  ∀ H' l as, Same H H' → H l = none → H' l = some (.lst (as.map V.ref)) → StpsAt H' as (ownL M ss i) → Q (.ref l) H'
theorem ok_own_steps (T : Txt K mg) : GFn P w K mg base 2 "own_steps" (spOwn K) := by
  refine T.okG h_own_steps rfl (by decide +kernel) sc_own_steps rfl rfl b_own_steps (fun vs H Q E h => ?_) (fun cdv A outer s H vs Q E hr h => ?_)
  · obtain ⟨m, ga, M, ss, i, rfl, _⟩ := h
    rfl
  · obtain ⟨m, ga, M, ss, i, rfl, hm, hg, i0, i1, q⟩ := h
    refine ⟨_, (pss_one (ps_ret (pe_ifExp (pt_cmpR (op_inK K) (pv 2) (pv 1) rfl) (pe_lst pa_nil) (pe_lc (own := [("step", 3)]) rfl sc_own_steps.nd (pi_list (pe_dget (hu_of hr) (pe_at (T.c "Machine") (T.n "Machine" "ways") (pv 0)) (pv 2) (fun _ _ => rfl))) (blkOk_by (own := [("step", 3)]) (N := N_own_steps) (sc := defScope s_own_steps) (by decide +kernel)) (fun _ _ _ _ _ => (pg_l (i := 3) sc_own_steps.nd rfl rfl)) (fun _ _ _ _ _ => (pts_one (pt_cmpR op_eq (pe_ix (ixT K) (pv 3) pe_int (fun _ _ => rfl)) pe_str (nomark _)))) (fun _ _ _ _ _ => (pv 3)))))), ?_⟩
    refine ⟨_, rfl, _, rfl, ga, _, rfl, .inr hg, rfl, all_flatI _, ?_⟩
    rw [inV_int]
    by_cases e : i ∈ ss
    · rw [decide_eq_true e]
      refine ⟨true, rfl, (by show 0 ≤ sizeLine; decide), fun l hl => q _ l [] (smNew hl) hl upd_same ?_⟩
      unfold ownL
      rw [if_pos e]
      exact .nil
    · rw [decide_eq_false e]
      obtain ⟨dx, ts, wd, kl, fs, sa, wa, pc⟩ := hm.pc
      obtain ⟨s, rfl⟩ := Int.eq_ofNat_of_zero_le i0
      have hs : s < M.n := by omega
      obtain ⟨la, hla, hst⟩ := pc.wl s hs
      have hn : la.length ≤ 1000000 := by
        rw [Paired.length hst]
        have h1 := List.length_filter_le (fun t => decide (t.s = (s : Int))) M.steps
        have h2 := hm.ok.len
        omega
      refine ⟨false, rfl, _, rfl, m, dx, _, _, rfl, pc.m, pc.ways, _, rfl, wd, _, rfl, pc.way hs, wa s, rfl, ⟨_, .of hla⟩, ?_⟩
      refine lcKeep StpR stpR_sm hst walk_list (fun t => decide (t.k = "")) (fun H' s1 => .of (s1 _ _ hla)) hn ?_ fun D H' hD s1 hL => q _ D _ s1 hD hL ?_
      · intro t a H1 ht s1 ha Kt k
        refine ⟨rfl, _, rfl, a, t.vs, 1, .str t.k, rfl, rfl, .of ha, rfl, rfl, _, rfl, ?_⟩
        have k1 := k H1 (Same.refl _)
        by_cases ek : t.k = ""
        · have ed : decide (V.str t.k = V.str "") = true := by rw [ek]; simp
          rw [ed]
          rw [if_pos (decide_eq_true ek)] at k1
          exact ⟨_, rfl, k1⟩
        · have ed : decide (V.str t.k = V.str "") = false := decide_eq_false fun z => ek (by injection z)
          rw [ed]
          rw [if_neg (by rw [decide_eq_false ek]; decide)] at k1
          exact k1
      · unfold ownL
        rw [if_neg e]
        exact keepA_data (hst.sm s1)
end
end Al
set_option maxHeartbeats 4000000
/-! M2: numbered states as dicts; ranks as data. -/
namespace Al
open PySem PySem.Spec PyProof.Rows L2
theorem nd_le {α : Type} [DecidableEq α] : ∀ {xs ys : List α}, xs.Nodup → (∀ a ∈ xs, a ∈ ys) → xs.length ≤ ys.length
  | [], _, _, _ => Nat.zero_le _
  | x :: r, ys, hn, h => by
    obtain ⟨h1, h2⟩ := List.nodup_cons.mp hn
    have hx : x ∈ ys := h x (by simp)
    have k := nd_le (xs := r) (ys := ys.erase x) h2 fun a ha => (List.mem_erase_of_ne fun z => h1 (by rw [← z]; exact ha)).mpr (h a (by simp [ha]))
    rw [List.length_erase_of_mem hx] at k
    have := List.length_pos_of_mem hx
    rw [List.length_cons]
    omega
theorem nd_lt {n : Nat} {xs : List Int} (hn : xs.Nodup) (h : ∀ a ∈ xs, 0 ≤ a ∧ a < n) : xs.length ≤ n := by
  have k := nd_le (ys := (List.range n).map fun (i : Nat) => (i : Int)) hn fun a ha => by
    obtain ⟨h0, h1⟩ := h a ha
    obtain ⟨s, rfl⟩ := Int.eq_ofNat_of_zero_le h0
    exact List.mem_map.mpr ⟨s, List.mem_range.mpr (by omega), rfl⟩
  rwa [List.length_map, List.length_range] at k
/-- numbers by state -/
abbrev NM := List (Int × Nat)
def nmD (rk : NM) : List (Key × V) := rk.map fun p => (.inl p.1, .int (p.2 : Int))
theorem nmD_keys (rk : NM) : (nmD rk).map (·.1) = (rk.map (·.1)).map Sum.inl := by
  unfold nmD
  rw [List.map_map, List.map_map]
  rfl
theorem nmD_len (rk : NM) : (nmD rk).length = rk.length := List.length_map ..
theorem map_inl_nd {xs : List Int} (h : xs.Nodup) : (xs.map (Sum.inl (β := Str))).Nodup := by
  induction xs with
  | nil => exact .nil
  | cons a r ih =>
    obtain ⟨h1, h2⟩ := List.nodup_cons.mp h
    refine List.nodup_cons.mpr ⟨fun z => h1 ?_, ih h2⟩
    obtain ⟨p, hp, e⟩ := List.mem_map.mp z
    rw [← Sum.inl.inj e]
    exact hp
theorem nmD_nd {rk : NM} (h : (rk.map (·.1)).Nodup) : ((nmD rk).map (·.1)).Nodup := by
  rw [nmD_keys]
  exact map_inl_nd h
theorem nmD_get {rk : NM} (h : (rk.map (·.1)).Nodup) {s : Int} {r : Nat} (hm : (s, r) ∈ rk) : valV (nmD rk) (.inl s) = some (.int (r : Int)) :=
  val_nodup (nmD_nd h) (.inl s, .int (r : Int)) (List.mem_map.mpr ⟨(s, r), hm, rfl⟩)
theorem nmD_none {rk : NM} {s : Int} (h : s ∉ rk.map (·.1)) : valV (nmD rk) (.inl s) = none := by
  cases e : valV (nmD rk) (.inl s) with
  | none => rfl
  | some v =>
    have : (valV (nmD rk) (.inl s)).isSome = true := by rw [e]; rfl
    rw [valV_mem, nmD_keys] at this
    obtain ⟨t, ht, e⟩ := List.mem_map.mp this
    cases e
    exact absurd ht h
theorem nmD_is {rk : NM} {s : Int} : (valV (nmD rk) (.inl s)).isSome = decide (s ∈ rk.map (·.1)) := by
  by_cases h : s ∈ rk.map (·.1)
  · rw [decide_eq_true h, valV_mem, nmD_keys]
    exact List.mem_map.mpr ⟨s, h, rfl⟩
  · rw [nmD_none h, decide_eq_false h]
    rfl
theorem nmD_put {rk : NM} {s : Int} {r : Nat} (h : s ∉ rk.map (·.1)) : putK (nmD rk) (.inl s) (.int (r : Int)) = nmD (rk ++ [(s, r)]) := by
  rw [putK_new _ (nmD_none h)]
  unfold nmD
  rw [List.map_append]
  rfl
theorem nm_keys {rk : NM} {s : Int} (h : s ∈ rk.map (·.1)) : ∃ r, (s, r) ∈ rk := by
  obtain ⟨⟨a, r⟩, hp, rfl⟩ := List.mem_map.mp h
  exact ⟨r, hp⟩
theorem nm_key {rk : NM} {s : Int} {r : Nat} (h : (s, r) ∈ rk) : s ∈ rk.map (·.1) := List.mem_map.mpr ⟨_, h, rfl⟩
theorem nm_snoc {rk : NM} {s : Int} {r : Nat} (h : (rk.map (·.1)).Nodup) (hs : s ∉ rk.map (·.1)) : ((rk ++ [(s, r)]).map (·.1)).Nodup := by
  rw [List.map_append]
  exact List.nodup_append.mpr ⟨h, by simp, fun a ha b hb => by rintro rfl; simp at hb; exact hs (hb ▸ ha)⟩
theorem nm_one {rk : NM} (h : (rk.map (·.1)).Nodup) {s : Int} {r q : Nat} (h1 : (s, r) ∈ rk) (h2 : (s, q) ∈ rk) : r = q := by
  have e1 := nmD_get h h1
  rw [nmD_get h h2] at e1
  injection e1 with e1
  injection e1 with e1
  omega
theorem nmD_perm {rk : NM} {ys : List Int} (hn : (rk.map (·.1)).Nodup) (h : ys.Perm (rk.map (·.1))) : ∃ rk' : NM, rk'.Perm rk ∧ ys = rk'.map (·.1) := by
  suffices key : ∀ {us vs : List Int}, us.Perm vs → ∀ rk : NM, vs = rk.map (·.1) → ∃ rk' : NM, rk'.Perm rk ∧ us = rk'.map (·.1) from key h rk rfl
  intro us vs hp
  induction hp with
  | nil => intro rk e; exact ⟨rk, .refl _, e⟩
  | cons x _ ih =>
    intro rk e
    cases rk with
    | nil => simp at e
    | cons p r =>
      obtain ⟨e1, e2⟩ := List.cons.inj e
      obtain ⟨rk', h1, h2⟩ := ih r e2
      exact ⟨p :: rk', h1.cons p, by rw [h2, e1]; rfl⟩
  | swap x y l =>
    intro rk e
    match rk with
    | [] => simp at e
    | [p] => simp at e
    | p :: q :: r =>
      obtain ⟨e1, e2⟩ := List.cons.inj e
      obtain ⟨e2, e3⟩ := List.cons.inj e2
      exact ⟨q :: p :: r, .swap .., by rw [e1, e2, e3]; rfl⟩
  | trans _ _ ih1 ih2 =>
    intro rk e
    obtain ⟨r2, h1, h2⟩ := ih2 rk e
    obtain ⟨r1, h3, h4⟩ := ih1 r2 h2
    exact ⟨r1, h3.trans h1, h4⟩
/-- what the ranks hold while the states in op are still to be closed -/
structure RkI (M : Mch) (ss : List Int) (rk : NM) (op : Int → Prop) : Prop where
  nd : (rk.map (·.1)).Nodup
  lt : ∀ s r, (s, r) ∈ rk → 0 ≤ s ∧ s < M.n
  z : ∀ s r, (s, r) ∈ rk → (r = 0 ↔ s ∈ ss)
  own : ∀ s r, (s, r + 1) ∈ rk → ∃ t ∈ M.steps, t.k = "" ∧ t.s = s ∧ (t.g, r) ∈ rk
  gl : ∀ g ∈ ss, g ∈ rk.map (·.1)
  cl : ∀ t ∈ M.steps, t.k = "" → t.g ∈ rk.map (·.1) → ¬ op t.g → t.s ∈ rk.map (·.1)
theorem RkI.len {M : Mch} {ss : List Int} {rk : NM} {op : Int → Prop} (h : RkI M ss rk op) : rk.length ≤ M.n := by
  have := nd_lt h.nd fun a ha => by obtain ⟨r, hr⟩ := nm_keys ha; exact h.lt a r hr
  rwa [List.length_map] at this
theorem RkI.add {M : Mch} {ss : List Int} {rk : NM} {op : Int → Prop} {t : Stp} {r : Nat} (h : RkI M ss rk op) (ht : t ∈ M.steps) (tk : t.k = "") (hs : t.s ∉ rk.map (·.1)) (hg : (t.g, r) ∈ rk) (hb : 0 ≤ t.s ∧ t.s < M.n) : RkI M ss (rk ++ [(t.s, r + 1)]) (fun g => op g ∨ g = t.s) := by
  refine ⟨nm_snoc h.nd hs, fun s q hq => ?_, fun s q hq => ?_, fun s q hq => ?_, fun g hg => ?_, fun u hu uk hug no => ?_⟩
  · rcases List.mem_append.mp hq with hq | hq
    · exact h.lt s q hq
    · simp at hq
      rw [hq.1]
      exact hb
  · rcases List.mem_append.mp hq with hq | hq
    · exact h.z s q hq
    · simp at hq
      obtain ⟨rfl, rfl⟩ := hq
      exact ⟨fun z => by omega, fun z => absurd (h.gl _ z) hs⟩
  · rcases List.mem_append.mp hq with hq | hq
    · obtain ⟨u, a, b, c, d⟩ := h.own s q hq
      exact ⟨u, a, b, c, List.mem_append_left _ d⟩
    · simp at hq
      obtain ⟨rfl, rfl⟩ := hq
      exact ⟨t, ht, tk, rfl, List.mem_append_left _ hg⟩
  · rw [List.map_append]
    exact List.mem_append_left _ (h.gl g hg)
  · rw [List.map_append] at hug ⊢
    rcases List.mem_append.mp hug with hq | hq
    · exact List.mem_append_left _ (h.cl u hu uk hq fun z => no (.inl z))
    · simp at hq
      exact absurd (.inr hq) no
theorem RkI.mono {M : Mch} {ss : List Int} {rk : NM} {op op' : Int → Prop} (h : RkI M ss rk op) (k : ∀ g, op g → op' g) : RkI M ss rk op' := ⟨h.nd, h.lt, h.z, h.own, h.gl, fun t ht tk hg no => h.cl t ht tk hg fun z => no (k _ z)⟩
theorem RkI.perm {M : Mch} {ss : List Int} {rk rk' : NM} {op : Int → Prop} (h : RkI M ss rk op) (p : rk'.Perm rk) : RkI M ss rk' op := by
  have k : ∀ s, s ∈ rk'.map (·.1) ↔ s ∈ rk.map (·.1) := fun s => (p.map _).mem_iff
  refine ⟨(p.map _).nodup_iff.mpr h.nd, fun s r hr => h.lt s r (p.mem_iff.mp hr), fun s r hr => h.z s r (p.mem_iff.mp hr), fun s r hr => ?_, fun g hg => (k g).mpr (h.gl g hg), fun t ht tk hg no => (k _).mpr (h.cl t ht tk ((k _).mp hg) no)⟩
  obtain ⟨u, a, b, c, d⟩ := h.own s r (p.mem_iff.mp hr)
  exact ⟨u, a, b, c, p.mem_iff.mpr d⟩
theorem RkI.close {M : Mch} {ss : List Int} {rk : NM} {op op' : Int → Prop} {g : Int} (h : RkI M ss rk op') (ho : ∀ x, op' x → op x ∨ x = g) (k : ∀ t ∈ M.steps, t.k = "" → t.g = g → t.s ∈ rk.map (·.1)) : RkI M ss rk op := by
  refine ⟨h.nd, h.lt, h.z, h.own, h.gl, fun t ht tk hg no => ?_⟩
  by_cases e : t.g = g
  · exact k t ht tk e
  · exact h.cl t ht tk hg fun z => (ho _ z).elim no e
/-- the ranks of the states from which own steps lead to a goal -/
abbrev Ranks (M : Mch) (ss : List Int) (rk : NM) : Prop := RkI M ss rk fun _ => False
/-- where own steps into g come from, among the given -/
def intoL (ts : List Stp) (g : Int) : List Int := (ts.filter fun t : Stp => decide (t.k = "" ∧ t.g = g)).map (·.s)
theorem intoL_snoc (ts : List Stp) (t : Stp) (g : Int) : intoL (ts ++ [t]) g = intoL ts g ++ (if t.k = "" ∧ t.g = g then [t.s] else []) := by
  unfold intoL
  rw [List.filter_append, List.map_append]
  congr 1
  by_cases e : t.k = "" ∧ t.g = g
  · rw [if_pos e, List.filter_cons_of_pos (by simpa using e)]
    rfl
  · rw [if_neg e, List.filter_cons_of_neg (by simpa using e)]
    rfl
theorem mem_intoL {ts : List Stp} {g s : Int} : s ∈ intoL ts g ↔ ∃ t ∈ ts, t.k = "" ∧ t.g = g ∧ t.s = s := by
  unfold intoL
  rw [List.mem_map]
  constructor
  · rintro ⟨t, h, rfl⟩
    obtain ⟨h1, h2⟩ := List.mem_filter.mp h
    have := of_decide_eq_true h2
    exact ⟨t, h1, this.1, this.2, rfl⟩
  · rintro ⟨t, h1, h2, h3, rfl⟩
    exact ⟨t, List.mem_filter.mpr ⟨h1, decide_eq_true ⟨h2, h3⟩⟩, rfl⟩
/-! ### a list of numbers that is not empty -/
theorem eqv_nil (ds : List PyData) : PyData.eqv (.list ds) (.list []) = ds.isEmpty := by
  cases ds <;> rfl
theorem shaped_ints (ks : List Int) : SeqAt.shaped (.list (ks.map .int)) = true := by
  unfold SeqAt.shaped
  have e : PyData.canLay0 (.list (ks.map .int)) = true := lay_ints ks
  rw [e, PyData.depth, PySem.W.depth_ints ks]
  rfl
theorem eqv_nilI (ks : List Int) : (!PyData.eqv (.list (ks.map .int)) (.list [])) = !ks.isEmpty := by rw [eqv_nil, List.isEmpty_map]
theorem nmD_pick {rk rk' : NM} (hn : (rk.map (·.1)).Nodup) (p : rk'.Perm rk) : putAll ((rk'.map (·.1)).filterMap fun s => (valV (nmD rk) (.inl s)).map fun v => (.inl s, v)) = nmD rk' := by
  have e : ((rk'.map (·.1)).filterMap fun s => (valV (nmD rk) (.inl s)).map fun v => ((.inl s : Key), v)) = nmD rk' := by
    suffices k : ∀ xs : NM, (∀ q ∈ xs, q ∈ rk) → ((xs.map (·.1)).filterMap fun s => (valV (nmD rk) (.inl s)).map fun v => ((.inl s : Key), v)) = nmD xs from k rk' fun q hq => p.mem_iff.mp hq
    intro xs
    induction xs with
    | nil => intro _; rfl
    | cons a r ih =>
      intro h
      rw [List.map_cons, List.filterMap_cons, nmD_get hn (s := a.1) (r := a.2) (h a (by simp)), ih fun q hq => h q (by simp [hq])]
      rfl
  rw [e]
  exact putAll_nodup _ (nmD_nd ((p.map _).nodup_iff.mpr hn))
end Al
set_option maxHeartbeats 4000000
/-! M3: distances from the start, as data. -/
namespace Al
open PySem PySem.Spec PyProof.Rows L2
/-- some d steps lead from 0 to s -/
inductive PathN (M : Mch) : Nat → Int → Prop
  | zero : PathN M 0 0
  | succ {d : Nat} {t : Stp} : PathN M d t.s → t ∈ M.steps → PathN M (d + 1) t.g
theorem PathN.mono {M M' : Mch} (h : ∀ t ∈ M.steps, t ∈ M'.steps) {d : Nat} {s : Int} (p : PathN M d s) : PathN M' d s := by
  induction p with
  | zero => exact .zero
  | succ _ ht ih => exact .succ ih (h _ ht)
/-- what far_states has found while the states in op are still to be opened; z: the greatest distance -/
structure FarI (M : Mch) (z : Nat) (fk : NM) (op : Int → Prop) : Prop where
  nd : (fk.map (fun p : Int × Nat => p.1)).Nodup
  lt : ∀ s r, (s, r) ∈ fk → 0 ≤ s ∧ s < M.n
  st : (0, 0) ∈ fk
  so : ∀ s r, (s, r) ∈ fk → PathN M r s
  mx : ∀ s r, (s, r) ∈ fk → r ≤ z
  cl : ∀ t ∈ M.steps, ∀ d, (t.s, d) ∈ fk → ¬ op t.s → ∃ d', d' ≤ d + 1 ∧ (t.g, d') ∈ fk
theorem FarI.len {M : Mch} {z : Nat} {fk : NM} {op : Int → Prop} (h : FarI M z fk op) : fk.length ≤ M.n := by
  have := nd_lt h.nd fun a ha => by obtain ⟨r, hr⟩ := nm_keys ha; exact h.lt a r hr
  rwa [List.length_map] at this
theorem FarI.mono {M : Mch} {z : Nat} {fk : NM} {op op' : Int → Prop} (h : FarI M z fk op) (k : ∀ g, op g → op' g) : FarI M z fk op' := ⟨h.nd, h.lt, h.st, h.so, h.mx, fun t ht d hd no => h.cl t ht d hd fun z => no (k _ z)⟩
theorem FarI.up {M : Mch} {z z' : Nat} {fk : NM} {op : Int → Prop} (h : FarI M z fk op) (k : z ≤ z') : FarI M z' fk op := ⟨h.nd, h.lt, h.st, h.so, fun s r hr => Nat.le_trans (h.mx s r hr) k, h.cl⟩
theorem FarI.add {M : Mch} {z : Nat} {fk : NM} {op : Int → Prop} {t : Stp} (h : FarI M (z + 1) fk op) (ht : t ∈ M.steps) (hg : t.g ∉ fk.map (fun p : Int × Nat => p.1)) (hs : (t.s, z) ∈ fk) (hb : 0 ≤ t.g ∧ t.g < M.n) : FarI M (z + 1) (fk ++ [(t.g, z + 1)]) (fun g => op g ∨ g = t.g) := by
  refine ⟨nm_snoc h.nd hg, fun s q hq => ?_, List.mem_append_left _ h.st, fun s q hq => ?_, fun s q hq => ?_, fun u hu d hd no => ?_⟩
  · rcases List.mem_append.mp hq with hq | hq
    · exact h.lt s q hq
    · simp at hq
      rw [hq.1]
      exact hb
  · rcases List.mem_append.mp hq with hq | hq
    · exact h.so s q hq
    · simp at hq
      obtain ⟨rfl, rfl⟩ := hq
      exact .succ (h.so _ _ hs) ht
  · rcases List.mem_append.mp hq with hq | hq
    · exact h.mx s q hq
    · simp at hq
      omega
  · rcases List.mem_append.mp hd with hd | hd
    · obtain ⟨d', a, b⟩ := h.cl u hu d hd fun z => no (.inl z)
      exact ⟨d', a, List.mem_append_left _ b⟩
    · simp at hd
      exact absurd (.inr hd.1) no
theorem FarI.close {M : Mch} {z : Nat} {fk : NM} {op op' : Int → Prop} {g : Int} (h : FarI M (z + 1) fk op') (ho : ∀ x, op' x → op x ∨ x = g) (hg : (g, z) ∈ fk) (k : ∀ t ∈ M.steps, t.s = g → t.g ∈ fk.map (fun p : Int × Nat => p.1)) : FarI M (z + 1) fk op := by
  refine ⟨h.nd, h.lt, h.st, h.so, h.mx, fun t ht d hd no => ?_⟩
  by_cases e : t.s = g
  · rw [e] at hd
    have : d = z := nm_one h.nd hd hg
    subst this
    obtain ⟨r, hr⟩ := nm_keys (k t ht e)
    exact ⟨r, h.mx _ _ hr, hr⟩
  · exact h.cl t ht d hd fun z => (ho _ z).elim no e
/-- distances: sound and least -/
structure Fars (M : Mch) (fk : NM) : Prop where
  nd : (fk.map (fun p : Int × Nat => p.1)).Nodup
  so : ∀ s r, (s, r) ∈ fk → PathN M r s
  le : ∀ s d, PathN M d s → ∃ d', d' ≤ d ∧ (s, d') ∈ fk
theorem FarI.fars {M : Mch} {z : Nat} {fk : NM} (h : FarI M z fk fun _ => False) : Fars M fk := by
  refine ⟨h.nd, h.so, fun s d p => ?_⟩
  induction p with
  | zero => exact ⟨0, Nat.le_refl _, h.st⟩
  | succ _ ht ih =>
    obtain ⟨d', a, b⟩ := ih
    obtain ⟨e, c, f⟩ := h.cl _ ht d' b fun z => z
    exact ⟨e, by omega, f⟩
theorem Fars.perm {M : Mch} {fk fk' : NM} (h : Fars M fk) (p : fk'.Perm fk) : Fars M fk' := by
  refine ⟨(p.map _).nodup_iff.mpr h.nd, fun s r hr => h.so s r (p.mem_iff.mp hr), fun s d hd => ?_⟩
  obtain ⟨d', a, b⟩ := h.le s d hd
  exact ⟨d', a, p.mem_iff.mpr b⟩
end Al
set_option maxHeartbeats 4000000
/-! M4: what an onlooker sees, as data. -/
namespace Al
open PySem PySem.Spec PyProof.Rows L2
/-- the kind falls by itself, or is among the free -/
def Okk (fr : List Str) (t : Stp) : Prop := t.k = "" ∨ t.k ∈ fr
instance (fr : List Str) (t : Stp) : Decidable (Okk fr t) := by unfold Okk; infer_instance
/-- closed under steps that show nothing -/
inductive Cl (M : Mch) (fr : List Str) (S : Int → Prop) : Int → Prop
  | base {s : Int} : S s → Cl M fr S s
  | step {t : Stp} : Cl M fr S t.s → t ∈ M.steps → Okk fr t → t.w = "" → Cl M fr S t.g
/-- where one may stand behind the words -/
inductive Tr (M : Mch) (fr : List Str) : List Str → Int → Prop
  | start : Tr M fr [] 0
  | hid {ws : List Str} {t : Stp} : Tr M fr ws t.s → t ∈ M.steps → Okk fr t → t.w = "" → Tr M fr ws t.g
  | see {ws : List Str} {t : Stp} {x : Str} : Tr M fr ws t.s → t ∈ M.steps → Okk fr t → t.w = x → x ≠ "" → Tr M fr (ws ++ [x]) t.g
theorem Tr.mono {M M' : Mch} {fr : List Str} (h : ∀ t ∈ M.steps, t ∈ M'.steps) {ws : List Str} {s : Int} (p : Tr M fr ws s) : Tr M' fr ws s := by
  induction p with
  | start => exact .start
  | hid _ ht hk hw ih => exact .hid ih (h _ ht) hk hw
  | see _ ht hk hw hx ih => exact .see ih (h _ ht) hk hw hx
theorem tr_nil {M : Mch} {fr : List Str} {s : Int} : Tr M fr [] s ↔ Cl M fr (fun x => x ∈ [(0 : Int)]) s := by
  constructor
  · intro h
    generalize e : ([] : List Str) = ws at h
    induction h with
    | start => exact .base (by simp)
    | hid _ ht hk hw ih => exact .step (ih e) ht hk hw
    | see => simp at e
  · intro h
    induction h with
    | base hs => rw [List.mem_singleton.mp hs]; exact .start
    | step _ ht hk hw ih => exact .hid ih ht hk hw
theorem tr_snoc {M : Mch} {fr : List Str} {ws : List Str} {x : Str} (hx : x ≠ "") {s : Int} : Tr M fr (ws ++ [x]) s ↔ Cl M fr (fun y => ∃ t ∈ M.steps, Okk fr t ∧ t.w = x ∧ Tr M fr ws t.s ∧ t.g = y) s := by
  constructor
  · intro h
    generalize e : ws ++ [x] = vs at h
    induction h with
    | start => simp at e
    | hid _ ht hk hw ih => exact .step (ih e) ht hk hw
    | see p ht hk hw hy _ =>
      obtain ⟨e1, e2⟩ := List.append_inj' e rfl
      obtain rfl := (List.cons.inj e2).1
      exact .base ⟨_, ht, hk, hw, e1 ▸ p, rfl⟩
  · intro h
    induction h with
    | base hs =>
      obtain ⟨t, ht, hk, hw, p, rfl⟩ := hs
      exact .see p ht hk hw hx
    | step _ ht hk hw ih => exact .hid ih ht hk hw
theorem Cl.imp {M : Mch} {fr : List Str} {S S' : Int → Prop} (k : ∀ s, S s → S' s) {s : Int} (h : Cl M fr S s) : Cl M fr S' s := by
  induction h with
  | base hs => exact .base (k _ hs)
  | step _ ht hk hw ih => exact .step ih ht hk hw
def hidL (fr : List Str) (ts : List Stp) (s : Int) : List Stp := ts.filter fun t : Stp => decide (Okk fr t ∧ t.w = "" ∧ t.s = s)
def shwL (fr : List Str) (ts : List Stp) (s : Int) : List Stp := ts.filter fun t : Stp => decide (Okk fr t ∧ t.w ≠ "" ∧ t.s = s)
theorem filter_snoc {α : Type} (p : α → Bool) (xs : List α) (x : α) : (xs ++ [x]).filter p = xs.filter p ++ (if p x = true then [x] else []) := by
  rw [List.filter_append]
  by_cases e : p x = true
  · rw [if_pos e, List.filter_cons_of_pos e]
    rfl
  · rw [if_neg e, List.filter_cons_of_neg e]
    rfl
theorem mem_hidL {fr : List Str} {ts : List Stp} {s : Int} {t : Stp} : t ∈ hidL fr ts s ↔ t ∈ ts ∧ Okk fr t ∧ t.w = "" ∧ t.s = s := by
  unfold hidL
  rw [List.mem_filter, decide_eq_true_iff]
theorem mem_shwL {fr : List Str} {ts : List Stp} {s : Int} {t : Stp} : t ∈ shwL fr ts s ↔ t ∈ ts ∧ Okk fr t ∧ t.w ≠ "" ∧ t.s = s := by
  unfold shwL
  rw [List.mem_filter, decide_eq_true_iff]
/-! ### sets of numbers as dicts -/
def bD (ks : List Int) : List (Key × V) := ks.map fun s => (.inl s, .bl true)
theorem bD_keys (ks : List Int) : (bD ks).map (·.1) = ks.map Sum.inl := by
  unfold bD
  rw [List.map_map]
  rfl
theorem bD_len (ks : List Int) : (bD ks).length = ks.length := List.length_map ..
theorem bD_is {ks : List Int} {s : Int} : (valV (bD ks) (.inl s)).isSome = decide (s ∈ ks) := by
  by_cases h : s ∈ ks
  · rw [decide_eq_true h, valV_mem, bD_keys]
    exact List.mem_map.mpr ⟨s, h, rfl⟩
  · rw [decide_eq_false h]
    cases e : (valV (bD ks) (.inl s)).isSome with
    | false => rfl
    | true =>
      rw [valV_mem, bD_keys] at e
      obtain ⟨t, ht, e⟩ := List.mem_map.mp e
      cases e
      exact absurd ht h
theorem bD_put {ks : List Int} {s : Int} (h : s ∉ ks) : putK (bD ks) (.inl s) (.bl true) = bD (ks ++ [s]) := by
  have e : valV (bD ks) (.inl s) = none := by
    have := bD_is (ks := ks) (s := s)
    rw [decide_eq_false h] at this
    cases e : valV (bD ks) (.inl s) with
    | none => rfl
    | some v => rw [e] at this; cases this
  rw [putK_new _ e]
  unfold bD
  rw [List.map_append]
  rfl
theorem bD_same {ks : List Int} {s : Int} (h : s ∈ ks) : putK (bD ks) (.inl s) (.bl true) = bD ks := by
  have e : ((bD ks).any fun kv => decide (kv.1 = Sum.inl s)) = true := List.any_eq_true.mpr ⟨(.inl s, .bl true), List.mem_map.mpr ⟨s, h, rfl⟩, by simp⟩
  unfold putK
  rw [if_pos e]
  unfold bD
  rw [List.map_map]
  refine List.map_congr_left fun a _ => ?_
  show (if Sum.inl a = Sum.inl s then ((Sum.inl a : Key), V.bl true) else (Sum.inl a, V.bl true)) = ((Sum.inl a : Key), V.bl true)
  exact ite_self _
theorem bD_all (xs : List Int) : ∃ ks : List Int, putAll (xs.filterMap fun s => some (.inl s, .bl true)) = bD ks ∧ ks.Nodup ∧ (∀ k, k ∈ ks ↔ k ∈ xs) := by
  refine snocInd (C := fun xs => ∃ ks : List Int, putAll (xs.filterMap fun s => some (.inl s, .bl true)) = bD ks ∧ ks.Nodup ∧ (∀ k, k ∈ ks ↔ k ∈ xs)) ⟨[], rfl, .nil, fun k => .rfl⟩ ?_ xs
  rintro xs x ⟨ks, h1, h2, h3⟩
  have e : putAll ((xs ++ [x]).filterMap fun s => some (.inl s, .bl true)) = putK (bD ks) (.inl x) (.bl true) := by
    rw [List.filterMap_append, ← h1]
    exact putAll_snoc _ _
  by_cases hx : x ∈ ks
  · refine ⟨ks, by rw [e, bD_same hx], h2, fun k => ?_⟩
    rw [h3 k, List.mem_append]
    exact ⟨.inl, fun z => z.elim id fun z => by rw [List.mem_singleton.mp z]; exact (h3 x).mp hx⟩
  · refine ⟨ks ++ [x], by rw [e, bD_put hx], List.nodup_append.mpr ⟨h2, by simp, fun a ha b hb => by rintro rfl; rw [List.mem_singleton.mp hb] at ha; exact hx ha⟩, fun k => ?_⟩
    rw [List.mem_append, List.mem_append, h3 k]
/-! ### the closing loop -/
structure ClI (M : Mch) (fr : List Str) (xs ks : List Int) (op : Int → Prop) : Prop where
  nd : ks.Nodup
  lt : ∀ s ∈ ks, 0 ≤ s ∧ s < M.n
  so : ∀ s ∈ ks, Cl M fr (fun y => y ∈ xs) s
  ba : ∀ s ∈ xs, s ∈ ks
  cl : ∀ t ∈ M.steps, Okk fr t → t.w = "" → t.s ∈ ks → ¬ op t.s → t.g ∈ ks
theorem ClI.len {M : Mch} {fr : List Str} {xs ks : List Int} {op : Int → Prop} (h : ClI M fr xs ks op) : ks.length ≤ M.n := nd_lt h.nd h.lt
theorem ClI.mono {M : Mch} {fr : List Str} {xs ks : List Int} {op op' : Int → Prop} (h : ClI M fr xs ks op) (k : ∀ g, op g → op' g) : ClI M fr xs ks op' := ⟨h.nd, h.lt, h.so, h.ba, fun t ht hk hw hs no => h.cl t ht hk hw hs fun z => no (k _ z)⟩
theorem ClI.add {M : Mch} {fr : List Str} {xs ks : List Int} {op : Int → Prop} {t : Stp} (h : ClI M fr xs ks op) (ht : t ∈ M.steps) (hk : Okk fr t) (hw : t.w = "") (hs : t.s ∈ ks) (hg : t.g ∉ ks) (hb : 0 ≤ t.g ∧ t.g < M.n) : ClI M fr xs (ks ++ [t.g]) (fun g => op g ∨ g = t.g) := by
  refine ⟨List.nodup_append.mpr ⟨h.nd, by simp, fun a ha b hb => by rintro rfl; rw [List.mem_singleton.mp hb] at ha; exact hg ha⟩, fun s hs => ?_, fun s hs => ?_, fun s hs => List.mem_append_left _ (h.ba s hs), fun u hu uk uw us no => ?_⟩
  · rcases List.mem_append.mp hs with hs | hs
    · exact h.lt s hs
    · rw [List.mem_singleton.mp hs]; exact hb
  · rcases List.mem_append.mp hs with hs | hs
    · exact h.so s hs
    · rw [List.mem_singleton.mp hs]; exact .step (h.so _ ‹_›) ht hk hw
  · rcases List.mem_append.mp us with us | us
    · exact List.mem_append_left _ (h.cl u hu uk uw us fun z => no (.inl z))
    · exact absurd (.inr (List.mem_singleton.mp us)) no
theorem ClI.close {M : Mch} {fr : List Str} {xs ks : List Int} {op op' : Int → Prop} {g : Int} (h : ClI M fr xs ks op') (ho : ∀ x, op' x → op x ∨ x = g) (k : ∀ t ∈ hidL fr M.steps g, t.g ∈ ks) : ClI M fr xs ks op := by
  refine ⟨h.nd, h.lt, h.so, h.ba, fun t ht hk hw hs no => ?_⟩
  by_cases e : t.s = g
  · exact k t (mem_hidL.mpr ⟨ht, hk, hw, e⟩)
  · exact h.cl t ht hk hw hs fun z => (ho _ z).elim no e
theorem ClI.iff {M : Mch} {fr : List Str} {xs ks : List Int} (h : ClI M fr xs ks fun _ => False) (s : Int) : s ∈ ks ↔ Cl M fr (fun y => y ∈ xs) s := by
  refine ⟨h.so s, fun c => ?_⟩
  induction c with
  | base hs => exact h.ba _ hs
  | step _ ht hk hw ih => exact h.cl _ ht hk hw ih fun z => z
/-! ### an unread list aside -/
theorem LD.ne {H : Hp} {d b : Addr} {n : Nat} {wa : Nat → Addr} {f : Nat → List V} {o : HO} (h : LD H d n wa f) (h1 : b ≠ d) (h2 : ∀ s, s < n → b ≠ wa s) : LD (upd H b o) d n wa f :=
  ⟨(upd_ne h1.symm).trans h.dk, fun s hs => (upd_ne (h2 s hs).symm).trans (h.ls s hs), h.inj⟩
theorem paired_app {α β : Type} {F : α → β → Prop} : ∀ {xs xs' : List α} {ys ys' : List β}, Paired F xs ys → Paired F xs' ys' → Paired F (xs ++ xs') (ys ++ ys')
  | _, _, _, _, .nil, h => h
  | _, _, _, _, .cons a b, h => .cons a (paired_app b h)
end Al
set_option maxHeartbeats 4000000
/-! K12: list comprehensions of two clauses, read as data. -/
namespace Al
open PySem PySem.Spec PyProof.Rows L2
theorem pi_listK {X : Cx} {tg e : Expr} {te : TE} (K : PySem.W.Frag) (h : PE X e te) (hK : X.K = K := by rfl) : PI X tg e (iList K te) := hK ▸ pi_list h
/-- what is asked of the inner walk -/
abbrev InW (J1 : It) (g1 : TG) (tt1 : TT) (te : TE) (vs1 : List Nat) (σ2 : L2.St) (D : Addr) (H4 : Hp) (Nx : Hp → Prop) : Prop := ∃ W1 : Nat → Nat → Hp → Prop, (∃ m, W1 0 m H4) ∧ ∀ j k H, W1 j k H →
  (J1.stop j H ∧ Nx H) ∨ (J1.go j H ∧ ∃ Nx1 : Hp → Prop, (∀ H', Nx1 H' → ∃ k', k' < k ∧ W1 (j + 1) k' H') ∧ ∀ x H', J1.yld j H x H' → g1 x (wipe σ2 vs1) H' fun σ3 H5 => wipe σ3 vs1 = wipe σ2 vs1 ∧ tt1 σ3 H5 fun b H6 =>
    if b = true then te σ3 H6 fun y H7 => ∃ acc, H7 D = some (.lst acc) ∧ acc.length < sizeLine ∧ Nx1 (upd H7 D (.lst (acc ++ [y]))) else Nx1 H6)
theorem range_snoc_fm (F : Nat → Option V) (i : Nat) : (List.range (i + 1)).filterMap F = (List.range i).filterMap F ++ (F i).toList := by
  rw [List.range_succ, List.filterMap_append]
  cases h : F i <;> simp [h]
theorem inW {J1 : It} {n1 : Nat} {G1 : Hp → Prop} {Y1 : Nat → Hp → V → Hp → Prop} {g1 : TG} {tt1 : TT} {te : TE} {vs1 : List Nat} {σ2 : L2.St} {D : Addr} {H1 H4 : Hp} {Nx : Hp → Prop} {acc : List V} (wk : Walk J1 n1 G1 Y1) (F : Nat → Option V) (hD : H1 D = none) (s4 : Same H1 H4) (e4 : H4 D = some (.lst acc)) (hz : acc.length + n1 ≤ 1000000) (hG : ∀ H', Same H1 H' → G1 H')
    (hs : ∀ (i : Nat) (x : V) (H H' : Hp), i < n1 → Same H1 H → Y1 i H x H' → ∀ Kt : Option V → Hp → Prop, (∀ H'', Same H H'' → Kt (F i) H'') → stp g1 tt1 te vs1 σ2 x H' Kt)
    (hd : ∀ H', Same H1 H' → H' D = some (.lst (acc ++ (List.range n1).filterMap F)) → Nx H') : InW J1 g1 tt1 te vs1 σ2 D H4 Nx := by
  refine ⟨fun j k H => k = n1 - j ∧ j ≤ n1 ∧ Same H1 H ∧ H D = some (.lst (acc ++ (List.range j).filterMap F)), ⟨n1, rfl, Nat.zero_le _, s4, by rw [List.range_zero]; simpa using e4⟩, ?_⟩
  rintro j k H ⟨rfl, hj, s, e⟩
  by_cases hlt : j < n1
  · refine .inr ⟨wk.goes j H hlt (hG H s), fun H' => Same H1 H' ∧ H' D = some (.lst (acc ++ (List.range (j + 1)).filterMap F)), fun H' ⟨a, b⟩ => ⟨n1 - (j + 1), by omega, rfl, hlt, a, b⟩, fun x H' y => ?_⟩
    have key := hs j x H H' hlt s (wk.yields j H x H' hlt (hG H s) y) (fun o H7 => match o with
      | some y => ∃ acc', H7 D = some (.lst acc') ∧ acc'.length < sizeLine ∧ Same H1 (upd H7 D (.lst (acc' ++ [y]))) ∧ upd H7 D (.lst (acc' ++ [y])) D = some (.lst (acc ++ (List.range (j + 1)).filterMap F))
      | none => Same H1 H7 ∧ H7 D = some (.lst (acc ++ (List.range (j + 1)).filterMap F))) ?_
    · exact key
    · intro H7 s7
      have e7 := s7 _ _ e
      have hl : ((List.range j).filterMap F).length ≤ j := by
        have := List.length_filterMap_le F (List.range j)
        rwa [List.length_range] at this
      rw [range_snoc_fm]
      cases h : F j with
      | some y =>
        refine ⟨_, e7, szLt (by rw [List.length_append]; omega), smMut (s.trans s7) hD, ?_⟩
        rw [upd_same, List.append_assoc]
        rfl
      | none =>
        refine ⟨s.trans s7, ?_⟩
        rw [e7]
        simp
  · have ej : j = n1 := by omega
    subst ej
    exact .inl ⟨wk.stops H (hG H s), hd H s e⟩
/-- one turn of the outer clause -/
def stp2 (g : TG) (tt : TT) (wi1 : TI) (g1 : TG) (tt1 : TT) (te : TE) (vs vs1 : List Nat) (σ : L2.St) (D : Addr) (x : V) (H' : Hp) (Nx : Hp → Prop) : Prop :=
  g x (wipe σ vs) H' fun σ2 H2 => wipe σ2 vs = wipe σ vs ∧ tt σ2 H2 fun b H3 => if b = true then wi1 σ2 H3 fun J1 H4 => InW J1 g1 tt1 te vs1 σ2 D H4 Nx else Nx H3
abbrev Lc2W (J : It) (g : TG) (tt : TT) (wi1 : TI) (g1 : TG) (tt1 : TT) (te : TE) (vs vs1 : List Nat) (σ : L2.St) (H1 : Hp) (Q : Addr → Hp → Prop) : Prop := ∀ D, H1 D = none → ∃ W : Nat → Nat → Hp → Prop, (∃ m, W 0 m (upd H1 D (.lst []))) ∧ ∀ i m H, W i m H →
  (J.stop i H ∧ Q D H) ∨ (J.go i H ∧ ∃ Nx : Hp → Prop, (∀ H', Nx H' → ∃ m', m' < m ∧ W (i + 1) m' H') ∧ ∀ x H', J.yld i H x H' → g x (wipe σ vs) H' fun σ2 H2 => wipe σ2 vs = wipe σ vs ∧ tt σ2 H2 fun b H3 =>
    if b = true then wi1 σ2 H3 fun J1 H4 => InW J1 g1 tt1 te vs1 σ2 D H4 Nx else Nx H3)
theorem lc2V {J : It} {n : Nat} {G : Hp → Prop} {Y : Nat → Hp → V → Hp → Prop} {g : TG} {tt : TT} {wi1 : TI} {g1 : TG} {tt1 : TT} {te : TE} {vs vs1 : List Nat} {σ : L2.St} {H1 : Hp} {Q : Addr → Hp → Prop} (wk : Walk J n G Y) (F : Nat → List V) (hG : ∀ H', Same H1 H' → G H')
    (hs : ∀ (D : Addr) (i : Nat) (x : V) (H H' : Hp), i < n → H1 D = none → Same H1 H → H D = some (.lst ((List.range i).flatMap F)) → Y i H x H' → ∀ Nx : Hp → Prop, (∀ H'', Same H1 H'' → H'' D = some (.lst ((List.range i).flatMap F ++ F i)) → Nx H'') → stp2 g tt wi1 g1 tt1 te vs vs1 σ D x H' Nx)
    (hd : ∀ (D : Addr) (H' : Hp), H1 D = none → Same H1 H' → H' D = some (.lst ((List.range n).flatMap F)) → Q D H') : Lc2W J g tt wi1 g1 tt1 te vs vs1 σ H1 Q := by
  intro D hD
  refine ⟨fun i m H => m = n - i ∧ i ≤ n ∧ Same H1 H ∧ H D = some (.lst ((List.range i).flatMap F)), ⟨n, rfl, Nat.zero_le _, smNew hD, upd_same⟩, ?_⟩
  rintro i m H ⟨rfl, hi, s, e⟩
  by_cases hlt : i < n
  · refine .inr ⟨wk.goes i H hlt (hG H s), fun H' => Same H1 H' ∧ H' D = some (.lst ((List.range i).flatMap F ++ F i)), fun H' ⟨a, b⟩ => ⟨n - (i + 1), by omega, rfl, hlt, a, ?_⟩, fun x H' y => hs D i x H H' hlt hD s e (wk.yields i H x H' hlt (hG H s) y) _ fun H'' a b => ⟨a, b⟩⟩
    rw [b, List.range_succ, List.flatMap_append]
    simp
  · have ei : i = n := by omega
    subst ei
    exact .inl ⟨wk.stops H (hG H s), hd D H hD s e⟩
theorem range_flat {α : Type} (f : α → List V) (xs : List α) : (List.range xs.length).flatMap (fun i => (xs[i]?.map f).getD []) = xs.flatMap f := by
  refine snocInd (C := fun xs => (List.range xs.length).flatMap (fun i => (xs[i]?.map f).getD []) = xs.flatMap f) rfl ?_ xs
  intro xs x ih
  rw [List.length_append, List.length_singleton, List.range_succ, List.flatMap_append, List.flatMap_append, ← ih]
  congr 1
  · unfold List.flatMap
    congr 1
    refine List.map_congr_left fun i hi => ?_
    rw [List.getElem?_append_left (List.mem_range.mp hi)]
  · simp
end Al
set_option maxHeartbeats 4000000
/-! K13: {k: v}, the key a nested tuple. -/
namespace Al
open PySem PySem.Spec PyProof.Rows L2
/-- one entry; the new dict stands empty while it is made -/
def tNDisp (P : Program) (w : World) (K : PySem.W.Frag) (tk tv : TE) : TE := fun σ H Q => ∀ p, H p = none → tPairs [(tk, tv)] σ (upd H p (dN P w p [])) fun ps H2 => ∃ y v k b, ps = [(y, v)] ∧ ND P w K H2 p [] ∧ KeyR K H2 k y b ∧ Q (.ref p) (upd H2 p (dN P w p [(k, b, v)]))
theorem pe_ndisp {X : Cx} {pos : Pos} {kx vx : Expr} {tk tv : TE} (hu : X.A.units + 9 < cLine) (hk : PE X kx tk) (hv : PE X vx tv) : PE X (.Dict [some kx] [vx] pos) (tNDisp X.prog X.w X.K tk tv) := by
  refine ⟨fun pins s σ H Q I h => ?_⟩
  have I1 := I.laid (a := s.heap.objs.size) (o := dN X.prog X.w s.heap.objs.size []) (h' := s.heap.push { cls := .type "dict", data := .dict #[] }) (t' := s.toks) (fun _ _ q => Heap.get?_push_of_some _ q) (Nat.le_refl _) (dn_empty s.heap I.big)
  have q := h s.heap.objs.size (I.hok.fresh (Nat.le_refl _))
  have pairs : PPs X pos [some kx] [vx] [(tk, tv)] := pps_cons hk hv pps_nil
  have hlen : (pairTrees [some kx] [vx] X.env pos).length = 1 := rfl
  rw [arm_eval_Dict, zip_pairTrees [some kx] [vx] X.env pos rfl rfl, dictDisplay_pairs _ (by intro z; rw [z] at hlen; cases hlen) (by rw [hlen]; decide)]
  refine wpAny_bind (wpAny_standAt (wpAny_bind (wpAny_subDictH (knd := nestedKind X.prog X.w) (Q := fun d s' => wpAny (model X.prog X.w) X.A (pure (Value.ref d)) _ X.xe s') (by show X.A.units + 8 < cLine; omega) (by rw [hlen]; decide) ?_)))
  refine thn (pairs.run pins _ σ _ _ I1 q) fun ws s2 ⟨ps, H2, I2, rel, y, v, k, b, eps, nd, kr, q2⟩ => ?_
  subst eps
  match ws, rel with
  | (u, r) :: _, .cons h1 h2 =>
    cases h2
    obtain ⟨ru, rr⟩ := h1
    dsimp only at ru rr
    obtain ⟨rfl, ki⟩ := kr.kis I2 ru
    obtain ⟨z, hd, xs, r0, dd⟩ := nd_rd I2 nd
    cases r0
    refine ⟨[(k, b, r)], ⟨rfl, rfl, ki, True.intro⟩, dd, fun h' tk hm hs => wpAny_pure ⟨.ref s.heap.objs.size, _, ?_, rfl, q2⟩⟩
    exact n_laid (kvs := []) (xs := []) I2 nd (by show 0 < sizeLine; decide) hd .nil rr hm hs
end Al
set_option maxHeartbeats 4000000
/-! M5: nodes (state and vector) and where they come from. -/
namespace Al
open PySem PySem.Spec PyProof.Rows L2
abbrev Node := Int × List Int
def nkVec (v : List Int) : NK := .tup (v.map .num)
def nkNode (nd : Node) : NK := .tup [.num nd.1, nkVec nd.2]
theorem num_inj : ∀ {v u : List Int}, v.map NestedKey.num = u.map NestedKey.num → v = u
  | [], [], _ => rfl
  | [], _ :: _, h => by cases h
  | _ :: _, [], h => by cases h
  | a :: v, b :: u, h => by
    obtain ⟨h1, h2⟩ := List.cons.inj h
    cases h1
    rw [num_inj h2]
theorem nkNode_inj {a b : Node} (h : nkNode a = nkNode b) : a = b := by
  obtain ⟨s, v⟩ := a
  obtain ⟨t, u⟩ := b
  injection h with h
  obtain ⟨h1, h2⟩ := List.cons.inj h
  obtain ⟨h3, _⟩ := List.cons.inj h2
  cases h1
  injection h3 with h3
  exact congrArg _ (num_inj h3)
/-- the node nd stands at a -/
def NodeR (K : PySem.W.Frag) (H : Hp) (a : Addr) (nd : Node) : Prop := ∃ va, H a = some (.tup [.int nd.1, .ref va]) ∧ VecR K H va nd.2
theorem nodeR_sm {K : PySem.W.Frag} (H H' : Hp) (a : Addr) (nd : Node) (s : Same H H') (h : NodeR K H a nd) : NodeR K H' a nd := let ⟨va, x, y⟩ := h; ⟨va, s _ _ x, smTup s y⟩
theorem nkAll_nums {K : PySem.W.Frag} {H : Hp} : ∀ v : List Int, NkAll K H (v.map .num) (v.map V.int)
  | [] => .nil
  | a :: v => .cons (.int a) (nkAll_nums v)
theorem NodeR.nk {K : PySem.W.Frag} {H : Hp} {a : Addr} {nd : Node} (h : NodeR K H a nd) : NkV K H (nkNode nd) (.ref a) := let ⟨va, x, y⟩ := h; .tup (SqT.of x) (.cons (.int _) (.cons (.tup y (nkAll_nums _)) .nil))
/-- where a node comes from: nowhere, or another node and a step -/
def OrgV (K : PySem.W.Frag) (H : Hp) (v : V) : Option (Node × Stp) → Prop
  | none => v = .non
  | some (nd, t) => ∃ a va ta, v = .ref a ∧ H a = some (.tup [.int nd.1, .ref va, .ref ta]) ∧ VecR K H va nd.2 ∧ StpR H ta t
theorem OrgV.sm {K : PySem.W.Frag} {H H' : Hp} {v : V} (s : Same H H') : ∀ {o : Option (Node × Stp)}, OrgV K H v o → OrgV K H' v o
  | none, h => h
  | some (nd, t), ⟨a, va, ta, e, x, y, z⟩ => ⟨a, va, ta, e, s _ _ x, smTup s y, s _ _ z⟩
theorem OrgV.sb {K : PySem.W.Frag} {H H' : Hp} {v : V} {d : Addr} {φ : Heap → Prop} (hD : H d = some (.ext φ)) (s : Sbut d H H') : ∀ {o : Option (Node × Stp)}, OrgV K H v o → OrgV K H' v o
  | none, h => h
  | some (nd, t), ⟨a, va, ta, e, x, y, z⟩ => ⟨a, va, ta, e, s _ _ (fun w => by rw [w, hD] at x; cases x) x, sqT_sb hD s y, s _ _ (fun w => by have z' : H ta = some (.tup t.vs) := z; rw [w, hD] at z'; cases z') z⟩
abbrev Org := List (Node × Option (Node × Stp))
/-- the dict at d tells the origins og -/
def OrgAt (P : Program) (w : World) (K : PySem.W.Frag) (H : Hp) (d : Addr) (og : Org) : Prop := ∃ es, ND P w K H d es ∧ Paired (fun (e : NE) (o : Node × Option (Node × Stp)) => e.1 = nkNode o.1 ∧ OrgV K H e.2.2 o.2) es og ∧ (og.map (·.1)).Nodup
section
variable {P : Program} {w : World} {K : PySem.W.Frag} {H H' : Hp} {d : Addr} {og : Org} {nd : Node}
theorem OrgAt.sm (s : Same H H') (h : OrgAt P w K H d og) : OrgAt P w K H' d og := let ⟨es, a, b, c⟩ := h; ⟨es, a.sm s, Paired.mapP b fun e o z => ⟨z.1, z.2.sm s⟩, c⟩
theorem org_find (nd : Node) : ∀ {es : List NE} {og : Org}, Paired (fun (e : NE) (o : Node × Option (Node × Stp)) => e.1 = nkNode o.1 ∧ OrgV K H e.2.2 o.2) es og → (nget es (nkNode nd) = none ∧ nd ∉ og.map (·.1)) ∨ ∃ v o, nget es (nkNode nd) = some v ∧ (nd, o) ∈ og ∧ OrgV K H v o
  | _, _, .nil => .inl ⟨rfl, by simp⟩
  | e :: es, o :: og, .cons h t => by
    by_cases k : o.1 = nd
    · refine .inr ⟨e.2.2, o.2, ?_, ?_, h.2⟩
      · unfold nget
        rw [List.find?_cons_of_pos (by rw [h.1, k]; simp)]
        rfl
      · rw [← k]
        simp
    · have e1 : ¬ decide (e.1 = nkNode nd) = true := by
        rw [decide_eq_true_iff, h.1]
        exact fun z => k (nkNode_inj z)
      have e2 : nget (e :: es) (nkNode nd) = nget es (nkNode nd) := by
        unfold nget
        rw [List.find?_cons_of_neg (p := fun p : NE => decide (p.1 = nkNode nd)) e1]
      rcases org_find nd t with ⟨a, b⟩ | ⟨v, q, a, b, c⟩
      · refine .inl ⟨e2.trans a, ?_⟩
        rw [List.map_cons, List.mem_cons]
        exact fun z => z.elim (fun z => k z.symm) b
      · exact .inr ⟨v, q, e2.trans a, List.mem_cons_of_mem _ b, c⟩
theorem org_one {og : Org} (h : (og.map (·.1)).Nodup) {o o' : Option (Node × Stp)} (h1 : (nd, o) ∈ og) (h2 : (nd, o') ∈ og) : o = o' := by
  induction og with
  | nil => cases h1
  | cons a r ih =>
    obtain ⟨h3, h4⟩ := List.nodup_cons.mp h
    rcases List.mem_cons.mp h1 with e1 | e1 <;> rcases List.mem_cons.mp h2 with e2 | e2
    · rw [← e1] at e2
      exact (Prod.mk.inj e2).2.symm
    · exact absurd (List.mem_map.mpr ⟨_, e2, by rw [← e1]⟩) h3
    · exact absurd (List.mem_map.mpr ⟨_, e1, by rw [← e2]⟩) h3
    · exact ih h4 e1 e2
theorem depth_nums : ∀ v : List Int, NestedKey.depthAll (v.map NestedKey.num) = 0
  | [] => by simp [NestedKey.depthAll]
  | a :: v => by simp [NestedKey.depthAll, NestedKey.depth, depth_nums v]
theorem nkNode_dep (nd : Node) : (nkNode nd).depth ≤ 8 := by
  unfold nkNode nkVec
  simp [NestedKey.depth, NestedKey.depthAll, depth_nums]
theorem NodeR.key {K : PySem.W.Frag} {H : Hp} {a : Addr} {nd : Node} (h : NodeR K H a nd) : KeyR K H (nkNode nd) (.ref a) a := ⟨rfl, h.nk, nkNode_dep nd⟩
/-- one more node -/
theorem OrgAt.put {b : Addr} {v : V} {o : Option (Node × Stp)} {es : List NE} (h : ND P w K H d es) (h2 : Paired (fun (e : NE) (o : Node × Option (Node × Stp)) => e.1 = nkNode o.1 ∧ OrgV K H e.2.2 o.2) es og) (h3 : (og.map (·.1)).Nodup) (hb : NodeR K H b nd) (hn : nd ∉ og.map (·.1)) (hv : OrgV K H v o) :
    OrgAt P w K (upd H d (dN P w d (nput es (nkNode nd) b v))) d (og ++ [(nd, o)]) := by
  have hx := h.put hb.nk (nkNode_dep nd) (v := v)
  refine ⟨_, hx, ?_, ?_⟩
  · have e0 : nget es (nkNode nd) = none := (org_find nd h2).elim (fun z => z.1) fun ⟨v, o, a, b, c⟩ => absurd (List.mem_map.mpr ⟨_, b, rfl⟩) hn
    rw [nput_new _ _ e0]
    have sb : ∀ {u : V} {q : Option (Node × Stp)}, OrgV K H u q → OrgV K (upd H d (dN P w d (es ++ [(nkNode nd, b, v)]))) u q := fun z => OrgV.sb h.ob .upd z
    exact paired_app (Paired.mapP h2 fun e o z => ⟨z.1, sb z.2⟩) (.cons ⟨rfl, sb hv⟩ .nil)
  · rw [List.map_append]
    exact List.nodup_append.mpr ⟨h3, by simp, fun a ha b hb => by rintro rfl; rw [List.mem_singleton.mp hb] at ha; exact hn ha⟩
/-- the way that the origins tell, up to the node -/
inductive Chain (og : Org) : Node → List Stp → Prop
  | nil {nd : Node} : (nd, none) ∈ og → Chain og nd []
  | cons {nd nd' : Node} {t : Stp} {p : List Stp} : (nd, some (nd', t)) ∈ og → Chain og nd' p → Chain og nd (p ++ [t])
theorem Chain.more {og og' : Org} (h : ∀ x ∈ og, x ∈ og') {nd : Node} {p : List Stp} (c : Chain og nd p) : Chain og' nd p := by
  induction c with
  | nil a => exact .nil (h _ a)
  | cons a _ ih => exact .cons (h _ a) ih
end
end Al
set_option maxHeartbeats 4000000
/-! M6: boxes of vectors; the graph of states and capped vectors. -/
namespace Al
open PySem PySem.Spec PyProof.Rows L2
/-- all vectors of k entries below n -/
def boxes (n : Nat) : Nat → List (List Int)
  | 0 => [[]]
  | k + 1 => (boxes n k).flatMap fun v => (List.range n).map fun (i : Nat) => (i : Int) :: v
theorem flat_const {α β : Type} (f : α → List β) (c : Nat) (h : ∀ x, (f x).length = c) : ∀ xs : List α, (xs.flatMap f).length = xs.length * c
  | [] => by simp
  | x :: xs => by
    rw [List.flatMap_cons, List.length_append, flat_const f c h xs, h, List.length_cons, Nat.succ_mul]
    omega
theorem boxes_len (n : Nat) : ∀ k, (boxes n k).length = n ^ k
  | 0 => rfl
  | k + 1 => by
    unfold boxes
    rw [flat_const _ n (fun v => by rw [List.length_map, List.length_range]), boxes_len n k, Nat.pow_succ]
theorem mem_boxes {n : Nat} : ∀ {k : Nat} {v : List Int}, v.length = k → (∀ x ∈ v, 0 ≤ x ∧ x < n) → v ∈ boxes n k
  | 0, [], _, _ => by simp [boxes]
  | k + 1, x :: v, hl, h => by
    unfold boxes
    rw [List.mem_flatMap]
    refine ⟨v, mem_boxes (by simpa using hl) fun y hy => h y (by simp [hy]), ?_⟩
    obtain ⟨h0, h1⟩ := h x (by simp)
    obtain ⟨s, rfl⟩ := Int.eq_ofNat_of_zero_le h0
    exact List.mem_map.mpr ⟨s, List.mem_range.mpr (by omega), rfl⟩
/-- a node in its box -/
def NodeIn (n k : Nat) (nd : Node) : Prop := 0 ≤ nd.1 ∧ nd.1 < n ∧ nd.2.length = k ∧ ∀ x ∈ nd.2, 0 ≤ x ∧ x < n
theorem pow_box {n k : Nat} (hn : n ≤ 100) (hk : k ≤ 2) : n ^ (k + 1) ≤ 1000000 := by
  have h1 : n ^ (k + 1) ≤ 100 ^ (k + 1) := Nat.pow_le_pow_left hn _
  have h2 : 100 ^ (k + 1) ≤ 100 ^ 3 := Nat.pow_le_pow_right (by decide) (by omega)
  have h3 : (100 : Nat) ^ 3 = 1000000 := by decide
  omega
theorem nodes_len {n k : Nat} {xs : List Node} (hn : xs.Nodup) (h : ∀ nd ∈ xs, NodeIn n k nd) : xs.length ≤ n ^ (k + 1) := by
  have h1 : (xs.map fun nd => nd.1 :: nd.2).Nodup := by
    induction xs with
    | nil => exact .nil
    | cons a r ih =>
      obtain ⟨p, q⟩ := List.nodup_cons.mp hn
      rw [List.map_cons]
      refine List.nodup_cons.mpr ⟨fun z => p ?_, ih q fun nd hd => h nd (by simp [hd])⟩
      obtain ⟨b, hb, e⟩ := List.mem_map.mp z
      obtain ⟨e1, e2⟩ := List.cons.inj e
      rw [show a = b from Prod.ext e1.symm e2.symm]
      exact hb
  have h2 := nd_le (ys := boxes n (k + 1)) h1 fun v hv => by
    obtain ⟨nd, hnd, rfl⟩ := List.mem_map.mp hv
    obtain ⟨a, b, c, d⟩ := h nd hnd
    exact mem_boxes (by rw [List.length_cons, c]) fun x hx => (List.mem_cons.mp hx).elim (fun e => e ▸ ⟨a, b⟩) (d x)
  rwa [List.length_map, boxes_len] at h2
theorem nodes_small {n k : Nat} {xs : List Node} {nd : Node} (hn : n ≤ 100) (hk : k ≤ 2) (h1 : xs.Nodup) (h : ∀ nd ∈ xs, NodeIn n k nd) (h2 : nd ∉ xs) (h3 : NodeIn n k nd) : xs.length < 1000000 := by
  have h4 := nodes_len (n := n) (k := k) (xs := nd :: xs) (List.nodup_cons.mpr ⟨h2, h1⟩) fun x hx => (List.mem_cons.mp hx).elim (fun e => e ▸ h3) (h x)
  have h5 := pow_box hn hk
  rw [List.length_cons] at h4
  omega
/-! ### capped vectors -/
def capN (x : Int) (l : Option Int) : Int := match l with
  | none => x
  | some _ => x + 1
/-- the vector behind the step, as shortest counts -/
def capV (kinds : List Str) (lims : List (Option Int)) (v : List Int) (t : Stp) : List Int :=
  if t.k = "" then v else v.take (kinds.idxOf t.k) ++ capN (v.getD (kinds.idxOf t.k) 0) (lims.getD (kinds.idxOf t.k) none) :: v.drop (kinds.idxOf t.k + 1)
def zeros (k : Nat) : List Int := List.replicate k 0
/-- ways through the graph -/
inductive PPath (M : Mch) (lims : List (Option Int)) : Node → List Stp → Prop
  | nil : PPath M lims (0, zeros M.kinds.length) []
  | cons {v : List Int} {p : List Stp} {t : Stp} : PPath M lims (t.s, v) p → t ∈ M.steps → belowB (capV M.kinds lims v t) lims = true → PPath M lims (t.g, capV M.kinds lims v t) (p ++ [t])
theorem below_at {ns : List Int} {ls : List (Option Int)} (h : belowB ns ls = true) {i : Nat} {x l : Int} (h1 : ns[i]? = some x) (h2 : ls[i]? = some (some l)) : x ≤ l := by
  unfold belowB at h
  have := List.all_eq_true.mp h (x, some l) (List.mem_of_getElem? (zip_get h1 h2))
  simpa using this
theorem capV_len {kinds : List Str} {lims : List (Option Int)} {v : List Int} {t : Stp} (hl : v.length = kinds.length) (hk : t.k ≠ "" → t.k ∈ kinds) : (capV kinds lims v t).length = kinds.length := by
  unfold capV
  by_cases e : t.k = ""
  · rw [if_pos e, hl]
  · rw [if_neg e]
    have := List.idxOf_lt_length_of_mem (hk e)
    simp only [List.length_append, List.length_cons, List.length_take, List.length_drop]
    omega
theorem capV_in {n : Nat} {kinds : List Str} {lims : List (Option Int)} {v : List Int} {t : Stp} (hv : v.length = kinds.length ∧ ∀ x ∈ v, 0 ≤ x ∧ x < n) (hg : 0 ≤ t.g ∧ t.g < n) (hk : t.k ≠ "" → t.k ∈ kinds) (hll : lims.length = kinds.length) (hl : ∀ x, some x ∈ lims → x < n)
    (hb : belowB (capV kinds lims v t) lims = true) : NodeIn n kinds.length (t.g, capV kinds lims v t) := by
  refine ⟨hg.1, hg.2, capV_len hv.1 hk, ?_⟩
  dsimp only
  unfold capV at hb ⊢
  by_cases e : t.k = ""
  · rw [if_pos e]
    exact hv.2
  · rw [if_neg e] at hb ⊢
    have hi := List.idxOf_lt_length_of_mem (hk e)
    have hiv : kinds.idxOf t.k < v.length := by omega
    intro x hx
    rcases List.mem_append.mp hx with hx | hx
    · exact hv.2 x (List.mem_of_mem_take hx)
    · rcases List.mem_cons.mp hx with rfl | hx
      · have hvi := hv.2 _ (List.getElem_mem hiv)
        have e1 : v.getD (kinds.idxOf t.k) 0 = v[kinds.idxOf t.k] := by rw [List.getD_eq_getElem?_getD, List.getElem?_eq_getElem hiv]; rfl
        rw [e1] at hb ⊢
        have hil : kinds.idxOf t.k < lims.length := by omega
        have e2 : lims.getD (kinds.idxOf t.k) none = lims[kinds.idxOf t.k] := by rw [List.getD_eq_getElem?_getD, List.getElem?_eq_getElem hil]; rfl
        rw [e2] at hb ⊢
        cases el : lims[kinds.idxOf t.k] with
        | none => exact hvi
        | some l =>
          rw [el] at hb
          have h1 := below_at (i := kinds.idxOf t.k) (x := v[kinds.idxOf t.k] + 1) (l := l) hb (by
            rw [List.getElem?_append_right (by rw [List.length_take]; omega), List.length_take, Nat.min_eq_left (by omega), Nat.sub_self]
            rfl) (by rw [List.getElem?_eq_getElem hil, el])
          have h2 := hl l (by rw [← el]; exact List.getElem_mem hil)
          show 0 ≤ v[kinds.idxOf t.k] + 1 ∧ v[kinds.idxOf t.k] + 1 < n
          omega
      · exact hv.2 x (List.mem_of_mem_drop hx)
/-- limits as shortest takes them -/
def cutL (n : Nat) (l : Option Int) : Option Int := match l with
  | none => none
  | some x => if (n : Int) ≤ x then none else some x
theorem cutL_lt {n : Nat} {ls : List (Option Int)} {x : Int} (h : some x ∈ ls.map (cutL n)) : x < n := by
  obtain ⟨l, _, e⟩ := List.mem_map.mp h
  cases l with
  | none => cases e
  | some y =>
    unfold cutL at e
    dsimp only at e
    by_cases k : (n : Int) ≤ y
    · rw [if_pos k] at e; cases e
    · rw [if_neg k] at e
      cases e
      omega
/-- what shortest has found while the nodes in op are still to be opened -/
structure ShI (M : Mch) (ss : List Int) (lims : List (Option Int)) (og : Org) (op : Node → Prop) : Prop where
  nd : (og.map (fun x : Node × Option (Node × Stp) => x.1)).Nodup
  st : ((0, zeros M.kinds.length), none) ∈ og
  bd : ∀ n ∈ og.map (fun x : Node × Option (Node × Stp) => x.1), NodeIn M.n M.kinds.length n
  so : ∀ n ∈ og.map (fun x : Node × Option (Node × Stp) => x.1), ∃ p, Chain og n p ∧ PPath M lims n p ∧ (∀ t ∈ p, t.s ∉ ss) ∧ p.length < og.length
  cl : ∀ s v, (s, v) ∈ og.map (fun x : Node × Option (Node × Stp) => x.1) → ¬ op (s, v) → s ∉ ss ∧ ∀ t ∈ M.steps, t.s = s → belowB (capV M.kinds lims v t) lims = true → (t.g, capV M.kinds lims v t) ∈ og.map (fun x : Node × Option (Node × Stp) => x.1)
theorem ShI.mono {M : Mch} {ss : List Int} {lims : List (Option Int)} {og : Org} {op op' : Node → Prop} (h : ShI M ss lims og op) (k : ∀ g, op g → op' g) : ShI M ss lims og op' := ⟨h.nd, h.st, h.bd, h.so, fun s v hs no => h.cl s v hs fun z => no (k _ z)⟩
theorem ShI.len {M : Mch} {ss : List Int} {lims : List (Option Int)} {og : Org} {op : Node → Prop} (h : ShI M ss lims og op) (n2 : M.n ≤ 100) (k2 : M.kinds.length ≤ 2) : og.length ≤ 1000000 := by
  have := nodes_len h.nd h.bd
  rw [List.length_map] at this
  exact Nat.le_trans this (pow_box n2 k2)
theorem ShI.add {M : Mch} {ss : List Int} {lims : List (Option Int)} {og : Org} {op : Node → Prop} {v : List Int} {t : Stp} (h : ShI M ss lims og op) (hs : (t.s, v) ∈ og.map (fun x : Node × Option (Node × Stp) => x.1)) (ht : t ∈ M.steps) (ng : t.s ∉ ss) (hb : belowB (capV M.kinds lims v t) lims = true)
    (hn : (t.g, capV M.kinds lims v t) ∉ og.map (fun x : Node × Option (Node × Stp) => x.1)) (hi : NodeIn M.n M.kinds.length (t.g, capV M.kinds lims v t)) :
    ShI M ss lims (og ++ [((t.g, capV M.kinds lims v t), some ((t.s, v), t))]) (fun x => op x ∨ x = (t.g, capV M.kinds lims v t)) := by
  have more : ∀ x ∈ og, x ∈ og ++ [((t.g, capV M.kinds lims v t), some ((t.s, v), t))] := fun x hx => List.mem_append_left _ hx
  have mk : ∀ n, n ∈ (og ++ [((t.g, capV M.kinds lims v t), some ((t.s, v), t))]).map (fun x : Node × Option (Node × Stp) => x.1) ↔ n ∈ og.map (fun x : Node × Option (Node × Stp) => x.1) ∨ n = (t.g, capV M.kinds lims v t) := fun n => by
    rw [List.map_append, List.mem_append, List.map_singleton, List.mem_singleton]
  refine ⟨?_, more _ h.st, fun n hx => ?_, fun n hx => ?_, fun s u hx no => ?_⟩
  · rw [List.map_append]
    exact List.nodup_append.mpr ⟨h.nd, by simp, fun a ha b hb => by rintro rfl; rw [List.mem_singleton.mp hb] at ha; exact hn ha⟩
  · rcases (mk n).mp hx with hx | rfl
    · exact h.bd n hx
    · exact hi
  · rcases (mk n).mp hx with hx | rfl
    · obtain ⟨p, a, b, c, d⟩ := h.so n hx
      exact ⟨p, a.more more, b, c, by rw [List.length_append]; omega⟩
    · obtain ⟨p, a, b, c, d⟩ := h.so _ hs
      refine ⟨p ++ [t], .cons (List.mem_append_right _ (by simp)) (a.more more), .cons b ht hb, fun u hu => ?_, by rw [List.length_append, List.length_append]; simpa using d⟩
      rcases List.mem_append.mp hu with hu | hu
      · exact c u hu
      · rw [List.mem_singleton.mp hu]
        exact ng
  · rcases (mk _).mp hx with hx | e
    · obtain ⟨a, b⟩ := h.cl s u hx fun z => no (.inl z)
      exact ⟨a, fun t' ht' e hb' => (mk _).mpr (.inl (b t' ht' e hb'))⟩
    · exact absurd (.inr e) no
theorem ShI.close {M : Mch} {ss : List Int} {lims : List (Option Int)} {og : Org} {op op' : Node → Prop} {s : Int} {v : List Int} (h : ShI M ss lims og op') (ho : ∀ x, op' x → op x ∨ x = (s, v)) (ng : s ∉ ss)
    (k : ∀ t ∈ M.steps, t.s = s → belowB (capV M.kinds lims v t) lims = true → (t.g, capV M.kinds lims v t) ∈ og.map (fun x : Node × Option (Node × Stp) => x.1)) : ShI M ss lims og op := by
  refine ⟨h.nd, h.st, h.bd, h.so, fun s' v' hs no => ?_⟩
  by_cases e : (s', v') = (s, v)
  · obtain ⟨rfl, rfl⟩ := Prod.mk.inj e
    exact ⟨ng, k⟩
  · exact h.cl s' v' hs fun z => (ho _ z).elim no e
theorem ShI.none {M : Mch} {ss : List Int} {lims : List (Option Int)} {og : Org} (h : ShI M ss lims og fun _ => False) {nd : Node} {p : List Stp} (hp : PPath M lims nd p) : nd.1 ∉ ss := by
  have key : nd ∈ og.map (fun x : Node × Option (Node × Stp) => x.1) := by
    induction hp with
    | nil => exact List.mem_map.mpr ⟨_, h.st, rfl⟩
    | cons _ ht hb ih => exact (h.cl _ _ ih fun z => z).2 _ ht rfl hb
  exact (h.cl nd.1 nd.2 key fun z => z).1
end Al
set_option maxHeartbeats 4000000
/-! M7: vectors of falls: order, sums; ways within limits. -/
namespace Al
open PySem PySem.Spec PyProof.Rows L2
/-- no entry is greater -/
def vle (u v : List Int) : Bool := belowB u (v.map some)
theorem below_cons {x : Int} {l : Option Int} {v : List Int} {ls : List (Option Int)} : belowB (x :: v) (l :: ls) = true ↔ (∀ y, l = some y → x ≤ y) ∧ belowB v ls = true := by
  unfold belowB
  rw [List.zip_cons_cons, List.all_cons, Bool.and_eq_true]
  cases l with
  | none => simp
  | some y => simp
theorem vle_cons {x y : Int} {u v : List Int} : vle (x :: u) (y :: v) = true ↔ x ≤ y ∧ vle u v = true := by
  unfold vle
  rw [List.map_cons, below_cons]
  simp
theorem vle_refl : ∀ v : List Int, vle v v = true
  | [] => rfl
  | x :: v => vle_cons.mpr ⟨Int.le_refl _, vle_refl v⟩
theorem vle_trans : ∀ {u v w : List Int}, u.length = v.length → vle u v = true → vle v w = true → vle u w = true
  | [], _, _, _, _, _ => by simp [vle, belowB]
  | x :: u, [], _, h, _, _ => by simp at h
  | x :: u, y :: v, [], _, _, _ => by simp [vle, belowB]
  | x :: u, y :: v, z :: w, h, h1, h2 => by
    obtain ⟨a, b⟩ := vle_cons.mp h1
    obtain ⟨c, d⟩ := vle_cons.mp h2
    exact vle_cons.mpr ⟨Int.le_trans a c, vle_trans (by simpa using h) b d⟩
theorem vle_below : ∀ {u v : List Int} {ls : List (Option Int)}, u.length = v.length → vle u v = true → belowB v ls = true → belowB u ls = true
  | [], _, _, _, _, _ => by simp [belowB]
  | x :: u, [], _, h, _, _ => by simp at h
  | x :: u, y :: v, [], _, _, _ => by simp [belowB]
  | x :: u, y :: v, l :: ls, h, h1, h2 => by
    obtain ⟨a, b⟩ := vle_cons.mp h1
    obtain ⟨c, d⟩ := below_cons.mp h2
    exact below_cons.mpr ⟨fun z hz => Int.le_trans a (c z hz), vle_below (by simpa using h) b d⟩
theorem vle_get {u v : List Int} (hl : u.length = v.length) : vle u v = true ↔ ∀ (i : Nat) (a b : Int), u[i]? = some a → v[i]? = some b → a ≤ b := by
  constructor
  · intro h i a b h1 h2
    refine below_at h h1 ?_
    rw [List.getElem?_map, h2]
    rfl
  · induction u generalizing v with
    | nil => intro _; simp [vle, belowB]
    | cons x u ih =>
      cases v with
      | nil => simp at hl
      | cons y v =>
        intro h
        exact vle_cons.mpr ⟨h 0 x y rfl rfl, ih (by simpa using hl) fun i a b h1 h2 => h (i + 1) a b h1 h2⟩
/-- one more at the place i -/
def bump (v : List Int) (i : Nat) : List Int := v.take i ++ (v.getD i 0 + 1) :: v.drop (i + 1)
theorem bump_len {v : List Int} {i : Nat} (h : i < v.length) : (bump v i).length = v.length := by
  unfold bump
  simp only [List.length_append, List.length_cons, List.length_take, List.length_drop]
  omega
theorem bump_get {v : List Int} {i : Nat} (h : i < v.length) (j : Nat) : (bump v i)[j]? = if j = i then some (v[i] + 1) else v[j]? := by
  unfold bump
  have e : v.getD i 0 = v[i] := by rw [List.getD_eq_getElem?_getD, List.getElem?_eq_getElem h]; rfl
  rw [e]
  by_cases h1 : j < i
  · rw [List.getElem?_append_left (by rw [List.length_take]; omega), List.getElem?_take_of_lt h1, if_neg (by omega)]
  · rw [List.getElem?_append_right (by rw [List.length_take]; omega), List.length_take, Nat.min_eq_left (by omega)]
    by_cases h2 : j = i
    · rw [if_pos h2, h2, Nat.sub_self]
      rfl
    · rw [if_neg h2]
      obtain ⟨m, hm⟩ : ∃ m, j - i = m + 1 := ⟨j - i - 1, by omega⟩
      rw [hm, List.getElem?_cons_succ, List.getElem?_drop]
      congr 1
      omega
theorem vecAdd_eq (kinds : List Str) (v : List Int) (k : Str) : vecAdd kinds v k = if k = "" then v else bump v (kinds.idxOf k) := rfl
theorem vecAdd_len {kinds : List Str} {v : List Int} {k : Str} (hl : v.length = kinds.length) (hk : k ≠ "" → k ∈ kinds) : (vecAdd kinds v k).length = kinds.length := by
  rw [vecAdd_eq]
  by_cases e : k = ""
  · rw [if_pos e, hl]
  · rw [if_neg e, bump_len (by rw [hl]; exact List.idxOf_lt_length_of_mem (hk e)), hl]
theorem vecAdd_ge {kinds : List Str} {v : List Int} {k : Str} (hl : v.length = kinds.length) (hk : k ≠ "" → k ∈ kinds) : vle v (vecAdd kinds v k) = true := by
  rw [vecAdd_eq]
  by_cases e : k = ""
  · rw [if_pos e]; exact vle_refl v
  · rw [if_neg e]
    have hi : kinds.idxOf k < v.length := by rw [hl]; exact List.idxOf_lt_length_of_mem (hk e)
    refine (vle_get (bump_len hi).symm).mpr fun i a b h1 h2 => ?_
    rw [bump_get hi] at h2
    by_cases ej : i = kinds.idxOf k
    · rw [if_pos ej] at h2
      rw [ej, List.getElem?_eq_getElem hi] at h1
      cases h1
      cases h2
      omega
    · rw [if_neg ej, h1] at h2
      cases h2
      exact Int.le_refl _
theorem vecAdd_mono {kinds : List Str} {u v : List Int} {k : Str} (hu : u.length = kinds.length) (hv : v.length = kinds.length) (hk : k ≠ "" → k ∈ kinds) (h : vle u v = true) : vle (vecAdd kinds u k) (vecAdd kinds v k) = true := by
  rw [vecAdd_eq, vecAdd_eq]
  by_cases e : k = ""
  · rw [if_pos e, if_pos e]; exact h
  · rw [if_neg e, if_neg e]
    have hi := List.idxOf_lt_length_of_mem (hk e)
    have hiu : kinds.idxOf k < u.length := by omega
    have hiv : kinds.idxOf k < v.length := by omega
    refine (vle_get (by rw [bump_len hiu, bump_len hiv, hu, hv])).mpr fun i a b h1 h2 => ?_
    rw [bump_get hiu] at h1
    rw [bump_get hiv] at h2
    have g := (vle_get (hu.trans hv.symm)).mp h
    by_cases ej : i = kinds.idxOf k
    · rw [if_pos ej] at h1 h2
      cases h1
      cases h2
      have := g _ _ _ (List.getElem?_eq_getElem hiu) (List.getElem?_eq_getElem hiv)
      omega
    · rw [if_neg ej] at h1 h2
      exact g i a b h1 h2
/-- ways whose falls stay within the limits -/
inductive VPath (M : Mch) (lims : List (Option Int)) : Node → List Stp → Prop
  | nil : belowB (zeros M.kinds.length) lims = true → VPath M lims (0, zeros M.kinds.length) []
  | cons {v : List Int} {p : List Stp} {t : Stp} : VPath M lims (t.s, v) p → t ∈ M.steps → belowB (vecAdd M.kinds v t.k) lims = true → VPath M lims (t.g, vecAdd M.kinds v t.k) (p ++ [t])
end Al
set_option maxHeartbeats 4000000
/-! M8: what Ways holds, as data. -/
namespace Al
open PySem PySem.Spec PyProof.Rows L2
abbrev KF := Int → List (List Int)
/-- some kept vector of the state is no greater -/
def Dom (kf : KF) (s : Int) (w : List Int) : Prop := ∃ u ∈ kf s, vle u w = true
abbrev keysO (og : Org) : List Node := og.map (fun x : Node × Option (Node × Stp) => x.1)
/-- one node's way -/
structure WayO (M : Mch) (lims : List (Option Int)) (og : Org) (n : Node) (p : List Stp) : Prop where
  ch : Chain og n p
  vp : VPath M lims n p
  di : (p.map (·.s) ++ [n.1]).Nodup
  bs : ∀ s ∈ p.map (·.s) ++ [n.1], 0 ≤ s ∧ s < M.n
  be : ∀ s ∈ p.map (·.s), ∃ v, (s, v) ∈ keysO og ∧ vle v n.2 = true
  en : ∀ x ∈ n.2, 0 ≤ x ∧ x ≤ p.length
  ln : n.2.length = M.kinds.length
structure WI (M : Mch) (lims : List (Option Int)) (kf : KF) (og : Org) (cl : Node → Prop) : Prop where
  nd : (keysO og).Nodup
  so : ∀ n ∈ keysO og, ∃ p, WayO M lims og n p
  ke : ∀ s v, v ∈ kf s → (s, v) ∈ keysO og
  kn : ∀ s, (kf s).Nodup
  dm : ∀ s v, (s, v) ∈ keysO og → Dom kf s v
  cn : ∀ n, cl n → n ∈ keysO og
  cl : ∀ s v, v ∈ kf s → cl (s, v) → ∀ t ∈ M.steps, t.s = s → belowB (vecAdd M.kinds v t.k) lims = true → Dom kf t.g (vecAdd M.kinds v t.k)
theorem WayO.short {M : Mch} {lims : List (Option Int)} {og : Org} {n : Node} {p : List Stp} (h : WayO M lims og n p) : p.length + 1 ≤ M.n := by
  have := nd_lt h.di h.bs
  rwa [List.length_append, List.length_map, List.length_singleton] at this
theorem WayO.box {M : Mch} {lims : List (Option Int)} {og : Org} {n : Node} {p : List Stp} (h : WayO M lims og n p) : NodeIn M.n M.kinds.length n := by
  have hs := h.short
  obtain ⟨a, b⟩ := h.bs n.1 (by simp)
  exact ⟨a, b, h.ln, fun x hx => ⟨(h.en x hx).1, by have := (h.en x hx).2; omega⟩⟩
section
variable {M : Mch} {lims : List (Option Int)} {kf : KF} {og : Org} {cl : Node → Prop}
theorem WI.box (h : WI M lims kf og cl) : ∀ n ∈ keysO og, NodeIn M.n M.kinds.length n := fun n hn => let ⟨_, w⟩ := h.so n hn; w.box
theorem WI.len (h : WI M lims kf og cl) (n2 : M.n ≤ 100) (k2 : M.kinds.length ≤ 2) : og.length ≤ 1000000 := by
  have := nodes_len h.nd h.box
  rw [List.length_map] at this
  exact Nat.le_trans this (pow_box n2 k2)
theorem WI.klen (h : WI M lims kf og cl) (s : Int) : (kf s).length ≤ og.length := by
  have := nd_le (xs := (kf s).map fun v => ((s, v) : Node)) (ys := keysO og) (by
    have hk := h.kn s
    generalize kf s = vs at hk
    induction vs with
    | nil => exact .nil
    | cons a r ih =>
      obtain ⟨p, q⟩ := List.nodup_cons.mp hk
      rw [List.map_cons]
      refine List.nodup_cons.mpr ⟨fun z => p ?_, ih q⟩
      obtain ⟨b, hb, e⟩ := List.mem_map.mp z
      rw [← (Prod.mk.inj e).2]
      exact hb) fun n hn => by
    obtain ⟨v, hv, rfl⟩ := List.mem_map.mp hn
    exact h.ke s v hv
  rwa [List.length_map, List.length_map] at this
/-- the kept vectors behind an offer that is taken -/
def takeK (kf : KF) (g : Int) (w : List Int) : KF := fun x => if x = g then (kf g).filter (fun u => !vle w u) ++ [w] else kf x
theorem take_dom (hk : ∀ v ∈ kf g, v.length = w.length) {s : Int} {x : List Int} (hw : w.length = x.length) (h : Dom kf s x) : Dom (takeK kf g w) s x := by
  obtain ⟨u, hu, hx⟩ := h
  by_cases e : s = g
  · subst e
    by_cases c : vle w u = true
    · exact ⟨w, by unfold takeK; rw [if_pos rfl]; simp, vle_trans (hk u hu).symm c hx⟩
    · exact ⟨u, by unfold takeK; rw [if_pos rfl]; exact List.mem_append_left _ (List.mem_filter.mpr ⟨hu, by simpa using c⟩), hx⟩
  · exact ⟨u, by unfold takeK; rw [if_neg e]; exact hu, hx⟩
theorem WI.new (h : WI M lims kf og cl) {g : Int} {w : List Int} (hn : ¬ Dom kf g w) : (g, w) ∉ keysO og := fun z => hn (h.dm g w z)
/-- the offer (g, w) is taken -/
theorem WI.take (ok : MOk M) (h : WI M lims kf og cl) {g : Int} {w : List Int} {o : Option (Node × Stp)} (hn : ¬ Dom kf g w) {p : List Stp} (hp : WayO M lims (og ++ [((g, w), o)]) (g, w) p) : WI M lims (takeK kf g w) (og ++ [((g, w), o)]) cl := by
  have mk : ∀ n, n ∈ keysO (og ++ [((g, w), o)]) ↔ n ∈ keysO og ∨ n = (g, w) := fun n => by
    rw [keysO, List.map_append, List.mem_append, List.map_singleton, List.mem_singleton]
  have new := h.new hn
  have more : ∀ x ∈ og, x ∈ og ++ [((g, w), o)] := fun x hx => List.mem_append_left _ hx
  have klen : ∀ s, ∀ v ∈ kf s, v.length = M.kinds.length := fun s v hv => (h.box _ (h.ke s v hv)).2.2.1
  have wlen := hp.ln
  dsimp only at wlen
  have inT : ∀ {s v}, v ∈ takeK kf g w s → v ∈ kf s ∨ (s = g ∧ v = w) := fun {s v} hv => by
    unfold takeK at hv
    by_cases e : s = g
    · rw [if_pos e] at hv
      rcases List.mem_append.mp hv with hv | hv
      · rw [e]
        exact .inl (List.mem_filter.mp hv).1
      · exact .inr ⟨e, List.mem_singleton.mp hv⟩
    · rw [if_neg e] at hv
      exact .inl hv
  refine ⟨?_, fun n hx => ?_, fun s v hv => ?_, fun s => ?_, fun s v hv => ?_, fun n c => (mk n).mpr (.inl (h.cn n c)), fun s v hv c t ht ts hb => ?_⟩
  · rw [keysO, List.map_append]
    exact List.nodup_append.mpr ⟨h.nd, by simp, fun a ha b hb => by rintro rfl; rw [List.map_singleton, List.mem_singleton] at hb; rw [hb] at ha; exact new ha⟩
  · rcases (mk n).mp hx with hx | rfl
    · obtain ⟨q, a⟩ := h.so n hx
      exact ⟨q, a.ch.more more, a.vp, a.di, a.bs, fun s hs => let ⟨v, x, y⟩ := a.be s hs; ⟨v, (mk _).mpr (.inl x), y⟩, a.en, a.ln⟩
    · exact ⟨p, hp⟩
  · rcases inT hv with hv | ⟨rfl, rfl⟩
    · exact (mk _).mpr (.inl (h.ke s v hv))
    · exact (mk _).mpr (.inr rfl)
  · unfold takeK
    by_cases e : s = g
    · rw [if_pos e]
      refine List.nodup_append.mpr ⟨(h.kn g).filter _, by simp, fun a ha b hb => ?_⟩
      rintro rfl
      rw [List.mem_singleton.mp hb] at ha
      exact hn ⟨w, (List.mem_filter.mp ha).1, vle_refl w⟩
    · rw [if_neg e]
      exact h.kn s
  · rcases (mk _).mp hv with hv | e
    · exact take_dom (fun u hu => (klen g u hu).trans wlen.symm) (wlen.trans (h.box _ hv).2.2.1.symm) (h.dm s v hv)
    · obtain ⟨rfl, rfl⟩ := Prod.mk.inj e
      exact ⟨v, by unfold takeK; rw [if_pos rfl]; simp, vle_refl v⟩
  · rcases inT hv with hv | ⟨rfl, rfl⟩
    · have := h.cl s v hv c t ht ts hb
      obtain ⟨u, hu, hx⟩ := id this
      refine take_dom (fun u hu => (klen g u hu).trans wlen.symm) ?_ this
      exact wlen.trans (vecAdd_len (klen s v hv) (ok.kin t ht)).symm
    · exact absurd (h.cn _ c) new
theorem vecAdd_mem {kinds : List Str} {v : List Int} {k : Str} (hl : v.length = kinds.length) (hk : k ≠ "" → k ∈ kinds) {x : Int} (h : x ∈ vecAdd kinds v k) : ∃ y ∈ v, x = y ∨ x = y + 1 := by
  rw [vecAdd_eq] at h
  by_cases e : k = ""
  · rw [if_pos e] at h
    exact ⟨x, h, .inl rfl⟩
  · rw [if_neg e] at h
    have hi : kinds.idxOf k < v.length := by rw [hl]; exact List.idxOf_lt_length_of_mem (hk e)
    obtain ⟨j, hj, e2⟩ := List.mem_iff_getElem.mp h
    have e3 : (bump v (kinds.idxOf k))[j]? = some x := by rw [List.getElem?_eq_getElem hj, e2]
    rw [bump_get hi] at e3
    by_cases ej : j = kinds.idxOf k
    · rw [if_pos ej] at e3
      cases e3
      exact ⟨_, List.getElem_mem hi, .inr rfl⟩
    · rw [if_neg ej] at e3
      exact ⟨x, List.mem_of_getElem? e3, .inl rfl⟩
theorem WI.way (ok : MOk M) (h : WI M lims kf og cl) {v : List Int} {t : Stp} (hs : (t.s, v) ∈ keysO og) (ht : t ∈ M.steps) (hb : belowB (vecAdd M.kinds v t.k) lims = true) (hn : ¬ Dom kf t.g (vecAdd M.kinds v t.k)) :
    ∃ p, WayO M lims (og ++ [((t.g, vecAdd M.kinds v t.k), some ((t.s, v), t))]) (t.g, vecAdd M.kinds v t.k) p := by
  obtain ⟨p, a⟩ := h.so _ hs
  have tk := ok.kin t ht
  have vl : v.length = M.kinds.length := a.ln
  have wl := vecAdd_len vl tk
  have ge := vecAdd_ge vl tk
  have more : ∀ x ∈ og, x ∈ og ++ [((t.g, vecAdd M.kinds v t.k), some ((t.s, v), t))] := fun x hx => List.mem_append_left _ hx
  have mk : ∀ n, n ∈ keysO og → n ∈ keysO (og ++ [((t.g, vecAdd M.kinds v t.k), some ((t.s, v), t))]) := fun n hn => by
    rw [keysO, List.map_append]
    exact List.mem_append_left _ hn
  have far : ∀ s v0, (s, v0) ∈ keysO og → vle v0 v = true → s ≠ t.g := fun s v0 hv0 hle e => by
    obtain ⟨u, hu, hx⟩ := h.dm s v0 hv0
    have l0 : v0.length = M.kinds.length := (h.box _ hv0).2.2.1
    have lu : u.length = M.kinds.length := (h.box _ (h.ke s u hu)).2.2.1
    exact hn ⟨u, e ▸ hu, vle_trans (lu.trans l0.symm) hx (vle_trans (l0.trans vl.symm) hle ge)⟩
  have ems : (p ++ [t]).map (·.s) = p.map (·.s) ++ [t.s] := by rw [List.map_append]; rfl
  have hall : ∀ s ∈ (p ++ [t]).map (·.s), ∃ v0, (s, v0) ∈ keysO og ∧ vle v0 v = true := fun s hs' => by
    rw [ems] at hs'
    rcases List.mem_append.mp hs' with hs' | hs'
    · exact a.be s hs'
    · rw [List.mem_singleton.mp hs']
      exact ⟨v, hs, vle_refl v⟩
  refine ⟨p ++ [t], .cons (List.mem_append_right _ (by simp)) (a.ch.more more), .cons a.vp ht hb, ?_, fun s hs' => ?_, fun s hs' => ?_, fun x hx => ?_, wl⟩
  · refine List.nodup_append.mpr ⟨by rw [ems]; exact a.di, by simp, fun x hx y hy => ?_⟩
    rw [List.mem_singleton.mp hy]
    obtain ⟨v0, h1, h2⟩ := hall x hx
    exact far x v0 h1 h2
  · rcases List.mem_append.mp hs' with hs' | hs'
    · rw [ems] at hs'
      exact a.bs s hs'
    · rw [List.mem_singleton.mp hs']
      exact ⟨(ok.st t ht).g0, (ok.st t ht).g1⟩
  · obtain ⟨v0, h1, h2⟩ := hall s hs'
    exact ⟨v0, mk _ h1, vle_trans ((h.box _ h1).2.2.1.trans vl.symm) h2 ge⟩
  · rw [List.length_append, List.length_singleton]
    obtain ⟨y, hy, e⟩ := vecAdd_mem vl tk hx
    obtain ⟨b, c⟩ := a.en y hy
    omega
theorem zeros_way (h1 : 1 ≤ M.n) (hb : belowB (zeros M.kinds.length) lims = true) : WayO M lims [((0, zeros M.kinds.length), none)] (0, zeros M.kinds.length) [] := by
  refine ⟨.nil (by simp), .nil hb, by simp, fun s hs => ?_, (fun s hs => by cases hs), fun x hx => ?_, List.length_replicate ..⟩
  · rw [List.mem_singleton.mp hs]
    show (0 : Int) ≤ 0 ∧ (0 : Int) < M.n
    omega
  · rw [List.eq_of_mem_replicate hx]
    exact ⟨Int.le_refl _, Int.le_refl _⟩
/-- the loop's end: every way within the limits is met or bettered -/
theorem WI.full (ok : MOk M) (h : WI M lims kf og fun n => n ∈ keysO og) (h0 : belowB (zeros M.kinds.length) lims = true → Dom kf 0 (zeros M.kinds.length)) {n : Node} {p : List Stp} (hp : VPath M lims n p) : Dom kf n.1 n.2 ∧ n.2.length = M.kinds.length := by
  induction hp with
  | nil hb => exact ⟨h0 hb, List.length_replicate ..⟩
  | @cons v p t _ ht hb ih =>
    obtain ⟨⟨u, hu, hx⟩, vl⟩ := ih
    have tk := ok.kin t ht
    have vl : v.length = M.kinds.length := vl
    have hu' := h.ke _ _ hu
    have ul : u.length = M.kinds.length := (h.box _ hu').2.2.1
    have hm := vecAdd_mono ul vl tk hx
    have l1 := vecAdd_len ul tk
    have l2 := vecAdd_len vl tk
    obtain ⟨u2, hu2, hx2⟩ := h.cl t.s u hu hu' t ht rfl (vle_below (l1.trans l2.symm) hm hb)
    exact ⟨⟨u2, hu2, vle_trans ((h.box _ (h.ke _ _ hu2)).2.2.1.trans l1.symm) hx2 hm⟩, l2⟩
theorem WI.sound (h : WI M lims kf og cl) {s : Int} {v : List Int} (hv : v ∈ kf s) : ∃ p, VPath M lims (s, v) p := let ⟨p, a⟩ := h.so _ (h.ke s v hv); ⟨p, a.vp⟩
theorem WI.more (h : WI M lims kf og cl) {cl' : Node → Prop} (h1 : ∀ n, cl' n → n ∈ keysO og) (h2 : ∀ s v, v ∈ kf s → cl' (s, v) → ¬ cl (s, v) → ∀ t ∈ M.steps, t.s = s → belowB (vecAdd M.kinds v t.k) lims = true → Dom kf t.g (vecAdd M.kinds v t.k)) : WI M lims kf og cl' := by
  refine ⟨h.nd, h.so, h.ke, h.kn, h.dm, h1, fun s v hv c => ?_⟩
  by_cases e : cl (s, v)
  · exact h.cl s v hv e
  · exact h2 s v hv c e
end
end Al
set_option maxHeartbeats 4000000
/-! D8: ranks_of, dead_states. -/
namespace Al
open PySem PySem.Spec PyProof.Rows L2
section
variable {P : Program} {w : World} {K : PySem.W.Frag} {mg : Str → Option Value} {base : Heap}
def spRanks (K : PySem.W.Frag) : Sp := fun vs H Q _ => ∃ (m ga : Addr) (M : Mch) (ss : List Int), vs = [.ref m, .ref ga] ∧ MAt K H m M ∧ SqT K H ga (ss.map V.int) ∧ ss.Nodup ∧ (∀ s ∈ ss, 0 ≤ s ∧ s < M.n) ∧
  ∀ H' D rk, Same H H' → H D = none → H' D = some (.dK (nmD rk)) → Ranks M ss rk → Q (.ref D) H'
theorem ok_ranks_of (T : Txt K mg) : GFn P w K mg base 2 "ranks_of" (spRanks K) := by
  refine T.okG h_ranks_of rfl (by decide +kernel) sc_ranks_of rfl rfl b_ranks_of (fun vs H Q E h => ?_) (fun cdv A outer s H vs Q E hr h => ?_)
  · obtain ⟨m, ga, M, ss, rfl, _⟩ := h
    rfl
  · obtain ⟨m, ga, M, ss, rfl, hm, hg, snd, sb, q⟩ := h
    refine ⟨_, (pss_cons (ps_setDcg (i := 2) (own := [("state", 3)]) dkindK rfl sc_ranks_of.nd rfl rfl (swd_true rfl rfl rfl (by decide +kernel)) (pi_range1 (by rfl) (T.f "range") (pa_cons (pe_at (T.c "Machine") (T.n "Machine" "many") (pv 0)) pa_nil)) (blkOk_by (own := [("state", 3)]) (N := N_ranks_of) (sc := defScope s_ranks_of) (by decide +kernel)) ⟨(fun _ _ _ _ _ => (pg_l (i := 3) sc_ranks_of.nd rfl rfl)), (fun _ _ _ _ _ => pts_nil), (fun _ _ _ _ _ => (pv 3)), (fun _ _ _ _ _ => (pe_lst pa_nil))⟩)
        (pss_cons (ps_for PassesOwn.never rfl (pi_tup (pe_at (T.c "Machine") (T.n "Machine" "steps") (pv 0))) (pg_t K 4 rfl (pgs_cons (pg_l (i := 3) sc_ranks_of.nd rfl rfl) (pgs_cons (pg_l (i := 4) sc_ranks_of.nd rfl rfl) (pgs_cons (pg_l (i := 5) sc_ranks_of.nd rfl rfl) (pgs_cons (pg_l (i := 6) sc_ranks_of.nd rfl rfl) pgs_nil)))))
        (pss_one (ps_if (pt_cmpR op_eq (pv 4) pe_str (nomark _)) 
          (pss_one (ps_expr (pe_bm PySem.F.plainAttrs_list PySem.F.slot_list_append PySem.F.type_list_append mt_append (pe_dget (hu_of hr) (pv 2) (pv 6) (fun _ _ => rfl)) (pa_cons (pv 3) pa_nil))))
          pss_nil)))
        (pss_cons (ps_c (i := 7) sc_ranks_of.nd rfl rfl rfl (pe_dcg (own := [("goal", 6)]) dkindK rfl sc_ranks_of.nd (pi_tup (pv 1)) (blkOk_by (own := [("goal", 6)]) (N := N_ranks_of) (sc := defScope s_ranks_of) (by decide +kernel)) ⟨(fun _ _ _ _ _ => (pg_l (i := 6) sc_ranks_of.nd rfl rfl)), (fun _ _ _ _ _ => pts_nil), (fun _ _ _ _ _ => (pv 6)), (fun _ _ _ _ _ => pe_int)⟩))
        (pss_cons (ps_l (i := 8) sc_ranks_of.nd rfl rfl (pe_callTy (cList K) (by rfl) (T.f "list") (by decide +kernel) (pa_cons (pv 1) pa_nil)))
        (pss_cons (ps_while PassesOwn.never (pt_cmpR (op_neDK K hr.units) (pv 8) (pe_lst pa_nil) (nomark _))
        (pss_cons (ps_l (i := 9) sc_ranks_of.nd rfl rfl (pe_lst pa_nil))
          (pss_cons (ps_for PassesOwn.never rfl (pi_list (pe_callTy (cList K) (by rfl) (T.f "list") (by decide +kernel) (pa_cons (pv 8) pa_nil))) (pg_l (i := 6) sc_ranks_of.nd rfl rfl)
          (pss_one (ps_for PassesOwn.never rfl (pi_list (pe_dget (hu_of hr) (pv 2) (pv 6) (fun _ _ => rfl))) (pg_l (i := 3) sc_ranks_of.nd rfl rfl)
            (pss_one (ps_if (pt_cmp (pc_dnotin (hu_of hr) (pv 3) (pv 7))) 
              (pss_cons (ps_dput (hu_of hr) (pv 7) (pv 3) (pe_op op_add (pe_dget (hu_of hr) (pv 7) (pv 6) (fun _ _ => rfl)) pe_int) rfl)
                (pss_one (ps_expr (pe_bm PySem.F.plainAttrs_list PySem.F.slot_list_append PySem.F.type_list_append mt_append (pv 9) (pa_cons (pv 3) pa_nil)))))
              pss_nil)))))
          (pss_one (ps_l (i := 8) sc_ranks_of.nd rfl rfl (pv 9))))))
        (pss_one (ps_ret (pe_dcg (own := [("state", 3)]) dkindK rfl sc_ranks_of.nd (pi_list (pe_callB (call_sortedKi rfl (hu20 hr)) (by rfl) (T.f "sorted") (by decide +kernel) (pa_cons (pv 7) pa_nil))) (blkOk_by (own := [("state", 3)]) (N := N_ranks_of) (sc := defScope s_ranks_of) (by decide +kernel)) ⟨(fun _ _ _ _ _ => (pg_l (i := 3) sc_ranks_of.nd rfl rfl)), (fun _ _ _ _ _ => pts_nil), (fun _ _ _ _ _ => (pv 3)), (fun _ _ _ _ _ => (pe_dget (hu_of hr) (pv 7) (pv 3) (fun _ _ => rfl)))⟩)))))))), ?_⟩
    have n2 := hm.ok.n2
    have slen : ss.length ≤ M.n := nd_lt snd sb
    have tlen := hm.ok.len
    obtain ⟨dx, ts, wd, kl, fs, sa, wa, pc⟩ := hm.pc
    have talen : sa.length = M.steps.length := Paired.length pc.st
    refine ⟨_, rfl, m, dx, _, _, rfl, pc.m, pc.many, M.n, rfl, by omega, by omega, ?_⟩
    rw [show ((M.n : Int).toNat) = M.n from rfl]
    refine dkLists (by omega) (fun i H' hi Kt k => ⟨rfl, _, rfl, (by show 0 ≤ sizeLine; decide), fun p hp => ?_⟩) fun D2 H3 wb hD2 s3 ld fr => ?_
    · have e : (0 : Int) + (i : Int) = i := by omega
      have := k p hp
      rw [← e] at this
      exact this
    have pc3 := pc.sm s3
    refine ⟨_, rfl, m, dx, _, _, rfl, pc3.m, pc3.steps, ts, rfl, ⟨_, .of pc3.ts⟩, ?_⟩
    refine for_it walk_tup (fun i σ H' => ∃ o3 o4 o5 o6, σ = [some (.ref m), some (.ref ga), some (.ref D2), o3, o4, o5, o6, none, none, none] ∧ Same H H' ∧
      LD H' D2 M.n wb (fun s => (intoL (M.steps.take i) (s : Int)).map V.int)) ⟨none, none, none, none, rfl, s3, ld⟩ (fun i σ H' _ ⟨_, _, _, _, _, s, _⟩ => .of (s _ _ pc.ts)) ?_ ?_
    · rintro i v σ H4 H5 hi ⟨o3, o4, o5, o6, rfl, s4, ld4⟩ ⟨rfl, hv⟩
      rw [List.length_map] at hi
      rw [List.getElem?_map] at hv
      cases ha : sa[i]? with
      | none => rw [ha] at hv; cases hv
      | some a =>
        rw [ha] at hv
        cases hv
        obtain ⟨t, ht, hta⟩ := paired_get pc.st ha
        have htm := List.mem_of_getElem? ht
        have tok := hm.ok.st t htm
        refine ⟨a, t.vs, rfl, SqT.of (s4 _ _ hta), rfl, _, _, rfl, _, _, rfl, _, _, rfl, _, _, rfl, rfl, ?_⟩
        refine ⟨_, rfl, rfl, _, rfl, ?_⟩
        by_cases ek : t.k = ""
        · have ed : decide (V.str t.k = V.str "") = true := by rw [ek]; simp
          rw [ed]
          obtain ⟨gi, egi⟩ := Int.eq_ofNat_of_zero_le tok.g0
          have hgi : gi < M.n := by have := tok.g1; omega
          have els := ld4.ls gi hgi
          have ntp : wb gi ≠ D2 := fun z => by rw [z, ld4.dk] at els; cases els
          have small : ((intoL (M.steps.take i) (gi : Int)).map V.int).length < sizeLine := by
            refine szLt ?_
            unfold intoL
            rw [List.length_map, List.length_map]
            refine Nat.lt_of_le_of_lt (List.length_filter_le _ _) (Nat.lt_of_le_of_lt (List.length_take_le _ _) ?_)
            omega
          refine ⟨_, rfl, .int t.g, rfl, D2, .ref (wb gi), rfl, by rw [egi]; exact ld4.get hgi, .inl ⟨rfl, _, .of els⟩, _, rfl, wb gi, _, _, rfl, rfl, els, small, _, _, _, _, rfl, smMut s4 (fr gi hgi), (ld4.app hgi).congr fun s hs => ?_⟩
          rw [take_snoc ht, intoL_snoc]
          by_cases e : s = gi
          · rw [if_pos e, e, if_pos ⟨ek, egi⟩, List.map_append]
            rfl
          · rw [if_neg e, if_neg fun z => e (by have := z.2; omega), List.append_nil]
        · have ed : decide (V.str t.k = V.str "") = false := decide_eq_false fun z => ek (by injection z)
          rw [ed]
          refine ⟨_, _, _, _, rfl, s4, ld4.congr fun s hs => ?_⟩
          rw [take_snoc ht, intoL_snoc, if_neg fun z => ek z.1, List.append_nil]
    · rintro σ H4 ⟨o3, o4, o5, o6, rfl, s4, ld4⟩
      rw [List.length_map, talen, List.take_length] at ld4
      have hg4 := smTup s4 hg
      have pc4 := pc.sm s4
      refine ⟨_, rfl, ga, rfl, ⟨_, hg4⟩, ?_⟩
      refine dkMapI (j := V.int) walk_tup (fun s => some (.inl s, .int 0)) (fun H' s => smTup s hg4) (by omega) (fun s H' hs s5 Kt k => ⟨rfl, _, rfl, k _ (Same.refl _)⟩) fun rd H5 hrd s5 e5 => ?_
      have erk : putAll (ss.filterMap fun s => some (.inl s, .int 0)) = nmD (ss.map fun s => (s, 0)) := by
        rw [filterMap_some, putAll_nodup _ (by rw [List.map_map]; exact map_inl_nd snd)]
        unfold nmD
        rw [List.map_map]
        rfl
      rw [erk] at e5
      refine ⟨_, rfl, ga, _, rfl, .inr (smTup s5 hg4), fun lv hlv => ?_⟩
      have ekeys : (ss.map fun s => (s, 0)).map (·.1) = ss := by rw [List.map_map]; exact List.map_id' ss
      have rk0 : RkI M ss (ss.map fun s => (s, 0)) (· ∈ ss) := by
        refine ⟨by rw [ekeys]; exact snd, fun s r h => ?_, fun s r h => ?_, fun s r h => ?_, fun g hg => by rw [ekeys]; exact hg, fun t ht tk hg no => ?_⟩
        · obtain ⟨u, hu, e⟩ := List.mem_map.mp h
          cases e
          exact sb _ hu
        · obtain ⟨u, hu, e⟩ := List.mem_map.mp h
          cases e
          exact ⟨fun _ => hu, fun _ => rfl⟩
        · obtain ⟨u, hu, e⟩ := List.mem_map.mp h
          cases e
        · rw [ekeys] at hg
          exact absurd hg no
      refine ⟨fun mu σ H' => ∃ (rk : NM) (L : List Int) (lv : Addr) (o3 o4 o5 o6 o9 : Option V), σ = [some (.ref m), some (.ref ga), some (.ref D2), o3, o4, o5, o6, some (.ref rd), some (.ref lv), o9] ∧ Same H4 H' ∧ H' rd = some (.dK (nmD rk)) ∧ H' lv = some (.lst (L.map V.int)) ∧
        RkI M ss rk (· ∈ L) ∧ L.Nodup ∧ (∀ s ∈ L, s ∈ rk.map (·.1)) ∧ mu = 2 * (M.n - rk.length) + (if L = [] then 0 else 1),
        ⟨_, _, ss, lv, _, _, _, _, _, rfl, s5.trans (smNew hlv), (upd_ne fun z => by rw [z, hlv] at e5; cases e5).trans e5, upd_same, rk0, snd, fun s hs => by rw [ekeys]; exact hs, rfl⟩, ?_⟩
      clear rk0 erk ekeys
      rintro mu σ H6 ⟨rk, L, lv, o3, o4, o5, o6, o9, rfl, s6, erd, elv, rki, lnd, lin, rfl⟩
      have Lle : L.length ≤ M.n := nd_lt lnd fun a ha => by obtain ⟨r, hr⟩ := nm_keys (lin a ha); exact rki.lt a r hr
      refine ⟨_, rfl, (by show 0 ≤ sizeLine; decide), fun e1 he1 => ?_⟩
      have nlv : lv ≠ e1 := fun z => by rw [z, he1] at elv; cases elv
      refine ⟨.list (L.map .int), .list [], .lst (.of ((upd_ne nlv).trans elv)) (dpAll_ints L), .lst (.of upd_same) .nil, shaped_ints L, rfl, _, rfl, ?_⟩
      rw [eqv_nilI]
      cases eL : L with
      | nil =>
        subst eL
        have rk1 : Ranks M ss rk := rki.mono fun g z => by cases z
        have erd2 : (upd H6 e1 (.lst [])) rd = some (.dK (nmD rk)) := smNew he1 _ _ erd
        have s7 : Same H (upd H6 e1 (.lst [])) := (s4.trans s6).trans (smNew he1)
        refine ⟨_, rfl, rd, _, _, rfl, .inl erd2, nmD_keys rk, fun ys p hp hpn => ?_⟩
        obtain ⟨rk', p1, rfl⟩ := nmD_perm rk1.nd hp
        have lrk := rk1.len
        refine ⟨p, rfl, ⟨_, .of upd_same⟩, ?_⟩
        refine dkMapI (j := V.int) walk_list (fun s => (valV (nmD rk) (.inl s)).map fun v => (.inl s, v)) (fun H' s => .of (s _ _ upd_same)) (by rw [List.length_map, p1.length_eq]; omega) (fun u H' hu s8 Kt k => ?_) fun D H' hD s8 e8 => ?_
        · obtain ⟨r, hr⟩ := nm_keys hu
          have hg' := nmD_get rk1.nd (p1.mem_iff.mp hr)
          refine ⟨rfl, _, rfl, _, rfl, _, rfl, rd, .int r, rfl, ?_, ?_⟩
          · rw [← hg']
            exact DGet.k (k := .inl u) (s8 _ _ (smNew hpn _ _ erd2))
          · have := k H' (Same.refl _)
            rw [hg'] at this
            exact this
        · rw [nmD_pick rk1.nd p1] at e8
          exact q _ D rk' ((s7.trans (smNew hpn)).trans s8) (none_same (s7.trans (smNew hpn)) hD) e8 (rk1.perm p1)
      | cons l0 Lr =>
        rw [← eL]
        have Lne : L ≠ [] := by rw [eL]; exact List.cons_ne_nil _ _
        rw [show (!L.isEmpty) = true by rw [eL]; rfl]
        have mdef : 2 * (M.n - rk.length) + (if L = [] then 0 else 1) = 2 * (M.n - rk.length) + 1 := by rw [if_neg Lne]
        rw [mdef]
        refine ⟨_, fun _ _ h => h, ?_⟩
        have s7 : Same H4 (upd H6 e1 (.lst [])) := s6.trans (smNew he1)
        have erd7 := smNew he1 (o := .lst []) _ _ erd
        have elv7 := smNew he1 (o := .lst []) _ _ elv
        generalize upd H6 e1 (.lst []) = H7 at s7 erd7 elv7
        refine ⟨(by show 0 ≤ sizeLine; decide), fun lt hlt => ?_⟩
        have nlt : H4 lt = none := none_same s7 hlt
        refine ⟨_, rfl, lv, _, rfl, .inl (.of (smNew hlt _ _ elv7)), fun cp hcp => ⟨cp, rfl, ⟨_, .of upd_same⟩, ?_⟩⟩
        have ncp : cp ≠ lt := fun z => by rw [z, upd_same] at hcp; cases hcp
        refine for_it walk_list (fun i σ H' => ∃ (rk1 : NM) (La : List Int) (o3 o6 : Option V), σ = [some (.ref m), some (.ref ga), some (.ref D2), o3, o4, o5, o6, some (.ref rd), some (.ref lv), some (.ref lt)] ∧ Same H4 H' ∧ H' rd = some (.dK (nmD rk1)) ∧ H' lt = some (.lst (La.map V.int)) ∧ H' cp = some (.lst (L.map V.int)) ∧
          RkI M ss rk1 (fun g => g ∈ L.drop i ∨ g ∈ La) ∧ La.Nodup ∧ (∀ s : Int, s ∈ La → s ∈ rk1.map (fun p : Int × Nat => p.1)) ∧ (∀ s : Int, s ∈ L → s ∈ rk1.map (fun p : Int × Nat => p.1)) ∧ rk1.length = rk.length + La.length)
          ⟨rk, [], o3, o6, rfl, (s7.trans (smNew hlt)).trans (smNew hcp), smNew hcp _ _ (smNew hlt _ _ erd7), (upd_ne ncp.symm).trans upd_same, upd_same, rki.mono fun g hg => .inl hg, .nil, (fun s hs => by cases hs), lin, rfl⟩
          (fun i σ H' _ ⟨_, _, _, _, _, _, _, _, e, _⟩ => .of e) ?_ ?_
        · rintro i v σ H8 H9 hi ⟨rk1, La, p3, p6, rfl, s8, erd8, elt8, ecp8, rk1i, land, lain, lin8, len8⟩ ⟨rfl, hv⟩
          rw [List.length_map] at hi
          rw [List.getElem?_map, List.getElem?_eq_getElem hi] at hv
          cases hv
          have gin := lin8 _ (List.getElem_mem hi)
          obtain ⟨r, hr⟩ := nm_keys gin
          obtain ⟨g0, g1⟩ := rk1i.lt _ _ hr
          obtain ⟨gi, egi⟩ := Int.eq_ofNat_of_zero_le g0
          have hgi : gi < M.n := by omega
          have ldd := ld4.sm s8
          have els := ldd.ls gi hgi
          have din : L.drop i = L[i] :: L.drop (i + 1) := List.drop_eq_getElem_cons hi
          refine ⟨_, rfl, _, rfl, D2, .ref (wb gi), rfl, (by rw [egi]; exact ldd.get hgi), wb gi, rfl, ⟨_, .of els⟩, ?_⟩
          refine for_it walk_list (fun j σ H' => ∃ (rk2 : NM) (La : List Int) (o3 : Option V), σ = [some (.ref m), some (.ref ga), some (.ref D2), o3, o4, o5, some (.int L[i]), some (.ref rd), some (.ref lv), some (.ref lt)] ∧ Same H4 H' ∧ H' rd = some (.dK (nmD rk2)) ∧ H' lt = some (.lst (La.map V.int)) ∧ H' cp = some (.lst (L.map V.int)) ∧
            RkI M ss rk2 (fun g => (g ∈ L.drop (i + 1) ∨ g ∈ La) ∨ g = L[i]) ∧ La.Nodup ∧ (∀ s : Int, s ∈ La → s ∈ rk2.map (fun p : Int × Nat => p.1)) ∧ (∀ s : Int, s ∈ L → s ∈ rk2.map (fun p : Int × Nat => p.1)) ∧ rk2.length = rk.length + La.length ∧ ∀ s : Int, s ∈ (intoL M.steps (gi : Int)).take j → s ∈ rk2.map (fun p : Int × Nat => p.1))
            ⟨rk1, La, _, rfl, s8, erd8, elt8, ecp8, rk1i.mono fun g hg => ?_, land, lain, lin8, len8, fun s hs => by rw [List.take_zero] at hs; cases hs⟩
            (fun j σ H' _ ⟨_, _, _, _, e, _⟩ => .of ((ld4.sm e).ls gi hgi)) ?_ ?_
          · rw [din] at hg
            rcases hg with hg | hg
            · exact (List.mem_cons.mp hg).elim .inr fun z => .inl (.inl z)
            · exact .inl (.inr hg)
          · rintro j v σ H10 H11 hj ⟨rk2, La, q3, rfl, s10, erd10, elt10, ecp10, rk2i, land, lain, lin10, len10, tk10⟩ ⟨rfl, hv⟩
            rw [List.length_map] at hj
            rw [List.getElem?_map, List.getElem?_eq_getElem hj] at hv
            cases hv
            obtain ⟨t, ht, tk0, tg0, ts0⟩ := mem_intoL.mp (List.getElem_mem hj)
            refine ⟨_, rfl, _, rfl, rd, _, rfl, DGet.k (k := .inl _) erd10, ?_⟩
            refine ⟨_, rfl, ?_⟩
            rw [nmD_is]
            by_cases ein : (intoL M.steps (gi : Int))[j] ∈ rk2.map (fun p : Int × Nat => p.1)
            · rw [decide_eq_true ein]
              refine ⟨rk2, La, _, rfl, s10, erd10, elt10, ecp10, rk2i, land, lain, lin10, len10, fun s hs => ?_⟩
              rw [List.take_add_one, List.getElem?_eq_getElem hj] at hs
              rcases List.mem_append.mp hs with hs | hs
              · exact tk10 s hs
              · rw [List.mem_singleton.mp hs]
                exact ein
            · rw [decide_eq_false ein]
              obtain ⟨r2, hr2⟩ := nm_keys (lin10 _ (List.getElem_mem hi))
              have tok := hm.ok.st t ht
              have rk2len := rk2i.len
              have hg2 := nmD_get rk2i.nd hr2
              have nsr : rd ≠ lt := fun z => by rw [z, elt10] at erd10; cases erd10
              have ncr : cp ≠ rd := fun z => by rw [z, erd10] at ecp10; cases ecp10
              have new3 := rk2i.add ht tk0 (by rw [ts0]; exact ein) (by rw [tg0, ← egi]; exact hr2) ⟨tok.s0, tok.s1⟩
              rw [ts0] at new3
              refine ⟨_, rfl, _, rfl, rd, .int r2, rfl, (by rw [← hg2]; exact DGet.k (k := .inl L[i]) erd10), r2, 1, rfl, rfl, _, rfl, _, rfl, rd, upd H11 rd (.dK (nmD (rk2 ++ [((intoL M.steps (gi : Int))[j], r2 + 1)]))), rfl, .inl ⟨_, .inl _, erd10, rfl, szLt (by rw [nmD_len]; omega), by rw [← nmD_put ein]; rfl⟩, ?_⟩
              have elt11 := (upd_ne (H := H11) (o := .dK (nmD (rk2 ++ [((intoL M.steps (gi : Int))[j], r2 + 1)]))) nsr.symm).trans elt10
              have s11 : Same H4 (upd (upd H11 rd (.dK (nmD (rk2 ++ [((intoL M.steps (gi : Int))[j], r2 + 1)])))) lt (.lst ((La ++ [(intoL M.steps (gi : Int))[j]]).map V.int))) := smMut (smMut s10 hrd) nlt
              refine ⟨_, rfl, .inl ⟨rfl, _, .of elt11⟩, _, rfl, lt, _, _, rfl, rfl, elt11, szLt ?_, rk2 ++ [((intoL M.steps (gi : Int))[j], r2 + 1)], La ++ [(intoL M.steps (gi : Int))[j]], _, rfl, ?_, (upd_ne nsr).trans upd_same, ?_, ?_, new3.mono ?_, ?_, ?_, ?_, ?_, ?_⟩
              · rw [List.length_map]; omega
              · rw [List.map_append] at s11; exact s11
              · rw [List.map_append]; exact upd_same
              · exact (upd_ne ncp).trans ((upd_ne ncr).trans ecp10)
              · rintro g ((hg | hg) | hg)
                · exact hg.elim (fun z => .inl (.inl z)) fun z => .inl (.inr (List.mem_append_left _ z))
                · exact .inr hg
                · exact .inl (.inr (by rw [hg]; simp))
              · exact List.nodup_append.mpr ⟨land, by simp, fun a ha b hb => by rintro rfl; rw [List.mem_singleton.mp hb] at ha; exact ein (lain _ ha)⟩
              · intro s hs
                rw [List.map_append]
                rcases List.mem_append.mp hs with hs | hs
                · exact List.mem_append_left _ (lain s hs)
                · rw [List.mem_singleton.mp hs]
                  exact List.mem_append_right _ (by simp)
              · intro s hs
                rw [List.map_append]
                exact List.mem_append_left _ (lin10 s hs)
              · rw [List.length_append, List.length_append, len10]
                rfl
              · intro s hs
                rw [List.map_append]
                rw [List.take_add_one, List.getElem?_eq_getElem hj] at hs
                rcases List.mem_append.mp hs with hs | hs
                · exact List.mem_append_left _ (tk10 s hs)
                · rw [List.mem_singleton.mp hs]
                  exact List.mem_append_right _ (by simp)
          · rintro σ H10 ⟨rk2, La, q3, rfl, s10, erd10, elt10, ecp10, rk2i, land, lain, lin10, len10, tk10⟩
            rw [List.length_map, List.take_length] at tk10
            exact ⟨rk2, La, _, _, rfl, s10, erd10, elt10, ecp10, rk2i.close (fun x z => z) fun t ht tk tg => tk10 _ (mem_intoL.mpr ⟨t, ht, tk, tg.trans egi, rfl⟩), land, lain, lin10, len10⟩
        · rintro σ H8 ⟨rk1, La, p3, p6, rfl, s8, erd8, elt8, ecp8, rk1i, land, lain, lin8, len8⟩
          refine ⟨_, rfl, _, ?_, rk1, La, lt, _, _, _, _, _, rfl, s8, erd8, elt8, rk1i.mono fun g hg => hg.elim (fun z => by rw [List.length_map, List.drop_length] at z; cases z) id, land, lain, rfl⟩
          have := rk1i.len
          cases La with
          | nil =>
            rw [if_pos rfl]
            simp at len8
            omega
          | cons a b =>
            rw [if_neg (List.cons_ne_nil _ _)]
            rw [List.length_cons] at len8
            omega
/-- the states without a rank -/
def deadL (M : Mch) (rk : NM) : List Int := ((List.range M.n).filter fun (s : Nat) => decide ((s : Int) ∉ rk.map (fun p : Int × Nat => p.1))).map fun (s : Nat) => (s : Int)
theorem pw_nd {xs : List Int} (h : xs.Pairwise (· < ·)) : xs.Nodup := h.imp fun h e => by omega
def spDead (K : PySem.W.Frag) : Sp := fun vs H Q _ => ∃ (m ga : Addr) (M : Mch) (ss : List Int), vs = [.ref m, .ref ga] ∧ MAt K H m M ∧ SqT K H ga (ss.map V.int) ∧ ss.Pairwise (· < ·) ∧ (∀ s ∈ ss, 0 ≤ s ∧ s < M.n) ∧
  ∀ H' p rk, Same H H' → Ranks M ss rk → H' p = some (.tup ((deadL M rk).map V.int)) → Q (.ref p) H'
theorem ok_dead_states (T : Txt K mg) : GFn P w K mg base 3 "dead_states" (spDead K) := by
  refine T.okG h_dead_states rfl (by decide +kernel) sc_dead_states rfl rfl b_dead_states (fun vs H Q E h => ?_) (fun cdv A outer s H vs Q E hr h => ?_)
  · obtain ⟨m, ga, M, ss, rfl, _⟩ := h
    rfl
  · obtain ⟨m, ga, M, ss, rfl, hm, hg, spw, sb, q⟩ := h
    refine ⟨_, (pss_cons (ps_expr (pe_f (ok_check_states T) (hr.mono (by decide)) (pa_cons (pv 0) (pa_cons (pv 1) pa_nil))))
        (pss_cons (ps_c (i := 2) sc_dead_states.nd rfl rfl rfl (pe_f (ok_ranks_of T) (hr.mono (by decide)) (pa_cons (pv 0) (pa_cons (pv 1) pa_nil))))
        (pss_one (ps_ret (pe_callTy (cTuple K) (by rfl) (T.f "tuple") (by decide +kernel) (pa_cons (pe_lc (own := [("state", 3)]) rfl sc_dead_states.nd (pi_range1 (by rfl) (T.f "range") (pa_cons (pe_at (T.c "Machine") (T.n "Machine" "many") (pv 0)) pa_nil)) (blkOk_by (own := [("state", 3)]) (N := N_dead_states) (sc := defScope s_dead_states) (by decide +kernel)) (fun _ _ _ _ _ => (pg_l (i := 3) sc_dead_states.nd rfl rfl)) (fun _ _ _ _ _ => (pts_one (pt_cmp (pc_dnotin (hu_of hr) (pv 3) (pv 2))))) (fun _ _ _ _ _ => (pv 3))) pa_nil)))))), ?_⟩
    have n2 := hm.ok.n2
    refine ⟨_, rfl, _, rfl, m, ga, M, ss, rfl, hm, hg, spw, sb, fun H1 s1 => ?_⟩
    refine ⟨_, rfl, _, rfl, m, ga, M, ss, rfl, hm.sm s1, smTup s1 hg, pw_nd spw, sb, fun H2 D rk s2 hD e2 rk2 => ?_⟩
    obtain ⟨dx, ts, wd, kl, fs, sa, wa, pc⟩ := (hm.sm (s1.trans s2)).pc
    refine ⟨_, rfl, m, dx, _, _, rfl, pc.m, pc.many, M.n, rfl, by omega, by omega, ?_⟩
    rw [show ((M.n : Int).toNat) = M.n from rfl]
    refine lcRng (fun i => if (i : Int) ∈ rk.map (fun p : Int × Nat => p.1) then none else some (.int (i : Int))) (by omega) (fun i H3 hi s3 Kt k => ?_) fun D3 H3 hD3 s3 e3 => ?_
    · have e : (0 : Int) + (i : Int) = i := by omega
      rw [e]
      refine ⟨rfl, _, rfl, _, rfl, D, _, rfl, DGet.k (k := .inl (i : Int)) (s3 _ _ e2), ?_⟩
      rw [nmD_is]
      have kk := k H3 (Same.refl _)
      by_cases ein : (i : Int) ∈ rk.map (fun p : Int × Nat => p.1)
      · rw [decide_eq_true ein]
        rw [if_pos ein] at kk
        exact ⟨_, rfl, kk⟩
      · rw [decide_eq_false ein]
        rw [if_neg ein] at kk
        exact ⟨_, rfl, _, rfl, kk⟩
    · have e : ((List.range M.n).filterMap fun (i : Nat) => if (i : Int) ∈ rk.map (fun p : Int × Nat => p.1) then none else some (V.int (i : Int))) = (deadL M rk).map V.int := by
        unfold deadL
        rw [List.map_map]
        induction List.range M.n with
        | nil => rfl
        | cons a r ih =>
          rw [List.filterMap_cons]
          by_cases ein : (a : Int) ∈ rk.map (fun p : Int × Nat => p.1)
          · rw [if_pos ein, List.filter_cons_of_neg (by simpa using ein), ih]
          · rw [if_neg ein, List.filter_cons_of_pos (by simpa using ein), List.map_cons, ← ih]
            rfl
      rw [e] at e3
      dsimp only [tNil]
      exact ⟨D3, _, rfl, .inl ⟨.of e3, fun l hl => q _ l rk (((s1.trans s2).trans s3).trans (smNew hl)) rk2 upd_same⟩⟩
end
end Al
set_option maxHeartbeats 4000000
/-! D9: far_states. -/
namespace Al
open PySem PySem.Spec PyProof.Rows L2
section
variable {P : Program} {w : World} {K : PySem.W.Frag} {mg : Str → Option Value} {base : Heap}
/-- a def of the text with keyword-only defaults only -/
theorem Txt.okD (T : Txt K mg) {d : He.DefD} {N ps : List Str} {sp sp' : Sp} {k i n : Nat} {x : Str} (hd : fnL[i]? = some d) (hx : d.at_ = (x, none)) (hg : x ∈ globs) (S : FnScope N ps d.scope) (h1 : d.dfl = []) (hk : d.kws K ≠ []) (hn : n + (d.kws K).length = ps.length)
    (hb : ∀ (D : Addr) (doc pm : Value) (an : Option Addr) (cdv ct : Value) (us ks : List Value), us.length = n → ks.length = (d.kws K).length →
      KwChain D (((d.kws K).map (·.1)).zip ks) (bindArgs (PySem.W.fnOf d.name d.qual d.params d.body d.scope .none (.ref D) doc pm an cdv ct) ⟨us, []⟩) (ps.zip (us ++ ks)))
    (len : ∀ vs H Q E, sp vs H Q E → vs.length = ps.length) (hsp : ∀ vs H Q E, sp' vs H Q E → sp (vs ++ (d.kws K).map (·.2)) H Q E)
    (hbody : ∀ (cdv : Value) (A : Around) (outer : List Env) (s : Shared) (H : Hp) (vs : List V) (Q : VK) (E : XK), Room k (A.deeper (envOfC d.qual d.scope s.heap.objs.size (He.fAd K d.at_) cdv)) → sp vs H Q E →
      ∃ t, PSs (cxOf CX0 P w K mg base N d.qual d.scope (He.fAd K d.at_) cdv A outer s H E).nox d.body t ∧ t { nx := fun _ H' => Q .non H', rt := Q } (start N vs) H) : GFn P w K mg base (k + 1) x sp' := by
  obtain ⟨fd, F⟩ := T.fn d (List.mem_of_getElem? hd)
  have e1 : d.dvs K = [] := by unfold He.DefD.dvs; rw [h1]; rfl
  rw [e1] at F
  obtain ⟨ds, hds, hB⟩ := FunD.binds0 F n hk hn hb
  have G := (FunD.ok (CX := CX0) (P := P) (w := w) (mg := mg) (base := base) F S len fun cdv A outer s H vs Q E hr h => let ⟨t, a, b⟩ := hbody cdv A outer s H vs Q E hr h; ⟨t, a.nox, b⟩).raw hB hds
  have R : FnR P w K mg base CX0 (k + 1) (He.fAd K d.at_) sp' := G.imp fun vs H Q E h => hsp vs H Q E h
  have kp := T.kp hd
  have e : He.fAd K d.at_ = He.ga K x := by rw [hx]; rfl
  rw [e] at R kp
  exact ⟨R, T.glo x hg, kp⟩
def spFar (K : PySem.W.Frag) : Sp := fun vs H Q _ => ∃ (m : Addr) (M : Mch), vs = [.ref m] ∧ MAt K H m M ∧ ∀ H' D fk, Same H H' → H D = none → H' D = some (.dK (nmD fk)) → Fars M fk → Q (.ref D) H'
theorem ok_far_states (T : Txt K mg) : GFn P w K mg base 2 "far_states" (spFar K) := by
  refine T.okD (n := 1) (sp := fun vs2 H Q E => ∃ vs, vs2 = vs ++ [.non] ∧ spFar K vs H Q E) h_far_states rfl (by decide +kernel) sc_far_states rfl (fun z => by cases z) rfl ?_ (fun vs H Q E h => ?_) (fun vs H Q E h => ⟨vs, rfl, h⟩) (fun cdv A outer s H vs Q E hr h => ?_)
  · intro D doc pm an cdv ct us ks hu hk
    match us, hu, ks, hk with
    | [a], _, [b], _ => exact ⟨_, _, _, _, _, _, rfl, rfl, rfl⟩
  · obtain ⟨vs, rfl, m, M, rfl, _⟩ := h
    rfl
  · obtain ⟨vs, rfl, m, M, rfl, hm, q⟩ := h
    refine ⟨_, (pss_cons (ps_asg (pe_tup (pa_cons (pe_disp (pps_cons pe_int pe_int pps_nil) (by rfl) (by rfl) (fun z => by cases z) (by decide)) (pa_cons (pe_lst (pa_cons pe_int pa_nil)) (pa_cons pe_int pa_nil)))) (pg_t K 3 rfl (pgs_cons (pg_c (i := 2) sc_far_states.nd rfl rfl rfl) (pgs_cons (pg_l (i := 3) sc_far_states.nd rfl rfl) (pgs_cons (pg_l (i := 4) sc_far_states.nd rfl rfl) pgs_nil)))))
        (pss_cons (ps_while PassesOwn.never (PW.pt (pw_and (pt_cmpR (op_neDK K hr.units) (pv 3) (pe_lst pa_nil) (nomark _)) (pw_and1 (PW.pt (pw_or (pt_cmp (pc_isN (pv 1)) rfl) (pw_or1 (PW.pt (pw_and (pt_val (pe_f (ok_is_number T) (hr.mono (by decide)) (pa_cons (pv 1) pa_nil))) (pw_and1 (pt_cmpR op_lt (pv 4) (pv 1) (nomark _)))))))))))
        (pss_cons (ps_aug (i := 4) sc_far_states.nd rfl (.inl rfl) pe_int ip_add)
          (pss_cons (ps_l (i := 5) sc_far_states.nd rfl rfl (pe_lst pa_nil))
          (pss_cons (ps_for PassesOwn.never rfl (pi_list (pe_callTy (cList K) (by rfl) (T.f "list") (by decide +kernel) (pa_cons (pv 3) pa_nil))) (pg_l (i := 6) sc_far_states.nd rfl rfl)
          (pss_one (ps_for PassesOwn.never rfl (pi_list (pe_dget (hu_of hr) (pe_at (T.c "Machine") (T.n "Machine" "ways") (pv 0)) (pv 6) (fun _ _ => rfl))) (pg_l (i := 7) sc_far_states.nd rfl rfl)
            (pss_one (ps_if (pt_cmp (pc_dnotin (hu_of hr) (pe_ix (ixT K) (pv 7) pe_int (fun _ _ => rfl)) (pv 2))) 
              (pss_cons (ps_dput (hu_of hr) (pv 2) (pe_ix (ixT K) (pv 7) pe_int (fun _ _ => rfl)) (pv 4) rfl)
                (pss_one (ps_expr (pe_bm PySem.F.plainAttrs_list PySem.F.slot_list_append PySem.F.type_list_append mt_append (pv 5) (pa_cons (pe_ix (ixT K) (pv 7) pe_int (fun _ _ => rfl)) pa_nil)))))
              pss_nil)))))
          (pss_one (ps_l (i := 3) sc_far_states.nd rfl rfl (pv 5)))))))
        (pss_one (ps_ret (pe_dcg (own := [("state", 6)]) dkindK rfl sc_far_states.nd (pi_list (pe_callB (call_sortedKi rfl (hu20 hr)) (by rfl) (T.f "sorted") (by decide +kernel) (pa_cons (pv 2) pa_nil))) (blkOk_by (own := [("state", 6)]) (N := N_far_states) (sc := defScope s_far_states) (by decide +kernel)) ⟨(fun _ _ _ _ _ => (pg_l (i := 6) sc_far_states.nd rfl rfl)), (fun _ _ _ _ _ => pts_nil), (fun _ _ _ _ _ => (pv 6)), (fun _ _ _ _ _ => (pe_dget (hu_of hr) (pv 2) (pv 6) (fun _ _ => rfl)))⟩))))), ?_⟩
    have n2 := hm.ok.n2
    obtain ⟨dx, ts, wd, kl, fs, sa, wa, pc⟩ := hm.pc
    refine fun fd hfd => ⟨upd_same, [(.inl 0, .int 0)], rfl, by decide, ?_⟩
    rw [upd_upd]
    refine ⟨(by show 1 ≤ sizeLine; decide), fun lv hlv => ⟨(by show 3 ≤ sizeLine; decide), fun T0 hT0 => ⟨T0, _, rfl, SqT.of upd_same, rfl, _, _, rfl, _, _, rfl, _, _, rfl, rfl, ?_⟩⟩⟩
    have e0 : (.dK (mergeK [] [(.inl 0, .int 0)]) : HO) = .dK (nmD [(0, 0)]) := by kernel_rfl
    rw [e0] at hlv hT0 ⊢
    have a0 : Same H (upd (upd (upd H fd (.dK (nmD [(0, 0)]))) lv (.lst [.int 0])) T0 (.tup [.ref fd, .ref lv, .int 0])) := ((smNew hfd).trans (smNew hlv)).trans (smNew hT0)
    have efd := smNew hT0 (o := .tup [.ref fd, .ref lv, .int 0]) _ _ (smNew hlv (o := .lst [.int 0]) fd _ upd_same)
    have elv := smNew hT0 (o := .tup [.ref fd, .ref lv, .int 0]) lv _ upd_same
    generalize (upd (upd (upd H fd (.dK (nmD [(0, 0)]))) lv (.lst [.int 0])) T0 (.tup [.ref fd, .ref lv, .int 0])) = H1 at a0 efd elv
    have n1 := hm.ok.n1
    have fk0 : FarI M 0 [(0, 0)] (· ∈ [(0 : Int)]) := by
      refine ⟨by simp, fun s r h => ?_, by simp, fun s r h => ?_, fun s r h => ?_, fun t ht d hd no => ?_⟩
      · obtain ⟨rfl, rfl⟩ := Prod.mk.inj (List.mem_singleton.mp h)
        omega
      · obtain ⟨rfl, rfl⟩ := Prod.mk.inj (List.mem_singleton.mp h)
        exact .zero
      · obtain ⟨rfl, rfl⟩ := Prod.mk.inj (List.mem_singleton.mp h)
        exact Nat.le_refl _
      · obtain ⟨e1, e2⟩ := Prod.mk.inj (List.mem_singleton.mp hd)
        exact absurd (by rw [e1]; simp) no
    refine ⟨fun mu σ H' => ∃ (fk : NM) (L : List Int) (z : Nat) (lv : Addr) (o5 o6 o7 : Option V), σ = [some (.ref m), some .non, some (.ref fd), some (.ref lv), some (.int (z : Int)), o5, o6, o7] ∧ Same H H' ∧ H' fd = some (.dK (nmD fk)) ∧ H' lv = some (.lst (L.map V.int)) ∧
      FarI M z fk (· ∈ L) ∧ L.Nodup ∧ (∀ s ∈ L, (s, z) ∈ fk) ∧ mu = 2 * (M.n - fk.length) + (if L = [] then 0 else 1), ⟨_, _, [0], 0, lv, _, _, _, rfl, a0, efd, elv, fk0, by simp, by simp, rfl⟩, ?_⟩
    clear fk0 a0 efd elv hlv hT0
    rintro mu σ H6 ⟨fk, L, z, lv, o5, o6, o7, rfl, s6, efd, elv, fki, lnd, lin, rfl⟩
    have Lle : L.length ≤ M.n := nd_lt lnd fun a ha => fki.lt a z (lin a ha)
    refine ⟨_, rfl, (by show 0 ≤ sizeLine; decide), fun e1 he1 => ?_⟩
    have nlv : lv ≠ e1 := fun z => by rw [z, he1] at elv; cases elv
    refine ⟨.list (L.map .int), .list [], .lst (.of ((upd_ne nlv).trans elv)) (dpAll_ints L), .lst (.of upd_same) .nil, shaped_ints L, rfl, _, rfl, ?_⟩
    rw [eqv_nilI]
    cases eL : L with
    | nil =>
      subst eL
      have far := (fki.mono (op' := fun _ => False) fun g z => by cases z).fars
      have flen := fki.len
      have efd2 : (upd H6 e1 (.lst [])) fd = some (.dK (nmD fk)) := smNew he1 _ _ efd
      have s7 : Same H (upd H6 e1 (.lst [])) := s6.trans (smNew he1)
      refine ⟨_, rfl, fd, _, _, rfl, .inl efd2, nmD_keys fk, fun ys p hp hpn => ?_⟩
      obtain ⟨fk', p1, rfl⟩ := nmD_perm far.nd hp
      refine ⟨p, rfl, ⟨_, .of upd_same⟩, ?_⟩
      refine dkMapI (j := V.int) walk_list (fun s => (valV (nmD fk) (.inl s)).map fun v => (.inl s, v)) (fun H' s => .of (s _ _ upd_same)) (by rw [List.length_map, p1.length_eq]; omega) (fun u H' hu s8 Kt k => ?_) fun D H' hD s8 e8 => ?_
      · obtain ⟨r, hr⟩ := nm_keys hu
        have hg' := nmD_get far.nd (p1.mem_iff.mp hr)
        refine ⟨rfl, _, rfl, _, rfl, _, rfl, fd, .int r, rfl, ?_, ?_⟩
        · rw [← hg']
          exact DGet.k (k := .inl u) (s8 _ _ (smNew hpn _ _ efd2))
        · have := k H' (Same.refl _)
          rw [hg'] at this
          exact this
      · rw [nmD_pick far.nd p1] at e8
        exact q _ D fk' ((s7.trans (smNew hpn)).trans s8) (none_same (s7.trans (smNew hpn)) hD) e8 (far.perm p1)
    | cons l0 Lr =>
      rw [← eL]
      have Lne : L ≠ [] := by rw [eL]; exact List.cons_ne_nil _ _
      rw [show (!L.isEmpty) = true by rw [eL]; rfl]
      have mdef : 2 * (M.n - fk.length) + (if L = [] then 0 else 1) = 2 * (M.n - fk.length) + 1 := by rw [if_neg Lne]
      rw [mdef]
      refine ⟨_, rfl, true, blT rfl, _, fun _ _ h => h, ?_⟩
      have s7 : Same H (upd H6 e1 (.lst [])) := s6.trans (smNew he1)
      have efd7 := smNew he1 (o := .lst []) _ _ efd
      have elv7 := smNew he1 (o := .lst []) _ _ elv
      generalize upd H6 e1 (.lst []) = H7 at s7 efd7 elv7
      refine ⟨_, rfl, (z : Int), 1, rfl, rfl, ?_⟩
      refine ⟨(by show 0 ≤ sizeLine; decide), fun lt hlt => ?_⟩
      have nlt : H lt = none := none_same s7 hlt
      refine ⟨_, rfl, lv, _, rfl, .inl (.of (smNew hlt _ _ elv7)), fun cp hcp => ⟨cp, rfl, ⟨_, .of upd_same⟩, ?_⟩⟩
      have ncp : cp ≠ lt := fun z => by rw [z, upd_same] at hcp; cases hcp
      refine for_it walk_list (fun i σ H' => ∃ (fk1 : NM) (La : List Int) (o6 o7 : Option V), σ = [some (.ref m), some .non, some (.ref fd), some (.ref lv), some (.int ((z + 1 : Nat) : Int)), some (.ref lt), o6, o7] ∧ Same H H' ∧ H' fd = some (.dK (nmD fk1)) ∧ H' lt = some (.lst (La.map V.int)) ∧ H' cp = some (.lst (L.map V.int)) ∧
        FarI M (z + 1) fk1 (fun g => g ∈ L.drop i ∨ g ∈ La) ∧ La.Nodup ∧ (∀ s : Int, s ∈ La → (s, z + 1) ∈ fk1) ∧ (∀ s : Int, s ∈ L → (s, z) ∈ fk1) ∧ fk1.length = fk.length + La.length)
        ⟨fk, [], o6, o7, rfl, (s7.trans (smNew hlt)).trans (smNew hcp), smNew hcp _ _ (smNew hlt _ _ efd7), (upd_ne ncp.symm).trans upd_same, upd_same, (fki.mono fun g hg => .inl hg).up (Nat.le_succ _), .nil, (fun s hs => by cases hs), lin, rfl⟩
        (fun i σ H' _ ⟨_, _, _, _, _, _, _, _, e, _⟩ => .of e) ?_ ?_
      · rintro i v σ H8 H9 hi ⟨fk1, La, p6, p7, rfl, s8, efd8, elt8, ecp8, fk1i, land, lain, lin8, len8⟩ ⟨rfl, hv⟩
        rw [List.length_map] at hi
        rw [List.getElem?_map, List.getElem?_eq_getElem hi] at hv
        cases hv
        have gin := lin8 _ (List.getElem_mem hi)
        obtain ⟨g0, g1⟩ := fk1i.lt _ _ gin
        obtain ⟨gi, egi⟩ := Int.eq_ofNat_of_zero_le g0
        have hgi : gi < M.n := by omega
        have pc8 := pc.sm s8
        obtain ⟨la, ela, hla⟩ := pc.wl gi hgi
        have lalen : la.length ≤ 1000000 := by
          rw [Paired.length hla]
          have h1 := List.length_filter_le (fun t => decide (t.s = (gi : Int))) M.steps
          have h2 := hm.ok.len
          omega
        have din : L.drop i = L[i] :: L.drop (i + 1) := List.drop_eq_getElem_cons hi
        refine ⟨_, rfl, m, dx, _, _, rfl, pc8.m, pc8.ways, _, rfl, wd, .ref (wa gi), rfl, (by rw [egi]; exact pc8.way hgi), wa gi, rfl, ⟨_, .of (s8 _ _ ela)⟩, ?_⟩
        refine for_it walk_list (fun j σ H' => ∃ (fk2 : NM) (La : List Int) (o7 : Option V), σ = [some (.ref m), some .non, some (.ref fd), some (.ref lv), some (.int ((z + 1 : Nat) : Int)), some (.ref lt), some (.int L[i]), o7] ∧ Same H H' ∧ H' fd = some (.dK (nmD fk2)) ∧ H' lt = some (.lst (La.map V.int)) ∧ H' cp = some (.lst (L.map V.int)) ∧
          FarI M (z + 1) fk2 (fun g => (g ∈ L.drop (i + 1) ∨ g ∈ La) ∨ g = L[i]) ∧ La.Nodup ∧ (∀ s : Int, s ∈ La → (s, z + 1) ∈ fk2) ∧ (∀ s : Int, s ∈ L → (s, z) ∈ fk2) ∧ fk2.length = fk.length + La.length ∧
          ∀ t : Stp, t ∈ (M.steps.filter fun t => decide (t.s = (gi : Int))).take j → t.g ∈ fk2.map (fun p : Int × Nat => p.1))
          ⟨fk1, La, _, rfl, s8, efd8, elt8, ecp8, fk1i.mono fun g hg => ?_, land, lain, lin8, len8, fun t ht => by rw [List.take_zero] at ht; cases ht⟩
          (fun j σ H' _ ⟨_, _, _, _, e, _⟩ => .of (e _ _ ela)) ?_ ?_
        · rw [din] at hg
          rcases hg with hg | hg
          · exact (List.mem_cons.mp hg).elim .inr fun z => .inl (.inl z)
          · exact .inl (.inr hg)
        · rintro j v σ H10 H11 hj ⟨fk2, La, q7, rfl, s10, efd10, elt10, ecp10, fk2i, land, lain, lin10, len10, tk10⟩ ⟨rfl, hv⟩
          rw [List.length_map] at hj
          rw [List.getElem?_map, List.getElem?_eq_getElem hj] at hv
          cases hv
          obtain ⟨t, htj, hta⟩ := paired_get (hla.sm s10) (List.getElem?_eq_getElem hj)
          have hta' : H11 la[j] = some (.tup t.vs) := hta
          have htf := List.mem_of_getElem? htj
          have ht := (List.mem_filter.mp htf).1
          have hts : t.s = (gi : Int) := of_decide_eq_true (List.mem_filter.mp htf).2
          refine ⟨_, rfl, la[j], t.vs, 3, .int t.g, rfl, rfl, .of hta, rfl, _, rfl, fd, _, rfl, DGet.k (k := .inl t.g) efd10, _, rfl, ?_⟩
          rw [nmD_is]
          by_cases ein : t.g ∈ fk2.map (fun p : Int × Nat => p.1)
          · rw [decide_eq_true ein]
            refine ⟨fk2, La, _, rfl, s10, efd10, elt10, ecp10, fk2i, land, lain, lin10, len10, fun u hu => ?_⟩
            rw [List.take_add_one, htj] at hu
            rcases List.mem_append.mp hu with hu | hu
            · exact tk10 u hu
            · rw [List.mem_singleton.mp hu]
              exact ein
          · rw [decide_eq_false ein]
            have tok := hm.ok.st t ht
            have fk2len := fk2i.len
            have nsr : fd ≠ lt := fun z => by rw [z, elt10] at efd10; cases efd10
            have ncr : cp ≠ fd := fun z => by rw [z, efd10] at ecp10; cases ecp10
            have hz2 := lin10 _ (List.getElem_mem hi)
            rw [egi, ← hts] at hz2
            have new3 := fk2i.add ht ein hz2 ⟨tok.g0, tok.g1⟩
            refine ⟨_, rfl, _, rfl, _, rfl, la[j], t.vs, 3, .int t.g, rfl, rfl, .of hta, rfl, fd, upd H11 fd (.dK (nmD (fk2 ++ [(t.g, z + 1)]))), rfl, .inl ⟨_, .inl _, efd10, rfl, szLt (by rw [nmD_len]; omega), by rw [← nmD_put ein]⟩, ?_⟩
            have elt11 := (upd_ne (H := H11) (o := .dK (nmD (fk2 ++ [(t.g, z + 1)]))) nsr.symm).trans elt10
            have hta11 : (upd H11 fd (.dK (nmD (fk2 ++ [(t.g, z + 1)])))) la[j] = some (.tup t.vs) := (upd_ne fun z => by rw [z, efd10] at hta'; cases hta').trans hta
            have s11 : Same H (upd (upd H11 fd (.dK (nmD (fk2 ++ [(t.g, z + 1)])))) lt (.lst ((La ++ [t.g]).map V.int))) := smMut (smMut s10 hfd) nlt
            refine ⟨_, rfl, .inl ⟨rfl, _, .of elt11⟩, _, rfl, la[j], t.vs, 3, .int t.g, rfl, rfl, .of hta11, rfl, lt, _, _, rfl, rfl, elt11, szLt ?_, fk2 ++ [(t.g, z + 1)], La ++ [t.g], _, rfl, ?_, (upd_ne nsr).trans upd_same, ?_, ?_, new3.mono ?_, ?_, ?_, ?_, ?_, ?_⟩
            · rw [List.length_map]; omega
            · rw [List.map_append] at s11; exact s11
            · rw [List.map_append]; exact upd_same
            · exact (upd_ne ncp).trans ((upd_ne ncr).trans ecp10)
            · rintro g ((hg | hg) | hg)
              · exact hg.elim (fun z => .inl (.inl z)) fun z => .inl (.inr (List.mem_append_left _ z))
              · exact .inr hg
              · exact .inl (.inr (by rw [hg]; simp))
            · exact List.nodup_append.mpr ⟨land, by simp, fun a ha b hb => by rintro rfl; rw [List.mem_singleton.mp hb] at ha; exact ein (nm_key (lain _ ha))⟩
            · intro s hs
              rcases List.mem_append.mp hs with hs | hs
              · exact List.mem_append_left _ (lain s hs)
              · rw [List.mem_singleton.mp hs]
                exact List.mem_append_right _ (by simp)
            · intro s hs
              exact List.mem_append_left _ (lin10 s hs)
            · rw [List.length_append, List.length_append, len10]
              rfl
            · intro u hu
              rw [List.map_append]
              rw [List.take_add_one, htj] at hu
              rcases List.mem_append.mp hu with hu | hu
              · exact List.mem_append_left _ (tk10 u hu)
              · rw [List.mem_singleton.mp hu]
                exact List.mem_append_right _ (by simp)
        · rintro σ H10 ⟨fk2, La, q7, rfl, s10, efd10, elt10, ecp10, fk2i, land, lain, lin10, len10, tk10⟩
          rw [List.length_map, Paired.length hla, List.take_length] at tk10
          exact ⟨fk2, La, _, _, rfl, s10, efd10, elt10, ecp10, fk2i.close (fun x z => z) (lin10 _ (List.getElem_mem hi)) fun t ht ts => tk10 t (List.mem_filter.mpr ⟨ht, decide_eq_true (ts.trans egi)⟩), land, lain, lin10, len10⟩
      · rintro σ H8 ⟨fk1, La, p6, p7, rfl, s8, efd8, elt8, ecp8, fk1i, land, lain, lin8, len8⟩
        refine ⟨_, rfl, _, ?_, fk1, La, z + 1, lt, _, _, _, rfl, s8, efd8, elt8, fk1i.mono fun g hg => hg.elim (fun z => by rw [List.length_map, List.drop_length] at z; cases z) id, land, lain, rfl⟩
        have := fk1i.len
        cases La with
        | nil =>
          rw [if_pos rfl]
          simp at len8
          omega
        | cons a b =>
          rw [if_neg (List.cons_ne_nil _ _)]
          rw [List.length_cons] at len8
          omega
end
end Al
set_option maxHeartbeats 4000000
/-! D10: check_kinds, View, is_trace. -/
namespace Al
open PySem PySem.Spec PyProof.Rows L2
section
variable {P : Program} {w : World} {K : PySem.W.Frag} {mg : Str → Option Value} {base : Heap}
abbrev frXY : List Str := ["x", "y"]
theorem letX : Letter "x" := ⟨120, by decide, by decide, by decide +kernel⟩
theorem letY : Letter "y" := ⟨121, by decide, by decide, by decide +kernel⟩
def spCkKinds (K : PySem.W.Frag) : Sp := fun vs H Q _ => ∃ (fa : Addr), vs = [.ref fa] ∧ SqT K H fa (frXY.map V.str) ∧ ∀ H', Same H H' → Q .non H'
theorem ok_check_kinds (T : Txt K mg) : GFn P w K mg base 2 "check_kinds" (spCkKinds K) := by
  refine T.okG h_check_kinds rfl (by decide +kernel) sc_check_kinds rfl rfl b_check_kinds (fun vs H Q E h => ?_) (fun cdv A outer s H vs Q E hr h => ?_)
  · obtain ⟨fa, rfl, _⟩ := h
    rfl
  · obtain ⟨fa, rfl, hf, q⟩ := h
    refine ⟨_, (pss_cons (ps_if (PW.pt (pw_or (pt_not (pt_val (pe_isi K "tuple" (T.f "isinstance") (T.f "tuple") (pv 0)))) (pw_or1 (pt_not (pt_val (pe_callB (cAll K) (by rfl) (T.f "all") (by decide +kernel) (pa_cons (pe_lc (own := [("kind", 3)]) rfl sc_check_kinds.nd (pi_tup (pv 0)) (blkOk_by (own := [("kind", 3)]) (N := N_check_kinds) (sc := defScope s_check_kinds) (by decide +kernel)) (fun _ _ _ _ _ => (pg_l (i := 3) sc_check_kinds.nd rfl rfl)) (fun _ _ _ _ _ => pts_nil) (fun _ _ _ _ _ => (pe_f (ok_is_word T) (hr.mono (by decide)) (pa_cons (pv 3) pa_nil)))) pa_nil))))))) 
        pss_never
        pss_nil)
        (pss_one (ps_if (pt_not (pt_val (pe_callB (cAll K) (by rfl) (T.f "all") (by decide +kernel) (pa_cons (pe_lc (own := [("one", 1), ("late", 2)]) rfl sc_check_kinds.nd (RZ.pi_zipA (by rfl) (T.f "zip") (pa_cons (pv 0) (pa_cons (pe_slice (sl_cut K) (pv 0) (po_some pe_int) po_none) pa_nil))) (blkOk_by (own := [("one", 1), ("late", 2)]) (N := N_check_kinds) (sc := defScope s_check_kinds) (by decide +kernel)) (fun _ _ _ _ _ => (pg_t K 2 rfl (pgs_cons (pg_l (i := 1) sc_check_kinds.nd rfl rfl) (pgs_cons (pg_l (i := 2) sc_check_kinds.nd rfl rfl) pgs_nil)))) (fun _ _ _ _ _ => pts_nil) (fun _ _ _ _ _ => (pe_cmpR op_lt_str (pv 1) (pv 2) (nomark _)))) pa_nil)))) 
        pss_never
        pss_nil))), ?_⟩
    refine ⟨_, rfl, _, "tuple", true, rfl, tyTup hf, by decide +kernel, true, rfl, ?_⟩
    refine ⟨_, rfl, fa, rfl, ⟨_, hf⟩, ?_⟩
    refine lcMapT (fun _ => some (.bl true)) hf (by decide) ?_ ?_
    · intro u H1 hu s1 Kt k
      have hl : Letter u := by
        rcases List.mem_cons.mp hu with rfl | hu
        · exact letX
        · rw [List.mem_singleton.mp hu]; exact letY
      exact ⟨rfl, _, rfl, u, rfl, hl, fun H2 s2 => k H2 s2⟩
    · intro D H1 hD s1 hL
      dsimp only [tNil]
      refine rAll_of (xs := frXY.map V.str) (f := fun _ => true) hL true all_yes ?_
      refine ⟨true, rfl, ?_⟩
      refine ⟨_, rfl, _, rfl, 1, rfl, fa, _, rfl, smTup s1 hf, fun p H2 s2 hp2 => ?_⟩
      rw [show (1 : Int) = ((1 : Nat) : Int) from rfl, cut_from, ← List.map_drop] at hp2
      have hS2 := smTup (s1.trans s2) hf
      refine ⟨fa, p, _, _, rfl, .inr ⟨hS2, hp2, lcPairs (walk_zipT rfl) rfl (fun _ _ => some (.bl true)) (fun H' s1 => ⟨smTup s1 hS2, smTup s1 hp2⟩) (by decide) ?_ ?_⟩⟩
      · intro x y T' H3 hm s3 hT Kt k
        have hm : (x, y) ∈ [(V.str "x", V.str "y")] := hm
        obtain ⟨rfl, rfl⟩ := Prod.mk.inj (List.mem_singleton.mp hm)
        refine ⟨T', _, rfl, SqT.of hT, rfl, _, _, rfl, _, _, rfl, rfl, rfl, ?_⟩
        refine ⟨_, rfl, _, rfl, "x", "y", rfl, rfl, ?_⟩
        have e : decide (("x" : Str).cps.toList < ("y" : Str).cps.toList) = true := by decide +kernel
        show Kt (some (V.bl (decide (("x" : Str).cps.toList < ("y" : Str).cps.toList)))) _
        rw [e]
        exact k _ (Same.refl _)
      · intro D2 H3 hD2 s3 hL2
        dsimp only [tNil]
        refine rAll_of hL2 true all_yes ?_
        exact ⟨true, rfl, q _ (s1.trans (s2.trans s3))⟩
theorem sqT_sb2 {H H' : Hp} {x a : Addr} {o : HO} {xs : List V} (hx : H x = some o) (n1 : ∀ ys, o ≠ .tup ys) (n2 : ∀ od u, o ≠ .frz od u) (e : Sbut x H H') (h : SqT K H a xs) : SqT K H' a xs := by
  rcases h with (h | ⟨od, h⟩) | h
  · exact .inl (.inl (e _ _ (fun z => by rw [z, hx] at h; exact n1 _ (Option.some.inj h)) h))
  · exact .inl (.inr ⟨od, e _ _ (fun z => by rw [z, hx] at h; exact n2 _ _ (Option.some.inj h)) h⟩)
  · exact .inr h
theorem sbMut {H H' : Hp} {x p : Addr} {o : HO} (e : Sbut x H H') (h : H p = none) : Sbut x H (upd H' p o) := fun b u nb hb => by
  rw [upd_ne fun z => by rw [z, h] at hb; cases hb]
  exact e b u nb hb
theorem MPc.sb {H H' : Hp} {m x : Addr} {M : Mch} {dx ts wd kl : Addr} {fs : List (Str × V)} {sa : List Addr} {wa : Nat → Addr} {o : HO} (h : MPc K H m M dx ts wd kl fs sa wa) (hx : H x = some o) (n1 : ∀ ys, o ≠ .tup ys) (n2 : ∀ ys, o ≠ .lst ys) (n3 : ∀ kvs, o ≠ .dK kvs) (hm : m ≠ x) (e : Sbut x H H') : MPc K H' m M dx ts wd kl fs sa wa := by
  refine ⟨e _ _ hm h.m, h.many, h.steps, h.ways, h.kinds, e _ _ (fun z => ?_) h.ts, stps_sb hx n1 e h.st, e _ _ (fun z => ?_) h.wd, fun i hi => ?_, e _ _ (fun z => ?_) h.kl⟩
  · have := h.ts; rw [z, hx] at this; exact n1 _ (Option.some.inj this)
  · have := h.wd; rw [z, hx] at this; exact n3 _ (Option.some.inj this)
  · obtain ⟨la, a, b⟩ := h.wl i hi
    refine ⟨la, e _ _ (fun z => ?_) a, stps_sb hx n1 e b⟩
    rw [z, hx] at a; exact n2 _ (Option.some.inj a)
  · have := h.kl; rw [z, hx] at this; exact n2 _ (Option.some.inj this)
theorem pfV : putF ("shown" : Str) b [(("hidden" : Str), a)] = [(("hidden" : Str), a), (("shown" : Str), b)] := by kernel_rfl
theorem lkVh : ([(("hidden" : Str), a), (("shown" : Str), b)] : List (Str × V)).lookup ("hidden" : Str) = some a := by kernel_rfl
theorem lkVs : ([(("hidden" : Str), a), (("shown" : Str), b)] : List (Str × V)).lookup ("shown" : Str) = some b := by kernel_rfl
/-- a view stands at x -/
structure ViewPc (K : PySem.W.Frag) (H : Hp) (x : Addr) (M : Mch) (fr : List Str) (dx hd sd : Addr) (wh wn : Nat → Addr) (pa : Nat → List Addr) : Prop where
  v : H x = some (.ins (He.ga K "View") dx [(("hidden" : Str), .ref hd), (("shown" : Str), .ref sd)])
  h : LD H hd M.n wh fun s => (hidL fr M.steps (s : Int)).map fun t : Stp => V.int t.g
  s : LD H sd M.n wn fun s => (pa s).map V.ref
  p : ∀ s, s < M.n → Paired (fun (a : Addr) (t : Stp) => H a = some (.tup [.str t.w, .int t.g])) (pa s) (shwL fr M.steps (s : Int))
theorem ViewPc.sm {H H' : Hp} {x : Addr} {M : Mch} {fr : List Str} {dx hd sd : Addr} {wh wn : Nat → Addr} {pa : Nat → List Addr} (e : Same H H') (h : ViewPc K H x M fr dx hd sd wh wn pa) : ViewPc K H' x M fr dx hd sd wh wn pa :=
  ⟨e _ _ h.v, h.h.sm e, h.s.sm e, fun s hs => Paired.mapP (h.p s hs) fun a t z => e _ _ z⟩
def spView (K : PySem.W.Frag) : Sp := fun vs H Q _ => ∃ (x dx m fa : Addr) (M : Mch) (fr : List Str), vs = [.ref x, .ref m, .ref fa] ∧ H x = some (.ins (He.ga K "View") dx []) ∧ MAt K H m M ∧ SqT K H fa (fr.map V.str) ∧
  ∀ H' hd sd wh wn pa, Sbut x H H' → ViewPc K H' x M fr dx hd sd wh wn pa → Q .non H'
theorem ok_View_init (T : Txt K mg) : CFn P w K mg base 2 "View" (spView K) := by
  refine T.okC h_View_init rfl (by decide +kernel) (by decide +kernel) sc_View_init rfl rfl b_View_init (fun vs H Q E h => ?_) (fun cdv A outer s H vs Q E hr h => ?_)
  · obtain ⟨x, dx, m, fa, M, fr, rfl, _⟩ := h
    rfl
  · obtain ⟨x, dx, m, fa, M, fr, rfl, hx, hm, hf, q⟩ := h
    refine ⟨_, (pss_cons (ps_at (T.c "View") (T.n "View" "hidden") (pv 0) (pe_dcg (own := [("state", 3)]) dkindK rfl sc_View_init.nd (pi_range1 (by rfl) (T.f "range") (pa_cons (pe_at (T.c "Machine") (T.n "Machine" "many") (pv 1)) pa_nil)) (blkOk_by (own := [("state", 3)]) (N := N_View_init) (sc := defScope s_View_init) (by decide +kernel)) ⟨(fun _ _ _ _ _ => (pg_l (i := 3) sc_View_init.nd rfl rfl)), (fun _ _ _ _ _ => pts_nil), (fun _ _ _ _ _ => (pv 3)), (fun _ _ _ _ _ => (pe_lst pa_nil))⟩))
        (pss_cons (ps_at (T.c "View") (T.n "View" "shown") (pv 0) (pe_dcg (own := [("state", 3)]) dkindK rfl sc_View_init.nd (pi_range1 (by rfl) (T.f "range") (pa_cons (pe_at (T.c "Machine") (T.n "Machine" "many") (pv 1)) pa_nil)) (blkOk_by (own := [("state", 3)]) (N := N_View_init) (sc := defScope s_View_init) (by decide +kernel)) ⟨(fun _ _ _ _ _ => (pg_l (i := 3) sc_View_init.nd rfl rfl)), (fun _ _ _ _ _ => pts_nil), (fun _ _ _ _ _ => (pv 3)), (fun _ _ _ _ _ => (pe_lst pa_nil))⟩))
        (pss_one (ps_for PassesOwn.never rfl (pi_tup (pe_at (T.c "Machine") (T.n "Machine" "steps") (pv 1))) (pg_t K 4 rfl (pgs_cons (pg_l (i := 3) sc_View_init.nd rfl rfl) (pgs_cons (pg_l (i := 4) sc_View_init.nd rfl rfl) (pgs_cons (pg_l (i := 5) sc_View_init.nd rfl rfl) (pgs_cons (pg_l (i := 6) sc_View_init.nd rfl rfl) pgs_nil)))))
        (pss_one (ps_if (PW.pt (pw_or (pt_cmpR op_eq (pv 4) pe_str (nomark _)) (pw_or1 (pt_cmpR (op_inK K) (pv 4) (pv 2) rfl)))) 
          (pss_one (ps_if (pt_cmpR op_eq (pv 5) pe_str (nomark _)) 
            (pss_one (ps_expr (pe_bm PySem.F.plainAttrs_list PySem.F.slot_list_append PySem.F.type_list_append mt_append (pe_dget (hu_of hr) (pe_at (T.c "View") (T.n "View" "hidden") (pv 0)) (pv 3) (fun _ _ => rfl)) (pa_cons (pv 6) pa_nil))))
            (pss_one (ps_expr (pe_bm PySem.F.plainAttrs_list PySem.F.slot_list_append PySem.F.type_list_append mt_append (pe_dget (hu_of hr) (pe_at (T.c "View") (T.n "View" "shown") (pv 0)) (pv 3) (fun _ _ => rfl)) (pa_cons (pe_tup (pa_cons (pv 5) (pa_cons (pv 6) pa_nil))) pa_nil))))))
          pss_nil)))))), ?_⟩
    have n2 := hm.ok.n2
    obtain ⟨mdx, ts, wd, kl, fs, sa, wa, pc⟩ := hm.pc
    have talen : sa.length = M.steps.length := Paired.length pc.st
    refine ⟨_, rfl, m, mdx, _, _, rfl, pc.m, pc.many, M.n, rfl, by omega, by omega, ?_⟩
    rw [show ((M.n : Int).toNat) = M.n from rfl]
    refine dkLists (by omega) (fun i H' hi Kt k => ⟨rfl, _, rfl, (by show 0 ≤ sizeLine; decide), fun p hp => ?_⟩) fun hd H1 wh hhd s1 ld1 fr1 => ?_
    · have e : (0 : Int) + (i : Int) = i := by omega
      have := k p hp
      rw [← e] at this
      exact this
    have hmx : m ≠ x := fun z => by
      have h1 := pc.m
      have h2 := pc.many
      rw [z, hx] at h1
      injection h1 with h1
      injection h1 with h3 h4 h5
      rw [← h5] at h2
      cases h2
    refine ⟨_, rfl, x, dx, [], rfl, s1 _ _ hx, by decide, ?_⟩
    have sbA : Sbut x H (upd H1 x (.ins (He.ga K "View") dx (putF "hidden" (.ref hd) []))) := (Sbut.of s1).trans .upd
    have exA : (upd H1 x (.ins (He.ga K "View") dx (putF "hidden" (.ref hd) []))) x = some (.ins (He.ga K "View") dx [(("hidden" : Str), .ref hd)]) := upd_same
    have ldA : LD (upd H1 x (.ins (He.ga K "View") dx (putF "hidden" (.ref hd) []))) hd M.n wh (fun _ => []) := ld1.sb (s1 _ _ hx) (fun _ z => by cases z) (fun _ z => by cases z) .upd
    generalize upd H1 x (.ins (He.ga K "View") dx (putF "hidden" (.ref hd) [])) = HA at sbA exA ldA
    clear ld1
    have pcA := pc.sb hx (fun _ z => by cases z) (fun _ z => by cases z) (fun _ z => by cases z) hmx sbA
    refine ⟨_, rfl, m, mdx, _, _, rfl, pcA.m, pcA.many, M.n, rfl, by omega, by omega, ?_⟩
    rw [show ((M.n : Int).toNat) = M.n from rfl]
    refine dkLists (by omega) (fun i H' hi Kt k => ⟨rfl, _, rfl, (by show 0 ≤ sizeLine; decide), fun p hp => ?_⟩) fun sd H3 wn hsd s3 ld3 fr3 => ?_
    · have e : (0 : Int) + (i : Int) = i := by omega
      have := k p hp
      rw [← e] at this
      exact this
    refine ⟨_, rfl, x, dx, _, rfl, s3 _ _ exA, (by show 1 < 1000; decide), ?_⟩
    have hne : ∀ s t, s < M.n → t < M.n → wh s ≠ wn t := fun s t hs ht z => by
      have e1 := ldA.ls s hs
      rw [z, fr3 t ht] at e1
      cases e1
    have frn : ∀ t, t < M.n → H (wn t) = none := fun t ht => by
      have h1 := fr3 t ht
      have nx : wn t ≠ x := fun z => by rw [z, exA] at h1; cases h1
      cases e : H (wn t) with
      | none => rfl
      | some o => rw [sbA _ _ nx e] at h1; cases h1
    have sbC : Sbut x H (upd H3 x (.ins (He.ga K "View") dx (putF "shown" (.ref sd) [(("hidden" : Str), .ref hd)]))) := (sbA.trans (Sbut.of s3)).trans .upd
    have exC : (upd H3 x (.ins (He.ga K "View") dx (putF "shown" (.ref sd) [(("hidden" : Str), .ref hd)]))) x = some (.ins (He.ga K "View") dx [(("hidden" : Str), .ref hd), (("shown" : Str), .ref sd)]) := by rw [upd_same, pfV]
    have ldh : LD (upd H3 x (.ins (He.ga K "View") dx (putF "shown" (.ref sd) [(("hidden" : Str), .ref hd)]))) hd M.n wh (fun _ => []) := (ldA.sm s3).sb (s3 _ _ exA) (fun _ z => by cases z) (fun _ z => by cases z) .upd
    have lds : LD (upd H3 x (.ins (He.ga K "View") dx (putF "shown" (.ref sd) [(("hidden" : Str), .ref hd)]))) sd M.n wn (fun _ => []) := ld3.sb (s3 _ _ exA) (fun _ z => by cases z) (fun _ z => by cases z) .upd
    generalize upd H3 x (.ins (He.ga K "View") dx (putF "shown" (.ref sd) [(("hidden" : Str), .ref hd)])) = HC at sbC exC ldh lds
    clear ld3 s3 fr3 exA ldA pcA sbA hsd
    have pcC := pc.sb hx (fun _ z => by cases z) (fun _ z => by cases z) (fun _ z => by cases z) hmx sbC
    refine ⟨_, rfl, m, mdx, _, _, rfl, pcC.m, pcC.steps, ts, rfl, ⟨_, .of pcC.ts⟩, ?_⟩
    refine for_it walk_tup (fun i σ H' => ∃ o3 o4 o5 o6, σ = [some (.ref x), some (.ref m), some (.ref fa), o3, o4, o5, o6] ∧ Sbut x H H' ∧ H' x = some (.ins (He.ga K "View") dx [(("hidden" : Str), .ref hd), (("shown" : Str), .ref sd)]) ∧
      LD H' hd M.n wh (fun s => (hidL fr (M.steps.take i) (s : Int)).map fun t : Stp => V.int t.g) ∧ ∃ pa : Nat → List Addr, LD H' sd M.n wn (fun s => (pa s).map V.ref) ∧
        ∀ s, s < M.n → Paired (fun (a : Addr) (t : Stp) => H' a = some (.tup [.str t.w, .int t.g])) (pa s) (shwL fr (M.steps.take i) (s : Int)))
      ⟨none, none, none, none, rfl, sbC, exC, ldh, fun _ => [], lds, fun s hs => .nil⟩ (fun i σ H' _ ⟨_, _, _, _, _, s, _⟩ => .of (pc.sb hx (fun _ z => by cases z) (fun _ z => by cases z) (fun _ z => by cases z) hmx s).ts) ?_ ?_
    · rintro i v σ H4 H5 hi ⟨o3, o4, o5, o6, rfl, sb, ex, ldh, pa, lds, hpa⟩ ⟨rfl, hv⟩
      rw [List.length_map] at hi
      rw [List.getElem?_map] at hv
      cases ha : sa[i]? with
      | none => rw [ha] at hv; cases hv
      | some a =>
        rw [ha] at hv
        cases hv
        obtain ⟨t, ht, hta⟩ := paired_get (stps_sb hx (fun _ z => by cases z) sb pc.st) ha
        have htm := List.mem_of_getElem? ht
        have hta' : H5 a = some (.tup t.vs) := hta
        refine ⟨a, t.vs, rfl, SqT.of hta', rfl, _, _, rfl, _, _, rfl, _, _, rfl, _, _, rfl, rfl, ?_⟩
        refine ⟨_, rfl, rfl, _, rfl, ?_⟩
        have tok := hm.ok.st t htm
        obtain ⟨si, esi⟩ := Int.eq_ofNat_of_zero_le tok.s0
        have hsi : si < M.n := by have := tok.s1; omega
        have hf5 : SqT K H5 fa (fr.map V.str) := sqT_sb2 hx (fun _ z => by cases z) (fun _ _ z => by cases z) sb hf
        have tlen := hm.ok.len
        have snoc1 : ∀ s : Nat, hidL fr (M.steps.take (i + 1)) (s : Int) = hidL fr (M.steps.take i) (s : Int) ++ (if Okk fr t ∧ t.w = "" ∧ t.s = (s : Int) then [t] else []) := fun s => by
          unfold hidL
          rw [take_snoc ht, filter_snoc]
          simp only [decide_eq_true_iff]
        have snoc2 : ∀ s : Nat, shwL fr (M.steps.take (i + 1)) (s : Int) = shwL fr (M.steps.take i) (s : Int) ++ (if Okk fr t ∧ t.w ≠ "" ∧ t.s = (s : Int) then [t] else []) := fun s => by
          unfold shwL
          rw [take_snoc ht, filter_snoc]
          simp only [decide_eq_true_iff]
        have lenH : (hidL fr (M.steps.take i) (si : Int)).length ≤ 1000 := Nat.le_trans (List.length_filter_le _ _) (Nat.le_trans (List.length_take_le _ _) (by omega))
        have lenS : (shwL fr (M.steps.take i) (si : Int)).length ≤ 1000 := Nat.le_trans (List.length_filter_le _ _) (Nat.le_trans (List.length_take_le _ _) (by omega))
        by_cases ok : Okk fr t
        · rcases id ok with e | e
          case' inl =>
            rw [show decide (V.str t.k = V.str "") = true by rw [e]; simp]
          case' inr =>
            by_cases ek : t.k = ""
            case' pos =>
              rw [show decide (V.str t.k = V.str "") = true by rw [ek]; simp]
            case' neg =>
              rw [show decide (V.str t.k = V.str "") = false from decide_eq_false fun z => ek (by injection z)]
              refine ⟨_, rfl, _, rfl, fa, _, rfl, .inr hf5, rfl, all_flat _, ?_⟩
              rw [inV_str, decide_eq_true e]
              refine ⟨true, rfl, ?_⟩
          all_goals
            refine ⟨_, rfl, rfl, _, rfl, ?_⟩
            by_cases ew : t.w = ""
            · rw [show decide (V.str t.w = V.str "") = true by rw [ew]; simp]
              have els := ldh.ls si hsi
              have small : ((hidL fr (M.steps.take i) (si : Int)).map fun t : Stp => V.int t.g).length < sizeLine := szLt (by rw [List.length_map]; omega)
              have nx : wh si ≠ x := fun z => by rw [z, ex] at els; cases els
              have nsd : wh si ≠ sd := fun z => by rw [z, lds.dk] at els; cases els
              refine ⟨_, rfl, x, dx, _, _, rfl, ex, lkVh, .int t.s, rfl, hd, .ref (wh si), rfl, by rw [esi]; exact ldh.get hsi, .inl ⟨rfl, _, .of els⟩, _, rfl, wh si, _, _, rfl, rfl, els, small, _, _, _, _, rfl, sbMut sb (fr1 si hsi), (upd_ne nx.symm).trans ex, (ldh.app hsi).congr fun s hs => ?_, pa, lds.ne nsd (fun s hs => hne si s hsi hs), fun s hs => ?_⟩
              · rw [snoc1]
                by_cases e : s = si
                · rw [if_pos e, e, if_pos ⟨ok, ew, esi⟩, List.map_append]
                  rfl
                · rw [if_neg e, if_neg fun z => e (by have := z.2.2; omega), List.append_nil]
              · rw [snoc2, if_neg fun z => z.2.1 ew, List.append_nil]
                exact Paired.mapP (hpa s hs) fun a' t' z => (upd_ne fun y => by rw [y, els] at z; cases z).trans z
            · rw [show decide (V.str t.w = V.str "") = false from decide_eq_false fun z => ew (by injection z)]
              have els := lds.ls si hsi
              have plen : (pa si).length = (shwL fr (M.steps.take i) (si : Int)).length := Paired.length (hpa si hsi)
              have small : ((pa si).map V.ref).length < sizeLine := szLt (by rw [List.length_map]; omega)
              have nx : wn si ≠ x := fun z => by rw [z, ex] at els; cases els
              have nhd : wn si ≠ hd := fun z => by rw [z, ldh.dk] at els; cases els
              refine ⟨_, rfl, x, dx, _, _, rfl, ex, lkVs, .int t.s, rfl, sd, .ref (wn si), rfl, by rw [esi]; exact lds.get hsi, .inl ⟨rfl, _, .of els⟩, ?_⟩
              refine ⟨_, rfl, _, rfl, (by show 2 ≤ sizeLine; decide), fun p hp => ?_⟩
              have sP : Same H5 (upd H5 p (.tup [.str t.w, .int t.g])) := smNew hp
              have eP : (upd H5 p (.tup [.str t.w, .int t.g])) p = some (.tup [.str t.w, .int t.g]) := upd_same
              have sbP : Sbut x H (upd H5 p (.tup [.str t.w, .int t.g])) := sb.trans (Sbut.of sP)
              generalize upd H5 p (.tup [.str t.w, .int t.g]) = H6 at sP eP sbP
              have els6 := sP _ _ els
              have lds6 := lds.sm sP
              have ldh6 := ldh.sm sP
              refine ⟨wn si, _, _, rfl, rfl, els6, small, _, _, _, _, rfl, sbMut sbP (frn si hsi), (upd_ne nx.symm).trans (sP _ _ ex), (ldh6.ne nhd fun s hs z => hne s si hs hsi z.symm).congr fun s hs => ?_, fun s => if s = si then pa si ++ [p] else pa s, (lds6.app hsi).congr fun s hs => ?_, fun s hs => ?_⟩
              · rw [snoc1, if_neg fun z => ew z.2.1, List.append_nil]
              · dsimp only
                by_cases e : s = si
                · rw [if_pos e, if_pos e, List.map_append]
                  rfl
                · rw [if_neg e, if_neg e]
              · rw [snoc2]
                have old : ∀ s, s < M.n → Paired (fun (a : Addr) (t : Stp) => (upd H6 (wn si) (.lst ((pa si).map V.ref ++ [V.ref p]))) a = some (.tup [.str t.w, .int t.g])) (pa s) (shwL fr (M.steps.take i) (s : Int)) := fun s hs => Paired.mapP (hpa s hs) fun a' t' z => (upd_ne fun y => by rw [y, els] at z; cases z).trans (sP _ _ z)
                have eP6 : (upd H6 (wn si) (.lst ((pa si).map V.ref ++ [V.ref p]))) p = some (.tup [.str t.w, .int t.g]) := (upd_ne fun y => by rw [y, els6] at eP; cases eP).trans eP
                dsimp only
                by_cases e : s = si
                · rw [if_pos e, e, if_pos ⟨ok, ew, esi⟩]
                  exact paired_app (old si hsi) (.cons eP6 .nil)
                · rw [if_neg e, if_neg fun z => e (by have := z.2.2; omega), List.append_nil]
                  exact old s hs
        · rw [show decide (V.str t.k = V.str "") = false from decide_eq_false fun z => ok (.inl (by injection z))]
          refine ⟨_, rfl, _, rfl, fa, _, rfl, .inr hf5, rfl, all_flat _, ?_⟩
          rw [inV_str, decide_eq_false fun z => ok (.inr z)]
          refine ⟨false, rfl, _, _, _, _, rfl, sb, ex, ldh.congr fun s hs => ?_, pa, lds, fun s hs => ?_⟩
          · rw [snoc1, if_neg fun z => ok z.1, List.append_nil]
          · rw [snoc2, if_neg fun z => ok z.1, List.append_nil]
            exact hpa s hs
    · rintro σ H4 ⟨o3, o4, o5, o6, rfl, sb, ex, ldh, pa, lds, hpa⟩
      rw [List.length_map, talen, List.take_length] at ldh hpa
      exact q _ hd sd wh wn pa sb ⟨ex, ldh, lds, hpa⟩
end
end Al
set_option maxHeartbeats 4000000
/-! D11: View's methods, is_trace. -/
namespace Al
open PySem PySem.Spec PyProof.Rows L2
section
variable {P : Program} {w : World} {K : PySem.W.Frag} {mg : Str → Option Value} {base : Heap}
/-- a view at x, of a machine in bounds -/
def ViewAt (K : PySem.W.Frag) (H : Hp) (x : Addr) (M : Mch) (fr : List Str) : Prop := MOk M ∧ ∃ dx hd sd wh wn pa, ViewPc K H x M fr dx hd sd wh wn pa
theorem ViewAt.sm {H H' : Hp} {x : Addr} {M : Mch} {fr : List Str} (e : Same H H') (h : ViewAt K H x M fr) : ViewAt K H' x M fr := let ⟨ok, dx, hd, sd, wh, wn, pa, p⟩ := h; ⟨ok, dx, hd, sd, wh, wn, pa, p.sm e⟩
def spClosed (K : PySem.W.Frag) : Sp := fun vs H Q _ => ∃ (x la : Addr) (M : Mch) (fr : List Str) (xs : List Int), vs = [.ref x, .ref la] ∧ ViewAt K H x M fr ∧ SqL K H la (xs.map V.int) ∧ (∀ s ∈ xs, 0 ≤ s ∧ s < M.n) ∧ xs.length ≤ 500000 ∧
  ∀ (H' : Hp) (p : Addr) (ys : List Int), Same H H' → H' p = some (.tup (ys.map V.int)) → ys.Nodup → (∀ y ∈ ys, 0 ≤ y ∧ y < M.n) → (∀ y, y ∈ ys ↔ Cl M fr (fun z => z ∈ xs) y) → Q (.ref p) H'
theorem ok_View_closed (T : Txt K mg) : MFn P w K mg base 2 "View" "closed" (spClosed K) := by
  refine T.okM h_View_closed rfl (by decide +kernel) (by decide +kernel) sc_View_closed rfl rfl b_View_closed (fun vs H Q E h => ?_) (fun cdv A outer s H vs Q E hr h => ?_)
  · obtain ⟨x, la, M, fr, xs, rfl, _⟩ := h
    rfl
  · obtain ⟨x, la, M, fr, xs, rfl, ⟨ok, dx, hd, sd, wh, wn, pa, pc⟩, hl, xb, xlen, q⟩ := h
    refine ⟨_, (pss_cons (ps_setDcg (i := 2) (own := [("state", 5)]) dkindK rfl sc_View_closed.nd rfl rfl (swd_true rfl rfl rfl (by decide +kernel)) (pi_list (pv 1)) (blkOk_by (own := [("state", 5)]) (N := N_View_closed) (sc := defScope s_View_closed) (by decide +kernel)) ⟨(fun _ _ _ _ _ => (pg_l (i := 5) sc_View_closed.nd rfl rfl)), (fun _ _ _ _ _ => pts_nil), (fun _ _ _ _ _ => (pv 5)), (fun _ _ _ _ _ => pe_bl)⟩)
        (pss_cons (ps_l (i := 3) sc_View_closed.nd rfl rfl (pe_callTy (cList K) (by rfl) (T.f "list") (by decide +kernel) (pa_cons (pv 1) pa_nil)))
        (pss_cons (ps_while PassesOwn.never (pt_cmpR (op_neDK K hr.units) (pv 3) (pe_lst pa_nil) (nomark _))
        (pss_one (ps_for PassesOwn.never rfl (pi_list (pe_dget (hu_of hr) (pe_at (T.c "View") (T.n "View" "hidden") (pv 0)) (pe_bm0 PySem.F.plainAttrs_list PySem.F.slot_list_pop PySem.F.type_list_pop mt_pop (pv 3)) (fun _ _ => rfl))) (pg_l (i := 4) sc_View_closed.nd rfl rfl)
          (pss_one (ps_if (pt_cmp (pc_dnotin (hu_of hr) (pv 4) (pv 2))) 
            (pss_cons (ps_dput (hu_of hr) (pv 2) (pv 4) pe_bl rfl)
              (pss_one (ps_expr (pe_bm PySem.F.plainAttrs_list PySem.F.slot_list_append PySem.F.type_list_append mt_append (pv 3) (pa_cons (pv 4) pa_nil)))))
            pss_nil)))))
        (pss_one (ps_ret (pe_callTy (cTuple K) (by rfl) (T.f "tuple") (by decide +kernel) (pa_cons (pe_callB (call_sortedKi rfl (hu20 hr)) (by rfl) (T.f "sorted") (by decide +kernel) (pa_cons (pv 2) pa_nil)) pa_nil))))))), ?_⟩
    have n2 := ok.n2
    refine ⟨_, rfl, la, rfl, ⟨_, hl⟩, ?_⟩
    refine dkMapI (j := V.int) walk_list (fun s => some (.inl s, .bl true)) (fun H' s => s.seq hl) (by omega) (fun s H' hs s5 Kt k => ⟨rfl, _, rfl, k _ (Same.refl _)⟩) fun fd H1 hfd s1 e1 => ?_
    obtain ⟨ks, k1, k2, k3⟩ := bD_all xs
    rw [k1] at e1
    refine ⟨_, rfl, la, _, rfl, .inl (s1.seq hl), fun rs hrs => ?_⟩
    have ks0 : ClI M fr xs ks (fun g => g ∈ xs) := ⟨k2, fun s hs => xb s ((k3 s).mp hs), fun s hs => .base ((k3 s).mp hs), fun s hs => (k3 s).mpr hs, fun t ht hk hw hs no => absurd ((k3 _).mp hs) no⟩
    have nrs : H rs = none := none_same s1 hrs
    refine ⟨fun mu σ H' => ∃ (ks L : List Int) (o4 : Option V), σ = [some (.ref x), some (.ref la), some (.ref fd), some (.ref rs), o4, none] ∧ Same H H' ∧ H' fd = some (.dK (bD ks)) ∧ H' rs = some (.lst (L.map V.int)) ∧
      ClI M fr xs ks (fun g => g ∈ L) ∧ (∀ s ∈ L, s ∈ ks) ∧ L.length ≤ xs.length + ks.length ∧ mu = 2 * (M.n - ks.length) + L.length, ⟨_, ks, xs, _, rfl, s1.trans (smNew hrs), smNew hrs _ _ e1, upd_same, ks0, ks0.ba, by omega, rfl⟩, ?_⟩
    clear ks0 k1 k2 k3 e1
    rintro mu σ H6 ⟨ks, L, o4, rfl, s6, efd, ers, ksi, lin, llen, rfl⟩
    have klen := ksi.len
    refine ⟨_, rfl, (by show 0 ≤ sizeLine; decide), fun e1 he1 => ?_⟩
    have nrs2 : rs ≠ e1 := fun z => by rw [z, he1] at ers; cases ers
    refine ⟨.list (L.map .int), .list [], .lst (.of ((upd_ne nrs2).trans ers)) (dpAll_ints L), .lst (.of upd_same) .nil, shaped_ints L, rfl, _, rfl, ?_⟩
    rw [eqv_nilI]
    have s7 : Same H (upd H6 e1 (.lst [])) := s6.trans (smNew he1)
    have efd7 := smNew he1 (o := .lst []) _ _ efd
    have ers7 := smNew he1 (o := .lst []) _ _ ers
    generalize upd H6 e1 (.lst []) = H7 at s7 efd7 ers7
    clear efd ers
    rcases List.eq_nil_or_concat L with eL | ⟨L', l, eL⟩
    · subst eL
      have done := (ksi.mono (op' := fun _ => False) fun g z => by cases z)
      refine ⟨_, rfl, fd, _, _, rfl, .inl efd7, bD_keys ks, fun ys p hp hpn => ?_⟩
      dsimp only [tNil]
      refine ⟨p, _, rfl, .inl ⟨.of upd_same, fun l hl => ?_⟩⟩
      exact q _ l ys ((s7.trans (smNew hpn)).trans (smNew hl)) upd_same (hp.nodup_iff.mpr ksi.nd) (fun y hy => ksi.lt y (hp.mem_iff.mp hy)) fun y => hp.mem_iff.trans (done.iff y)
    · rw [List.concat_eq_append] at eL
      rw [show (!L.isEmpty) = true by rw [eL]; cases L' <;> rfl]
      refine ⟨_, fun _ _ h => h, ?_⟩
      have hll : (L.map V.int)[(L.map V.int).length - 1]? = some (.int l) := by
        rw [eL]
        simp
      have pcx := pc.sm s7
      refine ⟨_, rfl, x, dx, _, _, rfl, pcx.v, lkVh, _, rfl, .inl ⟨rfl, _, .of ers7⟩, rs, _, _, rfl, rfl, ers7, hll, ?_⟩
      have edl : (L.map V.int).dropLast = L'.map V.int := by rw [eL, List.map_append]; exact List.dropLast_concat ..
      rw [edl]
      have nfr : fd ≠ rs := fun z => by rw [z, ers7] at efd7; cases efd7
      have s8 : Same H (upd H7 rs (.lst (L'.map V.int))) := smMut s7 nrs
      have efd8 : (upd H7 rs (.lst (L'.map V.int))) fd = some (.dK (bD ks)) := (upd_ne nfr).trans efd7
      have ers8 : (upd H7 rs (.lst (L'.map V.int))) rs = some (.lst (L'.map V.int)) := upd_same
      generalize upd H7 rs (.lst (L'.map V.int)) = H8 at s8 efd8 ers8
      have lks : l ∈ ks := lin l (by rw [eL]; simp)
      obtain ⟨l0, l1⟩ := ksi.lt l lks
      obtain ⟨gi, egi⟩ := Int.eq_ofNat_of_zero_le l0
      have hgi : gi < M.n := by omega
      have pcx8 := pc.sm s8
      have els := pcx8.h.ls gi hgi
      have hlen : (hidL fr M.steps (gi : Int)).length ≤ 1000 := Nat.le_trans (List.length_filter_le _ _) ok.len
      have Llen : L.length = L'.length + 1 := by rw [eL]; simp
      have Lin : ∀ s, s ∈ L → s ∈ L' ∨ s = l := fun s hs => by
        rw [eL] at hs
        rcases List.mem_append.mp hs with hs | hs
        · exact .inl hs
        · exact .inr (List.mem_singleton.mp hs)
      refine ⟨hd, .ref (wh gi), rfl, (by rw [egi]; exact pcx8.h.get hgi), wh gi, rfl, ⟨_, .of els⟩, ?_⟩
      refine for_it walk_list (fun j σ H' => ∃ (ks2 L2 : List Int) (o4 : Option V), σ = [some (.ref x), some (.ref la), some (.ref fd), some (.ref rs), o4, none] ∧ Same H H' ∧ H' fd = some (.dK (bD ks2)) ∧ H' rs = some (.lst (L2.map V.int)) ∧
        ClI M fr xs ks2 (fun g => g ∈ L2 ∨ g = l) ∧ (∀ s ∈ L2, s ∈ ks2) ∧ l ∈ ks2 ∧ L2.length + 1 ≤ xs.length + ks2.length ∧ 2 * (M.n - ks2.length) + L2.length < 2 * (M.n - ks.length) + L.length ∧ ∀ t : Stp, t ∈ (hidL fr M.steps (gi : Int)).take j → t.g ∈ ks2)
        ⟨ks, L', _, rfl, s8, efd8, ers8, ksi.mono Lin, fun s hs => lin s (by rw [eL]; exact List.mem_append_left _ hs), lks, by omega, by omega, fun t ht => by rw [List.take_zero] at ht; cases ht⟩
        (fun j σ H' _ ⟨_, _, _, _, e, _⟩ => .of ((pc.sm e).h.ls gi hgi)) ?_ ?_
      · rintro j v σ H10 H11 hj ⟨ks2, L2, q4, rfl, s10, efd10, ers10, ksi10, lin10, lks10, len10, mu10, tk10⟩ ⟨rfl, hv⟩
        rw [List.length_map] at hj
        rw [List.getElem?_map, List.getElem?_eq_getElem hj] at hv
        cases hv
        have klen10 := ksi10.len
        obtain ⟨ht, hk, hw, hts⟩ := mem_hidL.mp (List.getElem_mem hj)
        obtain ⟨t, et⟩ : ∃ t, t = (hidL fr M.steps (gi : Int))[j] := ⟨_, rfl⟩
        rw [← et] at ht hk hw hts ⊢
        have htk : ∀ u : Stp, u ∈ (hidL fr M.steps (gi : Int)).take (j + 1) → u ∈ (hidL fr M.steps (gi : Int)).take j ∨ u = t := fun u hu => by
          rw [List.take_add_one, List.getElem?_eq_getElem hj, ← et] at hu
          rcases List.mem_append.mp hu with hu | hu
          · exact .inl hu
          · exact .inr (List.mem_singleton.mp hu)
        refine ⟨_, rfl, _, rfl, fd, _, rfl, DGet.k (k := .inl t.g) efd10, _, rfl, ?_⟩
        rw [bD_is]
        by_cases ein : t.g ∈ ks2
        · rw [decide_eq_true ein]
          exact ⟨ks2, L2, _, rfl, s10, efd10, ers10, ksi10, lin10, lks10, len10, mu10, fun u hu => (htk u hu).elim (tk10 u) fun e => by rw [e]; exact ein⟩
        · rw [decide_eq_false ein]
          have tok := ok.st t ht
          have nfr : fd ≠ rs := fun z => by rw [z, ers10] at efd10; cases efd10
          have new3 := ksi10.add ht hk hw (by rw [hts, ← egi]; exact lks10) ein ⟨tok.g0, tok.g1⟩
          have new4 := new3.len
          rw [List.length_append, List.length_singleton] at new4
          refine ⟨_, rfl, _, rfl, fd, upd H11 fd (.dK (bD (ks2 ++ [t.g]))), rfl, .inl ⟨_, .inl _, efd10, rfl, szLt (by rw [bD_len]; omega), by rw [← bD_put ein]⟩, ?_⟩
          have ers11 := (upd_ne (H := H11) (o := .dK (bD (ks2 ++ [t.g]))) nfr.symm).trans ers10
          have s11 : Same H (upd (upd H11 fd (.dK (bD (ks2 ++ [t.g])))) rs (.lst ((L2 ++ [t.g]).map V.int))) := smMut (smMut s10 hfd) nrs
          refine ⟨_, rfl, .inl ⟨rfl, _, .of ers11⟩, _, rfl, rs, _, _, rfl, rfl, ers11, szLt ?_, ks2 ++ [t.g], L2 ++ [t.g], _, rfl, ?_, (upd_ne nfr).trans upd_same, ?_, new3.mono ?_, ?_, List.mem_append_left _ lks10, ?_, ?_, ?_⟩
          · rw [List.length_map]; omega
          · rw [List.map_append] at s11; exact s11
          · rw [List.map_append]; exact upd_same
          · rintro g ((hg | hg) | hg)
            · exact .inl (List.mem_append_left _ hg)
            · exact .inr hg
            · exact .inl (by rw [hg]; simp)
          · intro s hs
            rcases List.mem_append.mp hs with hs | hs
            · exact List.mem_append_left _ (lin10 s hs)
            · rw [List.mem_singleton.mp hs]; simp
          · rw [List.length_append, List.length_append, List.length_singleton]; omega
          · rw [List.length_append, List.length_append, List.length_singleton]; omega
          · intro u hu
            rcases htk u hu with hu | hu
            · exact List.mem_append_left _ (tk10 u hu)
            · rw [hu]; simp
      · rintro σ H10 ⟨ks2, L2, q4, rfl, s10, efd10, ers10, ksi10, lin10, lks10, len10, mu10, tk10⟩
        rw [List.length_map, List.take_length] at tk10
        exact ⟨_, mu10, ks2, L2, _, rfl, s10, efd10, ers10, ksi10.close (fun x z => z) (by rw [egi]; exact tk10), lin10, by omega, rfl⟩
def spStart (K : PySem.W.Frag) : Sp := fun vs H Q _ => ∃ (x : Addr) (M : Mch) (fr : List Str), vs = [.ref x] ∧ ViewAt K H x M fr ∧
  ∀ (H' : Hp) (p : Addr) (ys : List Int), Same H H' → H' p = some (.tup (ys.map V.int)) → ys.Nodup → (∀ y ∈ ys, 0 ≤ y ∧ y < M.n) → (∀ y, y ∈ ys ↔ Tr M fr [] y) → Q (.ref p) H'
theorem ok_View_start (T : Txt K mg) : MFn P w K mg base 3 "View" "start" (spStart K) := by
  refine T.okM h_View_start rfl (by decide +kernel) (by decide +kernel) sc_View_start rfl rfl b_View_start (fun vs H Q E h => ?_) (fun cdv A outer s H vs Q E hr h => ?_)
  · obtain ⟨x, M, fr, rfl, _⟩ := h
    rfl
  · obtain ⟨x, M, fr, rfl, hv, q⟩ := h
    refine ⟨_, (pss_one (ps_ret (pe_m (pv 0) (ok_View_closed T) (hr.mono (by decide)) (pa_cons (pe_lst (pa_cons pe_int pa_nil)) pa_nil)))), ?_⟩
    have n1 := hv.1.n1
    obtain ⟨ok, dx, hd, sd, wh, wn, pa, pc⟩ := id hv
    refine ⟨_, rfl, x, dx, _, rfl, pc.v, rfl, (by show 1 ≤ sizeLine; decide), fun l hl => ?_⟩
    refine ⟨x, l, M, fr, [0], rfl, hv.sm (smNew hl), .of upd_same, fun s hs => by rw [List.mem_singleton.mp hs]; omega, by decide, fun H' p ys s1 e1 nd yb iff => q H' p ys ((smNew hl).trans s1) e1 nd yb fun y => ?_⟩
    rw [iff, tr_nil]
theorem flat_len {α β : Type} (f : α → List β) (c : Nat) : ∀ (xs : List α), (∀ x ∈ xs, (f x).length ≤ c) → (xs.flatMap f).length ≤ xs.length * c
  | [], _ => by simp
  | x :: xs, h => by
    rw [List.flatMap_cons, List.length_append, List.length_cons, Nat.succ_mul]
    have h1 := h x (by simp)
    have h2 := flat_len f c xs fun y hy => h y (by simp [hy])
    omega
/-- where the word leads from y -/
def seeL (M : Mch) (fr : List Str) (x1 : Str) (y : Int) : List Int := ((shwL fr M.steps y).filter fun t : Stp => decide (t.w = x1)).map fun t : Stp => t.g
def spBehind (K : PySem.W.Frag) : Sp := fun vs H Q _ => ∃ (x sa : Addr) (M : Mch) (fr : List Str) (ys : List Int) (ws : List Str) (x1 : Str), vs = [.ref x, .ref sa, .str x1] ∧ ViewAt K H x M fr ∧ SqT K H sa (ys.map V.int) ∧ ys.Nodup ∧ (∀ y ∈ ys, 0 ≤ y ∧ y < M.n) ∧ (∀ y, y ∈ ys ↔ Tr M fr ws y) ∧ x1 ≠ "" ∧
  ∀ (H' : Hp) (p : Addr) (ys : List Int), Same H H' → H' p = some (.tup (ys.map V.int)) → ys.Nodup → (∀ y ∈ ys, 0 ≤ y ∧ y < M.n) → (∀ y, y ∈ ys ↔ Tr M fr (ws ++ [x1]) y) → Q (.ref p) H'
theorem ok_View_behind (T : Txt K mg) : MFn P w K mg base 3 "View" "behind" (spBehind K) := by
  refine T.okM h_View_behind rfl (by decide +kernel) (by decide +kernel) sc_View_behind rfl rfl b_View_behind (fun vs H Q E h => ?_) (fun cdv A outer s H vs Q E hr h => ?_)
  · obtain ⟨x, sa, M, fr, ys, ws, x1, rfl, _⟩ := h
    rfl
  · obtain ⟨x, sa, M, fr, ys, ws, x1, rfl, hv, hs, nd, yb, iff, hx1, q⟩ := h
    refine ⟨_, (pss_one (ps_ret (pe_m (pv 0) (ok_View_closed T) (hr.mono (by decide)) (pa_cons (pe_lc2 (own := [("state", 3), ("seen", 4), ("goal", 5)]) (vs1 := [4, 5]) rfl sc_View_behind.nd (pi_tup (pv 1)) (blkOk_by (own := [("state", 3), ("seen", 4), ("goal", 5)]) (N := N_View_behind) (sc := defScope s_View_behind) (by decide +kernel)) (by decide) (fun _ _ _ _ _ => (pg_l (i := 3) sc_View_behind.nd rfl rfl)) (fun _ _ _ _ _ => pts_nil) (fun _ _ _ _ _ => (pi_listK K (pe_dget (hu_of hr) (pe_at (T.c "View") (T.n "View" "shown") (pv 0)) (pv 3) (fun _ _ => rfl)))) (fun _ _ _ _ _ => (pg_t K 2 rfl (pgs_cons (pg_l (i := 4) sc_View_behind.nd rfl rfl) (pgs_cons (pg_l (i := 5) sc_View_behind.nd rfl rfl) pgs_nil)))) (fun _ _ _ _ _ => (pts_one (pt_cmpR op_eq (pv 4) (pv 2) (nomark _)))) (fun _ _ _ _ _ => (pv 5))) pa_nil)))), ?_⟩
    have n1 := hv.1.n1
    obtain ⟨ok, dx, hd, sd, wh, wn, pa, pc⟩ := id hv
    refine ⟨_, rfl, x, dx, _, rfl, pc.v, rfl, ?_⟩
    have hn := nd_lt nd yb
    have n2 := ok.n2
    refine ⟨_, rfl, sa, rfl, ⟨_, hs⟩, ?_⟩
    have f0 : ∀ y, (seeL M fr x1 y).length ≤ 1000 := fun y => by
      unfold seeL
      rw [List.length_map]
      exact Nat.le_trans (List.length_filter_le _ _) (Nat.le_trans (List.length_filter_le _ _) ok.len)
    refine lc2V walk_tup (fun i => (ys[i]?.map fun y => (seeL M fr x1 y).map V.int).getD []) (fun H' s1 => smTup s1 hs) ?_ ?_
    · rintro D i v H2 H3 hi hD s2 e2 ⟨rfl, hvv⟩ Nx kk
      rw [List.length_map] at hi
      rw [List.getElem?_map, List.getElem?_eq_getElem hi] at hvv
      cases hvv
      obtain ⟨y0, y1⟩ := yb _ (List.getElem_mem hi)
      obtain ⟨gi, egi⟩ := Int.eq_ofNat_of_zero_le y0
      have hgi : gi < M.n := by omega
      have pc2 := pc.sm s2
      have els := pc2.s.ls gi hgi
      have plen : (pa gi).length = (shwL fr M.steps (gi : Int)).length := Paired.length (pc2.p gi hgi)
      have slen : (shwL fr M.steps (gi : Int)).length ≤ 1000 := Nat.le_trans (List.length_filter_le _ _) ok.len
      have alen : ((List.range i).flatMap fun i => (ys[i]?.map fun y => (seeL M fr x1 y).map V.int).getD []).length ≤ 100000 := by
        refine Nat.le_trans (flat_len _ 1000 _ fun j hj => ?_) (by rw [List.length_range]; omega)
        cases h : ys[j]? with
        | none => simp
        | some y => simpa using f0 y
      refine ⟨rfl, ?_⟩
      refine ⟨_, rfl, x, dx, _, _, rfl, pc2.v, lkVs, _, rfl, sd, .ref (wn gi), rfl, (by rw [egi]; exact pc2.s.get hgi), wn gi, rfl, ⟨_, .of els⟩, ?_⟩
      refine inW (walk_list (xs := (pa gi).map V.ref)) (fun j => (shwL fr M.steps (gi : Int))[j]?.bind fun t : Stp => if t.w = x1 then some (.int t.g) else none) hD s2 e2 (by rw [List.length_map]; omega) (fun H' s => .of ((pc.sm s).s.ls gi hgi)) ?_ ?_
      · rintro j v H5 H6 hj s5 ⟨rfl, hvv⟩ Kt k
        rw [List.length_map] at hj
        rw [List.getElem?_map, List.getElem?_eq_getElem hj] at hvv
        cases hvv
        obtain ⟨t, ht, hta⟩ := paired_get ((pc.sm s5).p gi hgi) (List.getElem?_eq_getElem hj)
        have k1 := k H6 (Same.refl _)
        rw [ht] at k1
        refine ⟨(pa gi)[j], _, rfl, SqT.of hta, rfl, _, _, rfl, _, _, rfl, rfl, rfl, ?_⟩
        refine ⟨_, rfl, _, rfl, rfl, _, rfl, ?_⟩
        by_cases ew : t.w = x1
        · rw [show decide (V.str t.w = V.str x1) = true by rw [ew]; simp]
          have k1 : Kt (if t.w = x1 then some (.int t.g) else none) H6 := k1
          rw [if_pos ew] at k1
          exact ⟨_, rfl, k1⟩
        · rw [show decide (V.str t.w = V.str x1) = false from decide_eq_false fun z => ew (by injection z)]
          have k1 : Kt (if t.w = x1 then some (.int t.g) else none) H6 := k1
          rw [if_neg ew] at k1
          exact k1
      · intro H' s' e'
        refine kk H' s' ?_
        rw [e', List.length_map, plen, rangeFM, List.getElem?_eq_getElem hi, Option.map_some, Option.getD_some]
        congr 3
        rw [egi]
        unfold seeL
        rw [List.map_map]
        induction shwL fr M.steps (gi : Int) with
        | nil => rfl
        | cons t r ih =>
          rw [List.filterMap_cons]
          by_cases ew : t.w = x1
          · rw [if_pos ew, List.filter_cons_of_pos (by simpa using ew), List.map_cons, ← ih]
            rfl
          · rw [if_neg ew, List.filter_cons_of_neg (by simpa using ew), ih]
    · intro D H2 hD s2 e2
      rw [List.length_map, range_flat, ← List.map_flatMap] at e2
      dsimp only [tNil]
      have gmem : ∀ z, z ∈ ys.flatMap (seeL M fr x1) ↔ ∃ t ∈ M.steps, Okk fr t ∧ t.w = x1 ∧ Tr M fr ws t.s ∧ t.g = z := fun z => by
        rw [List.mem_flatMap]
        constructor
        · rintro ⟨y, hy, hz⟩
          obtain ⟨t, ht, rfl⟩ := List.mem_map.mp hz
          obtain ⟨h1, h2⟩ := List.mem_filter.mp ht
          obtain ⟨a, b, c, d⟩ := mem_shwL.mp h1
          exact ⟨t, a, b, of_decide_eq_true h2, by rw [d]; exact (iff y).mp hy, rfl⟩
        · rintro ⟨t, a, b, c, d, rfl⟩
          exact ⟨t.s, (iff _).mpr d, List.mem_map.mpr ⟨t, List.mem_filter.mpr ⟨mem_shwL.mpr ⟨a, b, by rw [c]; exact hx1, rfl⟩, decide_eq_true c⟩, rfl⟩⟩
      refine ⟨x, D, M, fr, ys.flatMap (seeL M fr x1), rfl, hv.sm s2, .of e2, fun z hz => ?_, Nat.le_trans (flat_len _ 1000 _ fun y _ => f0 y) (by omega), fun H' p zs s3 e3 nd3 b3 iff3 => q H' p zs (s2.trans s3) e3 nd3 b3 fun y => ?_⟩
      · obtain ⟨t, ht, _, _, _, rfl⟩ := (gmem z).mp hz
        exact ⟨(ok.st t ht).g0, (ok.st t ht).g1⟩
      · rw [iff3, tr_snoc hx1]
        exact ⟨fun c => c.imp fun s h => (gmem s).mp h, fun c => c.imp fun s h => (gmem s).mpr h⟩
/-- the words lead somewhere -/
def HasTr (M : Mch) (fr : List Str) (ws : List Str) : Prop := ∃ s, Tr M fr ws s
def spHas (K : PySem.W.Frag) : Sp := fun vs H Q _ => ∃ (x ta : Addr) (M : Mch) (fr : List Str) (ws : List Str), vs = [.ref x, .ref ta] ∧ ViewAt K H x M fr ∧ SqL K H ta (ws.map V.str) ∧ (∀ w ∈ ws, w ≠ "") ∧
  ∀ (H' : Hp) (b : Bool), Same H H' → (b = true ↔ HasTr M fr ws) → Q (.bl b) H'
theorem ok_View_has (T : Txt K mg) : MFn P w K mg base 4 "View" "has" (spHas K) := by
  refine T.okM h_View_has rfl (by decide +kernel) (by decide +kernel) sc_View_has rfl rfl b_View_has (fun vs H Q E h => ?_) (fun cdv A outer s H vs Q E hr h => ?_)
  · obtain ⟨x, ta, M, fr, ws, rfl, _⟩ := h
    rfl
  · obtain ⟨x, ta, M, fr, ws, rfl, hv, ht, hw, q⟩ := h
    refine ⟨_, (pss_cons (ps_l (i := 2) sc_View_has.nd rfl rfl (pe_m0 (pv 0) (ok_View_start T) (hr.mono (by decide))))
        (pss_cons (ps_for PassesOwn.never rfl (pi_list (pv 1)) (pg_l (i := 3) sc_View_has.nd rfl rfl)
        (pss_one (ps_l (i := 2) sc_View_has.nd rfl rfl (pe_m (pv 0) (ok_View_behind T) (hr.mono (by decide)) (pa_cons (pv 2) (pa_cons (pv 3) pa_nil))))))
        (pss_one (ps_ret (pe_cmpR (op_neDK K hr.units) (pv 2) (pe_tup pa_nil) (nomark _)))))), ?_⟩
    obtain ⟨ok, dx, hd, sd, wh, wn, pa, pc⟩ := id hv
    refine ⟨_, rfl, x, dx, _, rfl, pc.v, rfl, x, M, fr, rfl, hv, fun H1 p ys s1 e1 nd1 b1 iff1 => ?_⟩
    refine ⟨_, rfl, ta, rfl, ⟨_, s1.seq ht⟩, ?_⟩
    refine for_it walk_list (fun i σ H' => ∃ (p : Addr) (ys : List Int) (o3 : Option V), σ = [some (.ref x), some (.ref ta), some (.ref p), o3] ∧ Same H H' ∧ H' p = some (.tup (ys.map V.int)) ∧ ys.Nodup ∧ (∀ y ∈ ys, 0 ≤ y ∧ y < M.n) ∧ ∀ y, y ∈ ys ↔ Tr M fr (ws.take i) y)
      ⟨p, ys, _, rfl, s1, e1, nd1, b1, iff1⟩ (fun i σ H' _ ⟨_, _, _, _, s, _⟩ => s.seq ht) ?_ ?_
    · rintro i v σ H2 H3 hi ⟨p, ys, o3, rfl, s2, e2, nd2, b2, iff2⟩ ⟨rfl, hvv⟩
      rw [List.length_map] at hi
      rw [List.getElem?_map, List.getElem?_eq_getElem hi] at hvv
      cases hvv
      refine ⟨_, rfl, x, dx, _, rfl, s2 _ _ pc.v, rfl, _, rfl, _, rfl, x, p, M, fr, ys, ws.take i, ws[i], rfl, hv.sm s2, .of e2, nd2, b2, iff2, hw _ (List.getElem_mem hi), fun H' p' zs s3 e3 nd3 b3 iff3 => ⟨p', zs, _, rfl, s2.trans s3, e3, nd3, b3, fun y => ?_⟩⟩
      rw [iff3, List.take_add_one, List.getElem?_eq_getElem hi]
      rfl
    · rintro σ H2 ⟨p, ys, o3, rfl, s2, e2, nd2, b2, iff2⟩
      rw [List.length_map, List.take_length] at iff2
      refine ⟨_, rfl, (by show 0 ≤ sizeLine; decide), fun e he => ?_⟩
      have sE : Same H2 (upd H2 e (.tup [])) := smNew he
      refine ⟨dV ys, dV [], dp_v (smTup sE (.of e2)), dp_v (.of upd_same), shaped_v ys, shaped_v [], ?_⟩
      rw [eqv_v]
      refine q _ _ (s2.trans sE) ?_
      cases ys with
      | nil => exact ⟨fun z => (by cases z), fun ⟨y, hy⟩ => (by cases (iff2 y).mpr hy)⟩
      | cons a r => exact ⟨fun _ => ⟨a, (iff2 a).mp (by simp)⟩, fun _ => by rw [decide_eq_false (List.cons_ne_nil _ _)]; rfl⟩
def spTrace (K : PySem.W.Frag) : Sp := fun vs H Q _ => ∃ (m ta fa : Addr) (M : Mch) (ws : List Str), vs = [.ref m, .ref ta, .ref fa] ∧ MAt K H m M ∧ SqL K H ta (ws.map V.str) ∧ (∀ w ∈ ws, w ≠ "") ∧ SqT K H fa (frXY.map V.str) ∧
  ∀ (H' : Hp) (b : Bool), Same H H' → (b = true ↔ HasTr M frXY ws) → Q (.bl b) H'
theorem ok_is_trace (T : Txt K mg) : GFn P w K mg base 5 "is_trace" (spTrace K) := by
  refine T.okG h_is_trace rfl (by decide +kernel) sc_is_trace rfl rfl b_is_trace (fun vs H Q E h => ?_) (fun cdv A outer s H vs Q E hr h => ?_)
  · obtain ⟨m, ta, fa, M, ws, rfl, _⟩ := h
    rfl
  · obtain ⟨m, ta, fa, M, ws, rfl, hm, ht, hw, hf, q⟩ := h
    refine ⟨_, (pss_cons (ps_expr (pe_f (ok_check_kinds T) (hr.mono (by decide)) (pa_cons (pv 2) pa_nil)))
        (pss_one (ps_ret (pe_m (pe_mk (ok_View_init T) (hr.mono (by decide)) (pa_cons (pv 0) (pa_cons (pv 2) pa_nil))) (ok_View_has T) (hr.mono (by decide)) (pa_cons (pv 1) pa_nil))))), ?_⟩
    refine ⟨_, rfl, fa, rfl, hf, fun H1 s1 => ?_⟩
    refine ⟨_, rfl, _, rfl, fun x dx hx hdx ndx => ?_⟩
    have s2 : Same H1 (upd (upd H1 dx (.own x)) x (.ins (He.ga K "View") dx [])) := smMut (smNew hdx) hx
    refine ⟨x, dx, m, fa, M, frXY, rfl, upd_same, hm.sm (s1.trans s2), smTup (s1.trans s2) hf, fun H3 hd sd wh wn pa sb3 pc3 => ⟨rfl, ?_⟩⟩
    have s3 : Same H H3 := s1.trans (same_but hx s2 sb3)
    exact ⟨x, dx, _, rfl, pc3.v, rfl, _, rfl, x, ta, M, frXY, ws, rfl, ⟨hm.ok, dx, hd, sd, wh, wn, pa, pc3⟩, s3.seq ht, hw, fun H' b s4 hb => q H' b (s3.trans s4) hb⟩
end
end Al
set_option maxHeartbeats 4000000
/-! D12: traced. -/
namespace Al
open PySem PySem.Spec PyProof.Rows L2
section
variable {P : Program} {w : World} {K : PySem.W.Frag} {mg : Str → Option Value} {base : Heap}
theorem paired_rev {α β : Type} {F : α → β → Prop} : ∀ {xs : List α} {ys : List β}, Paired F xs ys → Paired F xs.reverse ys.reverse
  | _, _, .nil => .nil
  | x :: xs, y :: ys, .cons a b => by
    rw [List.reverse_cons, List.reverse_cons]
    exact paired_app (paired_rev b) (.cons a .nil)
def spTraced (P : Program) (w : World) (K : PySem.W.Frag) : Sp := fun vs H Q _ => ∃ (d na : Addr) (og : Org) (nd : Node) (p : List Stp), vs = [.ref d, .ref na] ∧ OrgAt P w K H d og ∧ NodeR K H na nd ∧ Chain og nd p ∧ p.length < 1000000 ∧
  ∀ (H' : Hp) (l : Addr) (as : List Addr), Same H H' → H' l = some (.lst (as.map V.ref)) → StpsAt H' as p → Q (.ref l) H'
theorem ok_traced (T : Txt K mg) : GFn P w K mg base 2 "traced" (spTraced P w K) := by
  refine T.okG h_traced rfl (by decide +kernel) sc_traced rfl rfl b_traced (fun vs H Q E h => ?_) (fun cdv A outer s H vs Q E hr h => ?_)
  · obtain ⟨d, na, og, nd, p, rfl, _⟩ := h
    rfl
  · obtain ⟨d, na, og, nd, p, rfl, ho, hna, hc, plen, q⟩ := h
    refine ⟨_, (pss_cons (ps_l (i := 2) sc_traced.nd rfl rfl (pe_lst pa_nil))
        (pss_cons (ps_while PassesOwn.never (pt_cmp (pc_notN (pe_nget (hu9 hr) (pv 0) (pv 1) (fun _ _ => rfl))) rfl)
        (pss_cons (ps_asg (pe_nget (hu9 hr) (pv 0) (pv 1) (fun _ _ => rfl)) (pg_t K 3 rfl (pgs_cons (pg_l (i := 3) sc_traced.nd rfl rfl) (pgs_cons (pg_l (i := 4) sc_traced.nd rfl rfl) (pgs_cons (pg_l (i := 5) sc_traced.nd rfl rfl) pgs_nil)))))
          (pss_cons (ps_expr (pe_bm PySem.F.plainAttrs_list PySem.F.slot_list_append PySem.F.type_list_append mt_append (pv 2) (pa_cons (pv 5) pa_nil)))
          (pss_one (ps_l (i := 1) sc_traced.nd rfl rfl (pe_tup (pa_cons (pv 3) (pa_cons (pv 4) pa_nil))))))))
        (pss_one (ps_ret (pe_revL (pv 2)))))), ?_⟩
    refine ⟨(by show 0 ≤ sizeLine; decide), fun fl hfl => ?_⟩
    refine ⟨fun mu σ H' => ∃ (na : Addr) (nd : Node) (p1 : List Stp) (fs : List Stp) (as : List Addr) (o3 o4 o5 : Option V), σ = [some (.ref d), some (.ref na), some (.ref fl), o3, o4, o5] ∧ Same H H' ∧ H' fl = some (.lst (as.map V.ref)) ∧ StpsAt H' as fs ∧
      NodeR K H' na nd ∧ Chain og nd p1 ∧ p = p1 ++ fs.reverse ∧ mu = p1.length, ⟨_, na, nd, p, [], [], _, _, _, rfl, smNew hfl, upd_same, .nil, nodeR_sm _ _ _ _ (smNew hfl) hna, hc, by simp, rfl⟩, ?_⟩
    rintro mu σ H1 ⟨na, nd, p1, fs, as, o3, o4, o5, rfl, s1, efl, hfs, hnd, hch, rfl, rfl⟩
    obtain ⟨es, hnds, hpr, hnod⟩ := ho.sm s1
    have look : ∀ o, (nd, o) ∈ og → ∃ v, nget es (nkNode nd) = some v ∧ OrgV K H1 v o := fun o ho => by
      rcases org_find nd hpr with ⟨_, b⟩ | ⟨v, q, a, b, c⟩
      · exact absurd (List.mem_map.mpr ⟨_, ho, rfl⟩) b
      · exact ⟨v, a, org_one hnod b ho ▸ c⟩
    cases hch with
    | nil hin =>
      obtain ⟨v, gv, ev⟩ := look _ hin
      have ev : v = .non := ev
      subst ev
      refine ⟨_, rfl, _, rfl, d, es, nkNode nd, na, .non, rfl, hnds, hnd.key, gv, false, rfl, ?_⟩
      refine ⟨_, rfl, fl, _, rfl, .of efl, fun l hl => q _ l as.reverse (s1.trans (smNew hl)) (by rw [upd_same, List.map_reverse]) ?_⟩
      rw [List.nil_append]
      exact paired_rev (hfs.sm (smNew hl))
    | @cons _ nd' t p0 hin hch' =>
      obtain ⟨v, gv, ev⟩ := look _ hin
      obtain ⟨a, va, ta, rfl, ha, hva, hta⟩ := ev
      have alen : as.length = fs.length := Paired.length hfs
      rw [List.length_append, List.length_append, List.length_reverse] at plen
      refine ⟨_, rfl, _, rfl, d, es, nkNode nd, na, .ref a, rfl, hnds, hnd.key, gv, true, rfl, _, fun _ _ h => h, ?_⟩
      refine ⟨_, rfl, _, rfl, d, es, nkNode nd, na, .ref a, rfl, hnds, hnd.key, gv, a, _, rfl, SqT.of ha, rfl, _, _, rfl, _, _, rfl, _, _, rfl, rfl, ?_⟩
      refine ⟨_, rfl, .inl ⟨rfl, _, .of efl⟩, _, rfl, fl, _, _, rfl, rfl, efl, szLt (by rw [List.length_map]; omega), ?_⟩
      have s2 : Same H (upd H1 fl (.lst (as.map V.ref ++ [.ref ta]))) := smMut s1 hfl
      have keep : ∀ b xs, H1 b = some (.tup xs) → (upd H1 fl (.lst (as.map V.ref ++ [.ref ta]))) b = some (.tup xs) := fun b xs hb => (upd_ne fun z => by rw [z, efl] at hb; cases hb).trans hb
      have hta2 : StpR (upd H1 fl (.lst (as.map V.ref ++ [.ref ta]))) ta t := keep _ _ hta
      have hva2 : VecR K (upd H1 fl (.lst (as.map V.ref ++ [.ref ta]))) va nd'.2 := sqT_sb2 efl (fun _ z => by cases z) (fun _ _ z => by cases z) .upd hva
      have hfs2 : StpsAt (upd H1 fl (.lst (as.map V.ref ++ [.ref ta]))) (as ++ [ta]) (fs ++ [t]) := paired_app (Paired.mapP hfs fun x y z => keep _ _ z) (.cons hta2 .nil)
      have efl2 : (upd H1 fl (.lst (as.map V.ref ++ [.ref ta]))) fl = some (.lst ((as ++ [ta]).map V.ref)) := by rw [upd_same, List.map_append]; rfl
      generalize upd H1 fl (.lst (as.map V.ref ++ [.ref ta])) = H2 at s2 hva2 hfs2 efl2
      refine ⟨_, rfl, _, rfl, (by show 2 ≤ sizeLine; decide), fun n2 hn2 => ⟨p0.length, (by rw [List.length_append, List.length_singleton]; omega), n2, nd', p0, fs ++ [t], as ++ [ta], _, _, _, rfl, s2.trans (smNew hn2), smNew hn2 _ _ efl2, hfs2.sm (smNew hn2), ⟨va, upd_same, smTup (smNew hn2) hva2⟩, hch', ?_, rfl⟩⟩
      rw [List.reverse_append, List.reverse_singleton, List.append_assoc]
end
end Al
set_option maxHeartbeats 4000000
/-! D13: shortest. -/
namespace Al
open PySem PySem.Spec PyProof.Rows L2
section
variable {P : Program} {w : World} {K : PySem.W.Frag} {mg : Str → Option Value} {base : Heap}
/-! ### another thing written anew -/
section
variable {H H' : Hp} {x : Addr} {o : HO} (hx : H x = some o) (n1 : ∀ ys, o ≠ .tup ys) (n2 : ∀ od u, o ≠ .frz od u) (e : Sbut x H H')
include hx n1 n2 e
mutual
theorem NkV.sb2 : ∀ (k : NK) (v : V), NkV K H k v → NkV K H' k v
  | .none, _, h => by cases h
  | .num i, _, h => by cases h; exact .int i
  | .text i, _, h => by cases h; exact .str i
  | .tup ks, _, h => by
    cases h with
    | tup h1 h2 => exact .tup (sqT_sb2 hx n1 n2 e h1) (NkAll.sb2 ks _ h2)
theorem NkAll.sb2 : ∀ (ks : List NK) (vs : List V), NkAll K H ks vs → NkAll K H' ks vs
  | [], _, h => by cases h; exact .nil
  | k :: ks, _, h => by
    cases h with
    | cons h1 h2 => exact .cons (NkV.sb2 k _ h1) (NkAll.sb2 ks _ h2)
end
theorem tup_sb2 {a : Addr} {ys : List V} (h : H a = some (.tup ys)) : H' a = some (.tup ys) := e _ _ (fun z => by rw [z, hx] at h; exact n1 _ (Option.some.inj h)) h
theorem NodeR.sb2 {a : Addr} {nd : Node} (h : NodeR K H a nd) : NodeR K H' a nd := let ⟨va, p, q⟩ := h; ⟨va, tup_sb2 hx n1 n2 e p, sqT_sb2 hx n1 n2 e q⟩
theorem OrgV.sb2 {v : V} : ∀ {q : Option (Node × Stp)}, OrgV K H v q → OrgV K H' v q
  | none, h => h
  | some (nd, t), ⟨a, va, ta, y, p, q, r⟩ => ⟨a, va, ta, y, tup_sb2 hx n1 n2 e p, sqT_sb2 hx n1 n2 e q, tup_sb2 hx n1 n2 e r⟩
theorem OrgAt.sb2 {d : Addr} {og : Org} (hd : d ≠ x) (h : OrgAt P w K H d og) : OrgAt P w K H' d og := let ⟨es, a, b, c⟩ := h; ⟨es, ⟨e _ _ hd a.ob, fun p hp => ⟨NkV.sb2 hx n1 n2 e _ _ (a.ks p hp).1, (a.ks p hp).2⟩⟩, Paired.mapP b fun q r z => ⟨z.1, z.2.sb2 hx n1 n2 e⟩, c⟩
end
theorem blNo {p : Prop} [Decidable p] (h : ¬ p) : V.bl (decide p) = V.bl false := by rw [decide_eq_false h]
theorem rep_zeros : ∀ k : Nat, (List.replicate k [V.int 0]).flatten = (zeros k).map V.int
  | 0 => rfl
  | k + 1 => by
    rw [List.replicate_succ, List.flatten_cons, rep_zeros k]
    rfl
def dNode (nd : Node) : PyData := .tuple [.int nd.1, dV nd.2]
theorem dp_node {H : Hp} {a : Addr} {nd : Node} (h : NodeR K H a nd) : Dp K H (.ref a) (dNode nd) := let ⟨va, x, y⟩ := h; .tup (SqT.of x) (.cons (.int _) (.cons (dp_v y) .nil))
theorem dp_nodes {H : Hp} : ∀ {as : List Addr} {ns : List Node}, Paired (NodeR K H) as ns → DpAll K H (as.map V.ref) (ns.map dNode)
  | _, _, .nil => .nil
  | _, _, .cons a b => .cons (dp_node a) (dp_nodes b)
theorem lay_nodes : ∀ ns : List Node, PyData.canLayAll0 (ns.map dNode) = true
  | [] => rfl
  | n :: ns => by
    show (PyData.canLay0 (dNode n) && PyData.canLayAll0 (ns.map dNode)) = true
    rw [lay_nodes ns]
    have e : PyData.canLay0 (dNode n) = true := by
      show (PyData.canLay0 (.int n.1) && (PyData.canLay0 (dV n.2) && PyData.canLayAll0 [])) = true
      have e2 : PyData.canLay0 (dV n.2) = true := lay_ints n.2
      rw [e2]
      rfl
    rw [e]
    rfl
theorem depth_nodes : ∀ ns : List Node, PyData.depthAll (ns.map dNode) ≤ 2
  | [] => by simp [PyData.depthAll]
  | n :: ns => by
    show PyData.depthAll (dNode n :: ns.map dNode) ≤ 2
    have ih := depth_nodes ns
    rw [PyData.depthAll]
    have e : PyData.depth (dNode n) ≤ 2 := by
      unfold dNode
      rw [PyData.depth, PyData.depthAll, PyData.depthAll, PyData.depthAll]
      have e1 : PyData.depth (dV n.2) = 1 := by unfold dV; rw [PyData.depth, PySem.W.depth_ints n.2]
      have e2 : PyData.depth (.int n.1) = 0 := by simp [PyData.depth]
      omega
    omega
theorem shaped_nodes (ns : List Node) : SeqAt.shaped (.list (ns.map dNode)) = true := by
  unfold SeqAt.shaped
  have e : PyData.canLay0 (.list (ns.map dNode)) = true := lay_nodes ns
  rw [e, PyData.depth]
  have := depth_nodes ns
  simp
  omega
def spShortest (K : PySem.W.Frag) : Sp := fun vs H Q _ => ∃ (m ga la : Addr) (M : Mch) (ss : List Int) (lims : List (Option Int)), vs = [.ref m, .ref ga, .ref la] ∧ MAt K H m M ∧ SqT K H ga (ss.map V.int) ∧ SqT K H la (lims.map lv) ∧ lims.length = M.kinds.length ∧
  (∀ H', Same H H' → (∀ nd p, PPath M (lims.map (cutL M.n)) nd p → nd.1 ∉ ss) → Q .non H') ∧
  (∀ (H' : Hp) (l : Addr) (as : List Addr) (p : List Stp) (nd : Node), Same H H' → H' l = some (.lst (as.map V.ref)) → StpsAt H' as p → PPath M (lims.map (cutL M.n)) nd p → nd.1 ∈ ss → (∀ t ∈ p, t.s ∉ ss) → p.length < 1000000 → Q (.ref l) H')
theorem ok_shortest (T : Txt K mg) : GFn P w K mg base 3 "shortest" (spShortest K) := by
  refine T.okG h_shortest rfl (by decide +kernel) sc_shortest rfl rfl b_shortest (fun vs H Q E h => ?_) (fun cdv A outer s H vs Q E hr h => ?_)
  · obtain ⟨m, ga, la, M, ss, lims, rfl, _⟩ := h
    rfl
  · obtain ⟨m, ga, la, M, ss, lims, rfl, hm, hg, hl, llen, qN, qS⟩ := h
    refine ⟨_, (pss_cons (ps_setDcg (i := 3) (own := [("spot", 12), ("kind", 13)]) dkindK rfl sc_shortest.nd rfl rfl (swd_true rfl rfl rfl (by decide +kernel)) (pi_enum (by rfl) (T.f "enumerate") (pa_cons (pe_at (T.c "Machine") (T.n "Machine" "kinds") (pv 0)) pa_nil)) (blkOk_by (own := [("spot", 12), ("kind", 13)]) (N := N_shortest) (sc := defScope s_shortest) (by decide +kernel)) ⟨(fun _ _ _ _ _ => (pg_t K 2 rfl (pgs_cons (pg_l (i := 12) sc_shortest.nd rfl rfl) (pgs_cons (pg_l (i := 13) sc_shortest.nd rfl rfl) pgs_nil)))), (fun _ _ _ _ _ => pts_nil), (fun _ _ _ _ _ => (pv 13)), (fun _ _ _ _ _ => (pv 12))⟩)
        (pss_cons (ps_setLc (i := 2) (own := [("limit", 14)]) rfl sc_shortest.nd rfl rfl (sw_true rfl rfl rfl (by decide +kernel)) (pi_tup (pv 2)) (blkOk_by (own := [("limit", 14)]) (N := N_shortest) (sc := defScope s_shortest) (by decide +kernel)) (fun _ _ _ _ _ => (pg_l (i := 14) sc_shortest.nd rfl rfl)) (fun _ _ _ _ _ => pts_nil) (fun _ _ _ _ _ => (pe_ifExp (PW.pt (pw_or (pt_cmp (pc_isN (pv 14)) rfl) (pw_or1 (pt_cmpR op_ge (pv 14) (pe_at (T.c "Machine") (T.n "Machine" "many") (pv 0)) (nomark _))))) pe_non (pv 14))))
        (pss_cons (ps_l (i := 4) sc_shortest.nd rfl rfl (pe_tup (pa_cons pe_int (pa_cons (pe_callTy (cTuple K) (by rfl) (T.f "tuple") (by decide +kernel) (pa_cons (pe_op op_rep (pe_lst (pa_cons pe_int pa_nil)) (pe_callB call_lenD (by rfl) (T.f "len") (by decide +kernel) (pa_cons (pv 3) pa_nil))) pa_nil)) pa_nil))))
        (pss_cons (ps_l (i := 5) sc_shortest.nd rfl rfl (pe_ndisp (hu9 hr) (pv 4) pe_non))
        (pss_cons (ps_l (i := 6) sc_shortest.nd rfl rfl (pe_lst (pa_cons (pv 4) pa_nil)))
        (pss_cons (ps_while PassesOwn.never (pt_cmpR (op_neDK K hr.units) (pv 6) (pe_lst pa_nil) (nomark _))
        (pss_cons (ps_l (i := 7) sc_shortest.nd rfl rfl (pe_lst pa_nil))
          (pss_cons (ps_for PassesOwn.never rfl (pi_list (pe_callTy (cList K) (by rfl) (T.f "list") (by decide +kernel) (pa_cons (pv 6) pa_nil))) (pg_t K 2 rfl (pgs_cons (pg_l (i := 8) sc_shortest.nd rfl rfl) (pgs_cons (pg_l (i := 9) sc_shortest.nd rfl rfl) pgs_nil)))
          (pss_cons (ps_if (pt_cmpR (op_inK K) (pv 8) (pv 1) rfl) 
            (pss_one (ps_ret (pe_f (ok_traced T) (hr.mono (by decide)) (pa_cons (pv 5) (pa_cons (pe_tup (pa_cons (pv 8) (pa_cons (pv 9) pa_nil))) pa_nil)))))
            pss_nil)
            (pss_one (ps_for PassesOwn.never rfl (pi_list (pe_dget (hu_of hr) (pe_at (T.c "Machine") (T.n "Machine" "ways") (pv 0)) (pv 8) (fun _ _ => rfl))) (pg_l (i := 10) sc_shortest.nd rfl rfl)
            (pss_cons (ps_l (i := 11) sc_shortest.nd rfl rfl (pv 9))
              (pss_cons (ps_if (pt_cmpR op_ne (pe_ix (ixT K) (pv 10) pe_int (fun _ _ => rfl)) pe_str (nomark _)) 
              (pss_cons (ps_l (i := 12) sc_shortest.nd rfl rfl (pe_dget (hu_of hr) (pv 3) (pe_ix (ixT K) (pv 10) pe_int (fun _ _ => rfl)) (fun _ _ => rfl)))
                (pss_one (ps_l (i := 11) sc_shortest.nd rfl rfl (pe_tup (StX.pa_star (pe_slice (sl_cut K) (pv 9) po_none (po_some (pv 12))) (pa_cons (pe_f (ok_capped T) (hr.mono (by decide)) (pa_cons (pe_ix (ixT K) (pv 9) (pv 12) (fun _ _ => rfl)) (pa_cons (pe_ix (ixL K) (pv 2) (pv 12) (fun _ _ => rfl)) pa_nil))) (StX.pa_star (pe_slice (sl_cut K) (pv 9) (po_some (pe_op op_add (pv 12) pe_int)) po_none) pa_nil)))))))
              pss_nil)
              (pss_one (ps_if (PW.pt (pw_and (pt_val (pe_f (ok_is_within T) (hr.mono (by decide)) (pa_cons (pv 11) (pa_cons (pv 2) pa_nil)))) (pw_and1 (pt_cmp (pc_nnotin (hu9 hr) (pe_tup (pa_cons (pe_ix (ixT K) (pv 10) pe_int (fun _ _ => rfl)) (pa_cons (pv 11) pa_nil))) (pv 5)))))) 
              (pss_cons (ps_nput (hu9 hr) (pv 5) (pe_tup (pa_cons (pe_ix (ixT K) (pv 10) pe_int (fun _ _ => rfl)) (pa_cons (pv 11) pa_nil))) (pe_tup (pa_cons (pv 8) (pa_cons (pv 9) (pa_cons (pv 10) pa_nil)))) rfl)
                (pss_one (ps_expr (pe_bm PySem.F.plainAttrs_list PySem.F.slot_list_append PySem.F.type_list_append mt_append (pv 7) (pa_cons (pe_tup (pa_cons (pe_ix (ixT K) (pv 10) pe_int (fun _ _ => rfl)) (pa_cons (pv 11) pa_nil))) pa_nil)))))
              pss_nil))))))))
          (pss_one (ps_l (i := 6) sc_shortest.nd rfl rfl (pv 7))))))
        (pss_one (ps_ret pe_non)))))))), ?_⟩
    have ok := hm.ok
    have n1 := ok.n1
    have n2 := ok.n2
    have k2 := ok.k2
    obtain ⟨dx, ts, wd, kl, fs, sa, wa, pc⟩ := hm.pc
    refine ⟨_, rfl, m, dx, _, _, rfl, pc.m, pc.kinds, kl, _, rfl, .of pc.kl, ?_⟩
    refine dk_spots pc.kl ok.knd (by omega) (fun i k T H hT Kt kt => ⟨T, _, rfl, SqT.of hT, rfl, _, _, rfl, _, _, rfl, rfl, rfl, _, rfl, _, rfl, kt⟩) fun pd H1 hpd s1 e1 => ?_
    refine ⟨_, rfl, la, rfl, ⟨_, smTup s1 hl⟩, ?_⟩
    refine lcMapT (fun l => some (lv (cutL M.n l))) (smTup s1 hl) (by omega) ?_ ?_
    · intro u H2 hu s2 Kt k
      have pc2 := pc.sm (s1.trans s2)
      have k1 := k H2 (Same.refl _)
      cases u with
      | none => exact ⟨rfl, _, rfl, true, blT rfl, k1⟩
      | some y =>
        refine ⟨rfl, _, rfl, false, blNo (by intro z; cases z), _, rfl, _, rfl, m, dx, _, _, rfl, pc2.m, pc2.many, y, M.n, rfl, rfl, ?_⟩
        by_cases e : (M.n : Int) ≤ y
        · refine ⟨true, blT e, ?_⟩
          rw [show lv (cutL M.n (some y)) = .non by unfold cutL; dsimp only; rw [if_pos e]; rfl] at k1
          exact k1
        · refine ⟨false, blNo e, _, rfl, ?_⟩
          rw [show lv (cutL M.n (some y)) = .int y by unfold cutL; dsimp only; rw [if_neg e]; rfl] at k1
          exact k1
    · intro ll H2 hll s2 e2
      rw [filterMap_some] at e2
      refine ⟨(by show 1 ≤ sizeLine; decide), fun z0 hz0 => ?_⟩
      have e1b : (upd H2 z0 (.lst [.int 0])) pd = some (.dK (spotK M.kinds)) := smNew hz0 _ _ (s2 _ _ e1)
      have splen : (spotK M.kinds).length = M.kinds.length := by have := congrArg List.length (spotK_keys M.kinds); rwa [List.length_map, List.length_map] at this
      refine ⟨_, rfl, pd, _, rfl, e1b, z0, _, _, rfl, rfl, upd_same, by omega, ?_⟩
      rw [splen]
      refine ⟨by omega, (by rw [List.length_singleton, Nat.one_mul]; exact szOf (by omega)), fun z1 hz1 => ?_⟩
      rw [show ((M.kinds.length : Int).toNat) = M.kinds.length from rfl, rep_zeros] at *
      have sz1 : Same H2 (upd (upd H2 z0 (.lst [.int 0])) z1 (.lst ((zeros M.kinds.length).map V.int))) := (smNew hz0).trans (smNew hz1)
      dsimp only [tNil]
      refine ⟨z1, _, rfl, .inl ⟨.of upd_same, fun z2 hz2 => ?_⟩⟩
      refine ⟨(by show 2 ≤ sizeLine; decide), fun sA hsA => ?_⟩
      have ez2 := smNew hsA (o := .tup [.int 0, .ref z2]) z2 _ (upd_same (o := .tup ((zeros M.kinds.length).map V.int)))
      have esA := upd_same (H := upd (upd (upd H2 z0 (.lst [.int 0])) z1 (.lst ((zeros M.kinds.length).map V.int))) z2 (.tup ((zeros M.kinds.length).map V.int))) (a := sA) (o := .tup [.int 0, .ref z2])
      have s3 := sz1.trans ((smNew hz2 (o := .tup ((zeros M.kinds.length).map V.int))).trans (smNew hsA (o := .tup [.int 0, .ref z2])))
      generalize upd (upd (upd (upd H2 z0 (.lst [.int 0])) z1 (.lst ((zeros M.kinds.length).map V.int))) z2 (.tup ((zeros M.kinds.length).map V.int))) sA (.tup [.int 0, .ref z2]) = HB at s3 ez2 esA
      have sB : Same H HB := s1.trans (s2.trans s3)
      have epd : HB pd = some (.dK (spotK M.kinds)) := s3 _ _ (s2 _ _ e1)
      have ell : HB ll = some (.lst ((lims.map (cutL M.n)).map lv)) := by rw [List.map_map]; exact s3 _ _ e2
      have nsA : NodeR K HB sA (0, zeros M.kinds.length) := ⟨z2, esA, .of ez2⟩
      have pcB := pc.sm sB
      have hgB := smTup sB hg
      have qN : ∀ H', Same HB H' → (∀ nd p, PPath M (lims.map (cutL M.n)) nd p → nd.1 ∉ ss) → Q .non H' := fun H' s h => qN H' (sB.trans s) h
      have qS : ∀ (H' : Hp) (l : Addr) (as : List Addr) (p : List Stp) (nd : Node), Same HB H' → H' l = some (.lst (as.map V.ref)) → StpsAt H' as p → PPath M (lims.map (cutL M.n)) nd p → nd.1 ∈ ss → (∀ t ∈ p, t.s ∉ ss) → p.length < 1000000 → Q (.ref l) H' := fun H' l as p nd s h => qS H' l as p nd (sB.trans s) h
      have llen2 : (lims.map (cutL M.n)).length = M.kinds.length := by rw [List.length_map, llen]
      have lmax : ∀ x, some x ∈ lims.map (cutL M.n) → x < M.n := fun x hx => cutL_lt hx
      generalize lims.map (cutL M.n) = lims' at ell qN qS llen2 lmax
      clear ez2 esA s3 e1 e2 hz0 hz1 hz2 hsA sz1 e1b s1 s2 hpd hll
      refine fun od hod => ⟨_, rfl, _, _, nkNode (0, zeros M.kinds.length), sA, rfl, .emp upd_same, (nodeR_sm _ _ _ _ (smNew hod) nsA).key, ?_⟩
      rw [upd_upd]
      refine ⟨_, rfl, (by show 1 ≤ sizeLine; decide), fun lvl hlvl => ?_⟩
      have org0 : OrgAt P w K (upd (upd HB od (dN P w od [(nkNode (0, zeros M.kinds.length), sA, .non)])) lvl (.lst [.ref sA])) od [((0, zeros M.kinds.length), none)] := by
        refine OrgAt.sm (smNew hlvl) ⟨_, ⟨upd_same, fun p hp => ?_⟩, .cons ⟨rfl, rfl⟩ .nil, by simp⟩
        rw [List.mem_singleton.mp hp]
        exact ⟨(nodeR_sm _ _ _ _ (smNew hod) nsA).nk, nkNode_dep _⟩
      have in0 : NodeIn M.n M.kinds.length (0, zeros M.kinds.length) := by
        refine ⟨Int.le_refl 0, (by show (0 : Int) < M.n; omega), List.length_replicate .., fun x hx => ?_⟩
        rw [List.eq_of_mem_replicate hx]
        omega
      have sh0 : ShI M ss lims' [((0, zeros M.kinds.length), none)] (fun n => n ∈ [((0, zeros M.kinds.length) : Node)]) := by
        refine ⟨by simp, by simp, fun n hn => ?_, fun n hn => ?_, fun s v hs no => ?_⟩
        · rw [List.mem_singleton.mp hn]; exact in0
        · rw [List.mem_singleton.mp hn]
          exact ⟨[], .nil (by simp), .nil, (fun t ht => by cases ht), Nat.lt_succ_self 0⟩
        · exact absurd hs no
      refine ⟨fun mu σ H' => ∃ (og : Org) (L : List Node) (la : List Addr) (lv : Addr) (o7 o8 o9 o10 o11 o12 : Option V), σ = [some (.ref m), some (.ref ga), some (.ref ll), some (.ref pd), some (.ref sA), some (.ref od), some (.ref lv), o7, o8, o9, o10, o11, o12, none, none] ∧ Same HB H' ∧ OrgAt P w K H' od og ∧ H' lv = some (.lst (la.map V.ref)) ∧ Paired (NodeR K H') la L ∧
        ShI M ss lims' og (fun n => n ∈ L) ∧ L.Nodup ∧ (∀ n : Node, n ∈ L → n ∈ og.map (fun x : Node × Option (Node × Stp) => x.1)) ∧ mu = 2 * (1000000 - og.length) + (if L = [] then 0 else 1),
        ⟨_, _, [(0, zeros M.kinds.length)], [sA], lvl, _, _, _, _, _, _, rfl, (smNew hod).trans (smNew hlvl), org0, upd_same, .cons (nodeR_sm _ _ _ _ ((smNew hod).trans (smNew hlvl)) nsA) .nil, sh0, by simp, fun n hn => hn, rfl⟩, ?_⟩
      clear org0 in0 sh0 hlvl nsA
      rintro mu σ H6 ⟨og, L, lad, lvl, o7, o8, o9, o10, o11, o12, rfl, s6, ho6, elv, hL, shi, lnd, lin, rfl⟩
      refine ⟨_, rfl, (by show 0 ≤ sizeLine; decide), fun e1 he1 => ?_⟩
      have nlv : lvl ≠ e1 := fun z => by rw [z, he1] at elv; cases elv
      have sE := smNew he1 (o := .lst [])
      refine ⟨.list (L.map dNode), .list [], .lst (.of (sE _ _ elv)) (dp_nodes (Paired.mapP hL fun a n z => nodeR_sm _ _ _ _ sE z)), .lst (.of upd_same) .nil, shaped_nodes L, rfl, _, rfl, ?_⟩
      rw [eqv_nil, List.isEmpty_map]
      have s7 : Same HB (upd H6 e1 (.lst [])) := s6.trans sE
      have ho7 := ho6.sm sE
      have elv7 := sE _ _ elv
      have hL7 : Paired (NodeR K (upd H6 e1 (.lst []))) lad L := Paired.mapP hL fun a n z => nodeR_sm _ _ _ _ sE z
      generalize upd H6 e1 (.lst []) = H7 at s7 ho7 elv7 hL7
      clear ho6 elv hL s6
      cases eL : L with
      | nil =>
        subst eL
        exact qN _ s7 fun nd p hp => (shi.mono (op' := fun _ => False) fun g z => by cases z).none hp
      | cons l0 Lr =>
        rw [← eL]
        have Lne : L ≠ [] := by rw [eL]; exact List.cons_ne_nil _ _
        rw [show (!L.isEmpty) = true by rw [eL]; rfl]
        rw [if_neg Lne]
        refine ⟨_, fun _ _ h => h, (by show 0 ≤ sizeLine; decide), fun lt hlt => ?_⟩
        have nlt : HB lt = none := none_same s7 hlt
        have sLt := smNew hlt (o := .lst [])
        refine ⟨_, rfl, lvl, _, rfl, .inl (.of (sLt _ _ elv7)), fun cp hcp => ⟨cp, rfl, ⟨_, .of upd_same⟩, ?_⟩⟩
        have ncp : cp ≠ lt := fun z => by rw [z, upd_same] at hcp; cases hcp
        have sCp := smNew hcp (o := .lst (lad.map V.ref))
        have oglen := shi.len n2 k2
        refine for_it walk_list (fun i σ H' => ∃ (og1 : Org) (Lt : List Node) (lta : List Addr) (o8 o9 o10 o11 o12 : Option V), σ = [some (.ref m), some (.ref ga), some (.ref ll), some (.ref pd), some (.ref sA), some (.ref od), some (.ref lvl), some (.ref lt), o8, o9, o10, o11, o12, none, none] ∧ Same HB H' ∧ OrgAt P w K H' od og1 ∧
          H' lt = some (.lst (lta.map V.ref)) ∧ Paired (NodeR K H') lta Lt ∧ H' cp = some (.lst (lad.map V.ref)) ∧ Paired (NodeR K H') lad L ∧ ShI M ss lims' og1 (fun n => n ∈ L.drop i ∨ n ∈ Lt) ∧ Lt.Nodup ∧
          (∀ n : Node, n ∈ Lt → n ∈ og1.map (fun x : Node × Option (Node × Stp) => x.1)) ∧ (∀ n : Node, n ∈ L → n ∈ og1.map (fun x : Node × Option (Node × Stp) => x.1)) ∧ og1.length = og.length + Lt.length)
          ⟨og, [], [], o8, o9, o10, o11, o12, rfl, (s7.trans sLt).trans sCp, (ho7.sm sLt).sm sCp, (upd_ne ncp.symm).trans upd_same, .nil, upd_same, Paired.mapP hL7 fun a n z => nodeR_sm _ _ _ _ (sLt.trans sCp) z, shi.mono fun n hn => .inl hn, .nil, (fun n hn => by cases hn), lin, rfl⟩
          (fun i σ H' _ ⟨_, _, _, _, _, _, _, _, _, _, _, _, _, e, _⟩ => .of e) ?_ ?_
        · rintro i v σ H8 H9 hi ⟨og1, Lt, lta, o8, o9, o10, o11, o12, rfl, s8, ho8, elt8, hLt8, ecp8, hL8, shi8, ltnd, ltin, lin8, len8⟩ ⟨rfl, hv⟩
          rw [List.length_map] at hi
          rw [List.getElem?_map, List.getElem?_eq_getElem hi] at hv
          cases hv
          have lalen : lad.length = L.length := Paired.length hL8
          have hiL : i < L.length := by omega
          obtain ⟨nd0, end0, va, ha, hva⟩ := paired_get hL8 (List.getElem?_eq_getElem hi)
          rw [List.getElem?_eq_getElem hiL] at end0
          injection end0 with end0
          have ndin := lin8 nd0 (by rw [← end0]; exact List.getElem_mem hiL)
          obtain ⟨g0, g1, vlen, vbd⟩ := shi8.bd _ ndin
          have din : L.drop i = nd0 :: L.drop (i + 1) := by rw [← end0]; exact List.drop_eq_getElem_cons hiL
          have og1len := shi8.len n2 k2
          refine ⟨lad[i], _, rfl, SqT.of ha, rfl, _, _, rfl, _, _, rfl, rfl, ?_⟩
          refine ⟨_, rfl, _, rfl, ga, _, rfl, .inr (smTup s8 hgB), rfl, all_flatI _, ?_⟩
          rw [inV_int]
          by_cases eg : nd0.1 ∈ ss
          · rw [decide_eq_true eg]
            obtain ⟨p, pc1, pc2, pc3, pc4⟩ := shi8.so nd0 ndin
            refine ⟨true, rfl, _, rfl, _, rfl, _, rfl, (by show 2 ≤ sizeLine; decide), fun na hna => ⟨od, na, og1, nd0, p, rfl, ho8.sm (smNew hna), ⟨va, upd_same, smTup (smNew hna) hva⟩, pc1, by omega, fun H' l as s' el hst => qS H' l as p nd0 ((s8.trans (smNew hna)).trans s') el hst pc2 eg pc3 (by omega)⟩⟩
          · rw [decide_eq_false eg]
            refine ⟨false, rfl, ?_⟩
            obtain ⟨gi, egi⟩ := Int.eq_ofNat_of_zero_le g0
            have hgi : gi < M.n := by omega
            have pc8 := pcB.sm s8
            obtain ⟨wla, ela, hla⟩ := pcB.wl gi hgi
            have wlen : wla.length ≤ 1000 := by
              rw [Paired.length hla]
              exact Nat.le_trans (List.length_filter_le _ _) ok.len
            refine ⟨_, rfl, m, dx, _, _, rfl, pc8.m, pc8.ways, _, rfl, wd, .ref (wa gi), rfl, (by rw [egi]; exact pc8.way hgi), wa gi, rfl, ⟨_, .of (s8 _ _ ela)⟩, ?_⟩
            refine for_it walk_list (fun j σ H' => ∃ (og2 : Org) (Lt : List Node) (lta : List Addr) (o10 o11 o12 : Option V), σ = [some (.ref m), some (.ref ga), some (.ref ll), some (.ref pd), some (.ref sA), some (.ref od), some (.ref lvl), some (.ref lt), some (.int nd0.1), some (.ref va), o10, o11, o12, none, none] ∧ Same HB H' ∧ OrgAt P w K H' od og2 ∧
              H' lt = some (.lst (lta.map V.ref)) ∧ Paired (NodeR K H') lta Lt ∧ H' cp = some (.lst (lad.map V.ref)) ∧ Paired (NodeR K H') lad L ∧ VecR K H' va nd0.2 ∧ ShI M ss lims' og2 (fun n => (n ∈ L.drop (i + 1) ∨ n ∈ Lt) ∨ n = (nd0.1, nd0.2)) ∧ Lt.Nodup ∧
              (∀ n : Node, n ∈ Lt → n ∈ og2.map (fun x : Node × Option (Node × Stp) => x.1)) ∧ (∀ n : Node, n ∈ L → n ∈ og2.map (fun x : Node × Option (Node × Stp) => x.1)) ∧ og2.length = og.length + Lt.length ∧
              ∀ t : Stp, t ∈ (M.steps.filter fun t => decide (t.s = (gi : Int))).take j → belowB (capV M.kinds lims' nd0.2 t) lims' = true → (t.g, capV M.kinds lims' nd0.2 t) ∈ og2.map (fun x : Node × Option (Node × Stp) => x.1))
              ⟨og1, Lt, lta, o10, o11, o12, rfl, s8, ho8, elt8, hLt8, ecp8, hL8, hva, shi8.mono fun n hn => ?_, ltnd, ltin, lin8, len8, fun t ht => by rw [List.take_zero] at ht; cases ht⟩
              (fun j σ H' _ ⟨_, _, _, _, _, _, _, s, _⟩ => .of (s _ _ ela)) ?_ ?_
            · rw [din] at hn
              rcases hn with hn | hn
              · exact (List.mem_cons.mp hn).elim .inr fun z => .inl (.inl z)
              · exact .inl (.inr hn)
            · rintro j v σ H10 H11 hj ⟨og2, Lt, lta, o10, o11, o12, rfl, s10, ho10, elt10, hLt10, ecp10, hL10, hva10, shi10, ltnd, ltin, lin10, len10, tk10⟩ ⟨rfl, hv⟩
              rw [List.length_map] at hj
              rw [List.getElem?_map, List.getElem?_eq_getElem hj] at hv
              cases hv
              obtain ⟨t, htj, hta⟩ := paired_get (hla.sm s10) (List.getElem?_eq_getElem hj)
              have htf := List.mem_of_getElem? htj
              have ht := (List.mem_filter.mp htf).1
              have hts : t.s = nd0.1 := (of_decide_eq_true (List.mem_filter.mp htf).2).trans egi.symm
              have tok := ok.st t ht
              have tk := ok.kin t ht
              have ell10 := s10 _ _ ell
              refine ⟨_, rfl, _, rfl, wla[j], t.vs, 1, .str t.k, rfl, rfl, .of hta, rfl, rfl, _, rfl, ?_⟩
              by_cases ek : t.k = ""
              case' pos =>
                rw [show decide (V.str t.k = V.str "") = true by rw [ek]; simp]
                have s12 : Same H11 H11 := Same.refl _
                have hmo : VecR K H11 va (capV M.kinds lims' nd0.2 t) := by
                  unfold capV
                  rw [if_pos ek]
                  exact hva10
                obtain ⟨H12, eH⟩ : ∃ x, x = H11 := ⟨_, rfl⟩
                have s12 : Same H11 H12 := eH ▸ s12
                rw [← eH]
                obtain ⟨mo, emo⟩ : ∃ x, x = va := ⟨_, rfl⟩
                have hmo : VecR K H12 mo (capV M.kinds lims' nd0.2 t) := by rw [emo]; exact eH ▸ hmo
                rw [show ∀ l : L2.St, l.set 11 (some (V.ref va)) = l.set 11 (some (V.ref mo)) from fun l => by rw [emo]]
              case' neg =>
                rw [show decide (V.str t.k = V.str "") = false from decide_eq_false fun z => ek (by injection z)]
                have hki := tk ek
                obtain ⟨sp, esp⟩ : ∃ sp, sp = M.kinds.idxOf t.k := ⟨_, rfl⟩
                have hsp : sp < M.kinds.length := by rw [esp]; exact List.idxOf_lt_length_of_mem hki
                have gsp : M.kinds[sp]? = some t.k := by
                  rw [List.getElem?_eq_getElem hsp]
                  congr 1
                  subst esp
                  exact List.getElem_idxOf hsp
                have hspv : sp < nd0.2.length := by omega
                have hspl : sp < lims'.length := by omega
                have dg := DGet.k (k := .inr t.k) (s10 _ _ epd)
                rw [spotK_get ok.knd gsp] at dg
                refine ⟨_, rfl, _, rfl, wla[j], t.vs, 1, .str t.k, rfl, rfl, .of hta, rfl, pd, _, rfl, dg, ?_⟩
                refine ⟨_, rfl, _, rfl, (sp : Int), rfl, va, _, rfl, hva10, fun p Ha sHa hp => ⟨p, _, rfl, .inl hp, ?_⟩⟩
                refine ⟨_, rfl, _, rfl, va, _, (sp : Int), .int nd0.2[sp], rfl, rfl, smTup sHa hva10, atV hspv, ?_⟩
                refine ⟨_, rfl, _, rfl, ll, _, (sp : Int), lv lims'[sp], rfl, rfl, .of (sHa _ _ ell10), atI_nat (by rw [List.getElem?_map, List.getElem?_eq_getElem hspl]; rfl), nd0.2[sp], lims'[sp], rfl, ?_⟩
                refine ⟨_, rfl, _, rfl, (sp : Int), 1, rfl, rfl, (sp : Int) + 1, rfl, va, _, rfl, smTup sHa hva10, fun p2 Hb sHb hp2 => ⟨p2, _, rfl, .inl hp2, ?_⟩⟩
                have ev : capV M.kinds lims' nd0.2 t = nd0.2.take sp ++ (if lims'[sp] = none then nd0.2[sp] else nd0.2[sp] + 1) :: nd0.2.drop (sp + 1) := by
                  unfold capV
                  rw [if_neg ek, ← esp, List.getD_eq_getElem?_getD, List.getElem?_eq_getElem hspv, List.getD_eq_getElem?_getD, List.getElem?_eq_getElem hspl, Option.getD_some, Option.getD_some]
                  cases lims'[sp] <;> rfl
                have eq2 : cutV (nd0.2.map V.int) none (some (sp : Int)) ++ (V.int (if lims'[sp] = none then nd0.2[sp] else nd0.2[sp] + 1) :: (cutV (nd0.2.map V.int) (some ((sp : Int) + 1)) none ++ [])) = (capV M.kinds lims' nd0.2 t).map V.int := by
                  rw [ev, List.map_append, List.map_cons, List.map_take, List.map_drop, show ((sp : Int) + 1) = ((sp + 1 : Nat) : Int) from rfl, cut_from, cut_to, List.append_nil]
                have hclen := capV_len (lims := lims') (t := t) vlen tk
                show _ ≤ _ ∧ _
                rw [eq2]
                refine ⟨(by rw [List.length_map, hclen]; exact szOf (by omega)), fun mo hmo0 => ?_⟩
                have s12 : Same H11 (upd Hb mo (.tup ((capV M.kinds lims' nd0.2 t).map V.int))) := (sHa.trans sHb).trans (smNew hmo0)
                have hmo : VecR K (upd Hb mo (.tup ((capV M.kinds lims' nd0.2 t).map V.int))) mo (capV M.kinds lims' nd0.2 t) := .of upd_same
                obtain ⟨H12, eH⟩ : ∃ x, x = upd Hb mo (.tup ((capV M.kinds lims' nd0.2 t).map V.int)) := ⟨_, rfl⟩
                rw [← eH] at s12 hmo ⊢
              all_goals
                clear eH
                have hclen := capV_len (lims := lims') (t := t) vlen tk
                have sH : Same HB H12 := s10.trans s12
                have ho12 := ho10.sm s12
                have elt12 := s12 _ _ elt10
                have hLt12 : Paired (NodeR K H12) lta Lt := Paired.mapP hLt10 fun a n z => nodeR_sm _ _ _ _ s12 z
                have ecp12 := s12 _ _ ecp10
                have hL12 : Paired (NodeR K H12) lad L := Paired.mapP hL10 fun a n z => nodeR_sm _ _ _ _ s12 z
                have hva12 := smTup s12 hva10
                have hta12 : StpR H12 wla[j] t := s12 _ _ hta
                have ell12 := sH _ _ ell
                have htk : ∀ u : Stp, u ∈ (M.steps.filter fun t => decide (t.s = (gi : Int))).take (j + 1) → u ∈ (M.steps.filter fun t => decide (t.s = (gi : Int))).take j ∨ u = t := fun u hu => by
                  rw [List.take_add_one, htj] at hu
                  rcases List.mem_append.mp hu with hu | hu
                  · exact .inl hu
                  · exact .inr (List.mem_singleton.mp hu)
                refine ⟨_, rfl, _, rfl, _, ll, capV M.kinds lims' nd0.2 t, lims', rfl, hmo, .inl (.of ell12), (by rw [hclen]; omega), fun H13 s13 => ⟨_, rfl, ?_⟩⟩
                by_cases eb : belowB (capV M.kinds lims' nd0.2 t) lims' = true
                · rw [eb]
                  refine ⟨_, rfl, wla[j], t.vs, 3, .int t.g, rfl, rfl, .of (s13 _ _ hta12), rfl, _, rfl, (by show 2 ≤ sizeLine; decide), fun ka hka => ?_⟩
                  have s14 : Same H12 (upd H13 ka (.tup [.int t.g, .ref mo])) := s13.trans (smNew hka)
                  have nka : NodeR K (upd H13 ka (.tup [.int t.g, .ref mo])) ka (t.g, capV M.kinds lims' nd0.2 t) := ⟨mo, upd_same, smTup s14 hmo⟩
                  generalize upd H13 ka (.tup [.int t.g, .ref mo]) = H14 at s14 nka
                  have ho14 := ho12.sm s14
                  obtain ⟨es, hnds, hpr, hnod⟩ := id ho14
                  refine ⟨_, rfl, od, es, nkNode (t.g, capV M.kinds lims' nd0.2 t), ka, rfl, hnds, nka.key, _, rfl, ?_⟩
                  by_cases ein : (t.g, capV M.kinds lims' nd0.2 t) ∈ og2.map (fun x : Node × Option (Node × Stp) => x.1)
                  · have e : (nget es (nkNode (t.g, capV M.kinds lims' nd0.2 t))).isSome = true := (org_find _ hpr).elim (fun z => absurd ein z.2) fun ⟨v, o, a, b, c⟩ => by rw [a]; rfl
                    rw [e]
                    exact ⟨og2, Lt, lta, _, _, _, rfl, sH.trans s14, ho14, s14 _ _ elt12, Paired.mapP hLt12 fun a n z => nodeR_sm _ _ _ _ s14 z, s14 _ _ ecp12, Paired.mapP hL12 fun a n z => nodeR_sm _ _ _ _ s14 z, smTup s14 hva12, shi10, ltnd, ltin, lin10, len10, fun u hu hbu => (htk u hu).elim (fun z => tk10 u z hbu) fun e => by rw [e]; exact ein⟩
                  · have e : nget es (nkNode (t.g, capV M.kinds lims' nd0.2 t)) = none := (org_find _ hpr).elim (fun z => z.1) fun ⟨v, o, a, b, c⟩ => absurd (List.mem_map.mpr ⟨_, b, rfl⟩) ein
                    rw [e]
                    have inN := capV_in ⟨vlen, vbd⟩ ⟨tok.g0, tok.g1⟩ tk llen2 lmax eb
                    have small := nodes_small n2 k2 shi10.nd shi10.bd ein inN
                    rw [List.length_map] at small
                    have eslen : es.length = og2.length := Paired.length hpr
                    have new3 := shi10.add (v := nd0.2) (t := t) (by rw [hts]; exact end0 ▸ lin10 _ (List.getElem_mem hiL)) ht (by rw [hts]; exact eg) eb ein inN
                    refine ⟨_, rfl, _, rfl, _, rfl, (by show 3 ≤ sizeLine; decide), fun oa hoa => ?_⟩
                    have s15 : Same H12 (upd H14 oa (.tup [.int nd0.1, .ref va, .ref wla[j]])) := s14.trans (smNew hoa)
                    have eoa : (upd H14 oa (.tup [.int nd0.1, .ref va, .ref wla[j]])) oa = some (.tup [.int nd0.1, .ref va, .ref wla[j]]) := upd_same
                    generalize upd H14 oa (.tup [.int nd0.1, .ref va, .ref wla[j]]) = H15 at s15 eoa
                    refine ⟨_, rfl, _, rfl, wla[j], t.vs, 3, .int t.g, rfl, rfl, .of (s15 _ _ hta12), rfl, _, rfl, (by show 2 ≤ sizeLine; decide), fun kb hkb => ?_⟩
                    have s16 : Same H12 (upd H15 kb (.tup [.int t.g, .ref mo])) := s15.trans (smNew hkb)
                    have nkb : NodeR K (upd H15 kb (.tup [.int t.g, .ref mo])) kb (t.g, capV M.kinds lims' nd0.2 t) := ⟨mo, upd_same, smTup s16 hmo⟩
                    have eoa16 := smNew hkb (o := .tup [.int t.g, .ref mo]) _ _ eoa
                    generalize upd H15 kb (.tup [.int t.g, .ref mo]) = H16 at s16 nkb eoa16
                    have ho16 := ho12.sm s16
                    obtain ⟨es2, hnds2, hpr2, hnod2⟩ := id ho16
                    have es2len : es2.length = og2.length := Paired.length hpr2
                    refine ⟨od, es2, nkNode (t.g, capV M.kinds lims' nd0.2 t), kb, rfl, hnds2, szLt (by omega), nkb.key, ?_⟩
                    have ov : OrgV K H16 (.ref oa) (some ((t.s, nd0.2), t)) := ⟨oa, va, wla[j], rfl, by rw [hts]; exact eoa16, smTup s16 hva12, s16 _ _ hta12⟩
                    have ho17 := OrgAt.put hnds2 hpr2 hnod2 nkb ein ov
                    have hodx := hnds2.ob
                    have x1 : ∀ ys, dN P w od es2 ≠ .tup ys := fun _ z => by cases z
                    have x2 : ∀ q u, dN P w od es2 ≠ .frz q u := fun _ _ z => by cases z
                    have sb17 : Sbut od H16 (upd H16 od (dN P w od (nput es2 (nkNode (t.g, capV M.kinds lims' nd0.2 t)) kb (.ref oa)))) := .upd
                    have s17 : Same HB (upd H16 od (dN P w od (nput es2 (nkNode (t.g, capV M.kinds lims' nd0.2 t)) kb (.ref oa)))) := smMut (sH.trans s16) hod
                    have elt17 := sb17 lt _ (fun z => by have e := s16 _ _ elt12; rw [z, hodx] at e; cases e) (s16 _ _ elt12)
                    have ecp17 := sb17 cp _ (fun z => by have e := s16 _ _ ecp12; rw [z, hodx] at e; cases e) (s16 _ _ ecp12)
                    have hLt17 := Paired.mapP hLt12 fun a n z => NodeR.sb2 hodx x1 x2 sb17 (nodeR_sm _ _ _ _ s16 z)
                    have hL17 := Paired.mapP hL12 fun a n z => NodeR.sb2 hodx x1 x2 sb17 (nodeR_sm _ _ _ _ s16 z)
                    have hva17 := sqT_sb2 hodx x1 x2 sb17 (smTup s16 hva12)
                    have hmo17 := sqT_sb2 hodx x1 x2 sb17 (smTup s16 hmo)
                    have hta17 := tup_sb2 hodx x1 x2 sb17 (s16 _ _ hta12)
                    change L2.Ends.nx _ _ (upd H16 od (dN P w od (nput es2 (nkNode (t.g, capV M.kinds lims' nd0.2 t)) kb (.ref oa))))
                    generalize upd H16 od (dN P w od (nput es2 (nkNode (t.g, capV M.kinds lims' nd0.2 t)) kb (.ref oa))) = H17 at ho17 s17 elt17 ecp17 hLt17 hL17 hva17 hmo17 hta17
                    clear hnds2 hpr2 hnod2 hnds hpr hnod ov eoa16 nkb sb17 hodx
                    refine ⟨_, rfl, .inl ⟨rfl, _, .of elt17⟩, _, rfl, wla[j], t.vs, 3, .int t.g, rfl, rfl, .of hta17, rfl, _, rfl, (by show 2 ≤ sizeLine; decide), fun nb hnb => ?_⟩
                    have s18 : Same H17 (upd H17 nb (.tup [.int t.g, .ref mo])) := smNew hnb
                    have nnb : NodeR K (upd H17 nb (.tup [.int t.g, .ref mo])) nb (t.g, capV M.kinds lims' nd0.2 t) := ⟨mo, upd_same, smTup s18 hmo17⟩
                    generalize upd H17 nb (.tup [.int t.g, .ref mo]) = H18 at s18 nnb
                    have elt18 := s18 _ _ elt17
                    have y1 : ∀ ys, (.lst (lta.map V.ref) : HO) ≠ .tup ys := fun _ z => by cases z
                    have y2 : ∀ q u, (.lst (lta.map V.ref) : HO) ≠ .frz q u := fun _ _ z => by cases z
                    have ltlen : lta.length = Lt.length := Paired.length hLt17
                    have noL : lt ≠ od := fun z => by
                      obtain ⟨es3, n3, _⟩ := ho17.sm s18
                      have e := n3.ob
                      rw [← z, elt18] at e
                      cases e
                    refine ⟨lt, _, _, rfl, rfl, elt18, szLt (by rw [List.length_map]; omega), og2 ++ [((t.g, capV M.kinds lims' nd0.2 t), some ((t.s, nd0.2), t))], Lt ++ [(t.g, capV M.kinds lims' nd0.2 t)], lta ++ [nb], _, _, _, rfl, smMut (s17.trans s18) nlt, OrgAt.sb2 elt18 y1 y2 .upd noL.symm (ho17.sm s18), ?_, ?_, (upd_ne ncp).trans (s18 _ _ ecp17), ?_, ?_, new3.mono ?_, ?_, ?_, ?_, ?_, ?_⟩
                    · rw [upd_same, List.map_append]; rfl
                    · exact paired_app (Paired.mapP hLt17 fun a n z => NodeR.sb2 elt18 y1 y2 .upd (nodeR_sm _ _ _ _ s18 z)) (.cons (NodeR.sb2 elt18 y1 y2 .upd nnb) .nil)
                    · exact Paired.mapP hL17 fun a n z => NodeR.sb2 elt18 y1 y2 .upd (nodeR_sm _ _ _ _ s18 z)
                    · exact sqT_sb2 elt18 y1 y2 .upd (smTup s18 hva17)
                    · rintro n ((hn | hn) | hn)
                      · exact hn.elim (fun z => .inl (.inl z)) fun z => .inl (.inr (List.mem_append_left _ z))
                      · exact .inr hn
                      · exact .inl (.inr (by rw [hn]; simp))
                    · exact List.nodup_append.mpr ⟨ltnd, by simp, fun a ha b hb => by rintro rfl; rw [List.mem_singleton.mp hb] at ha; exact ein (ltin _ ha)⟩
                    · intro n hn
                      rw [List.map_append]
                      rcases List.mem_append.mp hn with hn | hn
                      · exact List.mem_append_left _ (ltin n hn)
                      · rw [List.mem_singleton.mp hn]
                        exact List.mem_append_right _ (by simp)
                    · intro n hn
                      rw [List.map_append]
                      exact List.mem_append_left _ (lin10 n hn)
                    · rw [List.length_append, List.length_append, len10]
                      rfl
                    · intro u hu hbu
                      rw [List.map_append]
                      rcases htk u hu with z | z
                      · exact List.mem_append_left _ (tk10 u z hbu)
                      · rw [z]
                        exact List.mem_append_right _ (by simp)
                · rw [Bool.eq_false_iff.mpr eb]
                  exact ⟨og2, Lt, lta, _, _, _, rfl, sH.trans s13, ho12.sm s13, s13 _ _ elt12, Paired.mapP hLt12 fun a n z => nodeR_sm _ _ _ _ s13 z, s13 _ _ ecp12, Paired.mapP hL12 fun a n z => nodeR_sm _ _ _ _ s13 z, smTup s13 hva12, shi10, ltnd, ltin, lin10, len10, fun u hu hbu => (htk u hu).elim (fun z => tk10 u z hbu) fun e => absurd (e ▸ hbu) eb⟩
            · rintro σ H10 ⟨og2, Lt, lta, o10, o11, o12, rfl, s10, ho10, elt10, hLt10, ecp10, hL10, hva10, shi10, ltnd, ltin, lin10, len10, tk10⟩
              rw [List.length_map, Paired.length hla, List.take_length] at tk10
              exact ⟨og2, Lt, lta, _, _, _, _, _, rfl, s10, ho10, elt10, hLt10, ecp10, hL10, shi10.close (fun x z => z) eg fun t ht ts => tk10 t (List.mem_filter.mpr ⟨ht, decide_eq_true (ts.trans egi)⟩), ltnd, ltin, lin10, len10⟩
        · rintro σ H8 ⟨og1, Lt, lta, o8, o9, o10, o11, o12, rfl, s8, ho8, elt8, hLt8, ecp8, hL8, shi8, ltnd, ltin, lin8, len8⟩
          have lalen : lad.length = L.length := Paired.length hL8
          have og1len := shi8.len n2 k2
          refine ⟨_, rfl, _, ?_, og1, Lt, lta, lt, _, _, _, _, _, _, rfl, s8, ho8, elt8, hLt8, shi8.mono fun n hn => hn.elim (fun z => by rw [List.length_map, lalen, List.drop_length] at z; cases z) id, ltnd, ltin, rfl⟩
          cases Lt with
          | nil =>
            rw [if_pos rfl]
            simp at len8
            omega
          | cons a b =>
            rw [if_neg (List.cons_ne_nil _ _)]
            rw [List.length_cons] at len8
            omega
end
end Al
set_option maxHeartbeats 4000000
/-! M9: the kept vectors by state, as a dict of lists. -/
namespace Al
open PySem PySem.Spec PyProof.Rows L2
abbrev CK := List (Int × List (List Int))
def keptOf (ck : CK) : KF := fun s => ((ck.find? fun c => decide (c.1 = s)).map (·.2)).getD []
abbrev keysC (ck : CK) : List Int := ck.map (fun c : Int × List (List Int) => c.1)
def setC (ck : CK) (s : Int) (vs : List (List Int)) : CK := if s ∈ keysC ck then ck.map (fun c => if c.1 = s then (s, vs) else c) else ck ++ [(s, vs)]
theorem keptOf_none {ck : CK} {s : Int} (h : s ∉ keysC ck) : keptOf ck s = [] := by
  unfold keptOf
  rw [List.find?_eq_none.mpr fun c hc z => h (List.mem_map.mpr ⟨c, hc, of_decide_eq_true z⟩)]
  rfl
theorem keptOf_set (ck : CK) (s : Int) (vs : List (List Int)) (x : Int) : keptOf (setC ck s vs) x = if x = s then vs else keptOf ck x := by
  unfold setC
  by_cases h : s ∈ keysC ck
  · rw [if_pos h]
    unfold keptOf
    induction ck with
    | nil => cases h
    | cons c r ih =>
      rw [List.map_cons]
      by_cases e : c.1 = s
      · rw [if_pos e]
        by_cases e2 : x = s
        · rw [if_pos e2, List.find?_cons_of_pos (by simp [e2])]
          rfl
        · rw [if_neg e2, List.find?_cons_of_neg (by simp; exact fun z => e2 z.symm), List.find?_cons_of_neg (by simp; rw [e]; exact fun z => e2 z.symm)]
          by_cases h2 : s ∈ keysC r
          · have := ih h2
            rw [if_neg e2] at this
            exact this
          · have : (r.map fun c => if c.1 = s then (s, vs) else c) = r := by
              refine (List.map_congr_left fun c hc => if_neg fun z => h2 (List.mem_map.mpr ⟨c, hc, z⟩)).trans (List.map_id' r)
            rw [this]
      · rw [if_neg e]
        have h2 : s ∈ keysC r := by
          rcases List.mem_cons.mp h with z | z
          · exact absurd z.symm e
          · exact z
        by_cases e2 : c.1 = x
        · have : ¬ x = s := fun z => e (e2.trans z)
          rw [if_neg this, List.find?_cons_of_pos (by simpa using e2), List.find?_cons_of_pos (by simpa using e2)]
        · rw [List.find?_cons_of_neg (by simpa using e2), List.find?_cons_of_neg (by simpa using e2)]
          exact ih h2
  · rw [if_neg h]
    by_cases e2 : x = s
    · rw [if_pos e2]
      unfold keptOf
      rw [List.find?_append, List.find?_eq_none.mpr fun c hc z => h (List.mem_map.mpr ⟨c, hc, (of_decide_eq_true z).trans e2⟩)]
      simp [e2]
    · rw [if_neg e2]
      unfold keptOf
      rw [List.find?_append]
      cases r : ck.find? fun c => decide (c.1 = x) with
      | some c => rfl
      | none =>
        have e3 : ¬ s = x := fun z => e2 z.symm
        simp [e3]
theorem keysC_set (ck : CK) (s : Int) (vs : List (List Int)) : keysC (setC ck s vs) = if s ∈ keysC ck then keysC ck else keysC ck ++ [s] := by
  unfold setC
  by_cases h : s ∈ keysC ck
  · rw [if_pos h, if_pos h, keysC, List.map_map]
    refine List.map_congr_left fun c _ => ?_
    show (if c.1 = s then (s, vs) else c).1 = c.1
    by_cases e : c.1 = s
    · rw [if_pos e, e]
    · rw [if_neg e]
  · rw [if_neg h, if_neg h, keysC, List.map_append]
    rfl
/-- an entry of such a dict; the list is not the one at r -/
def CostR (K : PySem.W.Frag) (r : Addr) (H : Hp) (e : Key × V) (c : Int × List (List Int)) : Prop := e.1 = .inl c.1 ∧ ∃ a va, e.2 = .ref a ∧ a ≠ r ∧ H a = some (.lst (va.map V.ref)) ∧ VecsAt K H va c.2
def CostAt (K : PySem.W.Frag) (r : Addr) (H : Hp) (d : Addr) (ck : CK) : Prop := ∃ kvs, H d = some (.dK kvs) ∧ Paired (CostR K r H) kvs ck ∧ (keysC ck).Nodup
/-- what the changes of Ways leave as it was -/
structure Keep (K : PySem.W.Frag) (r : Addr) (H H' : Hp) : Prop where
  l : ∀ a xs, a ≠ r → H a = some (.lst xs) → H' a = some (.lst xs)
  q : ∀ a xs, a ≠ r → SqL K H a xs → SqL K H' a xs
  t : ∀ a xs, H a = some (.tup xs) → H' a = some (.tup xs)
  v : ∀ a xs, SqT K H a xs → SqT K H' a xs
section
variable {K : PySem.W.Frag} {r : Addr} {H H' : Hp}
theorem Keep.same (s : Same H H') : Keep K r H H' := ⟨fun a xs _ h => s _ _ h, fun a xs _ h => s.seq h, fun a xs h => s _ _ h, fun a xs h => smTup s h⟩
theorem Keep.upd {x : Addr} {o o' : HO} (hx : H x = some o) (n1 : ∀ ys, o ≠ .tup ys) (n2 : ∀ q u, o ≠ .frz q u) (n3 : x = r ∨ ∀ ys, o ≠ .lst ys) : Keep K r H (upd H x o') :=
  ⟨fun a xs ha h => (upd_ne fun z => by
    rcases n3 with e | n3
    · exact ha (z.trans e)
    · rw [z, hx] at h; exact n3 _ (Option.some.inj h)).trans h, fun a xs ha h => by
    rcases h with (h | ⟨q, h⟩) | h
    · refine .inl (.inl ((upd_ne fun z => ?_).trans h))
      rcases n3 with e | n3
      · exact ha (z.trans e)
      · rw [z, hx] at h; exact n3 _ (Option.some.inj h)
    · refine .inl (.inr ⟨q, (upd_ne fun z => ?_).trans h⟩)
      rw [z, hx] at h; exact n2 _ _ (Option.some.inj h)
    · exact .inr h, fun a xs h => tup_sb2 hx n1 n2 .upd h, fun a xs h => sqT_sb2 hx n1 n2 .upd h⟩
theorem Keep.trans {H1 H2 H3 : Hp} (a : Keep K r H1 H2) (b : Keep K r H2 H3) : Keep K r H1 H3 := ⟨fun x xs h e => b.l x xs h (a.l x xs h e), fun x xs h e => b.q x xs h (a.q x xs h e), fun x xs e => b.t x xs (a.t x xs e), fun x xs e => b.v x xs (a.v x xs e)⟩
theorem Keep.cost (k : Keep K r H H') {e : Key × V} {c : Int × List (List Int)} (h : CostR K r H e c) : CostR K r H' e c := let ⟨x, a, va, y, z, w, u⟩ := h; ⟨x, a, va, y, z, k.l _ _ z w, Paired.mapP u fun p q s => k.v _ _ s⟩
theorem Keep.node (k : Keep K r H H') {a : Addr} {n : Node} (h : NodeR K H a n) : NodeR K H' a n := let ⟨va, x, y⟩ := h; ⟨va, k.t _ _ x, k.v _ _ y⟩
theorem Keep.orgv (k : Keep K r H H') {v : V} : ∀ {q : Option (Node × Stp)}, OrgV K H v q → OrgV K H' v q
  | none, h => h
  | some (nd, t), ⟨a, va, ta, y, p, q, z⟩ => ⟨a, va, ta, y, k.t _ _ p, k.v _ _ q, k.t _ _ z⟩
theorem cost_find (s : Int) : ∀ {kvs : List (Key × V)} {ck : CK}, Paired (CostR K r H) kvs ck → (valV kvs (.inl s) = none ∧ s ∉ keysC ck) ∨ ∃ a va, valV kvs (.inl s) = some (.ref a) ∧ s ∈ keysC ck ∧ a ≠ r ∧ H a = some (.lst (va.map V.ref)) ∧ VecsAt K H va (keptOf ck s)
  | _, _, .nil => .inl ⟨rfl, by simp [keysC]⟩
  | e :: kvs, c :: ck, .cons h t => by
    by_cases k : c.1 = s
    · obtain ⟨h1, a, va, h2, h3, h4, h5⟩ := h
      refine .inr ⟨a, va, ?_, by rw [← k]; simp [keysC], h3, h4, ?_⟩
      · unfold valV
        rw [List.find?_cons_of_pos (by rw [h1, k]; simp)]
        rw [Option.map_some, h2]
      · unfold keptOf
        rw [List.find?_cons_of_pos (by simpa using k)]
        exact h5
    · have e1 : valV (e :: kvs) (.inl s) = valV kvs (.inl s) := by
        unfold valV
        rw [List.find?_cons_of_neg (p := fun kv : Key × V => decide (kv.1 = .inl s)) (by rw [h.1]; simpa using k)]
      have e2 : keptOf (c :: ck) s = keptOf ck s := by
        unfold keptOf
        rw [List.find?_cons_of_neg (by simpa using k)]
      rcases cost_find s t with ⟨a, b⟩ | ⟨a, va, x1, x2, x3, x4, x5⟩
      · exact .inl ⟨e1.trans a, fun z => (List.mem_cons.mp z).elim (fun z => k z.symm) b⟩
      · exact .inr ⟨a, va, e1.trans x1, List.mem_cons_of_mem _ x2, x3, x4, by rw [e2]; exact x5⟩
theorem cost_put {s : Int} {vs : List (List Int)} {a : Addr} {va : List Addr} (ha : a ≠ r) (hl : H a = some (.lst (va.map V.ref))) (hv : VecsAt K H va vs) {kvs : List (Key × V)} {ck : CK} (h : Paired (CostR K r H) kvs ck) : Paired (CostR K r H) (putK kvs (.inl s) (.ref a)) (setC ck s vs) := by
  have any : (kvs.any fun kv => decide (kv.1 = .inl s)) = decide (s ∈ keysC ck) := by
    induction h with
    | nil => rfl
    | @cons e c kvs ck h t ih =>
      rw [List.any_cons, ih, h.1]
      by_cases k : c.1 = s
      · simp [keysC, k]
      · have k2 : ¬ s = c.1 := fun z => k z.symm
        simp [keysC, k, k2]
  unfold putK setC
  rw [any]
  by_cases k : s ∈ keysC ck
  · rw [if_pos (decide_eq_true k), if_pos k]
    clear any k
    induction h with
    | nil => exact .nil
    | @cons e c kvs ck h t ih =>
      refine .cons ?_ ih
      show CostR K r H (if e.1 = Sum.inl s then (e.1, V.ref a) else e) (if c.1 = s then (s, vs) else c)
      by_cases k : c.1 = s
      · have k1 : e.1 = Sum.inl s := by rw [h.1, k]
        rw [if_pos k1, if_pos k]
        exact ⟨k1, a, va, rfl, ha, hl, hv⟩
      · have k1 : ¬ e.1 = Sum.inl s := by rw [h.1]; simpa using k
        rw [if_neg k1, if_neg k]
        exact h
  · rw [if_neg (by simpa using k), if_neg k]
    exact paired_app h (.cons ⟨rfl, a, va, rfl, ha, hl, hv⟩ .nil)
theorem keysC_nd {ck : CK} {s : Int} {vs : List (List Int)} (h : (keysC ck).Nodup) : (keysC (setC ck s vs)).Nodup := by
  rw [keysC_set]
  by_cases k : s ∈ keysC ck
  · rw [if_pos k]; exact h
  · rw [if_neg k]
    exact List.nodup_append.mpr ⟨h, by simp, fun a ha b hb => by rintro rfl; rw [List.mem_singleton.mp hb] at ha; exact k ha⟩
end
end Al
set_option maxHeartbeats 4000000
/-! D14: Ways.offer. -/
namespace Al
open PySem PySem.Spec PyProof.Rows L2
section
variable {P : Program} {w : World} {K : PySem.W.Frag} {mg : Str → Option Value} {base : Heap}
def fWays (m l a c o r : V) : List (Str × V) := [("machine", m), ("limits", l), ("after", a), ("costs", c), ("origins", o), ("rest", r)]
section
variable (x1 x2 x3 x4 x5 x6 : V)
theorem fw_limits : (fWays x1 x2 x3 x4 x5 x6).lookup ("limits" : Str) = some x2 := by kernel_rfl
theorem fw_after : (fWays x1 x2 x3 x4 x5 x6).lookup ("after" : Str) = some x3 := by kernel_rfl
theorem fw_costs : (fWays x1 x2 x3 x4 x5 x6).lookup ("costs" : Str) = some x4 := by kernel_rfl
theorem fw_origins : (fWays x1 x2 x3 x4 x5 x6).lookup ("origins" : Str) = some x5 := by kernel_rfl
theorem fw_rest : (fWays x1 x2 x3 x4 x5 x6).lookup ("rest" : Str) = some x6 := by kernel_rfl
end
/-- Ways stands at x -/
structure WPc (P : Program) (w : World) (K : PySem.W.Frag) (H : Hp) (x dx m l af cd od rl : Addr) (lims : List (Option Int)) (ck : CK) (og : Org) (ra : List Addr) : Prop where
  v : H x = some (.ins (He.ga K "Ways") dx (fWays (.ref m) (.ref l) (.ref af) (.ref cd) (.ref od) (.ref rl)))
  li : Sq K H l (lims.map lv)
  nl : l ≠ rl
  co : CostAt K rl H cd ck
  oa : OrgAt P w K H od og
  re : H rl = some (.lst (ra.map V.ref))
  rn : Paired (NodeR K H) ra (keysO og)
/-- all but three things as they were -/
def Fr3 (a b c : Addr) (H H' : Hp) : Prop := ∀ x o, x ≠ a → x ≠ b → x ≠ c → H x = some o → H' x = some o
/-- the offer is taken -/
def Taken (lims : List (Option Int)) (ck : CK) (g : Int) (v : List Int) : Prop := belowB v lims = true ∧ ¬ Dom (keptOf ck) g v
def spOffer (P : Program) (w : World) (K : PySem.W.Frag) : Sp := fun vs H Q _ => ∃ (x dx m l af cd od rl wa : Addr) (lims : List (Option Int)) (ck : CK) (og : Org) (ra : List Addr) (g : Int) (v : List Int) (ov : V) (o : Option (Node × Stp)) (k : Nat), vs = [.ref x, .int g, .ref wa, ov] ∧ WPc P w K H x dx m l af cd od rl lims ck og ra ∧
  VecR K H wa v ∧ OrgV K H ov o ∧ v.length = k ∧ (∀ s, ∀ u ∈ keptOf ck s, u.length = k) ∧ k ≤ 1000 ∧ ck.length < 900000 ∧ (keptOf ck g).length < 1000000 ∧ (Taken lims ck g v → (g, v) ∉ keysO og ∧ og.length < 1000000) ∧
  ∀ H' ck' og' ra', Fr3 cd od rl H H' → WPc P w K H' x dx m l af cd od rl lims ck' og' ra' → (∀ s, s ∈ keysC ck' ↔ s ∈ keysC ck ∨ s = g) → (∀ a n, NodeR K H a n → NodeR K H' a n) → ((¬ Taken lims ck g v ∧ og' = og ∧ ∀ s, keptOf ck' s = keptOf ck s) ∨ (Taken lims ck g v ∧ og' = og ++ [((g, v), o)] ∧ ∀ s, keptOf ck' s = takeK (keptOf ck) g v s)) → Q .non H'
theorem ok_Ways_offer (T : Txt K mg) : MFn P w K mg base 3 "Ways" "offer" (spOffer P w K) := by
  refine T.okM h_Ways_offer rfl (by decide +kernel) (by decide +kernel) sc_Ways_offer rfl rfl b_Ways_offer (fun vs H Q E h => ?_) (fun cdv A outer s H vs Q E hr h => ?_)
  · obtain ⟨x, dx, m, l, af, cd, od, rl, wa, lims, ck, og, ra, g, v, ov, o, k, rfl, _⟩ := h
    rfl
  · obtain ⟨x, dx, m, l, af, cd, od, rl, wa, lims, ck, og, ra, g, v, ov, o, k, rfl, wp, hva, hov, vlen, klen, k1, cklen, kglen, hnew, q⟩ := h
    refine ⟨_, (pss_cons (ps_l (i := 4) sc_Ways_offer.nd rfl rfl (pe_dsetd (pe_at (T.c "Ways") (T.n "Ways" "costs") (pv 0)) (pv 1) (pe_lst pa_nil)  ⟨by rfl, by rfl, by rfl, by rfl⟩))
        (pss_cons (ps_if (PW.pt (pw_or (pt_not (pt_val (pe_f (ok_is_within T) (hr.mono (by decide)) (pa_cons (pv 2) (pa_cons (pe_at (T.c "Ways") (T.n "Ways" "limits") (pv 0)) pa_nil))))) (pw_or1 (pt_val (pe_callB (cAny K) (by rfl) (T.f "any") (by decide +kernel) (pa_cons (pe_lc (own := [("other", 5)]) rfl sc_Ways_offer.nd (pi_list (pv 4)) (blkOk_by (own := [("other", 5)]) (N := N_Ways_offer) (sc := defScope s_Ways_offer) (by decide +kernel)) (fun _ _ _ _ _ => (pg_l (i := 5) sc_Ways_offer.nd rfl rfl)) (fun _ _ _ _ _ => pts_nil) (fun _ _ _ _ _ => (pe_f (ok_is_within T) (hr.mono (by decide)) (pa_cons (pv 5) (pa_cons (pv 2) pa_nil))))) pa_nil)))))) 
        (pss_one ps_retN)
        pss_nil)
        (pss_cons (ps_dput (hu_of hr) (pe_at (T.c "Ways") (T.n "Ways" "costs") (pv 0)) (pv 1) (pe_op op_cat (pe_lc (own := [("other", 5)]) rfl sc_Ways_offer.nd (pi_list (pv 4)) (blkOk_by (own := [("other", 5)]) (N := N_Ways_offer) (sc := defScope s_Ways_offer) (by decide +kernel)) (fun _ _ _ _ _ => (pg_l (i := 5) sc_Ways_offer.nd rfl rfl)) (fun _ _ _ _ _ => (pts_one (pt_not (pt_val (pe_f (ok_is_within T) (hr.mono (by decide)) (pa_cons (pv 2) (pa_cons (pv 5) pa_nil))))))) (fun _ _ _ _ _ => (pv 5))) (pe_lst (pa_cons (pv 2) pa_nil))) rfl)
        (pss_cons (ps_nput (hu9 hr) (pe_at (T.c "Ways") (T.n "Ways" "origins") (pv 0)) (pe_tup (pa_cons (pv 1) (pa_cons (pv 2) pa_nil))) (pv 3) rfl)
        (pss_one (ps_expr (pe_bm PySem.F.plainAttrs_list PySem.F.slot_list_append PySem.F.type_list_append mt_append (pe_at (T.c "Ways") (T.n "Ways" "rest") (pv 0)) (pa_cons (pe_tup (pa_cons (pv 1) (pa_cons (pv 2) pa_nil))) pa_nil)))))))), ?_⟩
    obtain ⟨kvs, ecd, hkv, cnd⟩ := id wp.co
    refine ⟨_, rfl, x, dx, _, _, rfl, wp.v, fw_costs .., cd, rfl, ?_⟩
    have kvlen : kvs.length = ck.length := Paired.length hkv
    refine ⟨.inl ⟨kvs, .inl ecd⟩, _, rfl, (by show 0 ≤ sizeLine; decide), fun z hz => ?_⟩
    have sZ : Same H (upd H z (.lst [])) := smNew hz
    have eZ : (upd H z (.lst [])) z = some (.lst []) := upd_same
    have nzr : z ≠ rl := fun y => by rw [y, wp.re] at hz; cases hz
    have nxc : x ≠ cd := fun y => by have e := wp.v; rw [y, ecd] at e; cases e
    have noc : od ≠ cd := fun y => by obtain ⟨es, a, _⟩ := wp.oa; have e := a.ob; rw [y, ecd] at e; cases e
    have nrc : rl ≠ cd := fun y => by have e := wp.re; rw [y, ecd] at e; cases e
    generalize upd H z (.lst []) = HZ at sZ eZ
    have ecdZ := sZ _ _ ecd
    have kpZ : Keep K rl H HZ := .same sZ
    refine ⟨kvs, .inl g, ecdZ, rfl, szLt (by omega), fun v0 hv0 => ?A, fun hn0 => ?B⟩
    case' A =>
      obtain ⟨ha, hvl, e1, gin, nha, ehd, hvs⟩ : ∃ a va, valV kvs (.inl g) = some (.ref a) ∧ g ∈ keysC ck ∧ a ≠ rl ∧ H a = some (.lst (va.map V.ref)) ∧ VecsAt K H va (keptOf ck g) := (cost_find g hkv).elim (fun y => by rw [y.1] at hv0; cases hv0) id
      rw [e1] at hv0
      cases hv0
      obtain ⟨H4, eH⟩ : ∃ y, y = HZ := ⟨_, rfl⟩
      rw [← eH]
      rw [← eH] at sZ ecdZ kpZ
      have ehd := sZ _ _ ehd
      have hvs := hvs.sm sZ
      have kp4 : Keep K rl H H4 := kpZ
      have fr4 : Fr3 cd od rl H H4 := fun b o _ _ _ e => sZ b o e
      have oa4 := wp.oa.sm sZ
      have re4 := sZ _ _ wp.re
      have v4 := sZ _ _ wp.v
      obtain ⟨kvs1, ck1, ecd4, hkv4, cnd1, kf1, keys1, clen1⟩ : ∃ kvs1 ck1, H4 cd = some (.dK kvs1) ∧ Paired (CostR K rl H4) kvs1 ck1 ∧ (keysC ck1).Nodup ∧ (∀ s, keptOf ck1 s = keptOf ck s) ∧ (∀ s, s ∈ keysC ck1 ↔ s ∈ keysC ck ∨ s = g) ∧ ck1.length ≤ ck.length + 1 :=
        ⟨kvs, ck, ecdZ, Paired.mapP hkv fun a b y => kpZ.cost y, cnd, fun _ => rfl, fun s => ⟨.inl, fun y => y.elim id fun y => y ▸ gin⟩, by omega⟩
      clear eH hz nzr eZ
    case' B =>
      have hn1 : g ∉ keysC ck := (cost_find g hkv).elim (fun y => y.2) fun ⟨a, va, y, _⟩ => by rw [y] at hn0; cases hn0
      have kp4 : Keep K rl H (upd HZ cd (.dK (putK kvs (.inl g) (.ref z)))) := kpZ.trans (.upd ecdZ (fun _ y => by cases y) (fun _ _ y => by cases y) (.inr fun _ y => by cases y))
      have fr4 : Fr3 cd od rl H (upd HZ cd (.dK (putK kvs (.inl g) (.ref z)))) := fun b o n1 _ _ e => (upd_ne n1).trans (sZ b o e)
      have kpB : Keep K rl HZ (upd HZ cd (.dK (putK kvs (.inl g) (.ref z)))) := .upd ecdZ (fun _ y => by cases y) (fun _ _ y => by cases y) (.inr fun _ y => by cases y)
      have oa4 : OrgAt P w K (upd HZ cd (.dK (putK kvs (.inl g) (.ref z)))) od og := OrgAt.sb2 ecdZ (fun _ y => by cases y) (fun _ _ y => by cases y) .upd noc (wp.oa.sm sZ)
      have re4 : (upd HZ cd (.dK (putK kvs (.inl g) (.ref z)))) rl = _ := (upd_ne nrc).trans (sZ _ _ wp.re)
      have v4 : (upd HZ cd (.dK (putK kvs (.inl g) (.ref z)))) x = _ := (upd_ne nxc).trans (sZ _ _ wp.v)
      have ehd : (upd HZ cd (.dK (putK kvs (.inl g) (.ref z)))) z = some (.lst (([] : List Addr).map V.ref)) := kpB.l _ _ nzr eZ
      have hvs : VecsAt K (upd HZ cd (.dK (putK kvs (.inl g) (.ref z)))) [] (keptOf ck g) := by rw [keptOf_none hn1]; exact .nil
      obtain ⟨hvl, ehvl⟩ : ∃ y : List Addr, y = [] := ⟨_, rfl⟩
      rw [← ehvl] at ehd hvs
      obtain ⟨kvs1, ck1, ecd4, hkv4, cnd1, kf1, keys1, clen1⟩ : ∃ kvs1 ck1, (upd HZ cd (.dK (putK kvs (.inl g) (.ref z)))) cd = some (.dK kvs1) ∧ Paired (CostR K rl (upd HZ cd (.dK (putK kvs (.inl g) (.ref z))))) kvs1 ck1 ∧ (keysC ck1).Nodup ∧ (∀ s, keptOf ck1 s = keptOf ck s) ∧ (∀ s, s ∈ keysC ck1 ↔ s ∈ keysC ck ∨ s = g) ∧ ck1.length ≤ ck.length + 1 := by
        refine ⟨_, setC ck g [], upd_same, cost_put (va := []) nzr (kpB.l _ _ nzr eZ) .nil (Paired.mapP hkv fun a b y => (kpZ.trans kpB).cost y), keysC_nd cnd, fun s => ?_, fun s => ?_, ?_⟩
        · rw [keptOf_set]
          by_cases e : s = g
          · rw [if_pos e, e, keptOf_none hn1]
          · rw [if_neg e]
        · rw [keysC_set, if_neg hn1, List.mem_append, List.mem_singleton]
        · unfold setC
          rw [if_neg hn1, List.length_append]
          simp
      obtain ⟨H4, eH⟩ : ∃ y, y = upd HZ cd (.dK (putK kvs (.inl g) (.ref z))) := ⟨_, rfl⟩
      rw [← eH] at kp4 fr4 oa4 re4 v4 ehd hvs ecd4 hkv4
      rw [← eH]
      obtain ⟨ha, eha⟩ : ∃ y, y = z := ⟨_, rfl⟩
      have nha : ha ≠ rl := eha ▸ nzr
      rw [← eha] at ehd
      rw [show V.ref z = V.ref ha from congrArg V.ref eha.symm]
      clear eH kpB hz nzr eZ
    all_goals
      have hva4 := kp4.v _ _ hva
      have li4 : Sq K H4 l (lims.map lv) := wp.li.elim (fun y => .inl (kp4.q _ _ wp.nl y)) fun y => .inr (kp4.v _ _ y)
      have rn4 : Paired (NodeR K H4) ra (keysO og) := Paired.mapP wp.rn fun a n y => kp4.node y
      have hov4 : OrgV K H4 ov o := kp4.orgv hov
      have wp4 : WPc P w K H4 x dx m l af cd od rl lims ck1 og ra := ⟨v4, li4, wp.nl, ⟨kvs1, ecd4, hkv4, cnd1⟩, oa4, re4, rn4⟩
      have wsm : ∀ H5, Same H4 H5 → WPc P w K H5 x dx m l af cd od rl lims ck1 og ra := fun H5 s5 => ⟨s5 _ _ v4, li4.sm s5, wp.nl, ⟨kvs1, s5 _ _ ecd4, Paired.mapP hkv4 fun a b y => (Keep.same s5).cost y, cnd1⟩, oa4.sm s5, s5 _ _ re4, Paired.mapP rn4 fun a n y => nodeR_sm _ _ _ _ s5 y⟩
      have hvlen : hvl.length = (keptOf ck g).length := Paired.length hvs
      have skip : ∀ H5, Same H4 H5 → ¬ Taken lims ck g v → Q .non H5 := fun H5 s5 hno => q H5 ck1 og ra (fun b o n1 n2 n3 e => s5 b o (fr4 b o n1 n2 n3 e)) (wsm H5 s5) keys1 (fun a n y => nodeR_sm _ _ _ _ s5 (kp4.node y)) (.inl ⟨hno, rfl, kf1⟩)
      refine ⟨_, rfl, _, rfl, x, dx, _, _, rfl, v4, fw_limits .., wa, l, v, lims, rfl, hva4, li4, (by omega), fun H5 s5 => ⟨_, rfl, ?_⟩⟩
      by_cases hb : belowB v lims = true
      · rw [hb]
        refine ⟨_, rfl, ha, rfl, ⟨_, .of (s5 _ _ ehd)⟩, ?_⟩
        have hvs5 := hvs.sm s5
        refine lcData (VecR K) vecR_sm hvs5 walk_list (fun u => some (.bl (vle u v))) (fun H' s => .of (s _ _ (s5 _ _ ehd))) (by omega) ?_ ?_
        · intro u a H6 hu s6 hau Kt kk
          refine ⟨rfl, _, rfl, _, rfl, a, wa, u, v.map some, rfl, hau, .inr ?_, (by rw [klen g u hu]; omega), fun H' s' => kk H' s'⟩
          rw [map_lv]
          exact smTup (s5.trans s6) hva4
        · intro D H6 hD s6 hL
          have s46 := s5.trans s6
          dsimp only [tNil]
          refine ⟨D, (keptOf ck g).map fun u => vle u v, rfl, SqL.of ?_, _, rfl, ?_⟩
          · rw [hL, filterMap_some, List.map_map]
            rfl
          rw [List.any_map]
          have eany : ((keptOf ck g).any (id ∘ fun u => vle u v)) = true ↔ Dom (keptOf ck) g v := by
            rw [List.any_eq_true]
            exact Iff.rfl
          by_cases hd : Dom (keptOf ck) g v
          · rw [eany.mpr hd]
            exact skip H6 s46 fun y => y.2 hd
          · rw [Bool.eq_false_iff.mpr fun y => hd (eany.mp y)]
            have taken : Taken lims ck g v := ⟨hb, hd⟩
            obtain ⟨hnew1, hnew2⟩ := hnew taken
            refine ⟨_, rfl, ha, rfl, ⟨_, .of (s46 _ _ ehd)⟩, ?_⟩
            refine lcKeep (VecR K) vecR_sm (hvs.sm s46) walk_list (fun u => !vle v u) (fun H' s => .of (s _ _ (s46 _ _ ehd))) (by omega) ?_ fun D2 H7 hD2 s7 hL7 => ?_
            · intro u a H7 hu s7 hau Kt kk
              refine ⟨rfl, _, rfl, _, rfl, wa, a, v, u.map some, rfl, smTup (s46.trans s7) hva4, .inr (by rw [map_lv]; exact hau), (by omega), fun H8 s8 => ⟨_, rfl, ?_⟩⟩
              have k1 := kk H8 s8
              have ev : belowB v (u.map some) = vle v u := rfl
              rw [ev]
              cases hvu : vle v u with
              | true =>
                rw [hvu] at k1
                exact k1
              | false =>
                rw [hvu] at k1
                exact ⟨_, rfl, k1⟩
            · have s47 := s46.trans s7
              refine ⟨_, rfl, (by show 1 ≤ sizeLine; decide), fun l2 hl2 => ?_⟩
              have hk7 : VecsAt K H7 (keepA (fun u => !vle v u) hvl (keptOf ck g)) ((keptOf ck g).filter fun u => !vle v u) := keepA_data (hvs.sm s47)
              have kl7 : (keepA (fun u => !vle v u) hvl (keptOf ck g)).length ≤ (keptOf ck g).length := by rw [Paired.length hk7]; exact List.length_filter_le _ _
              refine ⟨D2, l2, _, _, rfl, rfl, smNew hl2 _ _ hL7, upd_same, (by rw [List.length_map, List.length_singleton]; exact szOf (by omega)), fun nl hnl => ?_⟩
              have s78 : Same H7 (upd (upd H7 l2 (.lst [.ref wa])) nl (.lst ((keepA (fun u => !vle v u) hvl (keptOf ck g)).map V.ref ++ [.ref wa]))) := (smNew hl2).trans (smNew hnl)
              have enl : (upd (upd H7 l2 (.lst [.ref wa])) nl (.lst ((keepA (fun u => !vle v u) hvl (keptOf ck g)).map V.ref ++ [.ref wa]))) nl = some (.lst ((keepA (fun u => !vle v u) hvl (keptOf ck g) ++ [wa]).map V.ref)) := by rw [upd_same, List.map_append]; rfl
              have nnl : nl ≠ rl := fun y => by have e := smNew hl2 (o := .lst [.ref wa]) _ _ (s47 _ _ re4); rw [← y, hnl] at e; cases e
              generalize upd (upd H7 l2 (.lst [.ref wa])) nl (.lst ((keepA (fun u => !vle v u) hvl (keptOf ck g)).map V.ref ++ [.ref wa])) = H8 at s78 enl
              have s48 := s47.trans s78
              have wp8 := wsm H8 s48
              have ecd8 := s48 _ _ ecd4
              have k1len : kvs1.length = ck1.length := Paired.length hkv4
              have new8 : VecsAt K H8 (keepA (fun u => !vle v u) hvl (keptOf ck g) ++ [wa]) (takeK (keptOf ck) g v g) := by
                unfold takeK
                rw [if_pos rfl]
                exact paired_app (hk7.sm s78) (.cons (smTup s48 hva4) .nil)
              refine ⟨_, rfl, x, dx, _, _, rfl, wp8.v, fw_costs .., _, rfl, cd, upd H8 cd (.dK (putK kvs1 (.inl g) (.ref nl))), rfl, .inl ⟨kvs1, .inl g, ecd8, rfl, szLt (by omega), rfl⟩, ?_⟩
              have kp9 : Keep K rl H8 (upd H8 cd (.dK (putK kvs1 (.inl g) (.ref nl)))) := .upd ecd8 (fun _ y => by cases y) (fun _ _ y => by cases y) (.inr fun _ y => by cases y)
              have fr9 : Fr3 cd od rl H (upd H8 cd (.dK (putK kvs1 (.inl g) (.ref nl)))) := fun b o n1 n2 n3 e => (upd_ne n1).trans (s48 b o (fr4 b o n1 n2 n3 e))
              have co9 : CostAt K rl (upd H8 cd (.dK (putK kvs1 (.inl g) (.ref nl)))) cd (setC ck1 g (takeK (keptOf ck) g v g)) := ⟨_, upd_same, cost_put nnl (kp9.l _ _ nnl enl) (Paired.mapP new8 fun a b y => kp9.v _ _ y) (Paired.mapP hkv4 fun a b y => ((Keep.same s48).trans kp9).cost y), keysC_nd cnd1⟩
              have oa9 : OrgAt P w K (upd H8 cd (.dK (putK kvs1 (.inl g) (.ref nl)))) od og := OrgAt.sb2 ecd8 (fun _ y => by cases y) (fun _ _ y => by cases y) .upd noc wp8.oa
              have re9 : (upd H8 cd (.dK (putK kvs1 (.inl g) (.ref nl)))) rl = _ := (upd_ne nrc).trans wp8.re
              have v9 : (upd H8 cd (.dK (putK kvs1 (.inl g) (.ref nl)))) x = _ := (upd_ne nxc).trans wp8.v
              have kp49 := (Keep.same s48).trans kp9
              generalize upd H8 cd (.dK (putK kvs1 (.inl g) (.ref nl))) = H9 at kp9 fr9 co9 oa9 re9 v9 kp49
              refine ⟨_, rfl, _, rfl, x, dx, _, _, rfl, v9, fw_origins .., _, rfl, _, rfl, (by show 2 ≤ sizeLine; decide), fun kb hkb => ?_⟩
              have s9 : Same H9 (upd H9 kb (.tup [.int g, .ref wa])) := smNew hkb
              have nkb : NodeR K (upd H9 kb (.tup [.int g, .ref wa])) kb (g, v) := ⟨wa, upd_same, smTup s9 (kp49.v _ _ hva4)⟩
              generalize upd H9 kb (.tup [.int g, .ref wa]) = H10 at s9 nkb
              obtain ⟨es, hnds, hpr, hnod⟩ := oa9.sm s9
              have eslen : es.length = og.length := Paired.length hpr
              have ralen : ra.length = og.length := by have := Paired.length rn4; rwa [List.length_map] at this
              have kpA := kp49.trans (Keep.same (r := rl) s9)
              have hodx := hnds.ob
              refine ⟨od, es, nkNode (g, v), kb, rfl, hnds, szLt (by omega), nkb.key, ?_⟩
              change L2.Ends.nx _ _ (upd H10 od (dN P w od (nput es (nkNode (g, v)) kb ov)))
              have oa11 := OrgAt.put hnds hpr hnod nkb hnew1 (kpA.orgv hov4)
              have kp11 : Keep K rl H10 (upd H10 od (dN P w od (nput es (nkNode (g, v)) kb ov))) := .upd hodx (fun _ y => by cases y) (fun _ _ y => by cases y) (.inr fun _ y => by cases y)
              have nro : rl ≠ od := fun y => by have e := s9 _ _ re9; rw [y, hodx] at e; cases e
              have nxo : x ≠ od := fun y => by have e := s9 _ _ v9; rw [y, hodx] at e; cases e
              have re11 : (upd H10 od (dN P w od (nput es (nkNode (g, v)) kb ov))) rl = _ := (upd_ne nro).trans (s9 _ _ re9)
              have v11 : (upd H10 od (dN P w od (nput es (nkNode (g, v)) kb ov))) x = _ := (upd_ne nxo).trans (s9 _ _ v9)
              obtain ⟨kvs9, e9, p9, n9⟩ := co9
              have co11 : CostAt K rl (upd H10 od (dN P w od (nput es (nkNode (g, v)) kb ov))) cd (setC ck1 g (takeK (keptOf ck) g v g)) := ⟨kvs9, (upd_ne noc.symm).trans (s9 _ _ e9), Paired.mapP p9 fun a b y => ((Keep.same s9).trans kp11).cost y, n9⟩
              have fr11 : Fr3 cd od rl H (upd H10 od (dN P w od (nput es (nkNode (g, v)) kb ov))) := fun b o n1 n2 n3 e => (upd_ne n2).trans (s9 b o (fr9 b o n1 n2 n3 e))
              have kpB := kpA.trans kp11
              generalize upd H10 od (dN P w od (nput es (nkNode (g, v)) kb ov)) = H11 at oa11 kp11 re11 v11 co11 fr11 kpB
              refine ⟨_, rfl, x, dx, _, _, rfl, v11, fw_rest .., .inl ⟨rfl, _, .of re11⟩, _, rfl, _, rfl, (by show 2 ≤ sizeLine; decide), fun nb hnb => ?_⟩
              have s12 : Same H11 (upd H11 nb (.tup [.int g, .ref wa])) := smNew hnb
              have nnb : NodeR K (upd H11 nb (.tup [.int g, .ref wa])) nb (g, v) := ⟨wa, upd_same, smTup s12 (kpB.v _ _ hva4)⟩
              generalize upd H11 nb (.tup [.int g, .ref wa]) = H12 at s12 nnb
              have re12 := s12 _ _ re11
              have kp13 : Keep K rl H12 (upd H12 rl (.lst (ra.map V.ref ++ [.ref nb]))) := .upd re12 (fun _ y => by cases y) (fun _ _ y => by cases y) (.inl rfl)
              have nxr : x ≠ rl := fun y => by have e := s12 _ _ v11; rw [y, re12] at e; cases e
              have kpC := (kpB.trans (.same s12)).trans kp13
              obtain ⟨kvsC, eC, pC, nC⟩ := co11
              have nco : od ≠ rl := nro.symm
              refine ⟨rl, _, _, rfl, rfl, re12, szLt (by rw [List.length_map]; omega), q _ (setC ck1 g (takeK (keptOf ck) g v g)) (og ++ [((g, v), o)]) (ra ++ [nb]) (fun b o n1 n2 n3 e => (upd_ne n3).trans (s12 b o (fr11 b o n1 n2 n3 e))) ⟨(upd_ne nxr).trans (s12 _ _ v11), ?_, wp.nl, ⟨kvsC, (upd_ne nrc.symm).trans (s12 _ _ eC), Paired.mapP pC fun a b y => ((Keep.same s12).trans kp13).cost y, nC⟩, OrgAt.sb2 re12 (fun _ y => by cases y) (fun _ _ y => by cases y) .upd nco (oa11.sm s12), ?_, ?_⟩ (fun t => ?_) (fun a n y => kpC.node (kp4.node y)) (.inr ⟨taken, rfl, fun t => ?_⟩)⟩
              · exact li4.elim (fun y => .inl (kpC.q _ _ wp.nl y)) fun y => .inr (kpC.v _ _ y)
              · rw [upd_same, List.map_append]; rfl
              · rw [keysO, List.map_append]
                exact paired_app (Paired.mapP rn4 fun a n y => kpC.node y) (.cons (kp13.node nnb) .nil)
              · rw [keysC_set, if_pos ((keys1 g).mpr (.inr rfl)), keys1]
              · rw [keptOf_set]
                by_cases e : t = g
                · rw [if_pos e, e]
                · rw [if_neg e, kf1]
                  unfold takeK
                  rw [if_neg e]
      · rw [Bool.eq_false_iff.mpr hb]
        exact skip H5 s5 fun y => hb y.1
end
end Al
set_option maxHeartbeats 4000000
/-! D15: Ways.run. -/
namespace Al
open PySem PySem.Spec PyProof.Rows L2
section
variable {P : Program} {w : World} {K : PySem.W.Frag} {mg : Str → Option Value} {base : Heap}
def spRun (P : Program) (w : World) (K : PySem.W.Frag) : Sp := fun vs H Q _ => ∃ (x dx m l af cd od rl wa : Addr) (lims : List (Option Int)) (ck : CK) (og : Org) (ra : List Addr) (g : Int) (v : List Int) (p : List Stp), vs = [.ref x, .int g, .ref wa] ∧ WPc P w K H x dx m l af cd od rl lims ck og ra ∧
  VecR K H wa v ∧ v ∈ keptOf ck g ∧ (keptOf ck g).length ≤ 1000000 ∧ Chain og (g, v) p ∧ p.length < 1000000 ∧ ∀ (H' : Hp) (l : Addr) (as : List Addr), Same H H' → H l = none → H' l = some (.lst (as.map V.ref)) → StpsAt H' as p → Q (.ref l) H'
theorem ok_Ways_run (T : Txt K mg) : MFn P w K mg base 2 "Ways" "run" (spRun P w K) := by
  refine T.okM h_Ways_run rfl (by decide +kernel) (by decide +kernel) sc_Ways_run rfl rfl b_Ways_run (fun vs H Q E h => ?_) (fun cdv A outer s H vs Q E hr h => ?_)
  · obtain ⟨x, dx, m, l, af, cd, od, rl, wa, lims, ck, og, ra, g, v, p, rfl, _⟩ := h
    rfl
  · obtain ⟨x, dx, m, l, af, cd, od, rl, wa, lims, ck, og, ra, g, v, p, rfl, wp, hva, hk, klen, hc, plen, q⟩ := h
    refine ⟨_, (pss_cons (ps_assert (pt_cmpR (op_inVec K (room65 hr)) (pv 2) (pe_dget (hu_of hr) (pe_at (T.c "Ways") (T.n "Ways" "costs") (pv 0)) (pv 1) (fun _ _ => rfl)) rfl))
        (pss_cons (ps_l (i := 3) sc_Ways_run.nd rfl rfl (pe_lst pa_nil))
        (pss_cons (ps_while PassesOwn.never (pt_cmp (pc_notN (pe_nget (hu9 hr) (pe_at (T.c "Ways") (T.n "Ways" "origins") (pv 0)) (pe_tup (pa_cons (pv 1) (pa_cons (pv 2) pa_nil))) (fun _ _ => rfl))) rfl)
        (pss_cons (ps_asg (pe_nget (hu9 hr) (pe_at (T.c "Ways") (T.n "Ways" "origins") (pv 0)) (pe_tup (pa_cons (pv 1) (pa_cons (pv 2) pa_nil))) (fun _ _ => rfl)) (pg_t K 3 rfl (pgs_cons (pg_l (i := 1) sc_Ways_run.nd rfl rfl) (pgs_cons (pg_l (i := 2) sc_Ways_run.nd rfl rfl) (pgs_cons (pg_l (i := 4) sc_Ways_run.nd rfl rfl) pgs_nil)))))
          (pss_one (ps_expr (pe_bm PySem.F.plainAttrs_list PySem.F.slot_list_append PySem.F.type_list_append mt_append (pv 3) (pa_cons (pv 4) pa_nil))))))
        (pss_one (ps_ret (pe_revL (pv 3))))))), ?_⟩
    obtain ⟨kvs, ecd, hkv, cnd⟩ := id wp.co
    obtain ⟨ha, hvl, e1, gin, nha, ehd, hvs⟩ : ∃ a va, valV kvs (.inl g) = some (.ref a) ∧ g ∈ keysC ck ∧ a ≠ rl ∧ H a = some (.lst (va.map V.ref)) ∧ VecsAt K H va (keptOf ck g) := (cost_find g hkv).elim (fun y => by rw [keptOf_none y.2] at hk; cases hk) id
    have dg := DGet.k (k := .inl g) ecd
    rw [e1] at dg
    refine ⟨_, rfl, _, rfl, x, dx, _, _, rfl, wp.v, fw_costs .., _, rfl, cd, .ref ha, rfl, dg, ?_⟩
    refine ⟨wa, ha, v, hvl, keptOf ck g, rfl, rfl, hva, .of ehd, hvs, true, (by rw [decide_eq_true hk]), ?_⟩
    refine ⟨rfl, (by show 0 ≤ sizeLine; decide), fun fl hfl => ?_⟩
    refine ⟨fun mu σ H' => ∃ (wa : Addr) (nd : Node) (p1 : List Stp) (fs : List Stp) (as : List Addr) (o4 : Option V), σ = [some (.ref x), some (.int nd.1), some (.ref wa), some (.ref fl), o4] ∧ Same H H' ∧ H' fl = some (.lst (as.map V.ref)) ∧ StpsAt H' as fs ∧
      VecR K H' wa nd.2 ∧ Chain og nd p1 ∧ p = p1 ++ fs.reverse ∧ mu = p1.length, ⟨_, wa, (g, v), p, [], [], _, rfl, smNew hfl, upd_same, .nil, smTup (smNew hfl) hva, hc, by simp, rfl⟩, ?_⟩
    clear hva hc dg ehd hvs e1 ecd hkv
    rintro mu σ H1 ⟨wa, nd, p1, fs, as, o4, rfl, s1, efl, hfs, hva, hch, rfl, rfl⟩
    refine ⟨_, rfl, x, dx, _, _, rfl, s1 _ _ wp.v, fw_origins .., _, rfl, _, rfl, (by show 2 ≤ sizeLine; decide), fun ka hka => ?_⟩
    have s2 : Same H1 (upd H1 ka (.tup [.int nd.1, .ref wa])) := smNew hka
    have nka : NodeR K (upd H1 ka (.tup [.int nd.1, .ref wa])) ka nd := ⟨wa, upd_same, smTup s2 hva⟩
    generalize upd H1 ka (.tup [.int nd.1, .ref wa]) = H2 at s2 nka
    have efl := s2 _ _ efl
    have hfs := hfs.sm s2
    have hva := smTup s2 hva
    have s1 := s1.trans s2
    obtain ⟨es, hnds, hpr, hnod⟩ := wp.oa.sm s1
    have look : ∀ o, (nd, o) ∈ og → ∃ v, nget es (nkNode nd) = some v ∧ OrgV K H2 v o := fun o ho => by
      rcases org_find nd hpr with ⟨_, b⟩ | ⟨v, q, a, b, c⟩
      · exact absurd (List.mem_map.mpr ⟨_, ho, rfl⟩) b
      · exact ⟨v, a, org_one hnod b ho ▸ c⟩
    cases hch with
    | nil hin =>
      obtain ⟨v, gv, ev⟩ := look _ hin
      have ev : v = .non := ev
      subst ev
      refine ⟨od, es, nkNode nd, ka, .non, rfl, hnds, nka.key, gv, false, rfl, ?_⟩
      refine ⟨_, rfl, fl, _, rfl, .of efl, fun l hl => q _ l as.reverse (s1.trans (smNew hl)) (none_same s1 hl) (by rw [upd_same, List.map_reverse]) ?_⟩
      rw [List.nil_append]
      exact paired_rev (hfs.sm (smNew hl))
    | @cons _ nd' t p0 hin hch' =>
      obtain ⟨v, gv, ev⟩ := look _ hin
      obtain ⟨a, va, ta, rfl, ha, hva', hta⟩ := ev
      have alen : as.length = fs.length := Paired.length hfs
      rw [List.length_append, List.length_append, List.length_reverse, List.length_singleton] at plen
      refine ⟨od, es, nkNode nd, ka, .ref a, rfl, hnds, nka.key, gv, true, rfl, _, fun _ _ h => h, ?_⟩
      refine ⟨_, rfl, x, dx, _, _, rfl, s1 _ _ wp.v, fw_origins .., _, rfl, _, rfl, (by show 2 ≤ sizeLine; decide), fun kb hkb => ?_⟩
      have s3 : Same H2 (upd H2 kb (.tup [.int nd.1, .ref wa])) := smNew hkb
      have nkb : NodeR K (upd H2 kb (.tup [.int nd.1, .ref wa])) kb nd := ⟨wa, upd_same, smTup s3 hva⟩
      generalize upd H2 kb (.tup [.int nd.1, .ref wa]) = H3 at s3 nkb
      refine ⟨od, es, nkNode nd, kb, .ref a, rfl, hnds.sm s3, nkb.key, gv, a, _, rfl, SqT.of (s3 _ _ ha), rfl, _, _, rfl, _, _, rfl, _, _, rfl, rfl, ?_⟩
      have efl3 := s3 _ _ efl
      refine ⟨_, rfl, .inl ⟨rfl, _, .of efl3⟩, _, rfl, fl, _, _, rfl, rfl, efl3, szLt (by rw [List.length_map]; omega), ?_⟩
      have keep : ∀ b xs, H3 b = some (.tup xs) → (upd H3 fl (.lst (as.map V.ref ++ [.ref ta]))) b = some (.tup xs) := fun b xs hb => (upd_ne fun z => by rw [z, efl3] at hb; cases hb).trans hb
      refine ⟨p0.length, (by rw [List.length_append, List.length_singleton]; omega), va, nd', p0, fs ++ [t], as ++ [ta], _, rfl, smMut (s1.trans s3) hfl, (by rw [upd_same, List.map_append]; rfl), paired_app (Paired.mapP (hfs.sm s3) fun x y z => keep _ _ z) (.cons (keep _ _ (s3 _ _ hta)) .nil), sqT_sb2 efl3 (fun _ z => by cases z) (fun _ _ z => by cases z) .upd (smTup s3 hva'), hch', ?_, rfl⟩
      rw [List.reverse_append, List.reverse_singleton, List.append_assoc]
end
end Al
set_option maxHeartbeats 4000000
/-! D16: Ways.run_to. -/
namespace Al
open PySem PySem.Spec PyProof.Rows L2
section
variable {P : Program} {w : World} {K : PySem.W.Frag} {mg : Str → Option Value} {base : Heap}
theorem WPc.sm {H H' : Hp} {x dx m l af cd od rl : Addr} {lims : List (Option Int)} {ck : CK} {og : Org} {ra : List Addr} (s : Same H H') (h : WPc P w K H x dx m l af cd od rl lims ck og ra) : WPc P w K H' x dx m l af cd od rl lims ck og ra :=
  ⟨s _ _ h.v, h.li.sm s, h.nl, let ⟨kvs, a, b, c⟩ := h.co; ⟨kvs, s _ _ a, Paired.mapP b fun p q y => (Keep.same s).cost y, c⟩, h.oa.sm s, s _ _ h.re, Paired.mapP h.rn fun a n y => nodeR_sm _ _ _ _ s y⟩
def spRunTo (P : Program) (w : World) (K : PySem.W.Frag) : Sp := fun vs H Q _ => ∃ (x dx m l af cd od rl ga wa : Addr) (lims : List (Option Int)) (ck : CK) (og : Org) (ra : List Addr) (ss : List Int) (v : List Int), vs = [.ref x, .ref ga, .ref wa] ∧ WPc P w K H x dx m l af cd od rl lims ck og ra ∧
  SqT K H ga (ss.map V.int) ∧ VecR K H wa v ∧ (∃ g ∈ ss, v ∈ keptOf ck g) ∧ (∀ g, (keptOf ck g).length ≤ 1000000) ∧ (∀ g, v ∈ keptOf ck g → ∃ p, Chain og (g, v) p ∧ p.length < 1000000) ∧ ∀ (H' : Hp) (l : Addr) (as : List Addr), Same H H' → H l = none → H' l = some (.lst (as.map V.ref)) → Q (.ref l) H'
theorem ok_Ways_run_to (T : Txt K mg) : MFn P w K mg base 3 "Ways" "run_to" (spRunTo P w K) := by
  refine T.okM h_Ways_run_to rfl (by decide +kernel) (by decide +kernel) sc_Ways_run_to rfl rfl b_Ways_run_to (fun vs H Q E h => ?_) (fun cdv A outer s H vs Q E hr h => ?_)
  · obtain ⟨x, dx, m, l, af, cd, od, rl, ga, wa, lims, ck, og, ra, ss, v, rfl, _⟩ := h
    rfl
  · obtain ⟨x, dx, m, l, af, cd, od, rl, ga, wa, lims, ck, og, ra, ss, v, rfl, wp, hg, hva, hex, klen, hch, q⟩ := h
    refine ⟨_, (pss_cons (ps_for PassesOwn.never rfl (pi_tup (pv 1)) (pg_l (i := 3) sc_Ways_run_to.nd rfl rfl)
        (pss_one (ps_if (pt_cmpR (op_inVec K (room65 hr)) (pv 2) (pe_dget2 (hu_of hr) (pe_at (T.c "Ways") (T.n "Ways" "costs") (pv 0)) (pv 3) (pe_lst pa_nil)  ⟨by rfl, by rfl, by rfl, by rfl⟩) rfl) 
          (pss_one (ps_ret (pe_m (pv 0) (ok_Ways_run T) (hr.mono (by decide)) (pa_cons (pv 3) (pa_cons (pv 2) pa_nil)))))
          pss_nil)))
        (pss_one (ps_ret pe_non))), ?_⟩
    refine ⟨_, rfl, ga, rfl, ⟨_, hg⟩, ?_⟩
    refine for_it walk_tup (fun i σ H' => ∃ o3, σ = [some (.ref x), some (.ref ga), some (.ref wa), o3] ∧ Same H H' ∧ ∀ g ∈ ss.take i, v ∉ keptOf ck g) ⟨none, rfl, Same.refl _, fun g hg => by rw [List.take_zero] at hg; cases hg⟩ (fun i σ H' _ ⟨_, _, s, _⟩ => smTup s hg) ?_ ?_
    · rintro i y σ H1 H2 hi ⟨o3, rfl, s1, no⟩ ⟨rfl, hv⟩
      rw [List.length_map] at hi
      rw [List.getElem?_map, List.getElem?_eq_getElem hi] at hv
      cases hv
      have wp1 := wp.sm s1
      obtain ⟨kvs, ecd, hkv, cnd⟩ := id wp1.co
      refine ⟨_, rfl, _, rfl, x, dx, _, _, rfl, wp1.v, fw_costs .., cd, rfl, .inl ⟨kvs, .inl ecd⟩, _, rfl, (by show 0 ≤ sizeLine; decide), fun z hz => ?_⟩
      have s2 : Same H2 (upd H2 z (.lst [])) := smNew hz
      have eZ : (upd H2 z (.lst [])) z = some (.lst (([] : List Addr).map V.ref)) := upd_same
      generalize upd H2 z (.lst []) = H3 at s2 eZ
      have s3 := s1.trans s2
      have hva3 := smTup s3 hva
      have dg : DGet H3 cd (.int ss[i]) (valV kvs (.inl ss[i])) := DGet.k (k := .inl ss[i]) (s2 _ _ ecd)
      have htk : ∀ g, g ∈ ss.take (i + 1) → g ∈ ss.take i ∨ g = ss[i] := fun g hg => by
        rw [List.take_add_one, List.getElem?_eq_getElem hi] at hg
        rcases List.mem_append.mp hg with hg | hg
        · exact .inl hg
        · exact .inr (List.mem_singleton.mp hg)
      obtain ⟨ha, hvl, eh, ehd, hvs⟩ : ∃ a va, (valV kvs (.inl ss[i])).getD (.ref z) = .ref a ∧ SqL K H3 a (va.map V.ref) ∧ VecsAt K H3 va (keptOf ck ss[i]) := by
        rcases cost_find ss[i] hkv with ⟨y1, y2⟩ | ⟨a, va, y1, y2, y3, y4, y5⟩
        · exact ⟨z, [], by rw [y1]; rfl, .of eZ, by rw [keptOf_none y2]; exact .nil⟩
        · exact ⟨a, va, by rw [y1]; rfl, .of (s2 _ _ y4), y5.sm s2⟩
      refine ⟨_, dg, ?_⟩
      rw [eh]
      refine ⟨wa, ha, v, hvl, keptOf ck ss[i], rfl, rfl, hva3, ehd, hvs, ?_⟩
      by_cases e : v ∈ keptOf ck ss[i]
      · rw [decide_eq_true e]
        obtain ⟨p, c1, c2⟩ := hch _ e
        have wp3 := wp.sm s3
        exact ⟨true, rfl, _, rfl, x, dx, _, rfl, wp3.v, rfl, _, rfl, _, rfl, x, dx, m, l, af, cd, od, rl, wa, lims, ck, og, ra, ss[i], v, p, rfl, wp3, hva3, e, klen _, c1, c2, fun H' l as s' hl el _ => q H' l as (s3.trans s') (none_same s3 hl) el⟩
      · rw [decide_eq_false e]
        exact ⟨false, rfl, _, rfl, s3, fun g hg => (htk g hg).elim (no g) fun y => by rw [y]; exact e⟩
    · rintro σ H1 ⟨o3, rfl, s1, no⟩
      obtain ⟨g, h1, h2⟩ := hex
      rw [List.length_map, List.take_length] at no
      exact absurd h2 (no g h1)
end
end Al
set_option maxHeartbeats 4000000
/-! M10: vectors and entries to be sorted. -/
namespace Al
open PySem PySem.Spec PyProof.Rows L2
theorem alike_nums : ∀ v u : List Int, PySem.W.alikeAll (v.map .int) (u.map .int) = true
  | [], _ => by simp [PySem.W.alikeAll]
  | _ :: _, [] => by simp [PySem.W.alikeAll]
  | a :: v, b :: u => by
    show PySem.W.alikeAll (.int a :: v.map .int) (.int b :: u.map .int) = true
    rw [PySem.W.alikeAll, alike_nums v u]
    rfl
theorem alike_v (v u : List Int) : PySem.W.alike (dV v) (dV u) = true := by
  unfold dV
  rw [PySem.W.alike, alike_nums]
theorem alike_vs : ∀ vs us : List (List Int), PySem.W.alikeAll (vs.map dV) (us.map dV) = true
  | [], _ => by simp [PySem.W.alikeAll]
  | _ :: _, [] => by simp [PySem.W.alikeAll]
  | a :: v, b :: u => by
    show PySem.W.alikeAll (dV a :: v.map dV) (dV b :: u.map dV) = true
    rw [PySem.W.alikeAll, alike_vs v u, alike_v]
    rfl
def dItem (c : Int × List (List Int)) : PyData := .tuple [.int c.1, .list (c.2.map dV)]
theorem alike_item (c d : Int × List (List Int)) : PySem.W.alike (dItem c) (dItem d) = true := by
  unfold dItem
  rw [PySem.W.alike, PySem.W.alikeAll, PySem.W.alikeAll, PySem.W.alikeAll, PySem.W.alike, PySem.W.alike, alike_vs]
  rfl
theorem dep_item (c : Int × List (List Int)) : (dItem c).depth ≤ 8 := by
  unfold dItem
  have h := depth_vs c.2
  rw [PyData.depth, PyData.depthAll, PyData.depthAll, PyData.depthAll, PyData.depth, PyData.depth]
  omega
/-- vectors of one length, no two alike -/
theorem sable_vs {K : PySem.W.Frag} {H : Hp} {as : List Addr} {vs : List (List Int)} {k : Nat} (h : VecsAt K H as vs) (nd : vs.Nodup) (hk : ∀ v ∈ vs, v.length = k) (hz : vs.length ≤ 1000000) : Sable K H (as.map V.ref) (vs.map dV) := by
  refine ⟨dp_vs h, PySem.W.AllAlike.of fun t u => alike_v t u, ?_, fun d hd => ?_, by rw [List.length_map, Paired.length h]; exact szOf hz⟩
  · cases k with
    | zero =>
      refine .inr ⟨?_, fun d hd z => ?_⟩
      · rw [List.length_map]
        have := nd_le (ys := [([] : List Int)]) nd fun v hv => by rw [List.length_eq_zero_iff.mp (hk v hv)]; simp
        simpa using this
      · obtain ⟨v, _, e⟩ := List.mem_map.mp hd
        rw [z] at e
        cases e
    | succ k =>
      refine .inl (.inl fun d hd => ?_)
      obtain ⟨v, hv, rfl⟩ := List.mem_map.mp hd
      cases v with
      | nil => have := hk _ hv; simp at this
      | cons a r => exact ⟨.int a, r.map .int, rfl⟩
  · obtain ⟨v, _, rfl⟩ := List.mem_map.mp hd
    unfold dV
    rw [PyData.depth, PySem.W.depth_ints]
    decide
theorem paired_perm {β : Type} {F : Addr → β → Prop} : ∀ {as bs : List Addr}, bs.Perm as → ∀ {ts : List β}, Paired F as ts → ∃ us, us.Perm ts ∧ Paired F bs us := by
  intro as bs hp
  induction hp with
  | nil => intro ts h; exact ⟨ts, .refl _, h⟩
  | cons x _ ih =>
    intro ts h
    cases h with
    | cons a b =>
      obtain ⟨us, h1, h2⟩ := ih b
      exact ⟨_ :: us, h1.cons _, .cons a h2⟩
  | swap x y l =>
    intro ts h
    cases h with
    | cons a b =>
      cases b with
      | cons c d => exact ⟨_, .swap .., .cons c (.cons a d)⟩
  | trans _ _ ih1 ih2 =>
    intro ts h
    obtain ⟨u2, h1, h2⟩ := ih2 h
    obtain ⟨u1, h3, h4⟩ := ih1 h2
    exact ⟨u1, h3.trans h1, h4⟩
theorem items_dp {K : PySem.W.Frag} {r : Addr} {H H2 : Hp} (s : Same H H2) : ∀ {kvs : List (Key × V)} {ck : CK} {ts : List Addr}, Paired (CostR K r H) kvs ck → Paired (fun (t : Addr) (p : Key × V) => H2 t = some (.tup [kV p.1, p.2])) ts kvs → DpAll K H2 (ts.map V.ref) (ck.map dItem)
  | _, _, _, .nil, .nil => .nil
  | e :: _, c :: _, t :: _, .cons h1 h2, .cons g1 g2 => by
    obtain ⟨x, a, va, y, z, u, w⟩ := h1
    rw [x, y] at g1
    exact .cons (.tup (SqT.of g1) (.cons (.int _) (.cons (.lst (.of (s _ _ u)) (dp_vs (w.sm s))) .nil))) (items_dp s h2 g2)
theorem items_sable {K : PySem.W.Frag} {r : Addr} {H H2 : Hp} (s : Same H H2) {kvs : List (Key × V)} {ck : CK} {ts : List Addr} (h : Paired (CostR K r H) kvs ck) (g : Paired (fun (t : Addr) (p : Key × V) => H2 t = some (.tup [kV p.1, p.2])) ts kvs) (hz : ck.length ≤ 1000000) : Sable K H2 (ts.map V.ref) (ck.map dItem) := by
  refine ⟨items_dp s h g, PySem.W.AllAlike.of fun t u => alike_item t u, .inl (PySem.W.Sortable.tuples fun t => ⟨_, _, rfl⟩), fun d hd => ?_, ?_⟩
  · obtain ⟨c, _, rfl⟩ := List.mem_map.mp hd
    exact dep_item c
  · rw [List.length_map, Paired.length g, Paired.length h]
    exact szOf hz
end Al
set_option maxHeartbeats 4000000
/-! M11: vectors as keys. -/
namespace Al
open PySem PySem.Spec PyProof.Rows L2
theorem nkVec_inj {v u : List Int} (h : nkVec v = nkVec u) : v = u := by
  unfold nkVec at h
  injection h with h
  exact num_inj h
theorem nkVec_dep (v : List Int) : (nkVec v).depth ≤ 8 := by
  unfold nkVec
  rw [NestedKey.depth, depth_nums]
  decide
theorem nkv_vec {K : PySem.W.Frag} {H : Hp} {a : Addr} {v : List Int} (h : VecR K H a v) : NkV K H (nkVec v) (.ref a) := .tup h (nkAll_nums v)
theorem vecs_nk {K : PySem.W.Frag} {H : Hp} {sa : List Addr} {ts : List (List Int)} (h : VecsAt K H sa ts) : Paired (fun a u => NkV K H u (.ref a)) sa (ts.map nkVec) := by
  induction h with
  | nil => exact .nil
  | cons r _ ih => exact .cons (nkv_vec r) ih
theorem nsetv_list {K : PySem.W.Frag} {H : Hp} {sa : List Addr} {ts : List (List Int)} (hst : VecsAt K H sa ts) : ∀ {es : List NE}, (∀ e ∈ es, ∃ j : Nat, sa[j]? = some e.2.1 ∧ (ts.map nkVec)[j]? = some e.1) → ∃ us : List (List Int), es.map (·.1) = us.map nkVec ∧ VecsAt K H (es.map (·.2.1)) us ∧ ∀ u ∈ us, u ∈ ts
  | [], _ => ⟨[], rfl, .nil, fun u hu => by simp at hu⟩
  | e :: es, h => by
    obtain ⟨us, h1, h2, h3⟩ := nsetv_list hst (es := es) fun e' he => h e' (by simp [he])
    obtain ⟨j, j1, j2⟩ := h e (by simp)
    rw [List.getElem?_map] at j2
    cases ht : ts[j]? with
    | none => rw [ht] at j2; cases j2
    | some t =>
      rw [ht] at j2
      refine ⟨t :: us, ?_, .cons (paired_get2 hst j1 ht) h2, fun u hu => ?_⟩
      · rw [List.map_cons, List.map_cons, h1, ← Option.some.inj j2]
      · rcases List.mem_cons.mp hu with rfl | hu
        · exact List.mem_of_getElem? ht
        · exact h3 u hu
theorem nset_vecs {P : Program} {w : World} {K : PySem.W.Frag} {H : Hp} {D : Addr} {sa : List Addr} {ts : List (List Int)} {es : List NE} (hst : VecsAt K H sa ts) (ns : NSet P w K H D sa (ts.map nkVec) es) :
    ∃ us : List (List Int), VecsAt K H (es.map (·.2.1)) us ∧ us.Nodup ∧ ∀ t, t ∈ us ↔ t ∈ ts := by
  obtain ⟨us, h1, h2, h3⟩ := nsetv_list hst ns.sub
  refine ⟨us, h2, nodup_map_inv (f := nkVec) (by rw [← h1]; exact ns.dup), fun t => ⟨h3 t, fun ht => ?_⟩⟩
  have := ns.all (nkVec t) (List.mem_map_of_mem ht)
  rw [h1] at this
  obtain ⟨u, hu, e⟩ := List.mem_map.mp this
  rw [← nkVec_inj e]
  exact hu
theorem leastB_iff {v : List Int} {vs : List (List Int)} : leastB v vs = true ↔ ∀ u ∈ vs, vle u v = true → u = v := by
  unfold leastB
  rw [Bool.not_eq_true', List.any_eq_false]
  constructor
  · intro h u hu hle
    by_cases e : u = v
    · exact e
    · have := h u hu
      rw [decide_eq_false e] at this
      rw [show belowB u (v.map some) = vle u v from rfl, hle] at this
      simp at this
  · intro h u hu z
    rw [Bool.and_eq_true] at z
    have e := h u hu z.2
    rw [e] at z
    simp at z
end Al
set_option maxHeartbeats 4000000
/-! D18: least_of. -/
namespace Al
open PySem PySem.Spec PyProof.Rows L2
section
variable {P : Program} {w : World} {K : PySem.W.Frag} {mg : Str → Option Value} {base : Heap}
/-- us are the least of vs -/
def Leasts (vs us : List (List Int)) : Prop := us.Nodup ∧ ∀ u, u ∈ us ↔ u ∈ vs ∧ ∀ x ∈ vs, vle x u = true → x = u
def spLeastOf (K : PySem.W.Frag) : Sp := fun vs H Q _ => ∃ (la : Addr) (as : List Addr) (us : List (List Int)) (k : Nat), vs = [.ref la] ∧ SqL K H la (as.map V.ref) ∧ VecsAt K H as us ∧ as.length ≤ 1000000 ∧ (∀ u ∈ us, u.length = k) ∧ k ≤ 1000000 ∧
  ∀ (H' : Hp) (l : Addr) (bs : List Addr) (ls : List (List Int)), Same H H' → H' l = some (.lst (bs.map V.ref)) → VecsAt K H' bs ls → Leasts us ls → Q (.ref l) H'
theorem ok_least_of (T : Txt K mg) : GFn P w K mg base 3 "least_of" (spLeastOf K) := by
  refine T.okG h_least_of rfl (by decide +kernel) sc_least_of rfl rfl b_least_of (fun vs H Q E h => ?_) (fun cdv A outer s H vs Q E hr h => ?_)
  · obtain ⟨la, as, us, k, rfl, _⟩ := h
    rfl
  · obtain ⟨la, as, us, k, rfl, hl, hvs, hn, hk, hk1, q⟩ := h
    refine ⟨_, (pss_cons (ps_c (i := 1) sc_least_of.nd rfl rfl rfl (pe_callB (call_sortedN rfl (hu20 hr)) (by rfl) (T.f "sorted") (by decide +kernel) (pa_cons (pe_dcg (own := [("vector", 2)]) (dkindN (hu9 hr)) rfl sc_least_of.nd (pi_list (pv 0)) (blkOk_by (own := [("vector", 2)]) (N := N_least_of) (sc := defScope s_least_of) (by decide +kernel)) ⟨(fun _ _ _ _ _ => (pg_l (i := 2) sc_least_of.nd rfl rfl)), (fun _ _ _ _ _ => pts_nil), (fun _ _ _ _ _ => (pv 2)), (fun _ _ _ _ _ => pe_bl)⟩) pa_nil)))
        (pss_one (ps_ret (pe_lc (own := [("vector", 2)]) rfl sc_least_of.nd (pi_list (pv 1)) (blkOk_by (own := [("vector", 2)]) (N := N_least_of) (sc := defScope s_least_of) (by decide +kernel)) (fun _ _ _ _ _ => (pg_l (i := 2) sc_least_of.nd rfl rfl)) (fun _ _ _ _ _ => (pts_one (pt_val (pe_f (ok_is_least T) (hr.mono (by decide)) (pa_cons (pv 2) (pa_cons (pv 1) pa_nil)))))) (fun _ _ _ _ _ => (pv 2)))))), ?_⟩
    refine ⟨_, rfl, la, rfl, ⟨_, hl⟩, ?_⟩
    refine dnSelf (vecs_nk hvs) walk_list (fun H' s1 => s1.seq hl) hn (fun u hu => ?_) ?_ ?_
    · obtain ⟨v, _, rfl⟩ := List.mem_map.mp hu
      exact nkVec_dep v
    · intro a H2 _ _ Kt kk
      exact ⟨rfl, _, rfl, kk _ (Same.refl _)⟩
    · intro D H2 es hD s2 ns hes
      obtain ⟨ts, t1, t2, t3⟩ := nset_vecs (hvs.sm s2) ns
      have tlen : ts.length = es.length := by have := Paired.length t1; rw [List.length_map] at this; exact this.symm
      have emap : es.map (fun e => V.ref e.2.1) = (es.map (·.2.1)).map V.ref := by rw [List.map_map]; rfl
      refine ⟨D, es, ts.map dV, rfl, ns.nd, ?_, fun ys p hys hp => ?_⟩
      · rw [emap]
        exact sable_vs t1 t2 (fun v hv => hk v ((t3 v).mp hv)) (by omega)
      · rw [emap] at hys
        obtain ⟨az, a1, rfl⟩ := perm_map_inv (fun a b e => by cases e; rfl) hys
        obtain ⟨tz, b1, b2⟩ := paired_perm a1 t1
        have s3 : Same H2 (upd H2 p (.lst (az.map V.ref))) := smNew hp
        have e3 : (upd H2 p (.lst (az.map V.ref))) p = some (.lst (az.map V.ref)) := upd_same
        generalize upd H2 p (.lst (az.map V.ref)) = H3 at s3 e3
        have b3 := VecsAt.sm s3 b2
        have tzl : tz.length = ts.length := b1.length_eq
        have azl : az.length = tz.length := Paired.length b2
        have tzk : ∀ u ∈ tz, u.length ≤ 1000000 := fun u hu => by rw [hk u ((t3 u).mp (b1.mem_iff.mp hu))]; exact hk1
        refine ⟨_, rfl, p, rfl, ⟨_, .of e3⟩, ?_⟩
        refine lcKeep (VecR K) vecR_sm b3 walk_list (fun u => leastB u tz) (fun H' s => .of (s _ _ e3)) (by omega) ?_ fun D2 H4 hD2 s4 hL => ?_
        · intro u a H5 hu s5 hau Kt kk
          refine ⟨rfl, _, rfl, _, rfl, a, p, u, az, tz, rfl, hau, .of (s5 _ _ e3), b3.sm s5, by omega, tzk, fun H' s' => ?_⟩
          have k1 := kk H' s'
          refine ⟨_, rfl, ?_⟩
          cases hb : leastB u tz with
          | true => rw [hb] at k1; exact ⟨_, rfl, k1⟩
          | false => rw [hb] at k1; exact k1
        · refine q H4 D2 _ _ ((s2.trans s3).trans s4) hL (keepA_data (b3.sm s4)) ⟨(b1.nodup_iff.mpr t2).filter _, fun u => ?_⟩
          have mm : ∀ x, x ∈ tz ↔ x ∈ us := fun x => b1.mem_iff.trans (t3 x)
          rw [List.mem_filter, leastB_iff, mm]
          constructor
          · rintro ⟨x, y⟩
            exact ⟨x, fun z hz => y z ((mm z).mpr hz)⟩
          · rintro ⟨x, y⟩
            exact ⟨x, fun z hz => y z ((mm z).mp hz)⟩
end
end Al
set_option maxHeartbeats 4000000
/-! D19: Ways.least. -/
namespace Al
open PySem PySem.Spec PyProof.Rows L2
theorem flat_le {α : Type} (F : Nat → List α) {i n : Nat} (h : i ≤ n) : ((List.range i).flatMap F).length ≤ ((List.range n).flatMap F).length := by
  induction n with
  | zero => rw [Nat.le_zero.mp h]; exact Nat.le_refl _
  | succ n ih =>
    rcases Nat.lt_or_eq_of_le h with h | h
    · refine Nat.le_trans (ih (by omega)) ?_
      rw [List.range_succ, List.flatMap_append, List.length_append]
      omega
    · rw [h]; exact Nat.le_refl _
theorem vecs_flat {K : PySem.W.Frag} {H : Hp} {adr : Int → List Addr} {f : Int → List (List Int)} (h : ∀ g, VecsAt K H (adr g) (f g)) : ∀ ss : List Int, VecsAt K H (ss.flatMap adr) (ss.flatMap f)
  | [] => .nil
  | s :: ss => by
    rw [List.flatMap_cons, List.flatMap_cons]
    exact paired_app (h s) (vecs_flat h ss)
section
variable {P : Program} {w : World} {K : PySem.W.Frag} {mg : Str → Option Value} {base : Heap}
theorem cost_adr {r : Addr} {H : Hp} {kvs : List (Key × V)} {ck : CK} (h : Paired (CostR K r H) kvs ck) : ∃ adr : Int → List Addr, ∀ g, VecsAt K H (adr g) (keptOf ck g) ∧ ((valV kvs (.inl g) = none ∧ adr g = []) ∨ ∃ a, valV kvs (.inl g) = some (.ref a) ∧ H a = some (.lst ((adr g).map V.ref))) := by
  refine Classical.axiomOfChoice (r := fun (g : Int) (va : List Addr) => VecsAt K H va (keptOf ck g) ∧ ((valV kvs (.inl g) = none ∧ va = []) ∨ ∃ a, valV kvs (.inl g) = some (.ref a) ∧ H a = some (.lst (va.map V.ref)))) fun g => ?_
  rcases cost_find g h with ⟨a, b⟩ | ⟨a, va, x1, x2, x3, x4, x5⟩
  · exact ⟨[], by rw [keptOf_none b]; exact .nil, .inl ⟨a, rfl⟩⟩
  · exact ⟨va, x5, .inr ⟨a, x1, x4⟩⟩
def spWLeast (P : Program) (w : World) (K : PySem.W.Frag) : Sp := fun vs H Q _ => ∃ (x dx m l af cd od rl ga : Addr) (lims : List (Option Int)) (ck : CK) (og : Org) (ra : List Addr) (ss : List Int) (k : Nat), vs = [.ref x, .ref ga] ∧ WPc P w K H x dx m l af cd od rl lims ck og ra ∧ SqT K H ga (ss.map V.int) ∧
  (∀ g, ∀ u ∈ keptOf ck g, u.length = k) ∧ k ≤ 1000000 ∧ (ss.flatMap (keptOf ck)).length ≤ 1000000 ∧ ∀ (H' : Hp) (l : Addr) (bs : List Addr) (ls : List (List Int)), Same H H' → H' l = some (.lst (bs.map V.ref)) → VecsAt K H' bs ls → Leasts (ss.flatMap (keptOf ck)) ls → Q (.ref l) H'
theorem ok_Ways_least (T : Txt K mg) : MFn P w K mg base 4 "Ways" "least" (spWLeast P w K) := by
  refine T.okM h_Ways_least rfl (by decide +kernel) (by decide +kernel) sc_Ways_least rfl rfl b_Ways_least (fun vs H Q E h => ?_) (fun cdv A outer s H vs Q E hr h => ?_)
  · obtain ⟨x, dx, m, l, af, cd, od, rl, ga, lims, ck, og, ra, ss, k, rfl, _⟩ := h
    rfl
  · obtain ⟨x, dx, m, l, af, cd, od, rl, ga, lims, ck, og, ra, ss, k, rfl, wp, hg, hk, k1, hl, q⟩ := h
    refine ⟨_, (pss_one (ps_ret (pe_f (ok_least_of T) (hr.mono (by decide)) (pa_cons (pe_lc2 (own := [("goal", 2), ("vector", 3)]) (vs1 := [3]) rfl sc_Ways_least.nd (pi_tup (pv 1)) (blkOk_by (own := [("goal", 2), ("vector", 3)]) (N := N_Ways_least) (sc := defScope s_Ways_least) (by decide +kernel)) (by decide) (fun _ _ _ _ _ => (pg_l (i := 2) sc_Ways_least.nd rfl rfl)) (fun _ _ _ _ _ => pts_nil) (fun _ _ _ _ _ => (pi_listK K (pe_dget2 (hu_of hr) (pe_at (T.c "Ways") (T.n "Ways" "costs") (pv 0)) (pv 2) (pe_lst pa_nil)  ⟨by rfl, by rfl, by rfl, by rfl⟩))) (fun _ _ _ _ _ => (pg_l (i := 3) sc_Ways_least.nd rfl rfl)) (fun _ _ _ _ _ => pts_nil) (fun _ _ _ _ _ => (pv 3))) pa_nil)))), ?_⟩
    obtain ⟨kvs, ecd, hkv, cnd⟩ := id wp.co
    obtain ⟨adr, hadr⟩ := cost_adr hkv
    have hfl : VecsAt K H (ss.flatMap adr) (ss.flatMap (keptOf ck)) := vecs_flat (fun g => (hadr g).1) ss
    have fl2 : (ss.flatMap fun g => (adr g).map V.ref) = (ss.flatMap adr).map V.ref := by rw [List.map_flatMap]
    refine ⟨_, rfl, ga, rfl, ⟨_, hg⟩, ?_⟩
    refine lc2V walk_tup (fun i => (ss[i]?.map fun g => (adr g).map V.ref).getD []) (fun H' s1 => smTup s1 hg) ?_ ?_
    · rintro D i v H2 H3 hi hD s2 e2 ⟨rfl, hvv⟩ Nx kk
      rw [List.length_map] at hi
      rw [List.getElem?_map, List.getElem?_eq_getElem hi] at hvv
      cases hvv
      rw [List.getElem?_eq_getElem hi, Option.map_some, Option.getD_some] at kk
      have wp2 := wp.sm s2
      refine ⟨rfl, ?_⟩
      refine ⟨_, rfl, x, dx, _, _, rfl, wp2.v, fw_costs .., cd, rfl, .inl ⟨kvs, .inl (s2 _ _ ecd)⟩, _, rfl, (by show 0 ≤ sizeLine; decide), fun z hz => ?_⟩
      have nDz : D ≠ z := fun y => by rw [y, hz] at e2; cases e2
      have hz1 : H z = none := none_same s2 hz
      have sz1 : Same H (upd H z (.lst [])) := smNew hz1
      have s3 : Same (upd H z (.lst [])) (upd H3 z (.lst [])) := fun b o hb => by
        by_cases e : b = z
        · rw [e, upd_same] at hb ⊢
          exact hb
        · rw [upd_ne e] at hb ⊢
          exact s2 _ _ hb
      have hD1 : (upd H z (.lst [])) D = none := by rw [upd_ne nDz]; exact hD
      have eD3 : (upd H3 z (.lst [])) D = _ := (upd_ne nDz).trans e2
      have dg : DGet (upd H3 z (.lst [])) cd (.int ss[i]) (valV kvs (.inl ss[i])) := DGet.k (k := .inl ss[i]) (smNew hz _ _ (s2 _ _ ecd))
      obtain ⟨a, ea, el⟩ : ∃ a, (valV kvs (.inl ss[i])).getD (.ref z) = .ref a ∧ (upd H z (.lst [])) a = some (.lst ((adr ss[i]).map V.ref)) := by
        rcases (hadr ss[i]).2 with ⟨y1, y2⟩ | ⟨a, y1, y2⟩
        · exact ⟨z, by rw [y1]; rfl, by rw [y2]; exact upd_same⟩
        · exact ⟨a, by rw [y1]; rfl, sz1 _ _ y2⟩
      refine ⟨_, dg, ?_⟩
      rw [ea]
      have alen : ((List.range i).flatMap fun i => (ss[i]?.map fun g => (adr g).map V.ref).getD []).length + ((adr ss[i]).map V.ref).length ≤ 1000000 := by
        have h1 := flat_le (fun i => (ss[i]?.map fun g => (adr g).map V.ref).getD []) (i := i + 1) (n := ss.length) (by omega)
        rw [range_flat, fl2, List.length_map, Paired.length hfl, List.range_succ, List.flatMap_append, List.length_append] at h1
        have h2 : ([i].flatMap fun i => (ss[i]?.map fun g => (adr g).map V.ref).getD []) = (adr ss[i]).map V.ref := by
          rw [List.flatMap_singleton, List.getElem?_eq_getElem hi]
          rfl
        rw [h2] at h1
        omega
      refine ⟨a, rfl, ⟨_, .of (s3 _ _ el)⟩, ?_⟩
      refine inW (walk_list (xs := (adr ss[i]).map V.ref)) (fun j => ((adr ss[i]).map V.ref)[j]?.bind some) hD1 s3 eD3 alen (fun H' s => .of (s _ _ el)) ?_ ?_
      · rintro j v H5 H6 hj s5 ⟨rfl, hvv⟩ Kt k
        have k1 := k H6 (Same.refl _)
        rw [hvv] at k1
        exact ⟨rfl, _, rfl, k1⟩
      · intro H' s' e'
        refine kk H' (sz1.trans s') ?_
        rw [e', rangeFM, List.filterMap_some]
    · intro D H3 hD s3 hL
      rw [List.length_map, range_flat, fl2] at hL
      dsimp only [tNil]
      refine ⟨D, ss.flatMap adr, ss.flatMap (keptOf ck), k, rfl, .of hL, hfl.sm s3, by rw [Paired.length hfl]; exact hl, fun u hu => ?_, k1, fun H' l bs ls s' el hbs hls => q H' l bs ls (s3.trans s') el hbs hls⟩
      obtain ⟨g, _, h2⟩ := List.mem_flatMap.mp hu
      exact hk g u h2
end
end Al
set_option maxHeartbeats 4000000
/-! M12: the attributes of Ways one after another; sizes; beginnings. -/
namespace Al
open PySem PySem.Spec PyProof.Rows L2
abbrev fW1 (a : V) : List (Str × V) := [("machine", a)]
abbrev fW2 (a b : V) : List (Str × V) := [("machine", a), ("limits", b)]
abbrev fW3 (a b c : V) : List (Str × V) := [("machine", a), ("limits", b), ("after", c)]
abbrev fW4 (a b c d : V) : List (Str × V) := [("machine", a), ("limits", b), ("after", c), ("costs", d)]
abbrev fW5 (a b c d e : V) : List (Str × V) := [("machine", a), ("limits", b), ("after", c), ("costs", d), ("origins", e)]
section
variable (a b c d e f : V)
theorem pfW2 : putF ("limits" : Str) b (fW1 a) = fW2 a b := by kernel_rfl
theorem pfW3 : putF ("after" : Str) c (fW2 a b) = fW3 a b c := by kernel_rfl
theorem pfW4 : putF ("costs" : Str) d (fW3 a b c) = fW4 a b c d := by kernel_rfl
theorem pfW5 : putF ("origins" : Str) e (fW4 a b c d) = fW5 a b c d e := by kernel_rfl
theorem pfW6 : putF ("rest" : Str) f (fW5 a b c d e) = fWays a b c d e f := by kernel_rfl
end
section
variable {M : Mch} {lims : List (Option Int)} {kf : KF} {og : Org} {cl : Node → Prop} {K : PySem.W.Frag} {H H' : Hp}
theorem WI.klen2 (h : WI M lims kf og cl) (n2 : M.n ≤ 100) (k2 : M.kinds.length ≤ 2) (s : Int) : (kf s).length ≤ 10000 := by
  have h1 := nd_le (ys := boxes M.n M.kinds.length) (h.kn s) fun v hv => by
    obtain ⟨_, _, a, b⟩ := h.box _ (h.ke s v hv)
    exact mem_boxes a b
  rw [boxes_len] at h1
  have h2 : M.n ^ M.kinds.length ≤ 100 ^ M.kinds.length := Nat.pow_le_pow_left n2 _
  have h3 : 100 ^ M.kinds.length ≤ 100 ^ 2 := Nat.pow_le_pow_right (by decide) k2
  have h4 : (100 : Nat) ^ 2 = 10000 := by decide
  omega
theorem WI.empty : WI M lims (keptOf []) [] (fun _ => False) :=
  ⟨List.nodup_nil, (fun n h => by cases h), (fun s v h => by cases h), (fun s => List.nodup_nil), (fun s v h => by cases h), (fun n h => h.elim), (fun s v h => by cases h)⟩
theorem not_dom_nil {s : Int} {v : List Int} : ¬ Dom (keptOf []) s v := fun ⟨u, h, _⟩ => by cases h
theorem MAt.sb {m x : Addr} {o : HO} (h : MAt K H m M) (hx : H x = some o) (n1 : ∀ ys, o ≠ .tup ys) (n2 : ∀ ys, o ≠ .lst ys) (n3 : ∀ kvs, o ≠ .dK kvs) (hm : m ≠ x) (e : Sbut x H H') : MAt K H' m M := by
  obtain ⟨ok, dx, ts, wd, kl, wl, sa, wa, h1, h2, h3, h4, h5, h6⟩ := h
  refine ⟨ok, dx, ts, wd, kl, wl, sa, wa, e _ _ hm h1, e _ _ (fun z => ?_) h2, stps_sb hx n1 e h3, e _ _ (fun z => ?_) h4, fun i hi => ?_, e _ _ (fun z => ?_) h6⟩
  · rw [z, hx] at h2; exact n1 _ (Option.some.inj h2)
  · rw [z, hx] at h4; exact n3 _ (Option.some.inj h4)
  · obtain ⟨la, a, b⟩ := h5 i hi
    refine ⟨la, e _ _ (fun z => ?_) a, stps_sb hx n1 e b⟩
    rw [z, hx] at a; exact n2 _ (Option.some.inj a)
  · rw [z, hx] at h6; exact n2 _ (Option.some.inj h6)
/-- a machine is not the new object -/
theorem MAt.ne {m x C dx : Addr} (h : MAt K H m M) (hx : H x = some (.ins C dx [])) : m ≠ x := fun z => by
  obtain ⟨ok, mdx, ts, wd, kl, wl, sa, wa, h1, _⟩ := h
  rw [z, hx] at h1
  injection (Option.some.inj h1) with _ _ e
  cases e
theorem Sq.sb {a x : Addr} {o : HO} {xs : List V} (h : Sq K H a xs) (hx : H x = some o) (n1 : ∀ ys, o ≠ .tup ys) (n2 : ∀ ys, o ≠ .lst ys) (n3 : ∀ q u, o ≠ .frz q u) (e : Sbut x H H') : Sq K H' a xs := by
  rcases h with h | h
  · refine .inl ?_
    rcases h with (h | ⟨q, h⟩) | h
    · exact .inl (.inl (e _ _ (fun z => by rw [z, hx] at h; exact n2 _ (Option.some.inj h)) h))
    · exact .inl (.inr ⟨q, e _ _ (fun z => by rw [z, hx] at h; exact n3 _ _ (Option.some.inj h)) h⟩)
    · exact .inr h
  · exact .inr (sqT_sb2 hx n1 n3 e h)
theorem AddAt.sb {a x C dx : Addr} {fs : List (Str × V)} {ks : List Str} (h : AddAt K H a ks) (hx : H x = some (.ins C dx fs)) (hn : a ≠ x) (e : Sbut x H H') : AddAt K H' a ks := by
  obtain ⟨adx, d, h1, h2⟩ := h
  exact ⟨adx, d, e _ _ hn h1, (e _ _ (fun z => by rw [z, hx] at h2; cases h2) h2)⟩
theorem sb_fr {H0 : Hp} {x a b c : Addr} (s : Sbut x H0 H) (ha : H0 a = none) (hb : H0 b = none) (hc : H0 c = none) (f : Fr3 a b c H H') : Sbut x H0 H' := fun y o ny hy =>
  f y o (fun z => by rw [z, ha] at hy; cases hy) (fun z => by rw [z, hb] at hy; cases hy) (fun z => by rw [z, hc] at hy; cases hy) (s y o ny hy)
theorem sb_none {x p : Addr} (s : Sbut x H H') (hp : H' p = none) (hx : H x ≠ none) (hx' : H' x ≠ none) : H p = none := by
  cases e : H p with
  | none => rfl
  | some o =>
    by_cases c : p = x
    · rw [c] at hp; exact absurd hp hx'
    · rw [s p o c e] at hp; cases hp
end
/-- a list or a tuple of the heap -/
def HSq (H : Hp) (a : Addr) (xs : List V) : Prop := H a = some (.lst xs) ∨ H a = some (.tup xs)
theorem HSq.sq {K : PySem.W.Frag} {H : Hp} {a : Addr} {xs : List V} (h : HSq H a xs) : Sq K H a xs := h.elim (fun z => .inl (.of z)) fun z => .inr (.of z)
theorem HSq.sb {H H' : Hp} {a x C dx : Addr} {fs : List (Str × V)} {xs : List V} (h : HSq H a xs) (hx : H x = some (.ins C dx fs)) (e : Sbut x H H') : HSq H' a xs := by
  have n : a ≠ x := fun z => by rcases h with h | h <;> (rw [z, hx] at h; cases h)
  exact h.imp (e _ _ n) (e _ _ n)
theorem HSq.some {H : Hp} {a r : Addr} {xs : List V} (h : HSq H a xs) (hr : H r = none) : a ≠ r := fun z => by rcases h with h | h <;> (rw [z, hr] at h; cases h)
theorem WPc.sqT {P : Program} {w : World} {K : PySem.W.Frag} {H H' : Hp} {x dx m l af cd od rl a : Addr} {lims : List (Option Int)} {ck : CK} {og : Org} {ra : List Addr} {xs : List V} (h : WPc P w K H x dx m l af cd od rl lims ck og ra) (f : Fr3 cd od rl H H') (t : SqT K H a xs) : SqT K H' a xs := by
  obtain ⟨kvs, e1, _⟩ := h.co
  obtain ⟨es, e2, _⟩ := h.oa
  have e3 := h.re
  have e2 := e2.ob
  rcases t with (t | ⟨q, t⟩) | t
  · exact .inl (.inl (f _ _ (fun z => by rw [z, e1] at t; cases t) (fun z => by rw [z, e2] at t; cases t) (fun z => by rw [z, e3] at t; cases t) t))
  · exact .inl (.inr ⟨q, f _ _ (fun z => by rw [z, e1] at t; cases t) (fun z => by rw [z, e2] at t; cases t) (fun z => by rw [z, e3] at t; cases t) t⟩)
  · exact .inr t
theorem callO_Adder {K : PySem.W.Frag} {mg : Str → Option Value} (T : Txt K mg) : StX.CallO K (He.ga K "Adder") (He.ma K (He.ga K "Adder") "__call__") := by
  obtain ⟨fd, F⟩ := T.fn d_Adder_call (List.mem_of_getElem? h_Adder_call)
  obtain ⟨oc, od, dV, kV, doc, pm, an, cdv, ct, osl, e, lk, _⟩ := F.ex
  have M := T.m "Adder" "__call__"
  refine ⟨M.at_, M.fn, ?_⟩
  have lk : K.lookup (He.ma K (He.ga K "Adder") "__call__") = some ⟨oc, od, .func fd, osl⟩ := lk
  unfold PySem.W.fnIn
  rw [lk]
end Al
set_option maxHeartbeats 4000000
/-! K14: x.m(..), m a field that holds an instance with a __call__. -/
namespace Al
open PySem PySem.Spec PyProof.Rows L2
section
variable {X : Cx} {k : Nat} {sp : Sp} {o e : Expr} {es : List Expr} {to : TE} {t : TA} {C D g : Addr} {m : Str} {apos pos : Pos}
def tFldO (X : Cx) (C : Addr) (m : Str) (D : Addr) (sp : Sp) (to : TE) (t : TA) : TE := fun σ H Q => to σ H fun x H1 => ∃ a dx fs b, x = .ref a ∧ H1 a = some (.ins C dx fs) ∧ fs.lookup m = some (.ref b) ∧ t σ H1 fun vs H2 => StX.InsC X H2 b D ∧ sp (V.ref b :: vs) H2 Q E0
theorem pe_fldO {pl : Sem Bool} (he : PE X o to) (hc : Cls X.K C) (hn : NoAttr X.K C m) (c : StX.CallO X.K D g) (F : FnR X.prog X.w X.K X.mg X.base CX0 k g sp) (hr : Room k X.A) (ha : PA X (e :: es) t)
    (hst : starEach (e :: es) X.env = (false, eval e X.env) :: starEach es X.env := by rfl) (hpl : (backTo pos (starEach es X.env)).any (·.1) = false := by rfl)
    (ht : eval (.Call (.Attribute o m apos) (e :: es) [] pos) X.env = (do
      let ov ← eval o X.env
      standAt apos.atName
      let (f, first) ← holding [ov] (getMethod ov m pl)
      callWith pos f first (backTo pos (starEach (e :: es) X.env)) (backToKw pos (keywordEach [] X.env))) := by rfl) :
    PE X (.Call (.Attribute o m apos) (e :: es) [] pos) (tFldO X C m D sp to t) := by
  refine ⟨fun pins s σ H Q I h => ?_⟩
  refine PySem.W.methodCall_KW (pl := pl) (thn (he.run pins s σ H _ I h) fun u s1 ⟨x, H1, I1, rx, a, dx, fs, b, ex, ea, l, q⟩ => ?_) ht
  subst ex
  obtain rfl : u = Value.ref a := rx
  refine getmeth_fld I1 ea hc hn l fun u2 s2 I2 ru => ?_
  obtain rfl : u2 = Value.ref b := ru
  refine StX.callO_with (thn (ha.run pos pins s2 σ H1 _ I2 q) fun us s3 ⟨vs, H2, I3, r, hi, q2⟩ => ?_) hst hpl
  obtain ⟨ox, od, J, hd⟩ := StX.insC_at I3 hi
  exact ⟨⟨D, ox, od, J, hd⟩, StX.run_callO c F hr passR I3 hi r q2⟩
end
end Al
namespace Al
open PySem PySem.Spec PyProof.Rows L2
section
variable {X : Cx} {k : Nat} {sp : Sp} {o e : Expr} {es : List Expr} {ta : TE} {t : TA} {C m : Str} {apos pos : Pos}
/-- pe_m, K told -/
theorem pe_mK (K : PySem.W.Frag) {pl : Sem Bool} (he : PE X o ta) (F : MFn X.prog X.w K X.mg X.base k C m sp) (hr : Room k X.A) (ha : PA X (e :: es) t) (hK : X.K = K := by rfl)
    (hst : starEach (e :: es) X.env = (false, eval e X.env) :: starEach es X.env := by rfl) (hpl : (backTo pos (starEach es X.env)).any (·.1) = false := by rfl)
    (ht : eval (.Call (.Attribute o m apos) (e :: es) [] pos) X.env = (do
      let ov ← eval o X.env
      standAt apos.atName
      let (f, first) ← holding [ov] (getMethod ov m pl)
      callWith pos f first (backTo pos (starEach (e :: es) X.env)) (backToKw pos (keywordEach [] X.env))) := by rfl) :
    PE X (.Call (.Attribute o m apos) (e :: es) [] pos) (tMet (He.ga K C) m sp ta t) := by
  subst hK
  exact pe_m he F hr ha hst hpl ht
end
end Al
set_option maxHeartbeats 4000000
/-! D20: Ways.__init__. -/
namespace Al
open PySem PySem.Spec PyProof.Rows L2
section
variable {P : Program} {w : World} {K : PySem.W.Frag} {mg : Str → Option Value} {base : Heap}
def spWaysI (P : Program) (w : World) (K : PySem.W.Frag) : Sp := fun vs H Q _ => ∃ (x dx m l : Addr) (M : Mch) (lims : List (Option Int)), vs = [.ref x, .ref m, .ref l] ∧ H x = some (.ins (He.ga K "Ways") dx []) ∧ MAt K H m M ∧ HSq H l (lims.map lv) ∧
  ∀ (H' : Hp) (af cd od rl : Addr) (ck : CK) (og : Org) (ra : List Addr), Sbut x H H' → WPc P w K H' x dx m l af cd od rl lims ck og ra → WI M lims (keptOf ck) og (fun n => n ∈ keysO og) → (∀ s ∈ keysC ck, 0 ≤ s ∧ s < M.n) →
    (belowB (zeros M.kinds.length) lims = true → Dom (keptOf ck) 0 (zeros M.kinds.length)) → Q .non H'
theorem ok_Ways_init (T : Txt K mg) : CFn P w K mg base 4 "Ways" (spWaysI P w K) := by
  refine T.okC h_Ways_init rfl (by decide +kernel) (by decide +kernel) sc_Ways_init rfl rfl b_Ways_init (fun vs H Q E h => ?_) (fun cdv A outer s H vs Q E hr h => ?_)
  · obtain ⟨x, dx, m, l, M, lims, rfl, _⟩ := h
    rfl
  · obtain ⟨x, dx, m, l, M, lims, rfl, hx, hm, hl, q⟩ := h
    refine ⟨_, (pss_cons (ps_at (T.c "Ways") (T.n "Ways" "machine") (pv 0) (pv 1))
        (pss_cons (ps_at (T.c "Ways") (T.n "Ways" "limits") (pv 0) (pv 2))
        (pss_cons (ps_at (T.c "Ways") (T.n "Ways" "after") (pv 0) (pe_mk (ok_Adder_init T) (hr.mono (by decide)) (pa_cons (pv 1) pa_nil)))
        (pss_cons (ps_at (T.c "Ways") (T.n "Ways" "costs") (pv 0) pe_dnewK)
        (pss_cons (ps_at (T.c "Ways") (T.n "Ways" "origins") (pv 0) pe_nnew)
        (pss_cons (ps_l (i := 3) sc_Ways_init.nd rfl rfl (pe_callTy (cTuple K) (by rfl) (T.f "tuple") (by decide +kernel) (pa_cons (pe_op op_rep (pe_lst (pa_cons pe_int pa_nil)) (pe_callB (cLen K) (by rfl) (T.f "len") (by decide +kernel) (pa_cons (pe_at (T.c "Machine") (T.n "Machine" "kinds") (pv 1)) pa_nil))) pa_nil)))
        (pss_cons (ps_at (T.c "Ways") (T.n "Ways" "rest") (pv 0) (pe_lst pa_nil))
        (pss_cons (ps_expr (pe_m (pv 0) (ok_Ways_offer T) (hr.mono (by decide)) (pa_cons pe_int (pa_cons (pv 3) (pa_cons pe_non pa_nil)))))
        (pss_cons (ps_l (i := 4) sc_Ways_init.nd rfl rfl pe_int)
        (pss_one (ps_while PassesOwn.never (pt_cmpR op_lt (pv 4) (pe_callB (cLen K) (by rfl) (T.f "len") (by decide +kernel) (pa_cons (pe_at (T.c "Ways") (T.n "Ways" "rest") (pv 0)) pa_nil)) (nomark _))
        (pss_cons (ps_asg (pe_ix (ixL K) (pe_at (T.c "Ways") (T.n "Ways" "rest") (pv 0)) (pv 4) (fun _ _ => rfl)) (pg_t K 2 rfl (pgs_cons (pg_l (i := 5) sc_Ways_init.nd rfl rfl) (pgs_cons (pg_l (i := 6) sc_Ways_init.nd rfl rfl) pgs_nil))))
          (pss_cons (ps_aug (i := 4) sc_Ways_init.nd rfl (.inl rfl) pe_int ip_add)
          (pss_one (ps_if (pt_cmpR (op_inVec K (room65 hr)) (pv 6) (pe_dget (hu_of hr) (pe_at (T.c "Ways") (T.n "Ways" "costs") (pv 0)) (pv 5) (fun _ _ => rfl)) rfl) 
          (pss_one (ps_for PassesOwn.never rfl (pi_list (pe_dget (hu_of hr) (pe_at (T.c "Machine") (T.n "Machine" "ways") (pv 1)) (pv 5) (fun _ _ => rfl))) (pg_l (i := 7) sc_Ways_init.nd rfl rfl)
            (pss_one (ps_expr (pe_m (pv 0) (ok_Ways_offer T) (hr.mono (by decide)) (pa_cons (pe_ix (ixT K) (pv 7) pe_int (fun _ _ => rfl)) (pa_cons (pe_fldO (pv 0) (T.c "Ways") (T.n "Ways" "after") (callO_Adder T) (ok_Adder_call T).run (hr.mono (by decide)) (pa_cons (pv 6) (pa_cons (pv 7) pa_nil))) (pa_cons (pe_tup (pa_cons (pv 5) (pa_cons (pv 6) (pa_cons (pv 7) pa_nil)))) pa_nil))))))))
          pss_nil))))))))))))))), ?_⟩
    have ok := hm.ok
    have n1 := ok.n1
    have n2 := ok.n2
    have k2 := ok.k2
    have hmx : m ≠ x := hm.ne hx
    have isx : ∀ {o : HO} {C dx : Addr} {fs : List (Str × V)}, o = .ins C dx fs → (∀ ys, o ≠ .tup ys) ∧ (∀ ys, o ≠ .lst ys) ∧ (∀ kvs, o ≠ .dK kvs) ∧ (∀ q u, o ≠ .frz q u) := fun e => by
      rw [e]
      exact ⟨(fun _ z => by cases z), (fun _ z => by cases z), (fun _ z => by cases z), (fun _ _ z => by cases z)⟩
    obtain ⟨i1, i2, i3, i4⟩ := isx (o := .ins (He.ga K "Ways") dx []) rfl
    refine ⟨_, rfl, _, rfl, x, dx, [], rfl, hx, by decide, ?_⟩
    have sb1 : Sbut x H (upd H x (.ins (He.ga K "Ways") dx (putF "machine" (.ref m) []))) := .upd
    have ex1 : (upd H x (.ins (He.ga K "Ways") dx (putF "machine" (.ref m) []))) x = some (.ins (He.ga K "Ways") dx (fW1 (.ref m))) := upd_same
    generalize upd H x (.ins (He.ga K "Ways") dx (putF "machine" (.ref m) [])) = H1 at sb1 ex1
    refine ⟨_, rfl, _, rfl, x, dx, _, rfl, ex1, (by show 1 < 1000; decide), ?_⟩
    have sb2 : Sbut x H (upd H1 x (.ins (He.ga K "Ways") dx (putF "limits" (.ref l) (fW1 (.ref m))))) := sb1.trans .upd
    have ex2 : (upd H1 x (.ins (He.ga K "Ways") dx (putF "limits" (.ref l) (fW1 (.ref m))))) x = some (.ins (He.ga K "Ways") dx (fW2 (.ref m) (.ref l))) := by rw [upd_same, pfW2]
    generalize upd H1 x (.ins (He.ga K "Ways") dx (putF "limits" (.ref l) (fW1 (.ref m)))) = H2 at sb2 ex2
    have hm2 : MAt K H2 m M := hm.sb hx i1 i2 i3 hmx sb2
    refine ⟨_, rfl, fun a da ha hda nda => ⟨a, da, m, M, rfl, upd_same, hm2.sm (smMut (smNew hda) ha), fun H3 sb3 aa => ⟨rfl, ?_⟩⟩⟩
    have nax : a ≠ x := fun z => by rw [z, ex2] at ha; cases ha
    have s3 : Same H2 H3 := same_but ha (smMut (smNew hda) ha) sb3
    have ex3 := s3 _ _ ex2
    refine ⟨_, rfl, x, dx, _, rfl, ex3, (by show 2 < 1000; decide), ?_⟩
    have sbA : Sbut x H (upd H3 x (.ins (He.ga K "Ways") dx (putF "after" (.ref a) (fW2 (.ref m) (.ref l))))) := (sb2.trans (.of s3)).trans .upd
    have exA : (upd H3 x (.ins (He.ga K "Ways") dx (putF "after" (.ref a) (fW2 (.ref m) (.ref l))))) x = some (.ins (He.ga K "Ways") dx (fW3 (.ref m) (.ref l) (.ref a))) := by rw [upd_same, pfW3]
    have aaA : AddAt K (upd H3 x (.ins (He.ga K "Ways") dx (putF "after" (.ref a) (fW2 (.ref m) (.ref l))))) a M.kinds := aa.sb ex3 nax .upd
    generalize upd H3 x (.ins (He.ga K "Ways") dx (putF "after" (.ref a) (fW2 (.ref m) (.ref l)))) = HA at sbA exA aaA
    have hmA : MAt K HA m M := hm.sb hx i1 i2 i3 hmx sbA
    have hlA : HSq HA l (lims.map lv) := hl.sb hx sbA
    obtain ⟨mdx, ts, wd, kl, fs, sa, wa, pcA⟩ := hmA.pc
    have q := fun (H' : Hp) (af cd od rl : Addr) (ck : CK) (og : Org) (ra : List Addr) (sb : Sbut x HA H') => q H' af cd od rl ck og ra (sbA.trans sb)
    clear sb1 sb2 sb3 s3 ex1 ex2 ex3 aa ha hda nda hm2 hx hl hm sbA
    obtain ⟨j1, j2, j3, j4⟩ := isx (o := .ins (He.ga K "Ways") dx (fW3 (.ref m) (.ref l) (.ref a))) rfl
    have hxA : HA x ≠ none := by rw [exA]; exact fun z => by cases z
    -- costs
    refine fun cd hcd => ⟨_, rfl, x, dx, _, rfl, smNew hcd _ _ exA, (by show 3 < 1000; decide), ?_⟩
    have ncx : cd ≠ x := fun z => by rw [z, exA] at hcd; cases hcd
    have sbB : Sbut x HA (upd (upd HA cd (.dK [])) x (.ins (He.ga K "Ways") dx (putF "costs" (.ref cd) (fW3 (.ref m) (.ref l) (.ref a))))) := (Sbut.of (smNew hcd)).trans .upd
    have exB : (upd (upd HA cd (.dK [])) x (.ins (He.ga K "Ways") dx (putF "costs" (.ref cd) (fW3 (.ref m) (.ref l) (.ref a))))) x = some (.ins (He.ga K "Ways") dx (fW4 (.ref m) (.ref l) (.ref a) (.ref cd))) := by rw [upd_same, pfW4]
    have ecB : (upd (upd HA cd (.dK [])) x (.ins (He.ga K "Ways") dx (putF "costs" (.ref cd) (fW3 (.ref m) (.ref l) (.ref a))))) cd = some (.dK []) := (upd_ne ncx).trans upd_same
    generalize upd (upd HA cd (.dK [])) x (.ins (He.ga K "Ways") dx (putF "costs" (.ref cd) (fW3 (.ref m) (.ref l) (.ref a)))) = HB at sbB exB ecB
    -- origins
    refine fun od hod => ⟨_, rfl, x, dx, _, rfl, smNew hod _ _ exB, (by show 4 < 1000; decide), ?_⟩
    have nox : od ≠ x := fun z => by rw [z, exB] at hod; cases hod
    have hodA : HA od = none := sb_none sbB hod hxA (by rw [exB]; exact fun z => by cases z)
    have sbC : Sbut x HA (upd (upd HB od (dN P w od [])) x (.ins (He.ga K "Ways") dx (putF "origins" (.ref od) (fW4 (.ref m) (.ref l) (.ref a) (.ref cd))))) := (sbB.trans (Sbut.of (smNew hod))).trans .upd
    have exC : (upd (upd HB od (dN P w od [])) x (.ins (He.ga K "Ways") dx (putF "origins" (.ref od) (fW4 (.ref m) (.ref l) (.ref a) (.ref cd))))) x = some (.ins (He.ga K "Ways") dx (fW5 (.ref m) (.ref l) (.ref a) (.ref cd) (.ref od))) := by rw [upd_same, pfW5]
    have ecC : (upd (upd HB od (dN P w od [])) x (.ins (He.ga K "Ways") dx (putF "origins" (.ref od) (fW4 (.ref m) (.ref l) (.ref a) (.ref cd))))) cd = some (.dK []) := (upd_ne ncx).trans (smNew hod _ _ ecB)
    have eoC : (upd (upd HB od (dN P w od [])) x (.ins (He.ga K "Ways") dx (putF "origins" (.ref od) (fW4 (.ref m) (.ref l) (.ref a) (.ref cd))))) od = some (dN P w od []) := (upd_ne nox).trans upd_same
    change L2.Ends.nx _ _ (upd (upd HB od (dN P w od [])) x (.ins (He.ga K "Ways") dx (putF "origins" (.ref od) (fW4 (.ref m) (.ref l) (.ref a) (.ref cd)))))
    generalize upd (upd HB od (dN P w od [])) x (.ins (He.ga K "Ways") dx (putF "origins" (.ref od) (fW4 (.ref m) (.ref l) (.ref a) (.ref cd)))) = HC at sbC exC ecC eoC
    clear hod sbB exB ecB
    have pcC := pcA.sb exA j1 j2 j3 hmx sbC
    -- start
    refine ⟨(by show 1 ≤ sizeLine; decide), fun z0 hz0 => ?_⟩
    have pcD := pcC.sm (smNew hz0 (o := .lst [.int 0]))
    refine ⟨_, rfl, m, mdx, _, _, rfl, pcD.m, pcD.kinds, kl, _, rfl, .inl (.of pcD.kl), z0, _, _, rfl, rfl, upd_same, by omega, ?_⟩
    rw [List.length_map]
    refine ⟨by omega, (by rw [List.length_singleton, Nat.one_mul]; exact szOf (by omega)), fun z1 hz1 => ?_⟩
    rw [show ((M.kinds.length : Int).toNat) = M.kinds.length from rfl, rep_zeros] at *
    dsimp only [tNil]
    refine ⟨z1, _, rfl, .inl ⟨.of upd_same, fun z2 hz2 => ?_⟩⟩
    have sD : Same HC (upd (upd (upd HC z0 (.lst [.int 0])) z1 (.lst ((zeros M.kinds.length).map V.int))) z2 (.tup ((zeros M.kinds.length).map V.int))) := ((smNew hz0).trans (smNew hz1)).trans (smNew hz2)
    have ez2 : (upd (upd (upd HC z0 (.lst [.int 0])) z1 (.lst ((zeros M.kinds.length).map V.int))) z2 (.tup ((zeros M.kinds.length).map V.int))) z2 = some (.tup ((zeros M.kinds.length).map V.int)) := upd_same
    generalize upd (upd (upd HC z0 (.lst [.int 0])) z1 (.lst ((zeros M.kinds.length).map V.int))) z2 (.tup ((zeros M.kinds.length).map V.int)) = HD at sD ez2
    clear hz0 hz1 hz2 pcD
    have exD := sD _ _ exC
    -- rest
    refine ⟨(by show 0 ≤ sizeLine; decide), fun rl hrl => ⟨_, rfl, x, dx, _, rfl, smNew hrl _ _ exD, (by show 5 < 1000; decide), ?_⟩⟩
    have nrx : rl ≠ x := fun z => by rw [z, exD] at hrl; cases hrl
    have hrlA : HA rl = none := sb_none (sbC.trans (.of sD)) hrl hxA (by rw [exD]; exact fun z => by cases z)
    have nzr : z2 ≠ x := fun z => by rw [z, exD] at ez2; cases ez2
    have sbE : Sbut x HA (upd (upd HD rl (.lst [])) x (.ins (He.ga K "Ways") dx (putF "rest" (.ref rl) (fW5 (.ref m) (.ref l) (.ref a) (.ref cd) (.ref od))))) := ((sbC.trans (.of sD)).trans (Sbut.of (smNew hrl))).trans .upd
    have exE : (upd (upd HD rl (.lst [])) x (.ins (He.ga K "Ways") dx (putF "rest" (.ref rl) (fW5 (.ref m) (.ref l) (.ref a) (.ref cd) (.ref od))))) x = some (.ins (He.ga K "Ways") dx (fWays (.ref m) (.ref l) (.ref a) (.ref cd) (.ref od) (.ref rl))) := by rw [upd_same, pfW6]
    have ecE : (upd (upd HD rl (.lst [])) x (.ins (He.ga K "Ways") dx (putF "rest" (.ref rl) (fW5 (.ref m) (.ref l) (.ref a) (.ref cd) (.ref od))))) cd = some (.dK []) := (upd_ne ncx).trans (smNew hrl _ _ (sD _ _ ecC))
    have eoE : (upd (upd HD rl (.lst [])) x (.ins (He.ga K "Ways") dx (putF "rest" (.ref rl) (fW5 (.ref m) (.ref l) (.ref a) (.ref cd) (.ref od))))) od = some (dN P w od []) := (upd_ne nox).trans (smNew hrl _ _ (sD _ _ eoC))
    have erE : (upd (upd HD rl (.lst [])) x (.ins (He.ga K "Ways") dx (putF "rest" (.ref rl) (fW5 (.ref m) (.ref l) (.ref a) (.ref cd) (.ref od))))) rl = some (.lst (([] : List Addr).map V.ref)) := (upd_ne nrx).trans upd_same
    have ezE : (upd (upd HD rl (.lst [])) x (.ins (He.ga K "Ways") dx (putF "rest" (.ref rl) (fW5 (.ref m) (.ref l) (.ref a) (.ref cd) (.ref od))))) z2 = some (.tup ((zeros M.kinds.length).map V.int)) := (upd_ne nzr).trans (smNew hrl _ _ ez2)
    generalize upd (upd HD rl (.lst [])) x (.ins (He.ga K "Ways") dx (putF "rest" (.ref rl) (fW5 (.ref m) (.ref l) (.ref a) (.ref cd) (.ref od)))) = HE at sbE exE ecE eoE erE ezE
    clear hrl sbC exC ecC eoC sD ez2 exD pcC
    have nlr : l ≠ rl := hlA.some hrlA
    have wp0 : WPc P w K HE x dx m l a cd od rl lims [] [] [] := ⟨exE, (hlA.sb exA sbE).sq, nlr, ⟨[], ecE, .nil, List.nodup_nil⟩, ⟨[], .emp eoE, .nil, List.nodup_nil⟩, erE, .nil⟩
    -- the first offer
    refine ⟨_, rfl, x, dx, _, rfl, exE, rfl, _, rfl, x, dx, m, l, a, cd, od, rl, z2, lims, [], [], [], 0, zeros M.kinds.length, .non, none, M.kinds.length, rfl, wp0, .of ezE, rfl, List.length_replicate .., (fun s u hu => by cases hu), by omega, (by show 0 < 900000; decide), (by show 0 < 1000000; decide), (fun _ => ⟨(fun z => by cases z), (by show 0 < 1000000; decide)⟩), fun HF ck og ra frF wpF keysF nodeF disjF => ?_⟩
    have sbF : Sbut x HA HF := sb_fr sbE hcd hodA hrlA frF
    obtain ⟨wiF, kcF, domF⟩ : WI M lims (keptOf ck) og (fun n => n ∈ (keysO og).take 0) ∧ (∀ n ∈ keysO og, n.1 ∈ keysC ck) ∧ (belowB (zeros M.kinds.length) lims = true → Dom (keptOf ck) 0 (zeros M.kinds.length)) := by
      rcases disjF with ⟨h1, rfl, h3⟩ | ⟨h1, rfl, h3⟩
      · have e : keptOf ck = keptOf [] := funext h3
        rw [e]
        exact ⟨WI.empty.more (fun n h => by cases h) (fun s v h => by cases h), (fun n h => by cases h), fun h => absurd ⟨h, not_dom_nil⟩ h1⟩
      · have e : keptOf ck = takeK (keptOf []) 0 (zeros M.kinds.length) := funext h3
        rw [e]
        refine ⟨(WI.empty.take ok not_dom_nil (zeros_way n1 h1.1)).more (fun n h => by rw [List.take_zero] at h; cases h) (fun s v h c => by rw [List.take_zero] at c; cases c), fun n h => ?_, fun _ => ⟨zeros M.kinds.length, by unfold takeK; rw [if_pos rfl]; simp, vle_refl _⟩⟩
        have h : n ∈ [((0, zeros M.kinds.length) : Node)] := h
        rw [List.mem_singleton.mp h]
        exact (keysF 0).mpr (.inr rfl)
    have kbF : ∀ s ∈ keysC ck, 0 ≤ s ∧ s < M.n := fun s hs => by
      rcases (keysF s).mp hs with h | rfl
      · cases h
      · omega
    clear disjF keysF nodeF frF wp0 ezE erE eoE ecE sbE
    refine ⟨fun mu σ H' => ∃ (ck : CK) (og : Org) (ra : List Addr) (done : Nat) (o5 o6 o7 : Option V), σ = [some (.ref x), some (.ref m), some (.ref l), some (.ref z2), some (.int (done : Int)), o5, o6, o7] ∧ Sbut x HA H' ∧ WPc P w K H' x dx m l a cd od rl lims ck og ra ∧ WI M lims (keptOf ck) og (fun n => n ∈ (keysO og).take done) ∧ (∀ n ∈ keysO og, n.1 ∈ keysC ck) ∧ (∀ s ∈ keysC ck, 0 ≤ s ∧ s < M.n) ∧
      (belowB (zeros M.kinds.length) lims = true → Dom (keptOf ck) 0 (zeros M.kinds.length)) ∧ done ≤ og.length ∧ mu = 1000001 - done, ⟨_, ck, og, ra, 0, _, _, _, rfl, sbF, wpF, wiF, kcF, kbF, domF, Nat.zero_le _, rfl⟩, ?_⟩
    clear sbF wpF wiF kcF kbF domF exE
    rintro mu σ H6 ⟨ck, og, ra, done, o5, o6, o7, rfl, sb6, wp6, wi6, kc6, kb6, dom6, done6, rfl⟩
    have ralen : ra.length = og.length := by have := Paired.length wp6.rn; rwa [List.length_map] at this
    have oglen := wi6.len n2 k2
    refine ⟨_, rfl, _, rfl, x, dx, _, _, rfl, wp6.v, fw_rest .., rl, _, rfl, .inl (.of wp6.re), _, _, rfl, rfl, ?_⟩
    rw [List.length_map]
    by_cases hlt : done < og.length
    · refine ⟨true, blT (by omega), _, fun _ _ h => h, ?_⟩
      have hra : done < ra.length := by omega
      obtain ⟨nd, hnd, va, ea, hva⟩ := paired_get wp6.rn (List.getElem?_eq_getElem hra)
      have ndin : nd ∈ keysO og := List.mem_of_getElem? hnd
      obtain ⟨g0, g1, vlen, vbd⟩ := wi6.box _ ndin
      obtain ⟨gi, egi⟩ := Int.eq_ofNat_of_zero_le g0
      have hgi : gi < M.n := by omega
      have hat : atI (ra.map V.ref) (done : Int) = some (.ref ra[done]) := atI_nat (by rw [List.getElem?_map, List.getElem?_eq_getElem hra]; rfl)
      refine ⟨_, rfl, x, dx, _, _, rfl, wp6.v, fw_rest .., _, rfl, rl, _, (done : Int), _, rfl, rfl, .of wp6.re, hat, ra[done], _, rfl, SqT.of ea, rfl, _, _, rfl, _, _, rfl, rfl, ?_⟩
      refine ⟨_, rfl, (done : Int), 1, rfl, rfl, ?_⟩
      obtain ⟨kvs, ecd, hkv, cnd⟩ := id wp6.co
      obtain ⟨ha, hvl, e1, gin, nha, ehd, hvs⟩ : ∃ a va, valV kvs (.inl nd.1) = some (.ref a) ∧ nd.1 ∈ keysC ck ∧ a ≠ rl ∧ H6 a = some (.lst (va.map V.ref)) ∧ VecsAt K H6 va (keptOf ck nd.1) := (cost_find nd.1 hkv).elim (fun y => absurd (kc6 nd ndin) y.2) id
      have dg := DGet.k (k := .inl nd.1) ecd
      rw [e1] at dg
      refine ⟨_, rfl, _, rfl, x, dx, _, _, rfl, wp6.v, fw_costs .., _, rfl, cd, .ref ha, rfl, dg, va, ha, nd.2, hvl, keptOf ck nd.1, rfl, rfl, hva, .of ehd, hvs, ?_⟩
      have tk1 : (keysO og).take (done + 1) = (keysO og).take done ++ [nd] := take_snoc hnd
      by_cases ek : nd.2 ∈ keptOf ck nd.1
      · rw [decide_eq_true ek]
        refine ⟨true, rfl, ?_⟩
        have pc6 := pcA.sb exA j1 j2 j3 hmx sb6
        obtain ⟨wla, ela, hla⟩ := pcA.wl gi hgi
        have wlen : wla.length ≤ 1000 := by
          rw [Paired.length hla]
          exact Nat.le_trans (List.length_filter_le _ _) ok.len
        have elx : ∀ H', Sbut x HA H' → H' (wa gi) = some (.lst (wla.map V.ref)) := fun H' s => s _ _ (fun z => by rw [z, exA] at ela; cases ela) ela
        refine ⟨_, rfl, m, mdx, _, _, rfl, pc6.m, pc6.ways, _, rfl, wd, .ref (wa gi), rfl, (by rw [egi]; exact pc6.way hgi), wa gi, rfl, ⟨_, .of (elx _ sb6)⟩, ?_⟩
        refine for_it walk_list (fun j σ H' => ∃ (ck : CK) (og2 : Org) (ra : List Addr) (o7 : Option V), σ = [some (.ref x), some (.ref m), some (.ref l), some (.ref z2), some (.int ((done : Int) + 1)), some (.int nd.1), some (.ref va), o7] ∧ Sbut x HA H' ∧ WPc P w K H' x dx m l a cd od rl lims ck og2 ra ∧ WI M lims (keptOf ck) og2 (fun n => n ∈ (keysO og).take done) ∧ (∃ r, og2 = og ++ r) ∧ (∀ n ∈ keysO og2, n.1 ∈ keysC ck) ∧ (∀ s ∈ keysC ck, 0 ≤ s ∧ s < M.n) ∧
          (belowB (zeros M.kinds.length) lims = true → Dom (keptOf ck) 0 (zeros M.kinds.length)) ∧ VecR K H' va nd.2 ∧ ∀ t : Stp, t ∈ (M.steps.filter fun t => decide (t.s = (gi : Int))).take j → belowB (vecAdd M.kinds nd.2 t.k) lims = true → Dom (keptOf ck) t.g (vecAdd M.kinds nd.2 t.k))
          ⟨ck, og, ra, _, rfl, sb6, wp6, wi6, ⟨[], by rw [List.append_nil]⟩, kc6, kb6, dom6, hva, fun t ht => by rw [List.take_zero] at ht; cases ht⟩
          (fun j σ H' _ ⟨_, _, _, _, _, s, _⟩ => .of (elx _ s)) ?_ ?_
        · rintro j v σ H8 H9 hj ⟨ck8, og8, ra8, o7, rfl, sb8, wp8, wi8, ⟨r8, hr8⟩, kc8, kb8, dom8, hva8, tk8⟩ ⟨rfl, hv⟩
          rw [List.length_map] at hj
          rw [List.getElem?_map, List.getElem?_eq_getElem hj] at hv
          cases hv
          have hla8 : StpsAt H9 wla (M.steps.filter fun t => decide (t.s = (gi : Int))) := stps_sb exA j1 sb8 hla
          obtain ⟨t, htj, hta⟩ := paired_get hla8 (List.getElem?_eq_getElem hj)
          have htf := List.mem_of_getElem? htj
          have ht := (List.mem_filter.mp htf).1
          have hts : t.s = nd.1 := (of_decide_eq_true (List.mem_filter.mp htf).2).trans egi.symm
          have tok := ok.st t ht
          have tk := ok.kin t ht
          have aa8 : AddAt K H9 a M.kinds := aaA.sb exA nax sb8
          have nd8 : nd ∈ keysO og8 := by rw [hr8, keysO, List.map_append]; exact List.mem_append_left _ ndin
          have nd8' : (t.s, nd.2) ∈ keysO og8 := by rw [hts]; exact nd8
          refine ⟨_, rfl, x, dx, _, rfl, wp8.v, rfl, ?_⟩
          refine ⟨_, rfl, wla[j], t.vs, 3, .int t.g, rfl, rfl, .of hta, rfl, ?_⟩
          refine ⟨_, rfl, x, dx, _, a, rfl, wp8.v, fw_after .., _, rfl, _, rfl, ?_, ?_⟩
          · obtain ⟨adx, d, y1, y2⟩ := aa8
            exact .inr ⟨adx, _, y1⟩
          · refine ⟨a, va, wla[j], M.kinds, nd.2, t, rfl, aa8, hva8, hta, vlen, ok.knd, k2, tk, fun H10 p s10 hp => ?_⟩
            refine ⟨_, rfl, _, rfl, _, rfl, (by show 3 ≤ sizeLine; decide), fun ot hot => ?_⟩
            have s11 : Same H9 (upd H10 ot (.tup [.int nd.1, .ref va, .ref wla[j]])) := s10.trans (smNew hot)
            have eot : (upd H10 ot (.tup [.int nd.1, .ref va, .ref wla[j]])) ot = some (.tup [.int nd.1, .ref va, .ref wla[j]]) := upd_same
            have hp11 := smTup (smNew hot (o := .tup [.int nd.1, .ref va, .ref wla[j]])) hp
            generalize upd H10 ot (.tup [.int nd.1, .ref va, .ref wla[j]]) = H11 at s11 eot hp11
            have wp11 := wp8.sm s11
            have wl := vecAdd_len vlen tk
            have k8 : ∀ s, ∀ u ∈ keptOf ck8 s, u.length = M.kinds.length := fun s u hu => (wi8.box _ (wi8.ke s u hu)).2.2.1
            have taken : Taken lims ck8 t.g (vecAdd M.kinds nd.2 t.k) → WI M lims (takeK (keptOf ck8) t.g (vecAdd M.kinds nd.2 t.k)) (og8 ++ [((t.g, vecAdd M.kinds nd.2 t.k), some ((t.s, nd.2), t))]) (fun n => n ∈ (keysO og).take done) := fun ⟨z1, z2⟩ => by
              obtain ⟨p, hp⟩ := wi8.way ok nd8' ht z1 z2
              exact wi8.take ok z2 hp
            have ck8len : ck8.length ≤ 100 := by
              have := nd_lt wp8.co.choose_spec.2.2 kb8
              rw [List.length_map] at this
              omega
            have hov : OrgV K H11 (.ref ot) (some ((t.s, nd.2), t)) := ⟨ot, va, wla[j], rfl, by rw [eot, hts], smTup s11 hva8, s11 _ _ hta⟩
            refine ⟨x, dx, m, l, a, cd, od, rl, p, lims, ck8, og8, ra8, t.g, vecAdd M.kinds nd.2 t.k, .ref ot, some ((t.s, nd.2), t), M.kinds.length, rfl, wp11, hp11, hov, wl, k8, by omega, by omega, ?_, fun z => ⟨wi8.new z.2, ?_⟩, fun H12 ck12 og12 ra12 fr12 wp12 keys12 node12 disj12 => ?_⟩
            · have := wi8.klen2 n2 k2 t.g
              omega
            · have := (taken z).len n2 k2
              rw [List.length_append, List.length_singleton] at this
              omega
            · have sb12 : Sbut x HA H12 := sb_fr (sb8.trans (.of s11)) hcd hodA hrlA fr12
              have kb12 : ∀ s ∈ keysC ck12, 0 ≤ s ∧ s < M.n := fun s hs => by
                rcases (keys12 s).mp hs with h | rfl
                · exact kb8 s h
                · exact ⟨tok.g0, tok.g1⟩
              have hva12 : VecR K H12 va nd.2 := wp11.sqT fr12 (smTup s11 hva8)
              obtain ⟨wi12, hr12, kk12, mono, new⟩ : WI M lims (keptOf ck12) og12 (fun n => n ∈ (keysO og).take done) ∧ (∃ r, og12 = og ++ r) ∧ (∀ n ∈ keysO og12, n ∈ keysO og8 ∨ n.1 = t.g) ∧ (∀ (s : Int) (u : List Int), u.length = M.kinds.length → Dom (keptOf ck8) s u → Dom (keptOf ck12) s u) ∧ (belowB (vecAdd M.kinds nd.2 t.k) lims = true → Dom (keptOf ck12) t.g (vecAdd M.kinds nd.2 t.k)) := by
                rcases disj12 with ⟨h1, rfl, h3⟩ | ⟨h1, rfl, h3⟩
                · have e : keptOf ck12 = keptOf ck8 := funext h3
                  rw [e]
                  exact ⟨wi8, ⟨r8, hr8⟩, fun n hn => .inl hn, fun _ _ _ h => h, fun hb => Classical.byContradiction fun z => h1 ⟨hb, z⟩⟩
                · have e : keptOf ck12 = takeK (keptOf ck8) t.g (vecAdd M.kinds nd.2 t.k) := funext h3
                  rw [e]
                  refine ⟨taken h1, ⟨r8 ++ [((t.g, vecAdd M.kinds nd.2 t.k), some ((t.s, nd.2), t))], by rw [hr8, List.append_assoc]⟩, fun n hn => ?_, fun s u hu h => take_dom (fun v hv => (k8 t.g v hv).trans wl.symm) (wl.trans hu.symm) h, fun _ => ⟨_, by unfold takeK; rw [if_pos rfl]; simp, vle_refl _⟩⟩
                  rw [keysO, List.map_append] at hn
                  rcases List.mem_append.mp hn with hn | hn
                  · exact .inl hn
                  · rw [List.map_singleton, List.mem_singleton] at hn
                    exact .inr (by rw [hn])
              refine ⟨ck12, og12, ra12, _, rfl, sb12, wp12, wi12, hr12, fun n hn => (keys12 n.1).mpr ((kk12 n hn).imp (kc8 n) id), kb12, fun hb => mono _ _ (List.length_replicate ..) (dom8 hb), hva12, fun t' ht' hb' => ?_⟩
              rw [List.take_add_one, htj] at ht'
              rcases List.mem_append.mp ht' with ht' | ht'
              · have t'k := ok.kin t' (List.mem_filter.mp (List.mem_of_mem_take ht')).1
                exact mono _ _ (vecAdd_len vlen t'k) (tk8 t' ht' hb')
              · have e : t' = t := List.mem_singleton.mp ht'
                rw [e] at hb' ⊢
                exact new hb'
        · rintro σ H8 ⟨ck8, og8, ra8, o7, rfl, sb8, wp8, wi8, ⟨r8, hr8⟩, kc8, kb8, dom8, hva8, tk8⟩
          have tlen : ((wla.map V.ref).length) = (M.steps.filter fun t => decide (t.s = (gi : Int))).length := by rw [List.length_map]; exact Paired.length hla
          rw [tlen, List.take_length] at tk8
          have tk88 : (keysO og8).take (done + 1) = (keysO og).take done ++ [nd] := by
            rw [hr8, keysO, List.map_append, List.take_append_of_le_length (by rw [List.length_map]; omega)]
            exact tk1
          have o8len : og.length ≤ og8.length := by rw [hr8, List.length_append]; omega
          refine ⟨1000001 - (done + 1), by omega, ck8, og8, ra8, done + 1, _, _, _, rfl, sb8, wp8, ?_, kc8, kb8, dom8, by omega, rfl⟩
          refine wi8.more (fun n hn => List.mem_of_mem_take hn) fun s v hv hcl hno t ht hts hb => ?_
          rw [tk88] at hcl
          rcases List.mem_append.mp hcl with hcl | hcl
          · exact absurd hcl hno
          · have e : (s, v) = nd := List.mem_singleton.mp hcl
            have e1 : s = nd.1 := by rw [← e]
            have e2 : v = nd.2 := by rw [← e]
            rw [e2] at hb ⊢
            exact tk8 t (List.mem_filter.mpr ⟨ht, decide_eq_true (by rw [hts, e1, egi])⟩) hb
      · rw [decide_eq_false ek]
        refine ⟨false, rfl, ?_⟩
        refine ⟨1000001 - (done + 1), by omega, ck, og, ra, done + 1, _, _, _, rfl, sb6, wp6, ?_, kc6, kb6, dom6, by omega, rfl⟩
        refine wi6.more (fun n hn => List.mem_of_mem_take hn) fun s v hv hcl hno t ht hts hb => ?_
        rw [tk1] at hcl
        rcases List.mem_append.mp hcl with hcl | hcl
        · exact absurd hcl hno
        · have e : (s, v) = nd := List.mem_singleton.mp hcl
          have e1 : s = nd.1 := by rw [← e]
          have e2 : v = nd.2 := by rw [← e]
          rw [e1, e2] at hv
          exact absurd hv ek
    · refine ⟨false, blNo (by omega), ?_⟩
      have e : (keysO og).take done = keysO og := List.take_of_length_le (by rw [List.length_map]; omega)
      rw [e] at wi6
      exact q _ a cd od rl ck og ra sb6 wp6 wi6 kb6 dom6
end
end Al
set_option maxHeartbeats 4000000
/-! D17: Ways.table. -/
namespace Al
open PySem PySem.Spec PyProof.Rows L2
section
variable {P : Program} {w : World} {K : PySem.W.Frag} {mg : Str → Option Value} {base : Heap}
/-- an entry of a table -/
def TabR (K : PySem.W.Frag) (H : Hp) (e : Key × V) (c : Int × List (List Int)) : Prop := e.1 = .inl c.1 ∧ ∃ a va, e.2 = .ref a ∧ H a = some (.lst (va.map V.ref)) ∧ VecsAt K H va c.2
/-- a table: lists of vectors by state -/
def TabAt (K : PySem.W.Frag) (H : Hp) (d : Addr) (tb : CK) : Prop := ∃ kvs, H d = some (.dK kvs) ∧ Paired (TabR K H) kvs tb ∧ (keysC tb).Nodup ∧ tb.length ≤ 100000 ∧ ∀ c ∈ tb, c.2.length ≤ 1000000
theorem kept_in : ∀ {ck : CK} {c : Int × List (List Int)}, (keysC ck).Nodup → c ∈ ck → keptOf ck c.1 = c.2
  | d :: ck, c, hn, h => by
    obtain ⟨h1, h2⟩ := List.nodup_cons.mp hn
    unfold keptOf
    rcases List.mem_cons.mp h with e | e
    · rw [List.find?_cons_of_pos (by rw [e]; simp), e]
      rfl
    · have : ¬ d.1 = c.1 := fun z => h1 (List.mem_map.mpr ⟨c, e, z.symm⟩)
      rw [List.find?_cons_of_neg (by simpa using this)]
      exact kept_in h2 e
/-- the tuple of an entry -/
def ItemR (K : PySem.W.Frag) (H : Hp) (t : Addr) (c : Int × List (List Int)) : Prop := ∃ a va, H t = some (.tup [.int c.1, .ref a]) ∧ H a = some (.lst (va.map V.ref)) ∧ VecsAt K H va c.2
theorem ItemR.sm {H H' : Hp} {t : Addr} {c : Int × List (List Int)} (s : Same H H') (h : ItemR K H t c) : ItemR K H' t c := let ⟨a, va, x, y, z⟩ := h; ⟨a, va, s _ _ x, s _ _ y, z.sm s⟩
theorem items_of {r : Addr} {H H2 : Hp} (s : Same H H2) : ∀ {kvs : List (Key × V)} {ck : CK} {ts : List Addr}, Paired (CostR K r H) kvs ck → Paired (fun (t : Addr) (p : Key × V) => H2 t = some (.tup [kV p.1, p.2])) ts kvs → Paired (ItemR K H2) ts ck
  | _, _, _, .nil, .nil => .nil
  | e :: _, c :: _, t :: _, .cons h1 h2, .cons g1 g2 => by
    obtain ⟨x, a, va, y, z, u, w⟩ := h1
    rw [x, y] at g1
    exact .cons ⟨a, va, g1, s _ _ u, w.sm s⟩ (items_of s h2 g2)
theorem tab_of {H3 H4 : Hp} {D : Addr} (s : Same H3 H4) : ∀ {os : List (Option (Key × V))} {cz : CK}, os.length = cz.length →
    (∀ (i : Nat) (o : Option (Key × V)), os[i]? = some o → ∃ c : Int × List (List Int), cz[i]? = some c ∧ ((c.2 = [] ∧ o = none) ∨ (c.2 ≠ [] ∧ ∃ (a : Addr) (va : List Addr) (vs : List (List Int)), o = some (.inl c.1, .ref a) ∧ a ≠ D ∧ H4 a = some (.lst (va.map V.ref)) ∧ VecsAt K H3 va vs ∧ vs.Perm c.2))) →
    ∃ tb : CK, Paired (TabR K H4) (os.filterMap id) tb ∧ keysC tb = keysC (cz.filter fun c => !c.2.isEmpty) ∧ ∀ c ∈ tb, ∃ d ∈ cz, c.2.Perm d.2
  | [], [], _, _ => ⟨[], .nil, rfl, fun c hc => by cases hc⟩
  | [], _ :: _, h, _ => by simp at h
  | _ :: _, [], h, _ => by simp at h
  | o :: os, c :: cz, h, k => by
    obtain ⟨tb, t1, t2, t3⟩ := tab_of s (os := os) (cz := cz) (by simpa using h) fun i o ho => k (i + 1) o ho
    obtain ⟨c', e, q⟩ := k 0 o rfl
    cases e
    rcases q with ⟨q1, rfl⟩ | ⟨q1, a, va, vs, rfl, q2, q3, q4, q5⟩
    · refine ⟨tb, t1, ?_, fun c hc => let ⟨d, x, y⟩ := t3 c hc; ⟨d, List.mem_cons_of_mem _ x, y⟩⟩
      rw [t2, List.filter_cons_of_neg (by rw [q1]; simp)]
    · refine ⟨(c.1, vs) :: tb, .cons ⟨rfl, a, va, rfl, q3, q4.sm s⟩ t1, ?_, fun d hd => ?_⟩
      · rw [List.filter_cons_of_pos (by cases e2 : c.2 with | nil => exact absurd e2 q1 | cons x y => rfl), keysC, List.map_cons, keysC, List.map_cons]
        exact congrArg _ t2
      · rcases List.mem_cons.mp hd with rfl | hd
        · exact ⟨c, by simp, q5⟩
        · obtain ⟨d', x, y⟩ := t3 d hd
          exact ⟨d', List.mem_cons_of_mem _ x, y⟩
def spTable (P : Program) (w : World) (K : PySem.W.Frag) : Sp := fun vs H Q _ => ∃ (x dx m l af cd od rl : Addr) (lims : List (Option Int)) (ck : CK) (og : Org) (ra : List Addr) (k : Nat), vs = [.ref x] ∧ WPc P w K H x dx m l af cd od rl lims ck og ra ∧ (∀ g, (keptOf ck g).length ≤ 1000000 ∧ (keptOf ck g).Nodup ∧ ∀ u ∈ keptOf ck g, u.length = k) ∧ ck.length ≤ 100000 ∧
  ∀ (H' : Hp) (d : Addr) (tb : CK), Same H H' → H d = none → TabAt K H' d tb → (∀ s, s ∈ keysC tb ↔ keptOf ck s ≠ []) → Q (.ref d) H'
theorem ok_Ways_table (T : Txt K mg) : MFn P w K mg base 2 "Ways" "table" (spTable P w K) := by
  refine T.okM h_Ways_table rfl (by decide +kernel) (by decide +kernel) sc_Ways_table rfl rfl b_Ways_table (fun vs H Q E h => ?_) (fun cdv A outer s H vs Q E hr h => ?_)
  · obtain ⟨x, dx, m, l, af, cd, od, rl, lims, ck, og, ra, k, rfl, _⟩ := h
    rfl
  · obtain ⟨x, dx, m, l, af, cd, od, rl, lims, ck, og, ra, k, rfl, wp, klen, clen, q⟩ := h
    refine ⟨_, (pss_one (ps_ret (pe_dcg (own := [("state", 1), ("held", 2)]) dkindK rfl sc_Ways_table.nd (pi_list (pe_sortedItems rfl (hu20 hr) (pe_at (T.c "Ways") (T.n "Ways" "costs") (pv 0)) (T.f "sorted"))) (blkOk_by (own := [("state", 1), ("held", 2)]) (N := N_Ways_table) (sc := defScope s_Ways_table) (by decide +kernel)) ⟨(fun _ _ _ _ _ => (pg_t K 2 rfl (pgs_cons (pg_l (i := 1) sc_Ways_table.nd rfl rfl) (pgs_cons (pg_l (i := 2) sc_Ways_table.nd rfl rfl) pgs_nil)))), (fun _ _ _ _ _ => (pts_one (pt_cmpR (op_neDK K hr.units) (pv 2) (pe_lst pa_nil) (nomark _)))), (fun _ _ _ _ _ => (pv 1)), (fun _ _ _ _ _ => (pe_callB (call_sortedL K (hu20 hr)) (by rfl) (T.f "sorted") (by decide +kernel) (pa_cons (pv 2) pa_nil)))⟩))), ?_⟩
    obtain ⟨kvs, ecd, hkv, cnd⟩ := id wp.co
    refine ⟨_, rfl, x, dx, _, _, rfl, wp.v, fw_costs .., cd, kvs, rfl, ecd, fun H2 ts s2 hts => ?_⟩
    refine ⟨_, items_sable s2 hkv hts (by omega), fun ys p hys hp => ?_⟩
    have tslen : ts.length = ck.length := by rw [Paired.length hts, Paired.length hkv]
    obtain ⟨tz, t1, rfl⟩ := perm_map_inv (fun a b e => by cases e; rfl) hys
    obtain ⟨cz, c1, hcz⟩ := paired_perm t1 (items_of s2 hkv hts)
    have sP : Same H2 (upd H2 p (.lst (tz.map V.ref))) := smNew hp
    have eP : (upd H2 p (.lst (tz.map V.ref))) p = some (.lst (tz.map V.ref)) := upd_same
    have hcz := Paired.mapP hcz fun t c y => y.sm sP
    have sHP := s2.trans sP
    generalize upd H2 p (.lst (tz.map V.ref)) = H3 at sP eP hcz sHP
    have tzlen : tz.length = ck.length := by rw [t1.length_eq, tslen]
    refine ⟨p, rfl, ⟨_, .of eP⟩, ?_⟩
    have cznd : (keysC cz).Nodup := (c1.map _).nodup_iff.mpr cnd
    refine dkR (walk_list (xs := tz.map V.ref)) (fun D i o H' => ∃ c, cz[i]? = some c ∧ ((c.2 = [] ∧ o = none) ∨ (c.2 ≠ [] ∧ ∃ a va vs, o = some (.inl c.1, .ref a) ∧ a ≠ D ∧ H' a = some (.lst (va.map V.ref)) ∧ VecsAt K H3 va vs ∧ vs.Perm c.2))) ?_ (fun H' s => .of (s _ _ eP)) (by rw [List.length_map]; omega) ?_ ?_
    · rintro D i o Ha Hb ⟨c, e1, e2⟩ sb
      refine ⟨c, e1, e2.imp id ?_⟩
      rintro ⟨e3, a, va, vs, e4, e5, e6, e7, e8⟩
      exact ⟨e3, a, va, vs, e4, e5, sb _ _ e5 e6, e7, e8⟩
    · rintro D i y H4 H5 acc hi hD s4 eD ⟨rfl, hv⟩ Kt kk
      rw [List.length_map] at hi
      rw [List.getElem?_map, List.getElem?_eq_getElem hi] at hv
      cases hv
      obtain ⟨c, hc, a, va, x1, x2, x3⟩ := paired_get hcz (List.getElem?_eq_getElem hi)
      have hcin : c ∈ ck := c1.mem_iff.mp (List.mem_of_getElem? hc)
      have ekept : keptOf ck c.1 = c.2 := kept_in cnd hcin
      obtain ⟨kl, knd, kk2⟩ := klen c.1
      rw [ekept] at kl knd kk2
      refine ⟨tz[i], _, rfl, SqT.of (s4 _ _ x1), rfl, _, _, rfl, _, _, rfl, rfl, rfl, ?_⟩
      refine ⟨_, rfl, (by show 0 ≤ sizeLine; decide), fun e1 he1 => ?_⟩
      have s5 : Same H5 (upd H5 e1 (.lst [])) := smNew he1
      refine ⟨.list (c.2.map dV), .list [], .lst (.of (s5 _ _ (s4 _ _ x2))) (dp_vs (x3.sm (s4.trans s5))), .lst (.of upd_same) .nil, shaped_vs c.2, rfl, _, rfl, ?_⟩
      rw [eqv_nil, List.isEmpty_map]
      cases ec : c.2 with
      | nil =>
        exact kk none _ s5 ⟨c, hc, .inl ⟨ec, rfl⟩⟩
      | cons u0 ur =>
        rw [← ec]
        rw [show (!c.2.isEmpty) = true by rw [ec]; rfl]
        have s45 := s4.trans s5
        refine ⟨_, rfl, _, rfl, a, va.map V.ref, c.2.map dV, rfl, .of (s45 _ _ x2), sable_vs (x3.sm s45) knd kk2 kl, fun ys q hperm hq => ?_⟩
        obtain ⟨vz, v1, rfl⟩ := perm_map_inv (fun a b e => by cases e; rfl) hperm
        obtain ⟨vs2, w1, w2⟩ := paired_perm v1 x3
        refine kk (some (.inl c.1, .ref q)) _ (s5.trans (smNew hq)) ⟨c, hc, .inr ⟨by rw [ec]; exact List.cons_ne_nil _ _, q, vz, vs2, rfl, fun z => ?_, upd_same, w2, w1⟩⟩
        have e := s5 _ _ eD
        rw [← z, hq] at e
        cases e
    · intro D H4 os hD s4 eD olen hos
      rw [List.length_map] at olen
      have czlen : cz.length = tz.length := (Paired.length hcz).symm
      obtain ⟨tb, t1, t2, t3⟩ := tab_of (D := D) s4 (by omega) hos
      have keq : (os.filterMap id).map (·.1) = (keysC tb).map Sum.inl := by
        clear t2 t3 eD hos
        generalize os.filterMap id = xs at t1
        induction t1 with
        | nil => rfl
        | cons a _ ih => rw [List.map_cons, ih, a.1]; rfl
      have tnd : (keysC tb).Nodup := by
        rw [t2]
        exact List.Sublist.nodup (List.Sublist.map _ List.filter_sublist) cznd
      have pall : putAll (os.filterMap id) = os.filterMap id := putAll_nodup _ (by rw [keq]; exact map_inl_nd tnd)
      rw [pall] at eD
      have tlen : tb.length ≤ ck.length := by
        have e := congrArg List.length t2
        rw [List.length_map, List.length_map] at e
        have h1 := List.length_filter_le (fun c : Int × List (List Int) => !c.2.isEmpty) cz
        omega
      refine q H4 D tb (sHP.trans s4) (none_same sHP hD) ⟨_, eD, t1, tnd, by omega, fun c hc => ?_⟩ fun s' => ?_
      · obtain ⟨d, x, y⟩ := t3 c hc
        rw [y.length_eq, ← kept_in cnd (c1.mem_iff.mp x)]
        exact (klen d.1).1
      · rw [t2]
        constructor
        · intro z
          obtain ⟨c, hc, rfl⟩ := List.mem_map.mp z
          obtain ⟨x, y⟩ := List.mem_filter.mp hc
          rw [kept_in cnd (c1.mem_iff.mp x)]
          intro e
          rw [e] at y
          cases y
        · intro z
          by_cases e : s' ∈ keysC ck
          · obtain ⟨c, hc, rfl⟩ := List.mem_map.mp e
            rw [kept_in cnd hc] at z
            exact List.mem_map.mpr ⟨c, List.mem_filter.mpr ⟨c1.mem_iff.mpr hc, by cases e2 : c.2 with | nil => exact absurd e2 z | cons x y => rfl⟩, rfl⟩
          · exact absurd (keptOf_none e) z
end
end Al
set_option maxHeartbeats 4000000
/-! D21: Tabled.__init__, for each class below it. -/
namespace Al
open PySem PySem.Spec PyProof.Rows L2
theorem upd_comm {H : Hp} {a b : Addr} {o u : HO} (h : a ≠ b) : upd (upd H b u) a o = upd (upd H a o) b u := funext fun c => by
  by_cases e1 : c = a
  · rw [e1, upd_same, upd_ne h, upd_same]
  · by_cases e2 : c = b
    · rw [e2, upd_ne (fun z => h z.symm), upd_same, upd_same]
    · rw [upd_ne e1, upd_ne e2, upd_ne e2, upd_ne e1]
theorem tab_all {K : PySem.W.Frag} {H0 H4 : Hp} {D : Addr} (s : Same H0 H4) : ∀ {os : List (Option (Key × V))} {tb : CK}, os.length = tb.length →
    (∀ (i : Nat) (o : Option (Key × V)), os[i]? = some o → ∃ c : Int × List (List Int), tb[i]? = some c ∧ ∃ (a : Addr) (va : List Addr), o = some (.inl c.1, .ref a) ∧ a ≠ D ∧ H4 a = some (.lst (va.map V.ref)) ∧ VecsAt K H0 va c.2) →
    Paired (TabR K H4) (os.filterMap id) tb
  | [], [], _, _ => .nil
  | [], _ :: _, h, _ => by simp at h
  | _ :: _, [], h, _ => by simp at h
  | o :: os, c :: tb, h, k => by
    have t1 := tab_all s (os := os) (tb := tb) (by simpa using h) fun i o ho => k (i + 1) o ho
    obtain ⟨c', e, a, va, rfl, _, q3, q4⟩ := k 0 o rfl
    cases e
    exact .cons ⟨rfl, a, va, rfl, q3, q4.sm s⟩ t1
theorem tabR_keys {K : PySem.W.Frag} {H : Hp} {kvs : List (Key × V)} {tb : CK} (h : Paired (TabR K H) kvs tb) : kvs.map (·.1) = (keysC tb).map Sum.inl := by
  induction h with
  | nil => rfl
  | cons a _ ih => rw [List.map_cons, ih, a.1]; rfl
/-- what leaves the tables -/
theorem TabR.keep {K : PySem.W.Frag} {H H' : Hp} (k1 : ∀ a xs, H a = some (.lst xs) → H' a = some (.lst xs)) (k2 : ∀ a xs, SqT K H a xs → SqT K H' a xs) {e : Key × V} {c : Int × List (List Int)} (h : TabR K H e c) : TabR K H' e c := let ⟨x, a, va, y, z, u⟩ := h; ⟨x, a, va, y, k1 _ _ z, Paired.mapP u fun p q s => k2 _ _ s⟩
theorem TabAt.sm {K : PySem.W.Frag} {H H' : Hp} {d : Addr} {tb : CK} (s : Same H H') (h : TabAt K H d tb) : TabAt K H' d tb := let ⟨kvs, a, b, c⟩ := h; ⟨kvs, s _ _ a, Paired.mapP b fun e c z => z.keep (fun a xs q => s _ _ q) fun a xs q => smTup s q, c⟩
theorem TabAt.sb {K : PySem.W.Frag} {H H' : Hp} {d x C dx : Addr} {fs : List (Str × V)} {tb : CK} (hx : H x = some (.ins C dx fs)) (s : Sbut x H H') (h : TabAt K H d tb) : TabAt K H' d tb := let ⟨kvs, a, b, c⟩ := h; ⟨kvs, s _ _ (fun z => by rw [z, hx] at a; cases a) a, Paired.mapP b fun e c z => z.keep (fun a xs q => s _ _ (fun z => by rw [z, hx] at q; cases q) q) fun a xs q => sqT_sb2 hx (fun _ z => by cases z) (fun _ _ z => by cases z) s q, c⟩
section
variable {P : Program} {w : World} {K : PySem.W.Frag} {mg : Str → Option Value} {base : Heap}
def spTab (K : PySem.W.Frag) (C : Str) : Sp := fun vs H Q _ => ∃ (x dx d : Addr) (tb : CK), vs = [.ref x, .ref d] ∧ H x = some (.ins (He.ga K C) dx []) ∧ TabAt K H d tb ∧
  ∀ (H' : Hp) (d' : Addr), Sbut x H H' → H' x = some (.ins (He.ga K C) dx [(("costs" : Str), .ref d')]) → TabAt K H' d' tb → Q .non H'
theorem ok_Tabled_init (T : Txt K mg) {C : Str} (hcl : Cls K (He.ga K C)) (hna : NoAttr K (He.ga K C) "costs") : FnR P w K mg base CX0 2 (He.ma K (He.ga K "Tabled") "__init__") (spTab K C) := by
  refine T.ok h_Tabled_init sc_Tabled_init rfl rfl b_Tabled_init (fun vs H Q E h => ?_) (fun cdv A outer s H vs Q E hr h => ?_)
  · obtain ⟨x, dx, d, tb, rfl, _⟩ := h
    rfl
  · obtain ⟨x, dx, d, tb, rfl, hx, ht, q⟩ := h
    refine ⟨_, (pss_one (ps_lock (ps_at hcl hna (pv 0) (pe_dcg (own := [("state", 2), ("held", 3)]) dkindK rfl sc_Tabled_init.nd (pi_items (pv 1)) (blkOk_by (own := [("state", 2), ("held", 3)]) (N := N_Tabled_init) (sc := defScope s_Tabled_init) (by decide +kernel)) ⟨(fun _ _ _ _ _ => (pg_t K 2 rfl (pgs_cons (pg_l (i := 2) sc_Tabled_init.nd rfl rfl) (pgs_cons (pg_l (i := 3) sc_Tabled_init.nd rfl rfl) pgs_nil)))), (fun _ _ _ _ _ => pts_nil), (fun _ _ _ _ _ => (pv 2)), (fun _ _ _ _ _ => (pe_callTy (cList K) (by rfl) (T.f "list") (by decide +kernel) (pa_cons (pv 3) pa_nil)))⟩)))), ?_⟩
    obtain ⟨kvs, ed, hkv, knd, tlen, clen⟩ := ht
    have kvlen : kvs.length = tb.length := Paired.length hkv
    refine ⟨d, _, ed, True.intro, fun od => ?_⟩
    have hf : (upd H d (.frz od (.dK kvs))) d = some (.frz od (.dK kvs)) := upd_same
    have ndx : d ≠ x := fun z => by rw [z, hx] at ed; cases ed
    have exL : (upd H d (.frz od (.dK kvs))) x = _ := (upd_ne ndx.symm).trans hx
    have hkvL : Paired (TabR K (upd H d (.frz od (.dK kvs)))) kvs tb := Paired.mapP hkv fun e c z => z.keep (fun a xs q => (upd_ne fun z => by rw [z, ed] at q; cases q).trans q) fun a xs q => sqT_sb2 ed (fun _ z => by cases z) (fun _ _ z => by cases z) .upd q
    have back : ∀ H', Same (upd H d (.frz od (.dK kvs))) H' → Same H (upd H' d (.dK kvs)) := fun H' s => unlock_same ed s
    generalize upd H d (.frz od (.dK kvs)) = HL at hf exL hkvL back
    refine ⟨_, rfl, d, od, kvs, rfl, hf, ?_⟩
    refine dkR walk_items (fun D i o H' => ∃ c : Int × List (List Int), tb[i]? = some c ∧ ∃ (a : Addr) (va : List Addr), o = some (.inl c.1, .ref a) ∧ a ≠ D ∧ H' a = some (.lst (va.map V.ref)) ∧ VecsAt K HL va c.2) ?_ (fun H' s => s _ _ hf) (by omega) ?_ ?_
    · rintro D i o Ha Hb ⟨c, e1, a, va, e2, e3, e4, e5⟩ sb
      exact ⟨c, e1, a, va, e2, e3, sb _ _ e3 e4, e5⟩
    · rintro D i y H4 H5 acc hi hD s4 eD ⟨Ta, u, v, rfl, hT, rfl, hu, hv⟩ Kt kk
      dsimp only at hu hv
      rw [List.getElem?_eq_getElem hi] at hu hv
      cases hu
      cases hv
      obtain ⟨c, hc, x1, a, va, x2, x3, x4⟩ := paired_get hkvL (List.getElem?_eq_getElem hi)
      have s5 : Same H4 (upd H4 Ta (.tup [kV kvs[i].1, kvs[i].2])) := smNew hT
      have eT : (upd H4 Ta (.tup [kV kvs[i].1, kvs[i].2])) Ta = some (.tup [.int c.1, .ref a]) := by rw [upd_same, x1, x2]; rfl
      generalize upd H4 Ta (.tup [kV kvs[i].1, kvs[i].2]) = H5 at s5 eT kk
      refine ⟨Ta, _, rfl, SqT.of eT, rfl, _, _, rfl, _, _, rfl, rfl, rfl, _, rfl, ?_⟩
      refine ⟨_, rfl, a, _, rfl, .inl (.of (s5 _ _ (s4 _ _ x3))), fun p hp => kk (some (.inl c.1, .ref p)) _ (s5.trans (smNew hp)) ⟨c, hc, p, va, rfl, fun z => ?_, upd_same, x4⟩⟩
      have e := s5 _ _ eD
      rw [← z, hp] at e
      cases e
    · intro D H4 os hD s4 eD olen hos
      have hp := tab_all s4 (by omega) hos
      have pall : putAll (os.filterMap id) = os.filterMap id := putAll_nodup _ (by rw [tabR_keys hp]; exact map_inl_nd knd)
      rw [pall] at eD
      have nDd : D ≠ d := fun z => by rw [z, hf] at hD; cases hD
      have ex4 := s4 _ _ exL
      have nDx : D ≠ x := fun z => by rw [z, ex4] at eD; cases eD
      have sbk := back H4 s4
      have ed4 : H4 d = some (.frz od (.dK kvs)) := s4 _ _ hf
      refine ⟨_, rfl, x, dx, [], rfl, ex4, by decide, (upd_ne ndx).trans ed4, ?_⟩
      have tabD : TabAt K (upd H4 d (.dK kvs)) D tb := ⟨_, (upd_ne nDd).trans eD, Paired.mapP hp fun e c z => z.keep (fun a xs q => (upd_ne fun z => by rw [z, ed4] at q; cases q).trans q) (fun a xs q => ?_), knd, tlen, clen⟩
      · rw [show upd (upd H4 x (.ins (He.ga K C) dx (putF "costs" (.ref D) []))) d (.dK kvs) = upd (upd H4 d (.dK kvs)) x (.ins (He.ga K C) dx (putF "costs" (.ref D) [])) from upd_comm ndx]
        have exU : (upd H4 d (.dK kvs)) x = some (.ins (He.ga K C) dx []) := (upd_ne ndx.symm).trans ex4
        exact q _ D ((Sbut.of sbk).trans .upd) upd_same (tabD.sb exU .upd)
      · rcases q with (q | ⟨o, q⟩) | q
        · exact .inl (.inl ((upd_ne fun z => by rw [z, ed4] at q; cases q).trans q))
        · refine .inl (.inr ⟨o, (upd_ne fun z => ?_).trans q⟩)
          rw [z, ed4] at q; cases q
        · exact .inr q
end
end Al
set_option maxHeartbeats 4000000
/-! D22: the __init__ of Kept, Least, Able, Farthest, Longest; Broken, Stuck. -/
namespace Al
open PySem PySem.Spec PyProof.Rows L2
section
variable {P : Program} {w : World} {K : PySem.W.Frag} {mg : Str → Option Value} {base : Heap}
theorem sqL_of_sb {H H' : Hp} {a x C dx : Addr} {fs : List (Str × V)} {xs : List V} (hx : H x = some (.ins C dx fs)) (h : SqL K H a xs) (e : Sbut x H H') : SqL K H' a xs := by
  rcases h with (h | ⟨q, h⟩) | h
  · exact .inl (.inl (e _ _ (fun z => by rw [z, hx] at h; cases h) h))
  · exact .inl (.inr ⟨q, e _ _ (fun z => by rw [z, hx] at h; cases h) h⟩)
  · exact .inr h
theorem ok_Kept_init (T : Txt K mg) (U : Txt2 P K) : CFn P w K mg base 3 "Kept" (spTab K "Kept") := by
  refine ⟨sup_of (spT := spTab K "Kept") U.kept ⟨ns_Kept, by decide +kernel, ⟨_, _, rfl, rfl⟩, U.top⟩ (T.f "super") (fun doc pm ct an c cc us hl => match us, hl with | [_, _], _ => rfl) (fun vs H Q E h => ?_) (ok_Tabled_init T (T.c "Kept") (T.n "Kept" "costs")) (fun c cc A outer s H vs Q E hr h => ?_), T.mk' "Kept", T.g "Kept"⟩
  · obtain ⟨x, dx, d, tb, rfl, _⟩ := h
    rfl
  · obtain ⟨x, dx, d, tb, rfl, hx, ht, q⟩ := h
    refine ⟨x, dx, [], _, _, rfl, hx, pa_cons (pv 1) pa_nil, pss_nil, ?_⟩
    exact ⟨_, rfl, x, dx, d, tb, rfl, hx, ht, fun H' d' s' hx' ht' => q H' d' s' hx' ht'⟩
def fTab (d : V) : List (Str × V) := [(("costs" : Str), d)]
def spLeastI (K : PySem.W.Frag) : Sp := fun vs H Q _ => ∃ (x dx vl rl d : Addr) (bs : List Addr) (ls : List (List Int)) (rs : List Addr) (tb : CK), vs = [.ref x, .ref vl, .ref rl, .ref d] ∧ H x = some (.ins (He.ga K "Least") dx []) ∧ SqL K H vl (bs.map V.ref) ∧ VecsAt K H bs ls ∧ SqL K H rl (rs.map V.ref) ∧ rs.length ≤ 1000000 ∧ (∀ r ∈ rs, ∃ xs, H r = some (.lst xs)) ∧ TabAt K H d tb ∧
  ∀ (H' : Hp) (fs : List (Str × V)) (l : Addr), Sbut x H H' → H' x = some (.ins (He.ga K "Least") dx fs) → fs.lookup ("vectors" : Str) = some (.ref l) → H' l = some (.lst (bs.map V.ref)) → VecsAt K H' bs ls → Q .non H'
theorem ok_Least_init (T : Txt K mg) (U : Txt2 P K) : CFn P w K mg base 3 "Least" (spLeastI K) := by
  refine ⟨sup_of (spT := spTab K "Least") U.least ⟨ns_Least, by decide +kernel, ⟨_, _, rfl, rfl⟩, U.top⟩ (T.f "super") (fun doc pm ct an c cc us hl => match us, hl with | [_, _, _, _], _ => rfl) (fun vs H Q E h => ?_) (ok_Tabled_init T (T.c "Least") (T.n "Least" "costs")) (fun c cc A outer s H vs Q E hr h => ?_), T.mk' "Least", T.g "Least"⟩
  · obtain ⟨x, dx, vl, rl, d, bs, ls, rs, tb, rfl, _⟩ := h
    rfl
  · obtain ⟨x, dx, vl, rl, d, bs, ls, rs, tb, rfl, hx, hvl, hvs, hrl, rlen, hrs, ht, q⟩ := h
    refine ⟨x, dx, [], _, _, rfl, hx, pa_cons (pv 3) pa_nil, (pss_cons (ps_at (T.c "Least") (T.n "Least" "vectors") (pv 0) (pe_callTy (cList K) (by rfl) (T.f "list") (by decide +kernel) (pa_cons (pv 1) pa_nil)))
      (pss_one (ps_at (T.c "Least") (T.n "Least" "runs") (pv 0) (pe_lc (own := [("run", 5)]) rfl ns_Least.nd (pi_list (pv 2)) (blkOk_by (own := [("run", 5)]) (N := N_Least_init) (sc := defScope s_Least_init) (by decide +kernel)) (fun _ _ _ _ _ => (pg_l (i := 5) ns_Least.nd rfl rfl)) (fun _ _ _ _ _ => pts_nil) (fun _ _ _ _ _ => (pe_callTy (cList K) (by rfl) (T.f "list") (by decide +kernel) (pa_cons (pv 5) pa_nil))))))), ?_⟩
    refine ⟨_, rfl, x, dx, d, tb, rfl, hx, ht, fun H1 d' s1 hx1 ht1 => ?_⟩
    have hvl1 := sqL_of_sb hx hvl s1
    have hrl1 := sqL_of_sb hx hrl s1
    have hvs1 : VecsAt K H1 bs ls := Paired.mapP hvs fun a b z => sqT_sb2 hx (fun _ z => by cases z) (fun _ _ z => by cases z) s1 z
    have hrs1 : ∀ r ∈ rs, ∃ xs, H1 r = some (.lst xs) := fun r hr => let ⟨xs, e⟩ := hrs r hr; ⟨xs, s1 _ _ (fun z => by rw [z, hx] at e; cases e) e⟩
    refine ⟨_, rfl, vl, _, rfl, .inl hvl1, fun p hp => ⟨_, rfl, x, dx, _, rfl, smNew hp _ _ hx1, (by show 1 < 1000; decide), ?_⟩⟩
    have npx : p ≠ x := fun z => by rw [z, hx1] at hp; cases hp
    have s2 : Sbut x H1 (upd (upd H1 p (.lst (bs.map V.ref))) x (.ins (He.ga K "Least") dx (putF "vectors" (.ref p) [(("costs" : Str), .ref d')]))) := (Sbut.of (smNew hp)).trans .upd
    have ex2 : (upd (upd H1 p (.lst (bs.map V.ref))) x (.ins (He.ga K "Least") dx (putF "vectors" (.ref p) [(("costs" : Str), .ref d')]))) x = some (.ins (He.ga K "Least") dx [(("costs" : Str), .ref d'), (("vectors" : Str), .ref p)]) := by rw [upd_same]; kernel_rfl
    have ep2 : (upd (upd H1 p (.lst (bs.map V.ref))) x (.ins (He.ga K "Least") dx (putF "vectors" (.ref p) [(("costs" : Str), .ref d')]))) p = some (.lst (bs.map V.ref)) := (upd_ne npx).trans upd_same
    generalize upd (upd H1 p (.lst (bs.map V.ref))) x (.ins (He.ga K "Least") dx (putF "vectors" (.ref p) [(("costs" : Str), .ref d')])) = H2 at s2 ex2 ep2
    have hrl2 := sqL_of_sb hx1 hrl1 s2
    refine ⟨_, rfl, rl, rfl, ⟨_, hrl2⟩, ?_⟩
    refine lcR walk_list (fun _ _ _ _ => True) (fun _ _ _ _ _ _ _ => trivial) (fun H' s => s.seq hrl2) (by rw [List.length_map]; exact rlen) ?_ ?_
    · rintro D i y H4 H5 acc hi hD s4 eD ⟨rfl, hv⟩ Kt kk
      rw [List.length_map] at hi
      rw [List.getElem?_map, List.getElem?_eq_getElem hi] at hv
      cases hv
      obtain ⟨xs, exs⟩ := hrs1 _ (List.getElem_mem hi)
      have exs2 := s4 _ _ (s2 _ _ (fun z => by rw [z, hx1] at exs; cases exs) exs)
      exact ⟨rfl, _, rfl, rs[i], _, rfl, .inl (.of exs2), fun l hl => kk (some (.ref l)) _ (smNew hl) trivial⟩
    · intro D H4 os hD s4 eD _ _
      have ex4 := s4 _ _ ex2
      have nDx : D ≠ x := fun z => by rw [z, ex2] at hD; cases hD
      refine ⟨_, rfl, x, dx, _, rfl, ex4, (by show 2 < 1000; decide), ?_⟩
      have sb := ((s1.trans s2).trans (Sbut.of s4)).trans (Sbut.upd (H := H4) (D := x) (o := .ins (He.ga K "Least") dx (putF "runs" (.ref D) [(("costs" : Str), .ref d'), (("vectors" : Str), .ref p)])))
      refine q _ _ p sb upd_same (by kernel_rfl) ((upd_ne npx).trans (s4 _ _ ep2)) (Paired.mapP hvs fun a b z => sqT_sb2 hx (fun _ z => by cases z) (fun _ _ z => by cases z) sb z)
def spAbleI (K : PySem.W.Frag) : Sp := fun vs H Q _ => ∃ (x dx rk d : Addr) (kvs : List (Key × V)) (tb : CK), vs = [.ref x, .ref rk, .ref d] ∧ H x = some (.ins (He.ga K "Able") dx []) ∧ H rk = some (.dK kvs) ∧ TabAt K H d tb ∧
  ∀ (H' : Hp) (d' r' : Addr), Sbut x H H' → H' x = some (.ins (He.ga K "Able") dx [(("costs" : Str), .ref d'), (("ranks" : Str), .ref r')]) → H' r' = some (.dK kvs) → TabAt K H' d' tb → Q .non H'
theorem ok_Able_init (T : Txt K mg) (U : Txt2 P K) : CFn P w K mg base 3 "Able" (spAbleI K) := by
  refine ⟨sup_of (spT := spTab K "Able") U.able ⟨ns_Able, by decide +kernel, ⟨_, _, rfl, rfl⟩, U.top⟩ (T.f "super") (fun doc pm ct an c cc us hl => match us, hl with | [_, _, _], _ => rfl) (fun vs H Q E h => ?_) (ok_Tabled_init T (T.c "Able") (T.n "Able" "costs")) (fun c cc A outer s H vs Q E hr h => ?_), T.mk' "Able", T.g "Able"⟩
  · obtain ⟨x, dx, rk, d, kvs, tb, rfl, _⟩ := h
    rfl
  · obtain ⟨x, dx, rk, d, kvs, tb, rfl, hx, hk, ht, q⟩ := h
    refine ⟨x, dx, [], _, _, rfl, hx, pa_cons (pv 2) pa_nil, (pss_one (ps_at (T.c "Able") (T.n "Able" "ranks") (pv 0) (pe_callTy call_dictD (by rfl) (T.f "dict") (by decide +kernel) (pa_cons (pv 1) pa_nil)))), ?_⟩
    refine ⟨_, rfl, x, dx, d, tb, rfl, hx, ht, fun H1 d' s1 hx1 ht1 => ?_⟩
    have hk1 := s1 _ _ (fun z => by rw [z, hx] at hk; cases hk) hk
    refine ⟨_, rfl, rk, kvs, rfl, .of hk1, fun p hp => ⟨_, rfl, x, dx, _, rfl, smNew hp _ _ hx1, (by show 1 < 1000; decide), ?_⟩⟩
    have npx : p ≠ x := fun z => by rw [z, hx1] at hp; cases hp
    have s2 : Sbut x H1 (upd (upd H1 p (.dK kvs)) x (.ins (He.ga K "Able") dx (putF "ranks" (.ref p) [(("costs" : Str), .ref d')]))) := (Sbut.of (smNew hp)).trans .upd
    exact q _ d' p (s1.trans s2) (by rw [upd_same]; kernel_rfl) ((upd_ne npx).trans upd_same) (ht1.sb hx1 s2)
def spNum (K : PySem.W.Frag) (C : Str) : Sp := fun vs H Q _ => ∃ (x dx rl rk d : Addr) (n : Int) (xs : List V) (kvs : List (Key × V)) (tb : CK), vs = [.ref x, .int n, .ref rl, .ref rk, .ref d] ∧ H x = some (.ins (He.ga K C) dx []) ∧ SqL K H rl xs ∧ H rk = some (.dK kvs) ∧ TabAt K H d tb ∧
  ∀ (H' : Hp) (fs : List (Str × V)), Sbut x H H' → H' x = some (.ins (He.ga K C) dx fs) → fs.lookup ("number" : Str) = some (.int n) → Q .non H'
theorem ok_Farthest_init (T : Txt K mg) (U : Txt2 P K) : CFn P w K mg base 3 "Farthest" (spNum K "Farthest") := by
  refine ⟨sup_of (spT := spTab K "Farthest") U.farthest ⟨ns_Farthest, by decide +kernel, ⟨_, _, rfl, rfl⟩, U.top⟩ (T.f "super") (fun doc pm ct an c cc us hl => match us, hl with | [_, _, _, _, _], _ => rfl) (fun vs H Q E h => ?_) (ok_Tabled_init T (T.c "Farthest") (T.n "Farthest" "costs")) (fun c cc A outer s H vs Q E hr h => ?_), T.mk' "Farthest", T.g "Farthest"⟩
  · obtain ⟨x, dx, rl, rk, d, n, xs, kvs, tb, rfl, _⟩ := h
    rfl
  · obtain ⟨x, dx, rl, rk, d, n, xs, kvs, tb, rfl, hx, hl, hk, ht, q⟩ := h
    refine ⟨x, dx, [], _, _, rfl, hx, pa_cons (pv 4) pa_nil, (pss_cons (ps_at (T.c "Farthest") (T.n "Farthest" "number") (pv 0) (pv 1)) (pss_cons (ps_at (T.c "Farthest") (T.n "Farthest" "run") (pv 0) (pe_callTy (cList K) (by rfl) (T.f "list") (by decide +kernel) (pa_cons (pv 2) pa_nil))) (pss_one (ps_at (T.c "Farthest") (T.n "Farthest" "ranks") (pv 0) (pe_callTy call_dictD (by rfl) (T.f "dict") (by decide +kernel) (pa_cons (pv 3) pa_nil)))))), ?_⟩
    refine ⟨_, rfl, x, dx, d, tb, rfl, hx, ht, fun H1 d' s1 hx1 ht1 => ?_⟩
    have hk1 := s1 _ _ (fun z => by rw [z, hx] at hk; cases hk) hk
    have hl1 := sqL_of_sb hx hl s1
    refine ⟨_, rfl, _, rfl, x, dx, _, rfl, hx1, (by show 1 < 1000; decide), ?_⟩
    have s2 : Sbut x H1 (upd H1 x (.ins (He.ga K "Farthest") dx (putF "number" (.int n) [(("costs" : Str), .ref d')]))) := .upd
    have ex2 : (upd H1 x (.ins (He.ga K "Farthest") dx (putF "number" (.int n) [(("costs" : Str), .ref d')]))) x = some (.ins (He.ga K "Farthest") dx [(("costs" : Str), .ref d'), (("number" : Str), .int n)]) := by rw [upd_same]; kernel_rfl
    generalize upd H1 x (.ins (He.ga K "Farthest") dx (putF "number" (.int n) [(("costs" : Str), .ref d')])) = H2 at s2 ex2
    refine ⟨_, rfl, rl, _, rfl, .inl (sqL_of_sb hx1 hl1 s2), fun p hp => ⟨_, rfl, x, dx, _, rfl, smNew hp _ _ ex2, (by show 2 < 1000; decide), ?_⟩⟩
    have s3 : Sbut x H2 (upd (upd H2 p (.lst xs)) x (.ins (He.ga K "Farthest") dx (putF "run" (.ref p) [(("costs" : Str), .ref d'), (("number" : Str), .int n)]))) := (Sbut.of (smNew hp)).trans .upd
    have ex3 : (upd (upd H2 p (.lst xs)) x (.ins (He.ga K "Farthest") dx (putF "run" (.ref p) [(("costs" : Str), .ref d'), (("number" : Str), .int n)]))) x = some (.ins (He.ga K "Farthest") dx [(("costs" : Str), .ref d'), (("number" : Str), .int n), (("run" : Str), .ref p)]) := by rw [upd_same]; kernel_rfl
    generalize upd (upd H2 p (.lst xs)) x (.ins (He.ga K "Farthest") dx (putF "run" (.ref p) [(("costs" : Str), .ref d'), (("number" : Str), .int n)])) = H3 at s3 ex3
    have hk3 : H3 rk = some (.dK kvs) := s3 _ _ (fun z => by rw [z, hx] at hk; cases hk) (s2 _ _ (fun z => by rw [z, hx] at hk; cases hk) hk1)
    refine ⟨_, rfl, rk, kvs, rfl, .of hk3, fun p2 hp2 => ⟨_, rfl, x, dx, _, rfl, smNew hp2 _ _ ex3, (by show 3 < 1000; decide), ?_⟩⟩
    exact q _ _ (((s1.trans s2).trans s3).trans ((Sbut.of (smNew hp2)).trans .upd)) upd_same (by kernel_rfl)
theorem ok_Longest_init (T : Txt K mg) (U : Txt2 P K) : CFn P w K mg base 3 "Longest" (spNum K "Longest") := by
  refine ⟨sup_of (spT := spTab K "Longest") U.longest ⟨ns_Longest, by decide +kernel, ⟨_, _, rfl, rfl⟩, U.top⟩ (T.f "super") (fun doc pm ct an c cc us hl => match us, hl with | [_, _, _, _, _], _ => rfl) (fun vs H Q E h => ?_) (ok_Tabled_init T (T.c "Longest") (T.n "Longest" "costs")) (fun c cc A outer s H vs Q E hr h => ?_), T.mk' "Longest", T.g "Longest"⟩
  · obtain ⟨x, dx, rl, rk, d, n, xs, kvs, tb, rfl, _⟩ := h
    rfl
  · obtain ⟨x, dx, rl, rk, d, n, xs, kvs, tb, rfl, hx, hl, hk, ht, q⟩ := h
    refine ⟨x, dx, [], _, _, rfl, hx, pa_cons (pv 4) pa_nil, (pss_cons (ps_at (T.c "Longest") (T.n "Longest" "number") (pv 0) (pv 1)) (pss_cons (ps_at (T.c "Longest") (T.n "Longest" "run") (pv 0) (pe_callTy (cList K) (by rfl) (T.f "list") (by decide +kernel) (pa_cons (pv 2) pa_nil))) (pss_one (ps_at (T.c "Longest") (T.n "Longest" "ranks") (pv 0) (pe_callTy call_dictD (by rfl) (T.f "dict") (by decide +kernel) (pa_cons (pv 3) pa_nil)))))), ?_⟩
    refine ⟨_, rfl, x, dx, d, tb, rfl, hx, ht, fun H1 d' s1 hx1 ht1 => ?_⟩
    have hk1 := s1 _ _ (fun z => by rw [z, hx] at hk; cases hk) hk
    have hl1 := sqL_of_sb hx hl s1
    refine ⟨_, rfl, _, rfl, x, dx, _, rfl, hx1, (by show 1 < 1000; decide), ?_⟩
    have s2 : Sbut x H1 (upd H1 x (.ins (He.ga K "Longest") dx (putF "number" (.int n) [(("costs" : Str), .ref d')]))) := .upd
    have ex2 : (upd H1 x (.ins (He.ga K "Longest") dx (putF "number" (.int n) [(("costs" : Str), .ref d')]))) x = some (.ins (He.ga K "Longest") dx [(("costs" : Str), .ref d'), (("number" : Str), .int n)]) := by rw [upd_same]; kernel_rfl
    generalize upd H1 x (.ins (He.ga K "Longest") dx (putF "number" (.int n) [(("costs" : Str), .ref d')])) = H2 at s2 ex2
    refine ⟨_, rfl, rl, _, rfl, .inl (sqL_of_sb hx1 hl1 s2), fun p hp => ⟨_, rfl, x, dx, _, rfl, smNew hp _ _ ex2, (by show 2 < 1000; decide), ?_⟩⟩
    have s3 : Sbut x H2 (upd (upd H2 p (.lst xs)) x (.ins (He.ga K "Longest") dx (putF "run" (.ref p) [(("costs" : Str), .ref d'), (("number" : Str), .int n)]))) := (Sbut.of (smNew hp)).trans .upd
    have ex3 : (upd (upd H2 p (.lst xs)) x (.ins (He.ga K "Longest") dx (putF "run" (.ref p) [(("costs" : Str), .ref d'), (("number" : Str), .int n)]))) x = some (.ins (He.ga K "Longest") dx [(("costs" : Str), .ref d'), (("number" : Str), .int n), (("run" : Str), .ref p)]) := by rw [upd_same]; kernel_rfl
    generalize upd (upd H2 p (.lst xs)) x (.ins (He.ga K "Longest") dx (putF "run" (.ref p) [(("costs" : Str), .ref d'), (("number" : Str), .int n)])) = H3 at s3 ex3
    have hk3 : H3 rk = some (.dK kvs) := s3 _ _ (fun z => by rw [z, hx] at hk; cases hk) (s2 _ _ (fun z => by rw [z, hx] at hk; cases hk) hk1)
    refine ⟨_, rfl, rk, kvs, rfl, .of hk3, fun p2 hp2 => ⟨_, rfl, x, dx, _, rfl, smNew hp2 _ _ ex3, (by show 3 < 1000; decide), ?_⟩⟩
    exact q _ _ (((s1.trans s2).trans s3).trans ((Sbut.of (smNew hp2)).trans .upd)) upd_same (by kernel_rfl)
def spRunI (K : PySem.W.Frag) : Sp := fun vs H Q _ => ∃ (x dx rl : Addr) (xs : List V), vs = [.ref x, .ref rl] ∧ H x = some (.ins (He.ga K "Broken") dx []) ∧ SqL K H rl xs ∧
  ∀ (H' : Hp) (l : Addr), Sbut x H H' → H' x = some (.ins (He.ga K "Broken") dx [(("run" : Str), .ref l)]) → H' l = some (.lst xs) → Q .non H'
theorem ok_Broken_init (T : Txt K mg) : CFn P w K mg base 1 "Broken" (spRunI K) := by
  refine T.okC h_Broken_init rfl (by decide +kernel) (by decide +kernel) sc_Broken_init rfl rfl b_Broken_init (fun vs H Q E h => ?_) (fun cdv A outer s H vs Q E hr h => ?_)
  · obtain ⟨x, dx, rl, xs, rfl, _⟩ := h
    rfl
  · obtain ⟨x, dx, rl, xs, rfl, hx, hl, q⟩ := h
    refine ⟨_, (pss_one (ps_at (T.c "Broken") (T.n "Broken" "run") (pv 0) (pe_callTy (cList K) (by rfl) (T.f "list") (by decide +kernel) (pa_cons (pv 1) pa_nil)))), ?_⟩
    refine ⟨_, rfl, rl, _, rfl, .inl hl, fun p hp => ⟨_, rfl, x, dx, [], rfl, smNew hp _ _ hx, by decide, ?_⟩⟩
    have npx : p ≠ x := fun z => by rw [z, hx] at hp; cases hp
    exact q _ p ((Sbut.of (smNew hp)).trans .upd) upd_same ((upd_ne npx).trans upd_same)
def spStuckI (K : PySem.W.Frag) : Sp := fun vs H Q _ => ∃ (x dx rl da : Addr) (xs ys : List V), vs = [.ref x, .ref rl, .ref da] ∧ H x = some (.ins (He.ga K "Stuck") dx []) ∧ SqL K H rl xs ∧ SqT K H da ys ∧
  ∀ (H' : Hp) (fs : List (Str × V)), Sbut x H H' → H' x = some (.ins (He.ga K "Stuck") dx fs) → Q .non H'
theorem ok_Stuck_init (T : Txt K mg) : CFn P w K mg base 1 "Stuck" (spStuckI K) := by
  refine T.okC h_Stuck_init rfl (by decide +kernel) (by decide +kernel) sc_Stuck_init rfl rfl b_Stuck_init (fun vs H Q E h => ?_) (fun cdv A outer s H vs Q E hr h => ?_)
  · obtain ⟨x, dx, rl, da, xs, ys, rfl, _⟩ := h
    rfl
  · obtain ⟨x, dx, rl, da, xs, ys, rfl, hx, hl, hd, q⟩ := h
    refine ⟨_, (pss_cons (ps_at (T.c "Stuck") (T.n "Stuck" "run") (pv 0) (pe_callTy (cList K) (by rfl) (T.f "list") (by decide +kernel) (pa_cons (pv 1) pa_nil)))
      (pss_one (ps_at (T.c "Stuck") (T.n "Stuck" "dead") (pv 0) (pe_callTy (cTuple K) (by rfl) (T.f "tuple") (by decide +kernel) (pa_cons (pv 2) pa_nil))))), ?_⟩
    refine ⟨_, rfl, rl, _, rfl, .inl hl, fun p hp => ⟨_, rfl, x, dx, [], rfl, smNew hp _ _ hx, by decide, ?_⟩⟩
    have sb1 : Sbut x H (upd (upd H p (.lst xs)) x (.ins (He.ga K "Stuck") dx (putF "run" (.ref p) []))) := (Sbut.of (smNew hp)).trans .upd
    have ex1 : (upd (upd H p (.lst xs)) x (.ins (He.ga K "Stuck") dx (putF "run" (.ref p) []))) x = some (.ins (He.ga K "Stuck") dx [(("run" : Str), .ref p)]) := upd_same
    generalize upd (upd H p (.lst xs)) x (.ins (He.ga K "Stuck") dx (putF "run" (.ref p) [])) = H1 at sb1 ex1
    refine ⟨_, rfl, da, ys, rfl, .inr ⟨sqT_sb2 hx (fun _ z => by cases z) (fun _ _ z => by cases z) sb1 hd, _, rfl, x, dx, _, rfl, ex1, (by show 1 < 1000; decide), q _ _ (sb1.trans .upd) upd_same⟩⟩
end
end Al
set_option maxHeartbeats 4000000
/-! M13: what follows from Ways being done. -/
namespace Al
open PySem PySem.Spec PyProof.Rows L2
theorem HSq.sm {H H' : Hp} {a : Addr} {xs : List V} (s : Same H H') (h : HSq H a xs) : HSq H' a xs := h.imp (s _ _) (s _ _)
section
variable {M : Mch} {lims : List (Option Int)} {ck : CK} {og : Org} {cl : Node → Prop}
theorem WI.vlen (h : WI M lims (keptOf ck) og cl) {g : Int} {u : List Int} (hu : u ∈ keptOf ck g) : u.length = M.kinds.length := (h.box _ (h.ke g u hu)).2.2.1
theorem WI.tab (h : WI M lims (keptOf ck) og cl) (n2 : M.n ≤ 100) (k2 : M.kinds.length ≤ 2) : ∀ g, (keptOf ck g).length ≤ 1000000 ∧ (keptOf ck g).Nodup ∧ ∀ u ∈ keptOf ck g, u.length = M.kinds.length :=
  fun g => ⟨by have := h.klen2 n2 k2 g; omega, h.kn g, fun u hu => h.vlen hu⟩
theorem keys_len (n2 : M.n ≤ 100) (kb : ∀ s ∈ keysC ck, 0 ≤ s ∧ s < M.n) (nd : (keysC ck).Nodup) : ck.length ≤ 100000 := by
  have := nd_lt nd kb
  rw [List.length_map] at this
  omega
/-- the kept vectors of several states are few -/
theorem WI.few (h : WI M lims (keptOf ck) og cl) (n2 : M.n ≤ 100) (k2 : M.kinds.length ≤ 2) {ss : List Int} (nd : ss.Nodup) : (ss.flatMap (keptOf ck)).length ≤ 1000000 := by
  have key : ∀ ss : List Int, ss.Nodup → ∃ xs : List Node, xs.Nodup ∧ xs.length = (ss.flatMap (keptOf ck)).length ∧ (∀ n ∈ xs, n.1 ∈ ss) ∧ ∀ n ∈ xs, n ∈ keysO og := by
    intro ss
    induction ss with
    | nil => intro _; exact ⟨[], .nil, rfl, (fun n h => by cases h), (fun n h => by cases h)⟩
    | cons s ss ih =>
      intro hn
      obtain ⟨h1, h2⟩ := List.nodup_cons.mp hn
      obtain ⟨xs, a, b, c, d⟩ := ih h2
      refine ⟨(keptOf ck s).map (fun v => ((s, v) : Node)) ++ xs, ?_, ?_, fun n hn => ?_, fun n hn => ?_⟩
      · refine List.nodup_append.mpr ⟨?_, a, fun x hx y hy e => ?_⟩
        · have := h.kn s
          generalize keptOf ck s = vs at this
          induction vs with
          | nil => exact .nil
          | cons v vs ih2 =>
            obtain ⟨p, q⟩ := List.nodup_cons.mp this
            refine List.nodup_cons.mpr ⟨fun z => p ?_, ih2 q⟩
            obtain ⟨u, hu, e⟩ := List.mem_map.mp z
            rw [← (Prod.mk.inj e).2]
            exact hu
        · obtain ⟨v, _, rfl⟩ := List.mem_map.mp hx
          have := c y hy
          rw [← e] at this
          exact h1 this
      · rw [List.length_append, List.length_map, b, List.flatMap_cons, List.length_append]
      · rcases List.mem_append.mp hn with hn | hn
        · obtain ⟨v, _, rfl⟩ := List.mem_map.mp hn
          simp
        · exact List.mem_cons_of_mem _ (c n hn)
      · rcases List.mem_append.mp hn with hn | hn
        · obtain ⟨v, hv, rfl⟩ := List.mem_map.mp hn
          exact h.ke s v hv
        · exact d n hn
  obtain ⟨xs, a, b, _, d⟩ := key ss nd
  rw [← b]
  have h1 := nd_le a d
  rw [List.length_map] at h1
  have := h.len n2 k2
  omega
end
/-! ### the least below -/
def vsum (v : List Int) : Int := v.foldr (· + ·) 0
theorem vle_sum : ∀ {u v : List Int}, u.length = v.length → vle u v = true → vsum u ≤ vsum v ∧ (vsum u = vsum v → u = v)
  | [], [], _, _ => ⟨Int.le_refl _, fun _ => rfl⟩
  | [], _ :: _, h, _ => by simp at h
  | _ :: _, [], h, _ => by simp at h
  | a :: u, b :: v, h, hl => by
    obtain ⟨h1, h2⟩ := vle_cons.mp hl
    obtain ⟨i1, i2⟩ := vle_sum (u := u) (v := v) (by simpa using h) h2
    have e1 : vsum (a :: u) = a + vsum u := rfl
    have e2 : vsum (b :: v) = b + vsum v := rfl
    refine ⟨by omega, fun e => ?_⟩
    have : a = b := by omega
    rw [this, i2 (by omega)]
theorem min_sum (f : List Int → Prop) : ∀ L : List (List Int), (∃ x ∈ L, f x) → ∃ x ∈ L, f x ∧ ∀ y ∈ L, f y → vsum x ≤ vsum y
  | [], ⟨x, h, _⟩ => by cases h
  | a :: L, hx => by
    by_cases e : ∃ x ∈ L, f x
    · obtain ⟨x, x1, x2, x3⟩ := min_sum f L e
      by_cases fa : f a ∧ vsum a ≤ vsum x
      · refine ⟨a, by simp, fa.1, fun y hy hf => ?_⟩
        rcases List.mem_cons.mp hy with rfl | hy
        · exact Int.le_refl _
        · have := x3 y hy hf
          omega
      · refine ⟨x, List.mem_cons_of_mem _ x1, x2, fun y hy hf => ?_⟩
        rcases List.mem_cons.mp hy with rfl | hy
        · by_cases c : vsum y ≤ vsum x
          · exact absurd ⟨hf, c⟩ fa
          · omega
        · exact x3 y hy hf
    · obtain ⟨x, h1, h2⟩ := hx
      refine ⟨a, by simp, ?_, fun y hy hf => ?_⟩
      · rcases List.mem_cons.mp h1 with rfl | h1
        · exact h2
        · exact absurd ⟨x, h1, h2⟩ e
      · rcases List.mem_cons.mp hy with rfl | hy
        · exact Int.le_refl _
        · exact absurd ⟨y, hy, hf⟩ e
theorem least_below {L ls : List (List Int)} {k : Nat} (hk : ∀ u ∈ L, u.length = k) (h : Leasts L ls) {v : List Int} (hv : v ∈ L) : ∃ u ∈ ls, vle u v = true := by
  obtain ⟨x, x1, x2, x3⟩ := min_sum (fun x => vle x v = true) L ⟨v, hv, vle_refl v⟩
  refine ⟨x, (h.2 x).mpr ⟨x1, fun y hy hle => ?_⟩, x2⟩
  have l : y.length = x.length := (hk y hy).trans (hk x x1).symm
  obtain ⟨a, b⟩ := vle_sum l hle
  exact b (Int.le_antisymm a (x3 y hy (vle_trans l hle x2)))
/-- the least vectors of falls by which a goal is met -/
structure FallsOf (M : Mch) (ss : List Int) (ls : List (List Int)) : Prop where
  nd : ls.Nodup
  len : ∀ u ∈ ls, u.length = M.kinds.length
  so : ∀ u ∈ ls, ∃ g ∈ ss, ∃ p, VPath M (List.replicate M.kinds.length none) (g, u) p
  co : ∀ g ∈ ss, ∀ v p, VPath M (List.replicate M.kinds.length none) (g, v) p → v.length = M.kinds.length ∧ ∃ u ∈ ls, vle u v = true
  mi : ∀ u ∈ ls, ∀ x ∈ ls, vle x u = true → x = u
theorem falls_of {M : Mch} {ss : List Int} {ck : CK} {og : Org} {ls : List (List Int)} (ok : MOk M) (h : WI M (List.replicate M.kinds.length none) (keptOf ck) og fun n => n ∈ keysO og) (h0 : belowB (zeros M.kinds.length) (List.replicate M.kinds.length none) = true → Dom (keptOf ck) 0 (zeros M.kinds.length)) (hl : Leasts (ss.flatMap (keptOf ck)) ls) : FallsOf M ss ls := by
  have hk : ∀ u ∈ ss.flatMap (keptOf ck), u.length = M.kinds.length := fun u hu => by
    obtain ⟨g, _, h2⟩ := List.mem_flatMap.mp hu
    exact h.vlen h2
  refine ⟨hl.1, fun u hu => hk u ((hl.2 u).mp hu).1, fun u hu => ?_, fun g hg v p hp => ?_, fun u hu x hx hle => ((hl.2 u).mp hu).2 x ((hl.2 x).mp hx).1 hle⟩
  · obtain ⟨g, h1, h2⟩ := List.mem_flatMap.mp ((hl.2 u).mp hu).1
    exact ⟨g, h1, h.sound h2⟩
  · obtain ⟨⟨u, hu, hle⟩, vl⟩ := h.full ok h0 hp
    refine ⟨vl, ?_⟩
    have hu' : u ∈ ss.flatMap (keptOf ck) := List.mem_flatMap.mpr ⟨g, hg, hu⟩
    obtain ⟨x, x1, x2⟩ := least_below hk hl hu'
    exact ⟨x, x1, vle_trans ((hk x ((hl.2 x).mp x1).1).trans (hk u hu').symm) x2 hle⟩
abbrev limsN (M : Mch) (al : List (Str × Option Int)) : List (Option Int) := (M.kinds.map (alGet al)).map (cutL M.n)
end Al
set_option maxHeartbeats 4000000
/-! D23: judge_never. -/
namespace Al
open PySem PySem.Spec PyProof.Rows L2
section
variable {P : Program} {w : World} {K : PySem.W.Frag} {mg : Str → Option Value} {base : Heap}
def spJN (K : PySem.W.Frag) : Sp := fun vs H Q _ => ∃ (m ga aa : Addr) (M : Mch) (ss : List Int) (al : List (Str × Option Int)), vs = [.ref m, .ref ga, .ref aa] ∧ MAt K H m M ∧ SqT K H ga (ss.map V.int) ∧ ss.Pairwise (· < ·) ∧ (∀ s ∈ ss, 0 ≤ s ∧ s < M.n) ∧ H aa = some (.dK (alK al)) ∧ AlOk al ∧ (∀ p ∈ al, p.1 ∈ M.kinds) ∧
  (∀ (H' : Hp) (x dx : Addr) (fs : List (Str × V)), Same H H' → H' x = some (.ins (He.ga K "Kept") dx fs) → (∀ nd p, PPath M (limsN M al) nd p → nd.1 ∉ ss) → Q (.ref x) H') ∧
  (∀ (H' : Hp) (x dx l : Addr) (as : List Addr) (p : List Stp) (nd : Node), Same H H' → H' x = some (.ins (He.ga K "Broken") dx [(("run" : Str), .ref l)]) → H' l = some (.lst (as.map V.ref)) → as.length = p.length → PPath M (limsN M al) nd p → nd.1 ∈ ss → (∀ t ∈ p, t.s ∉ ss) → Q (.ref x) H')
theorem ok_judge_never (T : Txt K mg) (U : Txt2 P K) : GFn P w K mg base 6 "judge_never" (spJN K) := by
  refine T.okG h_judge_never rfl (by decide +kernel) sc_judge_never rfl rfl b_judge_never (fun vs H Q E h => ?_) (fun cdv A outer s H vs Q E hr h => ?_)
  · obtain ⟨m, ga, aa, M, ss, al, rfl, _⟩ := h
    rfl
  · obtain ⟨m, ga, aa, M, ss, al, rfl, hm, hg, pw, sb, ha, aok, akin, qK, qB⟩ := h
    refine ⟨_, (pss_cons (ps_expr (pe_f (ok_check_states T) (hr.mono (by decide)) (pa_cons (pv 0) (pa_cons (pv 1) pa_nil))))
        (pss_cons (ps_l (i := 3) sc_judge_never.nd rfl rfl (pe_f (ok_limits_of T) (hr.mono (by decide)) (pa_cons (pv 0) (pa_cons (pv 2) pa_nil))))
        (pss_cons (ps_l (i := 4) sc_judge_never.nd rfl rfl (pe_f (ok_shortest T) (hr.mono (by decide)) (pa_cons (pv 0) (pa_cons (pv 1) (pa_cons (pv 3) pa_nil)))))
        (pss_one (ps_ret (pe_ifExp (pt_cmp (pc_isN (pv 4)) rfl) (pe_mk (ok_Kept_init T U) (hr.mono (by decide)) (pa_cons (pe_m0 (pe_mk (ok_Ways_init T) (hr.mono (by decide)) (pa_cons (pv 0) (pa_cons (pv 3) pa_nil))) (ok_Ways_table T) (hr.mono (by decide))) pa_nil)) (pe_mk (ok_Broken_init T) (hr.mono (by decide)) (pa_cons (pv 4) pa_nil)))))))), ?_⟩
    have ok := hm.ok
    refine ⟨_, rfl, _, rfl, m, ga, M, ss, rfl, hm, hg, pw, sb, fun H1 s1 => ?_⟩
    refine ⟨_, rfl, _, rfl, m, aa, M, al, rfl, hm.sm s1, s1 _ _ ha, aok, akin, fun H2 lp s2 el => ?_⟩
    have s12 := s1.trans s2
    refine ⟨_, rfl, _, rfl, _, rfl, m, ga, lp, M, ss, M.kinds.map (alGet al), rfl, hm.sm s12, smTup s12 hg, .of el, List.length_map .., fun H3 s3 hno => ?_, fun H3 l as p nd s3 hl hst hp hin hno _ => ?_⟩
    · have s13 := s12.trans s3
      refine ⟨_, rfl, true, blT rfl, ?_⟩
      refine ⟨_, rfl, _, rfl, fun x dx hx hdx ndx => ⟨x, dx, m, lp, M, M.kinds.map (alGet al), rfl, upd_same, (hm.sm s13).sm (smMut (smNew hdx) hx), .inr (smMut (smNew hdx) hx _ _ (s3 _ _ el)), fun H4 af cd od rl ck og ra sb4 wp wi kb dom => ⟨rfl, ?_⟩⟩⟩
      have s4 : Same H3 H4 := same_but hx (smMut (smNew hdx) hx) sb4
      refine ⟨x, dx, _, rfl, wp.v, rfl, x, dx, m, lp, af, cd, od, rl, M.kinds.map (alGet al), ck, og, ra, M.kinds.length, rfl, wp, wi.tab ok.n2 ok.k2, keys_len ok.n2 kb wp.co.choose_spec.2.2, fun H5 d tb s5 hd ht _ => ?_⟩
      refine fun y dy hy hdy ndy => ⟨y, dy, d, tb, rfl, upd_same, ht.sm (smMut (smNew hdy) hy), fun H6 d' sb6 e6 ht6 => ⟨rfl, ?_⟩⟩
      exact qK H6 y dy _ (((s13.trans s4).trans s5).trans (same_but hy (smMut (smNew hdy) hy) sb6)) e6 hno
    · have s13 := s12.trans s3
      refine ⟨_, rfl, false, blNo (by intro z; cases z), ?_⟩
      refine ⟨_, rfl, fun y dy hy hdy ndy => ⟨y, dy, l, _, rfl, upd_same, .of (smMut (smNew hdy) hy _ _ hl), fun H6 r sb6 e6 er => ⟨rfl, ?_⟩⟩⟩
      exact qB H6 y dy r as p nd (s13.trans (same_but hy (smMut (smNew hdy) hy) sb6)) e6 er (Paired.length hst) hp hin hno
end
end Al
set_option maxHeartbeats 4000000
/-! D24: judge_can. -/
namespace Al
open PySem PySem.Spec PyProof.Rows L2
theorem dead_mem {M : Mch} {rk : NM} {s : Int} : s ∈ deadL M rk ↔ 0 ≤ s ∧ s < M.n ∧ s ∉ rk.map (fun p : Int × Nat => p.1) := by
  unfold deadL
  rw [List.mem_map]
  constructor
  · rintro ⟨i, hi, rfl⟩
    obtain ⟨h1, h2⟩ := List.mem_filter.mp hi
    exact ⟨Int.natCast_nonneg i, by have := List.mem_range.mp h1; omega, of_decide_eq_true h2⟩
  · rintro ⟨h0, h1, h2⟩
    obtain ⟨i, rfl⟩ := Int.eq_ofNat_of_zero_le h0
    exact ⟨i, List.mem_filter.mpr ⟨List.mem_range.mpr (by omega), decide_eq_true h2⟩, rfl⟩
theorem rangeP2 {α β : Type} (us : List α) (f : α → β) : (List.range us.length).filterMap (fun i => us[i]?.map f) = us.map f := by
  have e := rangeFM us fun u => some (f u)
  rw [filterMap_some] at e
  rw [← e]
  congr 1
  funext i
  cases us[i]? <;> rfl
/-- the rank of a state -/
def rkOf (rk : NM) (s : Int) : Nat := ((rk.find? fun p => decide (p.1 = s)).map (·.2)).getD 0
theorem rkOf_in : ∀ {rk : NM} {s : Int}, s ∈ rk.map (·.1) → (s, rkOf rk s) ∈ rk
  | [], _, h => by cases h
  | p :: rk, s, h => by
    unfold rkOf
    by_cases e : p.1 = s
    · rw [List.find?_cons_of_pos (by simpa using e)]
      rw [show ((Option.map (fun x : Int × Nat => x.2) (some p)).getD 0) = p.2 from rfl, ← e]
      simp
    · rw [List.find?_cons_of_neg (by simpa using e)]
      have h2 : s ∈ rk.map (·.1) := (List.mem_cons.mp h).elim (fun z => absurd z.symm e) id
      exact List.mem_cons_of_mem _ (rkOf_in h2)
section
variable {P : Program} {w : World} {K : PySem.W.Frag} {mg : Str → Option Value} {base : Heap}
def spJC (K : PySem.W.Frag) : Sp := fun vs H Q _ => ∃ (m ga aa : Addr) (M : Mch) (ss : List Int) (al : List (Str × Option Int)), vs = [.ref m, .ref ga, .ref aa] ∧ MAt K H m M ∧ SqT K H ga (ss.map V.int) ∧ ss.Pairwise (· < ·) ∧ (∀ s ∈ ss, 0 ≤ s ∧ s < M.n) ∧ H aa = some (.dK (alK al)) ∧ AlOk al ∧ (∀ p ∈ al, p.1 ∈ M.kinds) ∧
  (((∀ rk, Ranks M ss rk → 0 ∈ deadL M rk) ∧ ∀ (H' : Hp) (x dx : Addr) (fs : List (Str × V)), Same H H' → H' x = some (.ins (He.ga K "Stuck") dx fs) → Q (.ref x) H') ∨
  ((∀ rk, Ranks M ss rk → deadL M rk = []) ∧ ∀ (H' : Hp) (x dx d r : Addr) (tb : CK) (rk : NM), Same H H' → H' x = some (.ins (He.ga K "Able") dx [(("costs" : Str), .ref d), (("ranks" : Str), .ref r)]) → Ranks M ss rk → TabAt K H' d tb → H' r = some (.dK (nmD ((keysC tb).map fun s => (s, rkOf rk s)))) → (∀ s ∈ keysC tb, 0 ≤ s ∧ s < M.n) → (belowB (zeros M.kinds.length) (M.kinds.map (alGet al)) = true → 0 ∈ keysC tb) → Q (.ref x) H'))
theorem ok_judge_can (T : Txt K mg) (U : Txt2 P K) : GFn P w K mg base 6 "judge_can" (spJC K) := by
  refine T.okG h_judge_can rfl (by decide +kernel) sc_judge_can rfl rfl b_judge_can (fun vs H Q E h => ?_) (fun cdv A outer s H vs Q E hr h => ?_)
  · obtain ⟨m, ga, aa, M, ss, al, rfl, _⟩ := h
    rfl
  · obtain ⟨m, ga, aa, M, ss, al, rfl, hm, hg, pw, sb, ha, aok, akin, q⟩ := h
    refine ⟨_, (pss_cons (ps_l (i := 3) sc_judge_can.nd rfl rfl (pe_f (ok_dead_states T) (hr.mono (by decide)) (pa_cons (pv 0) (pa_cons (pv 1) pa_nil))))
        (pss_cons (ps_l (i := 4) sc_judge_can.nd rfl rfl (pe_f (ok_limits_of T) (hr.mono (by decide)) (pa_cons (pv 0) (pa_cons (pv 2) pa_nil))))
        (pss_cons (ps_l (i := 5) sc_judge_can.nd rfl rfl (pe_f (ok_shortest T) (hr.mono (by decide)) (pa_cons (pv 0) (pa_cons (pv 3) (pa_cons (pv 4) pa_nil)))))
        (pss_cons (ps_if (pt_cmp (pc_notN (pv 5)) rfl) 
        (pss_one (ps_ret (pe_mk (ok_Stuck_init T) (hr.mono (by decide)) (pa_cons (pv 5) (pa_cons (pv 3) pa_nil)))))
        pss_nil)
        (pss_cons (ps_l (i := 6) sc_judge_can.nd rfl rfl (pe_m0 (pe_mk (ok_Ways_init T) (hr.mono (by decide)) (pa_cons (pv 0) (pa_cons (pv 4) pa_nil))) (ok_Ways_table T) (hr.mono (by decide))))
        (pss_cons (ps_c (i := 7) sc_judge_can.nd rfl rfl rfl (pe_f (ok_ranks_of T) (hr.mono (by decide)) (pa_cons (pv 0) (pa_cons (pv 1) pa_nil))))
        (pss_one ((ps_ret (pe_mk (ok_Able_init T U) (hr.mono (by decide)) (pa_cons (pe_lock (pe_dcg (own := [("state", 8)]) dkindK rfl sc_judge_can.nd (pi_keys (pv 6)) (blkOk_by (own := [("state", 8)]) (N := N_judge_can) (sc := defScope s_judge_can) (by decide +kernel)) ⟨(fun _ _ _ _ _ => (pg_l (i := 8) sc_judge_can.nd rfl rfl)), (fun _ _ _ _ _ => pts_nil), (fun _ _ _ _ _ => (pv 8)), (fun _ _ _ _ _ => (pe_dget (hu_of hr) (pv 7) (pv 8) (fun _ _ => rfl)))⟩)) (pa_cons (pv 6) pa_nil)))))))))))), ?_⟩
    have ok := hm.ok
    refine ⟨_, rfl, _, rfl, m, ga, M, ss, rfl, hm, hg, pw, sb, fun H1 dp rk s1 hrk edp => ?_⟩
    refine ⟨_, rfl, _, rfl, m, aa, M, al, rfl, hm.sm s1, s1 _ _ ha, aok, akin, fun H2 lp s2 el => ?_⟩
    have s12 := s1.trans s2
    refine ⟨_, rfl, _, rfl, _, rfl, m, dp, lp, M, deadL M rk, M.kinds.map (alGet al), rfl, hm.sm s12, .of (s2 _ _ edp), .of el, List.length_map .., fun H3 s3 hno => ?_, fun H3 l as p nd s3 hl hst hp hin hno _ => ?_⟩
    · have s13 := s12.trans s3
      refine ⟨_, rfl, false, rfl, ?_⟩
      rcases q with ⟨q1, _⟩ | ⟨q1, q⟩
      · exact absurd (q1 rk hrk) (hno _ _ .nil)
      · have hdead := q1 rk hrk
        refine ⟨_, rfl, _, rfl, fun x dx hx hdx ndx => ⟨x, dx, m, lp, M, M.kinds.map (alGet al), rfl, upd_same, (hm.sm s13).sm (smMut (smNew hdx) hx), .inr (smMut (smNew hdx) hx _ _ (s3 _ _ el)), fun H4 af cd od rl ck og ra sb4 wp wi kb dom => ⟨rfl, ?_⟩⟩⟩
        have s4 : Same H3 H4 := same_but hx (smMut (smNew hdx) hx) sb4
        refine ⟨x, dx, _, rfl, wp.v, rfl, x, dx, m, lp, af, cd, od, rl, M.kinds.map (alGet al), ck, og, ra, M.kinds.length, rfl, wp, wi.tab ok.n2 ok.k2, keys_len ok.n2 kb wp.co.choose_spec.2.2, fun H5 d tb s5 hd ht hkeys => ?_⟩
        have s15 := (s13.trans s4).trans s5
        have tb0 : ∀ s ∈ keysC tb, 0 ≤ s ∧ s < M.n := fun s hs => kb s (Classical.byContradiction fun z => (hkeys s).mp hs (keptOf_none z))
        refine ⟨_, rfl, _, rfl, m, ga, M, ss, rfl, hm.sm s15, smTup s15 hg, pw_nd pw, sb, fun H6 D rk2 s6 hD e2 hrk2 => ?_⟩
        have hdead2 := q1 rk2 hrk2
        have inrk : ∀ s ∈ keysC tb, s ∈ rk2.map (·.1) := fun s hs => Classical.byContradiction fun z => by
          have := dead_mem.mpr ⟨(tb0 s hs).1, (tb0 s hs).2, z⟩
          rw [hdead2] at this
          cases this
        have ht6 := ht.sm s6
        obtain ⟨kvs, ed, hkv, knd, tlen, clen⟩ := id ht6
        have kvlen : kvs.length = tb.length := Paired.length hkv
        refine ⟨d, _, ed, True.intro, fun o => ?_⟩
        have hf : (upd H6 d (.frz o (.dK kvs))) d = some (.frz o (.dK kvs)) := upd_same
        have nDd : D ≠ d := fun z => by rw [z] at hD; obtain ⟨_, e, _⟩ := ht; rw [e] at hD; cases hD
        have eDL : (upd H6 d (.frz o (.dK kvs))) D = _ := (upd_ne nDd).trans e2
        have back : ∀ H', Same (upd H6 d (.frz o (.dK kvs))) H' → Same H6 (upd H' d (.dK kvs)) := fun H' s => unlock_same ed s
        generalize upd H6 d (.frz o (.dK kvs)) = HL at hf eDL back
        refine ⟨_, rfl, d, o, rfl, .inl ⟨kvs, hf, ?_⟩⟩
        refine dkV walk_keys (fun i => tb[i]?.map fun c => (.inl c.1, .int (rkOf rk2 c.1 : Int))) (fun H' s => s _ _ hf) (by omega) ?_ ?_
        · rintro i y Ha Hb hi s7 ⟨rfl, k, v, hk, rfl⟩ Kt kk
          obtain ⟨c, hc, x1, _⟩ := paired_get hkv hk
          have x1 : k = .inl c.1 := x1
          subst x1
          have k1 := kk _ (Same.refl _)
          rw [hc] at k1
          have cin : c.1 ∈ keysC tb := List.mem_map.mpr ⟨c, List.mem_of_getElem? hc, rfl⟩
          have gv := nmD_get hrk2.nd (rkOf_in (inrk _ cin))
          have dg := DGet.k (k := .inl c.1) (s7 _ _ eDL)
          rw [gv] at dg
          exact ⟨rfl, _, rfl, _, rfl, _, rfl, D, _, rfl, dg, k1⟩
        · intro D2 H7 hD2 s7 e7
          have nD2d : D2 ≠ d := fun z => by rw [z, hf] at hD2; cases hD2
          have elist : (List.range kvs.length).filterMap (fun i => tb[i]?.map fun c => ((.inl c.1 : Key), V.int (rkOf rk2 c.1 : Int))) = nmD ((keysC tb).map fun s => (s, rkOf rk2 s)) := by
            rw [kvlen]
            unfold nmD keysC
            rw [List.map_map, List.map_map]
            exact rangeP2 tb _
          rw [elist] at e7
          have pall : putAll (nmD ((keysC tb).map fun s => (s, rkOf rk2 s))) = nmD ((keysC tb).map fun s => (s, rkOf rk2 s)) := putAll_nodup _ (by
            refine nmD_nd ?_
            rw [List.map_map, show ((fun x : Int × Nat => x.1) ∘ fun s : Int => (s, rkOf rk2 s)) = id from rfl, List.map_id]
            exact knd)
          rw [pall] at e7
          have s67 := back H7 s7
          refine ⟨s7 _ _ hf, ?_⟩
          have e7' : (upd H7 d (.dK kvs)) D2 = _ := (upd_ne nD2d).trans e7
          generalize upd H7 d (.dK kvs) = H8 at s67 e7'
          have ht8 := ht6.sm s67
          refine ⟨_, rfl, fun y dy hy hdy ndy => ⟨y, dy, D2, d, _, tb, rfl, upd_same, smMut (smNew hdy) hy _ _ e7', ht8.sm (smMut (smNew hdy) hy), fun H9 d' r' sb9 e9 er9 ht9 => ⟨rfl, ?_⟩⟩⟩
          refine q H9 y dy d' r' tb rk2 (((s15.trans s6).trans s67).trans (same_but hy (smMut (smNew hdy) hy) sb9)) e9 hrk2 ht9 er9 tb0 fun hb => ?_
          obtain ⟨u, hu, _⟩ := dom hb
          exact (hkeys 0).mpr fun z => by rw [z] at hu; cases hu
    · have s13 := s12.trans s3
      rcases q with ⟨_, q⟩ | ⟨q1, _⟩
      · refine ⟨_, rfl, true, rfl, ?_⟩
        refine ⟨_, rfl, _, rfl, fun y dy hy hdy ndy => ⟨y, dy, l, dp, _, _, rfl, upd_same, .of (smMut (smNew hdy) hy _ _ hl), .of (smMut (smNew hdy) hy _ _ (s3 _ _ (s2 _ _ edp))), fun H6 fs sb6 e6 => ⟨rfl, ?_⟩⟩⟩
        exact q H6 y dy fs (s13.trans (same_but hy (smMut (smNew hdy) hy) sb6)) e6
      · rw [q1 rk hrk] at hin
        cases hin
end
end Al
set_option maxHeartbeats 4000000
/-! D25: least_falls. -/
namespace Al
open PySem PySem.Spec PyProof.Rows L2
theorem runs_of {H : Hp} : ∀ {os : List (Option V)}, (∀ o ∈ os, ∃ a xs, o = some (.ref a) ∧ H a = some (.lst xs)) → ∃ rs : List Addr, os.filterMap id = rs.map V.ref ∧ ∀ r ∈ rs, ∃ xs, H r = some (.lst xs)
  | [], _ => ⟨[], rfl, fun r h => by cases h⟩
  | o :: os, h => by
    obtain ⟨rs, e, k⟩ := runs_of (os := os) fun o ho => h o (List.mem_cons_of_mem _ ho)
    obtain ⟨a, xs, rfl, ea⟩ := h o (by simp)
    refine ⟨a :: rs, by rw [List.filterMap_cons, e]; rfl, fun r hr => ?_⟩
    rcases List.mem_cons.mp hr with rfl | hr
    · exact ⟨xs, ea⟩
    · exact k r hr
theorem rep_nones : ∀ k : Nat, (List.replicate k [V.non]).flatten = (List.replicate k (none : Option Int)).map lv
  | 0 => rfl
  | k + 1 => by
    rw [List.replicate_succ, List.flatten_cons, rep_nones k]
    rfl
section
variable {P : Program} {w : World} {K : PySem.W.Frag} {mg : Str → Option Value} {base : Heap}
def spLF (K : PySem.W.Frag) : Sp := fun vs H Q _ => ∃ (m ga : Addr) (M : Mch) (ss : List Int), vs = [.ref m, .ref ga] ∧ MAt K H m M ∧ SqT K H ga (ss.map V.int) ∧ ss.Pairwise (· < ·) ∧ (∀ s ∈ ss, 0 ≤ s ∧ s < M.n) ∧
  ∀ (H' : Hp) (x dx : Addr) (fs : List (Str × V)) (l : Addr) (bs : List Addr) (ls : List (List Int)), Same H H' → H' x = some (.ins (He.ga K "Least") dx fs) → fs.lookup ("vectors" : Str) = some (.ref l) → H' l = some (.lst (bs.map V.ref)) → VecsAt K H' bs ls → FallsOf M ss ls → ls.length ≤ 1000000 → Q (.ref x) H'
theorem ok_least_falls (T : Txt K mg) (U : Txt2 P K) : GFn P w K mg base 6 "least_falls" (spLF K) := by
  refine T.okG h_least_falls rfl (by decide +kernel) sc_least_falls rfl rfl b_least_falls (fun vs H Q E h => ?_) (fun cdv A outer s H vs Q E hr h => ?_)
  · obtain ⟨m, ga, M, ss, rfl, _⟩ := h
    rfl
  · obtain ⟨m, ga, M, ss, rfl, hm, hg, pw, sb, q⟩ := h
    refine ⟨_, (pss_cons (ps_expr (pe_f (ok_check_states T) (hr.mono (by decide)) (pa_cons (pv 0) (pa_cons (pv 1) pa_nil))))
        (pss_cons (ps_c (i := 2) sc_least_falls.nd rfl rfl rfl (pe_mk (ok_Ways_init T) (hr.mono (by decide)) (pa_cons (pv 0) (pa_cons (pe_op op_rep (pe_lst (pa_cons pe_non pa_nil)) (pe_callB (cLen K) (by rfl) (T.f "len") (by decide +kernel) (pa_cons (pe_at (T.c "Machine") (T.n "Machine" "kinds") (pv 0)) pa_nil))) pa_nil))))
        (pss_cons (ps_l (i := 3) sc_least_falls.nd rfl rfl (pe_m (pv 2) (ok_Ways_least T) (hr.mono (by decide)) (pa_cons (pv 1) pa_nil)))
        (pss_one (ps_ret (pe_mk (ok_Least_init T U) (hr.mono (by decide)) (pa_cons (pv 3) (pa_cons (pe_lc (own := [("vector", 4)]) rfl sc_least_falls.nd (pi_list (pv 3)) (blkOk_by (own := [("vector", 4)]) (N := N_least_falls) (sc := defScope s_least_falls) (by decide +kernel)) (fun _ _ _ _ _ => (pg_l (i := 4) sc_least_falls.nd rfl rfl)) (fun _ _ _ _ _ => pts_nil) (fun _ _ _ _ _ => (pe_mK K (pv 2) (ok_Ways_run_to (P := P) (w := w) (base := base) T) (hr.mono (by decide)) (pa_cons (pv 1) (pa_cons (pv 4) pa_nil))))) (pa_cons (pe_m0 (pv 2) (ok_Ways_table T) (hr.mono (by decide))) pa_nil))))))))), ?_⟩
    have ok := hm.ok
    have n2 := ok.n2
    have k2 := ok.k2
    refine ⟨_, rfl, _, rfl, m, ga, M, ss, rfl, hm, hg, pw, sb, fun H1 s1 => ?_⟩
    refine ⟨_, rfl, (by show 1 ≤ sizeLine; decide), fun z0 hz0 => ?_⟩
    have sz0 : Same H1 (upd H1 z0 (.lst [.non])) := smNew hz0
    have ez0 : (upd H1 z0 (.lst [.non])) z0 = some (.lst [.non]) := upd_same
    generalize upd H1 z0 (.lst [.non]) = H2 at sz0 ez0
    have s2 := s1.trans sz0
    obtain ⟨mdx, ts, wd, kl, fs, sa, wa, pc⟩ := (hm.sm s2).pc
    refine ⟨_, rfl, m, mdx, _, _, rfl, pc.m, pc.kinds, kl, _, rfl, .inl (.of pc.kl), z0, _, _, rfl, rfl, ez0, by omega, ?_⟩
    rw [List.length_map]
    refine ⟨by omega, (by rw [List.length_singleton, Nat.one_mul]; exact szOf (by omega)), fun z1 hz1 => ?_⟩
    rw [show ((M.kinds.length : Int).toNat) = M.kinds.length from rfl, rep_nones] at *
    have s3 : Same H2 (upd H2 z1 (.lst ((List.replicate M.kinds.length none).map lv))) := smNew hz1
    have ez1 : (upd H2 z1 (.lst ((List.replicate M.kinds.length none).map lv))) z1 = some (.lst ((List.replicate M.kinds.length none).map lv)) := upd_same
    generalize upd H2 z1 (.lst ((List.replicate M.kinds.length none).map lv)) = H3 at s3 ez1
    have s13 := s2.trans s3
    refine fun x dx hx hdx ndx => ⟨x, dx, m, z1, M, List.replicate M.kinds.length none, rfl, upd_same, (hm.sm s13).sm (smMut (smNew hdx) hx), .inl (smMut (smNew hdx) hx _ _ ez1), fun H4 af cd od rl ck og ra sb4 wp wi kb dom => ⟨rfl, ?_⟩⟩
    have s4 : Same H3 H4 := same_but hx (smMut (smNew hdx) hx) sb4
    have s14 := s13.trans s4
    have hk : ∀ g, ∀ u ∈ keptOf ck g, u.length = M.kinds.length := fun g u hu => wi.vlen hu
    refine ⟨_, rfl, x, dx, _, rfl, wp.v, rfl, _, rfl, x, dx, m, z1, af, cd, od, rl, ga, _, ck, og, ra, ss, M.kinds.length, rfl, wp, smTup s14 hg, hk, by omega, wi.few n2 k2 (pw_nd pw), fun H5 l bs ls s5 el hbs hls => ?_⟩
    have s15 := s14.trans s5
    have wp5 := wp.sm s5
    have few := wi.few n2 k2 (pw_nd pw)
    have lslen : ls.length ≤ 1000000 := Nat.le_trans (nd_le hls.1 fun u hu => ((hls.2 u).mp hu).1) few
    have bslen : bs.length = ls.length := Paired.length hbs
    refine ⟨_, rfl, _, rfl, l, rfl, ⟨_, .of el⟩, ?_⟩
    refine lcR walk_list (fun D _ o H' => ∃ a xs, o = some (.ref a) ∧ a ≠ D ∧ H' a = some (.lst xs)) (fun D i o Ha Hb ⟨a, xs, y1, y2, y3⟩ sb => ⟨a, xs, y1, y2, sb _ _ y2 y3⟩) (fun H' s => .of (s _ _ el)) (by rw [List.length_map]; omega) ?_ ?_
    · rintro D i y Ha Hb acc hi hD s6 eD ⟨rfl, hv⟩ Kt kk
      rw [List.length_map] at hi
      rw [List.getElem?_map, List.getElem?_eq_getElem hi] at hv
      cases hv
      obtain ⟨v, hvi, hva⟩ := paired_get hbs (List.getElem?_eq_getElem hi)
      have vin : v ∈ ss.flatMap (keptOf ck) := ((hls.2 v).mp (List.mem_of_getElem? hvi)).1
      have wp6 := wp5.sm s6
      refine ⟨rfl, _, rfl, x, dx, _, rfl, wp6.v, rfl, _, rfl, _, rfl, x, dx, m, z1, af, cd, od, rl, ga, bs[i], _, ck, og, ra, ss, v, rfl, wp6, smTup (s15.trans s6) hg, smTup s6 hva, List.mem_flatMap.mp vin, fun g => (wi.tab n2 k2 g).1, fun g hg' => ?_, fun H' l2 as s' hl2 e' => kk (some (.ref l2)) _ s' ⟨l2, _, rfl, fun z => ?_, e'⟩⟩
      · obtain ⟨p, wo⟩ := wi.so _ (wi.ke g v hg')
        exact ⟨p, wo.ch, by have := wo.short; omega⟩
      · rw [z, eD] at hl2
        cases hl2
    · intro D H6 os hD s6 eD olen hos
      have wp6 := wp5.sm s6
      obtain ⟨rs, ers, hrs⟩ : ∃ rs : List Addr, os.filterMap id = rs.map V.ref ∧ (∀ r ∈ rs, ∃ xs, H6 r = some (.lst xs)) := runs_of fun o ho => by
        obtain ⟨i, hi, e⟩ := List.mem_iff_getElem.mp ho
        obtain ⟨a, xs, y1, y2, y3⟩ := hos i o (by rw [List.getElem?_eq_getElem hi, e])
        exact ⟨a, xs, y1, y3⟩
      rw [ers] at eD
      rw [List.length_map] at olen
      have rslen : rs.length ≤ os.length := by
        have h1 := congrArg List.length ers
        rw [List.length_map] at h1
        rw [← h1]
        exact List.length_filterMap_le _ _
      refine ⟨_, rfl, x, dx, _, rfl, wp6.v, rfl, x, dx, m, z1, af, cd, od, rl, _, ck, og, ra, M.kinds.length, rfl, wp6, wi.tab n2 k2, keys_len n2 kb wp.co.choose_spec.2.2, fun H7 d tb s7 hd7 ht _ => ?_⟩
      have s67 := s6.trans s7
      refine fun y dy hy hdy ndy => ?_
      have sy : Same H7 (upd (upd H7 dy (.own y)) y (.ins (He.ga K "Least") dy [])) := smMut (smNew hdy) hy
      have s8 := s67.trans sy
      refine ⟨y, dy, l, D, d, bs, ls, rs, tb, rfl, upd_same, .of (s8 _ _ el), hbs.sm s8, .of (sy _ _ (s7 _ _ eD)), by omega, fun r hr => ?_, ht.sm sy, fun H9 fs l9 sb9 e9 lk9 el9 hls9 => ⟨rfl, ?_⟩⟩
      · obtain ⟨xs, e⟩ := hrs r hr
        exact ⟨xs, sy _ _ (s7 _ _ e)⟩
      · exact q H9 y dy fs l9 bs ls ((s15.trans s67).trans (same_but hy sy sb9)) e9 lk9 el9 hls9 (falls_of ok wi dom hls) lslen
end
end Al
set_option maxHeartbeats 4000000
/-! M14: what Search holds, where own steps go one state up. -/
namespace Al
open PySem PySem.Spec PyProof.Rows L2
/-- each state has at most one own step, to the next state -/
def UpM (M : Mch) (ss : List Int) : Prop := ∀ s : Int, 0 ≤ s → s < M.n → ownL M ss s = [] ∨ ∃ t, ownL M ss s = [t] ∧ t.g = s + 1
theorem own_mem {M : Mch} {ss : List Int} {s : Int} {t : Stp} (h : t ∈ ownL M ss s) : t ∈ M.steps ∧ t.s = s ∧ t.k = "" ∧ s ∉ ss := by
  unfold ownL at h
  by_cases e : s ∈ ss
  · rw [if_pos e] at h; cases h
  · rw [if_neg e] at h
    obtain ⟨h1, h2⟩ := List.mem_filter.mp h
    obtain ⟨h3, h4⟩ := List.mem_filter.mp h1
    exact ⟨h3, of_decide_eq_true h4, of_decide_eq_true h2, e⟩
structure SrI (M : Mch) (ss : List Int) (rk : NM) : Prop where
  nd : (rk.map (·.1)).Nodup
  bd : ∀ s r, (s, r) ∈ rk → 0 ≤ s ∧ s < M.n
  rn : ∀ s r, (s, r) ∈ rk → (ownL M ss s = [] ∧ r = 0) ∨ ∃ t r', ownL M ss s = [t] ∧ (t.g, r') ∈ rk ∧ r = r' + 1
theorem SrI.len {M : Mch} {ss : List Int} {rk : NM} (h : SrI M ss rk) : rk.length ≤ M.n := by
  have := nd_lt h.nd fun a ha => by obtain ⟨r, hr⟩ := nm_keys ha; exact h.bd a r hr
  rwa [List.length_map] at this
theorem SrI.add {M : Mch} {ss : List Int} {rk : NM} {s : Int} {r : Nat} (h : SrI M ss rk) (h0 : 0 ≤ s) (h1 : s < M.n) (hn : s ∉ rk.map (·.1)) (hr : (ownL M ss s = [] ∧ r = 0) ∨ ∃ t r', ownL M ss s = [t] ∧ (t.g, r') ∈ rk ∧ r = r' + 1) : SrI M ss (rk ++ [(s, r)]) := by
  refine ⟨nm_snoc h.nd hn, fun a b hab => ?_, fun a b hab => ?_⟩
  · rcases List.mem_append.mp hab with z | z
    · exact h.bd a b z
    · cases List.mem_singleton.mp z
      exact ⟨h0, h1⟩
  · have lift : ∀ {a : Int} {b : Nat}, ((ownL M ss a = [] ∧ b = 0) ∨ ∃ t r', ownL M ss a = [t] ∧ (t.g, r') ∈ rk ∧ b = r' + 1) → ((ownL M ss a = [] ∧ b = 0) ∨ ∃ t r', ownL M ss a = [t] ∧ (t.g, r') ∈ rk ++ [(s, r)] ∧ b = r' + 1) := fun z => z.imp id fun ⟨t, r', x, y, u⟩ => ⟨t, r', x, List.mem_append_left _ y, u⟩
    rcases List.mem_append.mp hab with z | z
    · exact lift (h.rn a b z)
    · cases List.mem_singleton.mp z
      exact lift hr
/-- an entry of nexts -/
def NxR (M : Mch) (ss : List Int) (H : Hp) (e : Key × V) (p : Int × Nat) : Prop := e.1 = .inl p.1 ∧ ((ownL M ss p.1 = [] ∧ e.2 = .non) ∨ ∃ t a, ownL M ss p.1 = [t] ∧ e.2 = .ref a ∧ StpR H a t)
def fSr (m g r n l : V) : List (Str × V) := [("machine", m), ("goals", g), ("ranks", r), ("nexts", n), ("loop", l)]
section
variable (x1 x2 x3 x4 x5 : V)
theorem fs_machine : (fSr x1 x2 x3 x4 x5).lookup ("machine" : Str) = some x1 := by kernel_rfl
theorem fs_goals : (fSr x1 x2 x3 x4 x5).lookup ("goals" : Str) = some x2 := by kernel_rfl
theorem fs_ranks : (fSr x1 x2 x3 x4 x5).lookup ("ranks" : Str) = some x3 := by kernel_rfl
theorem fs_nexts : (fSr x1 x2 x3 x4 x5).lookup ("nexts" : Str) = some x4 := by kernel_rfl
theorem fs_loop : (fSr x1 x2 x3 x4 x5).lookup ("loop" : Str) = some x5 := by kernel_rfl
abbrev fS2 (x1 x2 : V) : List (Str × V) := [("machine", x1), ("goals", x2)]
abbrev fS3 (x1 x2 x3 : V) : List (Str × V) := [("machine", x1), ("goals", x2), ("ranks", x3)]
abbrev fS4 (x1 x2 x3 x4 : V) : List (Str × V) := [("machine", x1), ("goals", x2), ("ranks", x3), ("nexts", x4)]
theorem pfS2 : putF ("goals" : Str) x2 (fW1 x1) = fS2 x1 x2 := by kernel_rfl
theorem pfS3 : putF ("ranks" : Str) x3 (fS2 x1 x2) = fS3 x1 x2 x3 := by kernel_rfl
theorem pfS4 : putF ("nexts" : Str) x4 (fS3 x1 x2 x3) = fS4 x1 x2 x3 x4 := by kernel_rfl
theorem pfS5 : putF ("loop" : Str) x5 (fS4 x1 x2 x3 x4) = fSr x1 x2 x3 x4 x5 := by kernel_rfl
end
/-- a Search stands at x -/
structure SrPc (K : PySem.W.Frag) (H : Hp) (x dx m ga rd nd : Addr) (M : Mch) (ss : List Int) (rk : NM) : Prop where
  v : H x = some (.ins (He.ga K "Search") dx (fSr (.ref m) (.ref ga) (.ref rd) (.ref nd) .non))
  ra : H rd = some (.dK (nmD rk))
  nx : ∃ nx, H nd = some (.dK nx) ∧ Paired (NxR M ss H) nx rk
  ne : rd ≠ nd
  i : SrI M ss rk
theorem NxR.keep {M : Mch} {ss : List Int} {H H' : Hp} (k : ∀ a xs, H a = some (.tup xs) → H' a = some (.tup xs)) {e : Key × V} {p : Int × Nat} (h : NxR M ss H e p) : NxR M ss H' e p := ⟨h.1, h.2.imp id fun ⟨t, a, x, y, z⟩ => ⟨t, a, x, y, k _ _ z⟩⟩
theorem SrPc.sm {K : PySem.W.Frag} {H H' : Hp} {x dx m ga rd nd : Addr} {M : Mch} {ss : List Int} {rk : NM} (s : Same H H') (h : SrPc K H x dx m ga rd nd M ss rk) : SrPc K H' x dx m ga rd nd M ss rk :=
  ⟨s _ _ h.v, s _ _ h.ra, let ⟨nx, a, b⟩ := h.nx; ⟨nx, s _ _ a, Paired.mapP b fun e p z => z.keep fun a xs q => s _ _ q⟩, h.ne, h.i⟩
/-- .. another thing is changed -/
theorem SrPc.but {K : PySem.W.Frag} {H : Hp} {x dx m ga rd nd p : Addr} {M : Mch} {ss : List Int} {rk : NM} {o o' : HO} (h : SrPc K H x dx m ga rd nd M ss rk) (hp : H p = some o) (n1 : ∀ ys, o ≠ .tup ys) (n2 : p ≠ rd) (n3 : p ≠ nd) (n4 : p ≠ x) : SrPc K (upd H p o') x dx m ga rd nd M ss rk :=
  ⟨(upd_ne n4.symm).trans h.v, (upd_ne n2.symm).trans h.ra, let ⟨nx, a, b⟩ := h.nx; ⟨nx, (upd_ne n3.symm).trans a, Paired.mapP b fun e q z => z.keep fun a xs q => (upd_ne fun z => by rw [z, hp] at q; exact n1 _ (Option.some.inj q)).trans q⟩, h.ne, h.i⟩
theorem nx_key {M : Mch} {ss : List Int} {H : Hp} {nx : List (Key × V)} {rk : NM} (h : Paired (NxR M ss H) nx rk) : nx.map (·.1) = (rk.map (·.1)).map Sum.inl := by
  induction h with
  | nil => rfl
  | cons a _ ih => rw [List.map_cons, ih, a.1]; rfl
theorem nx_get {M : Mch} {ss : List Int} {H : Hp} {nx : List (Key × V)} {rk : NM} (h : Paired (NxR M ss H) nx rk) (hn : (rk.map (·.1)).Nodup) {s : Int} {r : Nat} (hm : (s, r) ∈ rk) : ∃ v, valV nx (.inl s) = some v ∧ ((ownL M ss s = [] ∧ v = .non) ∨ ∃ t a, ownL M ss s = [t] ∧ v = .ref a ∧ StpR H a t) := by
  have key : ∀ {nx : List (Key × V)} {rk : NM}, Paired (NxR M ss H) nx rk → (s, r) ∈ rk → ∃ v, ((.inl s, v) : Key × V) ∈ nx ∧ ((ownL M ss s = [] ∧ v = .non) ∨ ∃ t a, ownL M ss s = [t] ∧ v = .ref a ∧ StpR H a t) := by
    intro nx rk h
    induction h with
    | nil => intro z; cases z
    | @cons e p nx rk a b ih =>
      intro z
      rcases List.mem_cons.mp z with rfl | z
      · exact ⟨e.2, by rw [show ((.inl s, e.2) : Key × V) = e from Prod.ext a.1.symm rfl]; simp, a.2⟩
      · obtain ⟨v, h1, h2⟩ := ih z
        exact ⟨v, List.mem_cons_of_mem _ h1, h2⟩
  obtain ⟨v, h1, h2⟩ := key h hm
  exact ⟨v, val_nodup (by rw [nx_key h]; exact map_inl_nd hn) _ h1, h2⟩
theorem nx_put {M : Mch} {ss : List Int} {H : Hp} {nx : List (Key × V)} {rk : NM} (h : Paired (NxR M ss H) nx rk) {s : Int} {r : Nat} {v : V} (hs : s ∉ rk.map (·.1)) (hv : NxR M ss H (.inl s, v) (s, r)) : Paired (NxR M ss H) (putK nx (.inl s) v) (rk ++ [(s, r)]) := by
  have hn : valV nx (.inl s) = none := by
    cases e : valV nx (.inl s) with
    | none => rfl
    | some u =>
      have := valV_mem.mp (show (valV nx (.inl s)).isSome = true by rw [e]; rfl)
      rw [nx_key h] at this
      obtain ⟨a, ha, e⟩ := List.mem_map.mp this
      cases e
      exact absurd ha hs
  rw [putK_new _ hn]
  exact paired_app h (.cons hv .nil)
/-- all but two things as they were -/
def Fr2 (a b : Addr) (H H' : Hp) : Prop := ∀ x o, x ≠ a → x ≠ b → H x = some o → H' x = some o
theorem Fr2.same {a b : Addr} {H0 H H' : Hp} (s : Same H0 H) (f : Fr2 a b H H') (ha : H0 a = none) (hb : H0 b = none) : Same H0 H' := fun x o h => f x o (fun z => by rw [z, ha] at h; cases h) (fun z => by rw [z, hb] at h; cases h) (s x o h)
end Al
set_option maxHeartbeats 4000000
/-! D26: Search.__init__, Search.finish. -/
namespace Al
open PySem PySem.Spec PyProof.Rows L2
section
variable {P : Program} {w : World} {K : PySem.W.Frag} {mg : Str → Option Value} {base : Heap}
def spSrI (K : PySem.W.Frag) : Sp := fun vs H Q _ => ∃ (x dx m ga : Addr) (M : Mch) (ss : List Int), vs = [.ref x, .ref m, .ref ga] ∧ H x = some (.ins (He.ga K "Search") dx []) ∧
  ∀ (H' : Hp) (rd nd : Addr), Sbut x H H' → H rd = none → H nd = none → SrPc K H' x dx m ga rd nd M ss [] → Q .non H'
theorem ok_Search_init (T : Txt K mg) : CFn P w K mg base 1 "Search" (spSrI K) := by
  refine T.okC h_Search_init rfl (by decide +kernel) (by decide +kernel) sc_Search_init rfl rfl b_Search_init (fun vs H Q E h => ?_) (fun cdv A outer s H vs Q E hr h => ?_)
  · obtain ⟨x, dx, m, ga, M, ss, rfl, _⟩ := h
    rfl
  · obtain ⟨x, dx, m, ga, M, ss, rfl, hx, q⟩ := h
    refine ⟨_, (pss_cons (ps_at (T.c "Search") (T.n "Search" "machine") (pv 0) (pv 1))
        (pss_cons (ps_at (T.c "Search") (T.n "Search" "goals") (pv 0) (pv 2))
        (pss_cons (ps_at (T.c "Search") (T.n "Search" "ranks") (pv 0) pe_dnewK)
        (pss_cons (ps_at (T.c "Search") (T.n "Search" "nexts") (pv 0) pe_dnewK)
        (pss_one (ps_at (T.c "Search") (T.n "Search" "loop") (pv 0) pe_non)))))), ?_⟩
    refine ⟨_, rfl, _, rfl, x, dx, [], rfl, hx, by decide, ?_⟩
    have sb1 : Sbut x H (upd H x (.ins (He.ga K "Search") dx (putF "machine" (.ref m) []))) := .upd
    have ex1 : (upd H x (.ins (He.ga K "Search") dx (putF "machine" (.ref m) []))) x = some (.ins (He.ga K "Search") dx (fW1 (.ref m))) := upd_same
    generalize upd H x (.ins (He.ga K "Search") dx (putF "machine" (.ref m) [])) = H1 at sb1 ex1
    refine ⟨_, rfl, _, rfl, x, dx, _, rfl, ex1, (by show 1 < 1000; decide), ?_⟩
    have sb2 : Sbut x H (upd H1 x (.ins (He.ga K "Search") dx (putF "goals" (.ref ga) (fW1 (.ref m))))) := sb1.trans .upd
    have ex2 : (upd H1 x (.ins (He.ga K "Search") dx (putF "goals" (.ref ga) (fW1 (.ref m))))) x = some (.ins (He.ga K "Search") dx (fS2 (.ref m) (.ref ga))) := by rw [upd_same, pfS2]
    generalize upd H1 x (.ins (He.ga K "Search") dx (putF "goals" (.ref ga) (fW1 (.ref m)))) = H2 at sb2 ex2
    have hxn : H x ≠ none := by rw [hx]; exact fun z => by cases z
    refine fun rd hrd => ⟨_, rfl, x, dx, _, rfl, smNew hrd _ _ ex2, (by show 2 < 1000; decide), ?_⟩
    have hrd0 : H rd = none := sb_none sb2 hrd hxn (by rw [ex2]; exact fun z => by cases z)
    have nrx : rd ≠ x := fun z => by rw [z, hx] at hrd0; cases hrd0
    have sb3 : Sbut x H (upd (upd H2 rd (.dK [])) x (.ins (He.ga K "Search") dx (putF "ranks" (.ref rd) (fS2 (.ref m) (.ref ga))))) := (sb2.trans (.of (smNew hrd))).trans .upd
    have ex3 : (upd (upd H2 rd (.dK [])) x (.ins (He.ga K "Search") dx (putF "ranks" (.ref rd) (fS2 (.ref m) (.ref ga))))) x = some (.ins (He.ga K "Search") dx (fS3 (.ref m) (.ref ga) (.ref rd))) := by rw [upd_same, pfS3]
    have er3 : (upd (upd H2 rd (.dK [])) x (.ins (He.ga K "Search") dx (putF "ranks" (.ref rd) (fS2 (.ref m) (.ref ga))))) rd = some (.dK []) := (upd_ne nrx).trans upd_same
    generalize upd (upd H2 rd (.dK [])) x (.ins (He.ga K "Search") dx (putF "ranks" (.ref rd) (fS2 (.ref m) (.ref ga)))) = H3 at sb3 ex3 er3
    refine fun nd hnd => ⟨_, rfl, x, dx, _, rfl, smNew hnd _ _ ex3, (by show 3 < 1000; decide), ?_⟩
    have hnd0 : H nd = none := sb_none sb3 hnd hxn (by rw [ex3]; exact fun z => by cases z)
    have nnx : nd ≠ x := fun z => by rw [z, hx] at hnd0; cases hnd0
    have nrn : rd ≠ nd := fun z => by rw [← z, er3] at hnd; cases hnd
    have sb4 : Sbut x H (upd (upd H3 nd (.dK [])) x (.ins (He.ga K "Search") dx (putF "nexts" (.ref nd) (fS3 (.ref m) (.ref ga) (.ref rd))))) := (sb3.trans (.of (smNew hnd))).trans .upd
    have ex4 : (upd (upd H3 nd (.dK [])) x (.ins (He.ga K "Search") dx (putF "nexts" (.ref nd) (fS3 (.ref m) (.ref ga) (.ref rd))))) x = some (.ins (He.ga K "Search") dx (fS4 (.ref m) (.ref ga) (.ref rd) (.ref nd))) := by rw [upd_same, pfS4]
    have er4 : (upd (upd H3 nd (.dK [])) x (.ins (He.ga K "Search") dx (putF "nexts" (.ref nd) (fS3 (.ref m) (.ref ga) (.ref rd))))) rd = some (.dK []) := (upd_ne nrx).trans (smNew hnd _ _ er3)
    have en4 : (upd (upd H3 nd (.dK [])) x (.ins (He.ga K "Search") dx (putF "nexts" (.ref nd) (fS3 (.ref m) (.ref ga) (.ref rd))))) nd = some (.dK []) := (upd_ne nnx).trans upd_same
    generalize upd (upd H3 nd (.dK [])) x (.ins (He.ga K "Search") dx (putF "nexts" (.ref nd) (fS3 (.ref m) (.ref ga) (.ref rd)))) = H4 at sb4 ex4 er4 en4
    refine ⟨_, rfl, x, dx, _, rfl, ex4, (by show 4 < 1000; decide), ?_⟩
    exact q _ rd nd (sb4.trans .upd) hrd0 hnd0 ⟨by rw [upd_same, pfS5], (upd_ne nrx).trans er4, ⟨[], (upd_ne nnx).trans en4, .nil⟩, nrn, ⟨List.nodup_nil, (fun s r h => by cases h), (fun s r h => by cases h)⟩⟩
def spFin (K : PySem.W.Frag) : Sp := fun vs H Q _ => ∃ (HM : Hp) (x dx m ga rd nd : Addr) (M : Mch) (ss : List Int) (rk : NM) (s : Int), vs = [.ref x, .int s] ∧ SrPc K H x dx m ga rd nd M ss rk ∧ Same HM H ∧ MAt K HM m M ∧ SqT K HM ga (ss.map V.int) ∧ 0 ≤ s ∧ s < M.n ∧ s ∉ rk.map (·.1) ∧
  (ownL M ss s = [] ∨ ∃ t r', ownL M ss s = [t] ∧ (t.g, r') ∈ rk) ∧ ∀ (H' : Hp) (r : Nat), Fr2 rd nd H H' → SrPc K H' x dx m ga rd nd M ss (rk ++ [(s, r)]) → Q .non H'
theorem ok_Search_finish (T : Txt K mg) : MFn P w K mg base 3 "Search" "finish" (spFin K) := by
  refine T.okM h_Search_finish rfl (by decide +kernel) (by decide +kernel) sc_Search_finish rfl rfl b_Search_finish (fun vs H Q E h => ?_) (fun cdv A outer s H vs Q E hr h => ?_)
  · obtain ⟨HM, x, dx, m, ga, rd, nd, M, ss, rk, s, rfl, _⟩ := h
    rfl
  · obtain ⟨HM, x, dx, m, ga, rd, nd, M, ss, rk, st, rfl, sp, sm, hm, hg, s0, s1, hn, hown, q⟩ := h
    refine ⟨_, (pss_cons (ps_l (i := 2) sc_Search_finish.nd rfl rfl pe_non)
        (pss_cons (ps_for PassesOwn.never rfl (pi_list (pe_f (ok_own_steps T) (hr.mono (by decide)) (pa_cons (pe_at (T.c "Search") (T.n "Search" "machine") (pv 0)) (pa_cons (pe_at (T.c "Search") (T.n "Search" "goals") (pv 0)) (pa_cons (pv 1) pa_nil))))) (pg_l (i := 3) sc_Search_finish.nd rfl rfl)
        (pss_one (ps_if (PW.pt (pw_or (pt_cmp (pc_isN (pv 2)) rfl) (pw_or1 (pt_cmpR op_gt (pe_dget (hu_of hr) (pe_at (T.c "Search") (T.n "Search" "ranks") (pv 0)) (pe_ix (ixT K) (pv 3) pe_int (fun _ _ => rfl)) (fun _ _ => rfl)) (pe_dget (hu_of hr) (pe_at (T.c "Search") (T.n "Search" "ranks") (pv 0)) (pe_ix (ixT K) (pv 2) pe_int (fun _ _ => rfl)) (fun _ _ => rfl)) (nomark _))))) 
          (pss_one (ps_l (i := 2) sc_Search_finish.nd rfl rfl (pv 3)))
          pss_nil)))
        (pss_cons (ps_dput (hu_of hr) (pe_at (T.c "Search") (T.n "Search" "ranks") (pv 0)) (pv 1) (pe_ifExp (pt_cmp (pc_isN (pv 2)) rfl) pe_int (pe_op op_add (pe_dget (hu_of hr) (pe_at (T.c "Search") (T.n "Search" "ranks") (pv 0)) (pe_ix (ixT K) (pv 2) pe_int (fun _ _ => rfl)) (fun _ _ => rfl)) pe_int)) rfl)
        (pss_one (ps_dput (hu_of hr) (pe_at (T.c "Search") (T.n "Search" "nexts") (pv 0)) (pv 1) (pv 2) rfl))))), ?_⟩
    refine ⟨_, rfl, x, dx, _, _, rfl, sp.v, fs_machine .., _, rfl, x, dx, _, _, rfl, sp.v, fs_goals .., _, rfl, m, ga, M, ss, st, rfl, hm.sm sm, smTup sm hg, s0, s1, fun H1 l as s1' hl el hst => ?_⟩
    have sp1 := sp.sm s1'
    have aslen : as.length = (ownL M ss st).length := Paired.length hst
    have as1 : as.length ≤ 1 := by
      rw [aslen]
      rcases hown with h | ⟨t, _, h, _⟩ <;> (rw [h]; simp)
    refine ⟨l, rfl, ⟨_, .of el⟩, ?_⟩
    refine for_it walk_list (fun i σ H' => ∃ o2 o3, σ = [some (.ref x), some (.int st), some o2, o3] ∧ (i = 0 → o2 = .non) ∧ (0 < i → ∃ a, as[0]? = some a ∧ o2 = .ref a) ∧ Same H1 H') ⟨_, _, rfl, fun _ => rfl, (fun h => absurd h (Nat.lt_irrefl 0)), Same.refl _⟩ (fun i σ H' _ ⟨_, _, _, _, _, s⟩ => .of (s _ _ el)) ?_ ?_
    · rintro i y σ H2 H3 hi ⟨o2, o3, rfl, e0, _, s2⟩ ⟨rfl, hv⟩
      rw [List.length_map] at hi
      have i0 : i = 0 := by omega
      subst i0
      rw [List.getElem?_map, List.getElem?_eq_getElem hi] at hv
      cases hv
      have := e0 rfl
      subst this
      exact ⟨_, rfl, true, rfl, _, rfl, _, _, rfl, (fun h => absurd h (Nat.succ_ne_zero _)), (fun _ => ⟨as[0], List.getElem?_eq_getElem hi, rfl⟩), s2⟩
    · rintro σ H2 ⟨o2, o3, rfl, e0, e1, s2⟩
      rw [List.length_map] at e0 e1
      have sp2 := sp1.sm s2
      have hst2 := hst.sm s2
      have sH2 := s1'.trans s2
      have n2 := hm.ok.n2
      clear sp sp1 s1' s2 sm hm hg el hl hst hr
      have rlen := sp2.i.len
      by_cases e : ownL M ss st = []
      case' pos =>
        have a0 : as.length = 0 := by rw [aslen, e]; rfl
        have e2 := e0 a0
        refine ⟨_, rfl, true, blT e2, ?_⟩
        obtain ⟨r, er⟩ : ∃ r : Nat, r = 0 := ⟨_, rfl⟩
        have hr : (ownL M ss st = [] ∧ r = 0) ∨ ∃ t r', ownL M ss st = [t] ∧ (t.g, r') ∈ rk ∧ r = r' + 1 := .inl ⟨e, er⟩
        have ho : (ownL M ss st = [] ∧ o2 = .non) ∨ ∃ t a, ownL M ss st = [t] ∧ o2 = .ref a ∧ StpR H2 a t := .inl ⟨e, e2⟩
        rw [show (V.int 0) = V.int (r : Int) by rw [er]; rfl]
        clear er e2
      case' neg =>
        obtain ⟨t, r', ht, hr'⟩ : ∃ t r', ownL M ss st = [t] ∧ (t.g, r') ∈ rk := hown.elim (fun z => absurd z e) id
        rw [ht] at hst2
        have a1 : 0 < as.length := by rw [aslen, ht]; exact Nat.zero_lt_succ _
        obtain ⟨a, ha, eo⟩ := e1 a1
        obtain ⟨t', ht', hta⟩ := paired_get hst2 ha
        cases ht'
        have dg := DGet.k (k := .inl t.g) sp2.ra
        rw [nmD_get sp2.i.nd hr'] at dg
        refine ⟨_, rfl, false, blNo (by rw [eo]; intro z; cases z), _, rfl, x, dx, _, _, rfl, sp2.v, fs_ranks .., _, rfl, a, t.vs, 3, .int t.g, eo, rfl, .of hta, rfl, rd, _, rfl, dg, (r' : Int), 1, rfl, rfl, ?_⟩
        obtain ⟨r, er⟩ : ∃ r : Nat, r = r' + 1 := ⟨_, rfl⟩
        have hr : (ownL M ss st = [] ∧ r = 0) ∨ ∃ t r', ownL M ss st = [t] ∧ (t.g, r') ∈ rk ∧ r = r' + 1 := .inr ⟨t, r', ht, hr', er⟩
        have ho : (ownL M ss st = [] ∧ o2 = .non) ∨ ∃ t b, ownL M ss st = [t] ∧ o2 = .ref b ∧ StpR H2 b t := .inr ⟨t, a, ht, eo, hta⟩
        rw [show ((fun i j : Int => V.int (i + j)) (r' : Int) 1) = V.int (r : Int) by rw [er]; rfl]
        clear er eo
      all_goals
        obtain ⟨nx, en, hnx⟩ := sp2.nx
        have nxlen : nx.length = rk.length := Paired.length hnx
        refine ⟨_, rfl, x, dx, _, _, rfl, sp2.v, fs_ranks .., _, rfl, rd, upd H2 rd (.dK (putK (nmD rk) (.inl st) (.int (r : Int)))), rfl, .inl ⟨nmD rk, .inl st, sp2.ra, rfl, szLt (by rw [nmD_len]; have := s1; omega), rfl⟩, ?_⟩
        have nrx : rd ≠ x := fun z => by have e := sp2.v; rw [← z, sp2.ra] at e; cases e
        have nnx : nd ≠ x := fun z => by have e := sp2.v; rw [← z, en] at e; cases e
        have v3 : (upd H2 rd (.dK (putK (nmD rk) (.inl st) (.int (r : Int))))) x = _ := (upd_ne nrx.symm).trans sp2.v
        have en3 : (upd H2 rd (.dK (putK (nmD rk) (.inl st) (.int (r : Int))))) nd = _ := (upd_ne sp2.ne.symm).trans en
        refine ⟨_, rfl, _, rfl, x, dx, _, _, rfl, v3, fs_nexts .., _, rfl, nd, upd (upd H2 rd (.dK (putK (nmD rk) (.inl st) (.int (r : Int))))) nd (.dK (putK nx (.inl st) o2)), rfl, .inl ⟨nx, .inl st, en3, rfl, szLt (by omega), rfl⟩, ?_⟩
        have keep : ∀ a xs, H2 a = some (.tup xs) → (upd (upd H2 rd (.dK (putK (nmD rk) (.inl st) (.int (r : Int))))) nd (.dK (putK nx (.inl st) o2))) a = some (.tup xs) := fun a xs ha => (upd_ne fun z => by rw [z, en] at ha; cases ha).trans ((upd_ne fun z => by rw [z, sp2.ra] at ha; cases ha).trans ha)
        refine q _ r (fun b o n1 n2 hb => (upd_ne n2).trans ((upd_ne n1).trans (sH2 _ _ hb))) ⟨(upd_ne nnx.symm).trans v3, ?_, ⟨_, upd_same, nx_put (Paired.mapP hnx fun e p z => z.keep keep) hn ⟨rfl, ?_⟩⟩, sp2.ne, sp2.i.add s0 s1 hn hr⟩
        · rw [upd_ne sp2.ne, upd_same, nmD_put hn]
        · exact ho.imp id fun ⟨t, b, y1, y2, y3⟩ => ⟨t, b, y1, y2, keep _ _ y3⟩
end
end Al
set_option maxHeartbeats 4000000
/-! M15: the stack of Search.walk. -/
namespace Al
open PySem PySem.Spec PyProof.Rows L2
abbrev PathR (H : Hp) (a : Addr) (q : Int × Addr) : Prop := H a = some (.tup [.int q.1, .ref q.2])
/-- the open states, each with its place -/
def opens (s0 : Int) (n : Nat) : NM := (List.range n).map fun (i : Nat) => (s0 + (i : Int), i)
theorem opens_succ (s0 : Int) (n : Nat) : opens s0 (n + 1) = opens s0 n ++ [(s0 + (n : Int), n)] := by
  unfold opens
  rw [List.range_succ, List.map_append]
  rfl
theorem opens_key {s0 : Int} {n : Nat} {s : Int} : s ∈ (opens s0 n).map (·.1) ↔ ∃ i : Nat, i < n ∧ s = s0 + i := by
  unfold opens
  rw [List.map_map, List.mem_map]
  exact ⟨fun ⟨i, hi, e⟩ => ⟨i, List.mem_range.mp hi, e.symm⟩, fun ⟨i, hi, e⟩ => ⟨i, List.mem_range.mpr hi, e.symm⟩⟩
theorem opens_len (s0 : Int) (n : Nat) : (opens s0 n).length = n := by
  unfold opens
  rw [List.length_map, List.length_range]
theorem opens_new {s0 : Int} {n : Nat} : s0 + (n : Int) ∉ (opens s0 n).map (·.1) := fun h => by
  obtain ⟨i, hi, e⟩ := opens_key.mp h
  omega
theorem opens_nd (s0 : Int) : ∀ n, ((opens s0 n).map (·.1)).Nodup
  | 0 => by simp [opens]
  | n + 1 => by rw [opens_succ]; exact nm_snoc (opens_nd s0 n) opens_new
theorem opens_drop (s0 : Int) (n : Nat) : dropK (nmD (opens s0 (n + 1))) (.inl (s0 + (n : Int))) = nmD (opens s0 n) := by
  rw [opens_succ]
  unfold nmD dropK
  rw [List.map_append, List.filter_append]
  have h1 : (List.map (fun p : Int × Nat => ((.inl p.1 : Key), V.int (p.2 : Int))) (opens s0 n)).filter (fun kv : Key × V => decide (kv.1 ≠ .inl (s0 + (n : Int)))) = List.map (fun p : Int × Nat => ((.inl p.1 : Key), V.int (p.2 : Int))) (opens s0 n) := by
    refine List.filter_eq_self.mpr fun kv hkv => decide_eq_true fun z => ?_
    obtain ⟨p, hp, rfl⟩ := List.mem_map.mp hkv
    have z : (Sum.inl p.1 : Key) = .inl (s0 + (n : Int)) := z
    have z2 : s0 + (n : Int) = p.1 := (Sum.inl.inj z).symm
    refine opens_new (s0 := s0) (n := n) ?_
    rw [z2]
    exact List.mem_map.mpr ⟨p, hp, rfl⟩
  rw [h1]
  simp
theorem opens_get {s0 : Int} {n i : Nat} (h : i < n) : valV (nmD (opens s0 n)) (.inl (s0 + (i : Int))) = some (.int (i : Int)) :=
  nmD_get (opens_nd s0 n) (by unfold opens; exact List.mem_map.mpr ⟨i, List.mem_range.mpr h, rfl⟩)
theorem paired_split {α β : Type} {F : α → β → Prop} : ∀ {as : List α} {bs : List β} {a : α} {b : β}, Paired F (as ++ [a]) (bs ++ [b]) → Paired F as bs ∧ Paired F [a] [b]
  | [], [], _, _, h => ⟨.nil, h⟩
  | [], _ :: bs, _, _, h => by
    cases h with
    | cons _ t => cases bs <;> cases t
  | _ :: as, [], _, _, h => by
    cases h with
    | cons _ t => cases as <;> cases t
  | _ :: _, _ :: _, _, _, h => by
    cases h with
    | cons x t => exact ⟨.cons x (paired_split t).1, (paired_split t).2⟩
structure WkI (K : PySem.W.Frag) (HM H : Hp) (x dx m ga rd nd pl tk op : Addr) (M : Mch) (ss : List Int) (rk : NM) (s0 : Int) (pai : List Addr) (ini : List (Int × Addr)) (pal : Addr) (e : Int) (l : Addr) (cl : List Addr) (ts : List Stp) (tks : List V) : Prop where
  sp : SrPc K H x dx m ga rd nd M ss rk
  sm : Same HM H
  epl : H pl = some (.lst ((pai ++ [pal]).map V.ref))
  etk : H tk = some (.lst tks)
  eop : H op = some (.dK (nmD (opens s0 (ini.length + 1))))
  pi : Paired (PathR H) pai ini
  pt : H pal = some (.tup [.int e, .ref l])
  ie : e = s0 + ini.length
  s0p : 0 ≤ s0
  ix : ∀ (i : Nat) q, ini[i]? = some q → q.1 = s0 + i ∧ H q.2 = some (.lst []) ∧ (∃ t, ownL M ss q.1 = [t]) ∧ q.2 ≠ pl ∧ q.2 ≠ tk ∧ q.2 ≠ l ∧ HM q.2 = none
  ind : (ini.map (·.2)).Nodup
  el : H l = some (.lst (cl.map V.ref))
  hl : StpsAt H cl ts
  ts : ts = ownL M ss e ∨ (ts = [] ∧ ∃ t, ownL M ss e = [t] ∧ t.g ∈ rk.map (·.1))
  tl : tks.length = ini.length
  nr : ∀ i : Nat, i ≤ ini.length → s0 + (i : Int) ∉ rk.map (·.1)
  en : e < M.n
  n1 : pl ≠ tk
  n2 : l ≠ pl
  n3 : l ≠ tk
  n4 : op ≠ rd
  n5 : op ≠ nd
  hpl : HM pl = none
  htk : HM tk = none
  hop : HM op = none
  hll : HM l = none
section
variable {K : PySem.W.Frag} {HM H H2 : Hp} {x dx m ga rd nd pl tk op : Addr} {M : Mch} {ss : List Int} {rk : NM} {s0 : Int} {pai : List Addr} {ini : List (Int × Addr)} {pal : Addr} {e : Int} {l : Addr} {cl : List Addr} {ts : List Stp} {tks : List V}
theorem WkI.mono (h : WkI K HM H x dx m ga rd nd pl tk op M ss rk s0 pai ini pal e l cl ts tks) (s : Same H H2) : WkI K HM H2 x dx m ga rd nd pl tk op M ss rk s0 pai ini pal e l cl ts tks :=
  ⟨h.sp.sm s, h.sm.trans s, s _ _ h.epl, s _ _ h.etk, s _ _ h.eop, Paired.mapP h.pi fun a q z => s _ _ z, s _ _ h.pt, h.ie, h.s0p, fun i q hq => let ⟨a, b, c, d, f, g, k⟩ := h.ix i q hq; ⟨a, s _ _ b, c, d, f, g, k⟩, h.ind, s _ _ h.el, h.hl.sm s, h.ts, h.tl, h.nr, h.en, h.n1, h.n2, h.n3, h.n4, h.n5, h.hpl, h.htk, h.hop, h.hll⟩
theorem ne_of_kind {a b : Addr} {o u : HO} (ha : H a = some o) (hb : H b = some u) (h : o ≠ u) : a ≠ b := fun z => by rw [z, hb] at ha; exact h (Option.some.inj ha).symm
/-- the only step of the last list is taken; its state has a rank -/
theorem WkI.spent {a : Addr} {t : Stp} (h : WkI K HM H x dx m ga rd nd pl tk op M ss rk s0 pai ini pal e l [a] [t] tks) (ht : ownL M ss e = [t]) (hg : t.g ∈ rk.map (·.1)) : WkI K HM (upd H l (.lst [])) x dx m ga rd nd pl tk op M ss rk s0 pai ini pal e l [] [] tks := by
  obtain ⟨nx, en, hnx⟩ := h.sp.nx
  have nlx : l ≠ x := ne_of_kind h.el h.sp.v fun z => by cases z
  have nlr : l ≠ rd := ne_of_kind h.el h.sp.ra fun z => by cases z
  have nln : l ≠ nd := ne_of_kind h.el en fun z => by cases z
  have nlo : l ≠ op := ne_of_kind h.el h.eop fun z => by cases z
  have kt : ∀ a xs, H a = some (.tup xs) → (upd H l (.lst [])) a = some (.tup xs) := fun a xs ha => (upd_ne fun z => by rw [z, h.el] at ha; cases ha).trans ha
  exact ⟨h.sp.but h.el (fun _ z => by cases z) nlr nln nlx, smMut h.sm h.hll, (upd_ne h.n2.symm).trans h.epl, (upd_ne h.n3.symm).trans h.etk, (upd_ne nlo.symm).trans h.eop, Paired.mapP h.pi fun a q z => kt _ _ z, kt _ _ h.pt, h.ie, h.s0p,
    fun i q hq => let ⟨a, b, c, d, f, g, k⟩ := h.ix i q hq; ⟨a, (upd_ne g).trans b, c, d, f, g, k⟩, h.ind, upd_same, .nil, .inr ⟨rfl, t, ht, hg⟩, h.tl, h.nr, h.en, h.n1, h.n2, h.n3, h.n4, h.n5, h.hpl, h.htk, h.hop, h.hll⟩
/-- .. it has none: it is opened -/
theorem WkI.push {a l2 tp : Addr} {as2 : List Addr} {t : Stp} {y : V} (h : WkI K HM H x dx m ga rd nd pl tk op M ss rk s0 pai ini pal e l [a] [t] tks) (ht : ownL M ss e = [t]) (up : t.g = e + 1) (gn : t.g < M.n) (hg : t.g ∉ rk.map (·.1))
    (sA : Same (upd (upd H l (.lst [])) op (.dK (nmD (opens s0 (ini.length + 2))))) H2) (hl2 : (upd (upd H l (.lst [])) op (.dK (nmD (opens s0 (ini.length + 2))))) l2 = none) (el2 : H2 l2 = some (.lst (as2.map V.ref))) (hs2 : StpsAt H2 as2 (ownL M ss t.g)) (etp : H2 tp = some (.tup [.int t.g, .ref l2])) :
    WkI K HM (upd (upd H2 pl (.lst ((pai ++ [pal] ++ [tp]).map V.ref))) tk (.lst (tks ++ [y]))) x dx m ga rd nd pl tk op M ss rk s0 (pai ++ [pal]) (ini ++ [(e, l)]) tp t.g l2 as2 (ownL M ss t.g) (tks ++ [y]) := by
  obtain ⟨nx, en, hnx⟩ := h.sp.nx
  have nlx : l ≠ x := ne_of_kind h.el h.sp.v fun z => by cases z
  have nlr : l ≠ rd := ne_of_kind h.el h.sp.ra fun z => by cases z
  have nln : l ≠ nd := ne_of_kind h.el en fun z => by cases z
  have nlo : l ≠ op := ne_of_kind h.el h.eop fun z => by cases z
  have npx : pl ≠ x := ne_of_kind h.epl h.sp.v fun z => by cases z
  have npr : pl ≠ rd := ne_of_kind h.epl h.sp.ra fun z => by cases z
  have npn : pl ≠ nd := ne_of_kind h.epl en fun z => by cases z
  have npo : pl ≠ op := ne_of_kind h.epl h.eop fun z => by cases z
  have ntx : tk ≠ x := ne_of_kind h.etk h.sp.v fun z => by cases z
  have ntr : tk ≠ rd := ne_of_kind h.etk h.sp.ra fun z => by cases z
  have ntn : tk ≠ nd := ne_of_kind h.etk en fun z => by cases z
  have nto : tk ≠ op := ne_of_kind h.etk h.eop fun z => by cases z
  have nox : op ≠ x := ne_of_kind h.eop h.sp.v fun z => by cases z
  have kt : ∀ a xs, H a = some (.tup xs) → (upd (upd H l (.lst [])) op (.dK (nmD (opens s0 (ini.length + 2))))) a = some (.tup xs) := fun a xs ha => (upd_ne fun z => by rw [z, h.eop] at ha; cases ha).trans ((upd_ne fun z => by rw [z, h.el] at ha; cases ha).trans ha)
  have opl : (upd H l (.lst [])) op = some _ := (upd_ne nlo.symm).trans h.eop
  have spA : SrPc K (upd (upd H l (.lst [])) op (.dK (nmD (opens s0 (ini.length + 2))))) x dx m ga rd nd M ss rk := (h.sp.but h.el (fun _ z => by cases z) nlr nln nlx).but opl (fun _ z => by cases z) h.n4 h.n5 nox
  have smA : Same HM (upd (upd H l (.lst [])) op (.dK (nmD (opens s0 (ini.length + 2))))) := smMut (smMut h.sm h.hll) h.hop
  have plA : (upd (upd H l (.lst [])) op (.dK (nmD (opens s0 (ini.length + 2))))) pl = some _ := (upd_ne npo).trans ((upd_ne h.n2.symm).trans h.epl)
  have tkA : (upd (upd H l (.lst [])) op (.dK (nmD (opens s0 (ini.length + 2))))) tk = some _ := (upd_ne nto).trans ((upd_ne h.n3.symm).trans h.etk)
  have opA : (upd (upd H l (.lst [])) op (.dK (nmD (opens s0 (ini.length + 2))))) op = some _ := upd_same
  have lA : (upd (upd H l (.lst [])) op (.dK (nmD (opens s0 (ini.length + 2))))) l = some (.lst []) := (upd_ne nlo).trans upd_same
  have ixA : ∀ (i : Nat) q, ini[i]? = some q → (upd (upd H l (.lst [])) op (.dK (nmD (opens s0 (ini.length + 2))))) q.2 = some (.lst []) := fun i q hq => by
    obtain ⟨_, b, _, _, _, g, _⟩ := h.ix i q hq
    exact (upd_ne (ne_of_kind b h.eop fun z => by cases z)).trans ((upd_ne g).trans b)
  have ptA := kt _ _ h.pt
  have piA : Paired (PathR (upd (upd H l (.lst [])) op (.dK (nmD (opens s0 (ini.length + 2)))))) pai ini := Paired.mapP h.pi fun a q z => kt _ _ z
  generalize upd (upd H l (.lst [])) op (.dK (nmD (opens s0 (ini.length + 2)))) = HA at sA hl2 spA smA plA tkA opA lA ixA ptA piA
  have fresh : ∀ {b : Addr} {o : HO}, HA b = some o → l2 ≠ b := fun hb z => by rw [← z, hl2] at hb; cases hb
  have pl2 := sA _ _ plA
  have tk2 := sA _ _ tkA
  have sp2 := spA.sm sA
  have kt2 : ∀ a xs, H2 a = some (.tup xs) → (upd (upd H2 pl (.lst ((pai ++ [pal] ++ [tp]).map V.ref))) tk (.lst (tks ++ [y]))) a = some (.tup xs) := fun a xs ha => (upd_ne fun z => by rw [z, tk2] at ha; cases ha).trans ((upd_ne fun z => by rw [z, pl2] at ha; cases ha).trans ha)
  have other : ∀ {b : Addr} {o : HO}, H2 b = some o → b ≠ pl → b ≠ tk → (upd (upd H2 pl (.lst ((pai ++ [pal] ++ [tp]).map V.ref))) tk (.lst (tks ++ [y]))) b = some o := fun hb n1 n2 => (upd_ne n2).trans ((upd_ne n1).trans hb)
  have tkB : (upd H2 pl (.lst ((pai ++ [pal] ++ [tp]).map V.ref))) tk = some _ := (upd_ne h.n1.symm).trans tk2
  have ilen : (ini ++ [(e, l)]).length = ini.length + 1 := by rw [List.length_append]; rfl
  refine ⟨(sp2.but pl2 (fun _ z => by cases z) npr npn npx).but tkB (fun _ z => by cases z) ntr ntn ntx, smMut (smMut (smA.trans sA) h.hpl) h.htk, (upd_ne h.n1).trans upd_same, upd_same, ?_, ?_, kt2 _ _ etp, ?_, h.s0p, ?_, ?_, other el2 (fresh plA) (fresh tkA), Paired.mapP hs2 fun a b z => kt2 _ _ z, .inl rfl, ?_, ?_, gn, h.n1, fresh plA, fresh tkA, h.n4, h.n5, h.hpl, h.htk, h.hop, none_same smA hl2⟩
  · rw [ilen]
    exact other (sA _ _ opA) npo.symm nto.symm
  · exact paired_app (Paired.mapP piA fun a q z => kt2 _ _ (sA _ _ z)) (.cons (kt2 _ _ (sA _ _ ptA)) .nil)
  · rw [ilen, up, h.ie]
    omega
  · intro i q hq
    by_cases hi : i < ini.length
    · rw [List.getElem?_append_left hi] at hq
      obtain ⟨a, b, c, d, f, g, k⟩ := h.ix i q hq
      have b2 := ixA i q hq
      exact ⟨a, other (sA _ _ b2) d f, c, d, f, (fresh b2).symm, k⟩
    · rw [List.getElem?_append_right (by omega)] at hq
      have e0 : i - ini.length = 0 := by
        have := (List.getElem?_eq_some_iff.mp hq).1
        simp at this
        omega
      rw [e0] at hq
      have eq : (e, l) = q := by simpa using hq
      subst eq
      refine ⟨?_, other (sA _ _ lA) h.n2 h.n3, ⟨t, ht⟩, h.n2, h.n3, (fresh lA).symm, h.hll⟩
      show e = s0 + (i : Int)
      rw [h.ie]
      omega
  · rw [List.map_append]
    refine List.nodup_append.mpr ⟨h.ind, by simp, fun a ha b hb => ?_⟩
    rintro rfl
    obtain ⟨q, hq, rfl⟩ := List.mem_map.mp ha
    obtain ⟨i, hi, eq⟩ := List.mem_iff_getElem.mp hq
    obtain ⟨_, _, _, _, _, g, _⟩ := h.ix i q (by rw [List.getElem?_eq_getElem hi, eq])
    exact g (List.mem_singleton.mp hb)
  · rw [List.length_append, ilen, h.tl]
    rfl
  · intro i hi
    rw [ilen] at hi
    by_cases c : i ≤ ini.length
    · exact h.nr i c
    · have : i = ini.length + 1 := by omega
      have e2 : s0 + (i : Int) = t.g := by rw [up, h.ie, this]; omega
      rw [e2]
      exact hg
/-- the last state has its rank: it is closed -/
theorem WkI.pop {r : Nat} {pai2 : List Addr} {ini2 : List (Int × Addr)} {q : Int × Addr} {pq : Addr} (h : WkI K HM H x dx m ga rd nd pl tk op M ss rk s0 (pai2 ++ [pq]) (ini2 ++ [q]) pal e l [] [] tks) (f : Fr2 rd nd H H2) (hrd : HM rd = none) (hnd : HM nd = none) (sp2 : SrPc K H2 x dx m ga rd nd M ss (rk ++ [(e, r)])) (up : UpM M ss) :
    WkI K HM (upd (upd (upd H2 pl (.lst ((pai2 ++ [pq]).map V.ref))) op (.dK (nmD (opens s0 (ini2.length + 1))))) tk (.lst tks.dropLast)) x dx m ga rd nd pl tk op M ss (rk ++ [(e, r)]) s0 pai2 ini2 pq q.1 q.2 [] [] tks.dropLast := by
  obtain ⟨nx, en, hnx⟩ := sp2.nx
  have hra := sp2.ra
  have ilen : (ini2 ++ [q]).length = ini2.length + 1 := by rw [List.length_append]; rfl
  have npr : pl ≠ rd := ne_of_kind h.epl h.sp.ra fun z => by cases z
  obtain ⟨nx0, en0, _⟩ := h.sp.nx
  have npn : pl ≠ nd := ne_of_kind h.epl en0 fun z => by cases z
  have ntr : tk ≠ rd := ne_of_kind h.etk h.sp.ra fun z => by cases z
  have ntn : tk ≠ nd := ne_of_kind h.etk en0 fun z => by cases z
  have npx : pl ≠ x := ne_of_kind h.epl h.sp.v fun z => by cases z
  have ntx : tk ≠ x := ne_of_kind h.etk h.sp.v fun z => by cases z
  have nox : op ≠ x := ne_of_kind h.eop h.sp.v fun z => by cases z
  have npo : pl ≠ op := ne_of_kind h.epl h.eop fun z => by cases z
  have nto : tk ≠ op := ne_of_kind h.etk h.eop fun z => by cases z
  have pl2 : H2 pl = some _ := f _ _ npr npn h.epl
  have tk2 : H2 tk = some _ := f _ _ ntr ntn h.etk
  have op2 : H2 op = some _ := f _ _ h.n4 h.n5 h.eop
  have kt : ∀ a xs, H a = some (.tup xs) → (upd (upd (upd H2 pl (.lst ((pai2 ++ [pq]).map V.ref))) op (.dK (nmD (opens s0 (ini2.length + 1))))) tk (.lst tks.dropLast)) a = some (.tup xs) := fun a xs ha =>
    (upd_ne (ne_of_kind ha h.etk fun z => by cases z)).trans ((upd_ne (ne_of_kind ha h.eop fun z => by cases z)).trans ((upd_ne (ne_of_kind ha h.epl fun z => by cases z)).trans (f _ _ (ne_of_kind ha h.sp.ra fun z => by cases z) (ne_of_kind ha en0 fun z => by cases z) ha)))
  have kl : ∀ a, H a = some (.lst []) → a ≠ pl → a ≠ tk → (upd (upd (upd H2 pl (.lst ((pai2 ++ [pq]).map V.ref))) op (.dK (nmD (opens s0 (ini2.length + 1))))) tk (.lst tks.dropLast)) a = some (.lst []) := fun a ha n1 n2 =>
    (upd_ne n2).trans ((upd_ne (ne_of_kind ha h.eop fun z => by cases z)).trans ((upd_ne n1).trans (f _ _ (ne_of_kind ha h.sp.ra fun z => by cases z) (ne_of_kind ha en0 fun z => by cases z) ha)))
  obtain ⟨piA, piB⟩ := paired_split h.pi
  have last : (ini2 ++ [q])[ini2.length]? = some q := by rw [List.getElem?_append_right (Nat.le_refl _)]; simp
  obtain ⟨q1, q2, ⟨t, qt⟩, q3, q4, q5, q6⟩ := h.ix _ _ last
  have opB : (upd H2 pl (.lst ((pai2 ++ [pq]).map V.ref))) op = some _ := (upd_ne npo.symm).trans op2
  have tkC : (upd (upd H2 pl (.lst ((pai2 ++ [pq]).map V.ref))) op (.dK (nmD (opens s0 (ini2.length + 1))))) tk = some _ := (upd_ne nto).trans ((upd_ne h.n1.symm).trans tk2)
  have e1 : e = q.1 + 1 := by
    have := h.ie
    rw [ilen] at this
    omega
  have qn : q.1 < M.n := by have := h.en; omega
  have q0 : 0 ≤ q.1 := by have := h.s0p; omega
  have tg : t.g = e := by
    rcases up q.1 q0 qn with z | ⟨t2, z1, z2⟩
    · rw [z] at qt; cases qt
    · rw [z1] at qt
      cases qt
      omega
  refine ⟨((sp2.but pl2 (fun _ z => by cases z) npr npn npx).but opB (fun _ z => by cases z) h.n4 h.n5 nox).but tkC (fun _ z => by cases z) ntr ntn ntx, smMut (smMut (smMut (f.same h.sm hrd hnd) h.hpl) h.hop) h.htk, (upd_ne h.n1).trans ((upd_ne npo).trans upd_same), upd_same, (upd_ne nto.symm).trans upd_same, Paired.mapP piA fun a q z => kt _ _ z, ?_, q1, h.s0p, ?_, ?_, kl _ q2 q3 q4, .nil, .inr ⟨rfl, t, qt, ?_⟩, ?_, ?_, qn, h.n1, q3, q4, h.n4, h.n5, h.hpl, h.htk, h.hop, q6⟩
  · cases piB with
    | cons z _ => exact kt _ _ z
  · intro i p hp
    have hi : i < ini2.length := (List.getElem?_eq_some_iff.mp hp).1
    obtain ⟨a, b, c, d, f2, g, k⟩ := h.ix i p (by rw [List.getElem?_append_left hi]; exact hp)
    refine ⟨a, kl _ b d f2, c, d, f2, fun z => ?_, k⟩
    have nd := h.ind
    rw [List.map_append] at nd
    obtain ⟨_, _, nd3⟩ := List.nodup_append.mp nd
    exact nd3 p.2 (List.mem_map.mpr ⟨p, List.mem_of_getElem? hp, rfl⟩) q.2 (by simp) z
  · have nd := h.ind
    rw [List.map_append] at nd
    exact (List.nodup_append.mp nd).1
  · rw [tg, List.map_append]
    exact List.mem_append_right _ (by simp)
  · rw [List.length_dropLast, h.tl, ilen]
    rfl
  · intro i hi
    rw [List.map_append, List.mem_append]
    rintro (z | z)
    · exact h.nr i (by rw [ilen]; omega) z
    · have z : s0 + (i : Int) = e := by simpa using z
      have := h.ie
      rw [ilen] at this
      omega
end
end Al
set_option maxHeartbeats 4000000
/-! D27: Search.walk. -/
namespace Al
open PySem PySem.Spec PyProof.Rows L2
section
variable {P : Program} {w : World} {K : PySem.W.Frag} {mg : Str → Option Value} {base : Heap}
theorem own_len {M : Mch} {ss : List Int} (up : UpM M ss) {s : Int} (h0 : 0 ≤ s) (h1 : s < M.n) {as : List Addr} {H : Hp} (h : StpsAt H as (ownL M ss s)) : (as = [] ∧ ownL M ss s = []) ∨ ∃ a t, as = [a] ∧ ownL M ss s = [t] ∧ t.g = s + 1 ∧ StpR H a t := by
  rcases up s h0 h1 with e | ⟨t, e, g⟩
  · rw [e] at h
    cases h
    exact .inl ⟨rfl, e⟩
  · rw [e] at h
    cases h with
    | cons x y =>
      cases y
      exact .inr ⟨_, t, rfl, e, g, x⟩
def spWalk (K : PySem.W.Frag) : Sp := fun vs H Q _ => ∃ (HM : Hp) (x dx m ga rd nd : Addr) (M : Mch) (ss : List Int) (rk : NM) (s : Int), vs = [.ref x, .int s] ∧ SrPc K H x dx m ga rd nd M ss rk ∧ Same HM H ∧ HM rd = none ∧ HM nd = none ∧ MAt K HM m M ∧ SqT K HM ga (ss.map V.int) ∧ UpM M ss ∧ 0 ≤ s ∧ s < M.n ∧ s ∉ rk.map (·.1) ∧
  ∀ (H' : Hp) (rk' : NM), Same HM H' → SrPc K H' x dx m ga rd nd M ss rk' → (∀ t ∈ rk.map (·.1), t ∈ rk'.map (·.1)) → s ∈ rk'.map (·.1) → Q .non H'
theorem ok_Search_walk (T : Txt K mg) : MFn P w K mg base 4 "Search" "walk" (spWalk K) := by
  refine T.okM h_Search_walk rfl (by decide +kernel) (by decide +kernel) sc_Search_walk rfl rfl b_Search_walk (fun vs H Q E h => ?_) (fun cdv A outer s H vs Q E hr h => ?_)
  · obtain ⟨HM, x, dx, m, ga, rd, nd, M, ss, rk, s, rfl, _⟩ := h
    rfl
  · obtain ⟨HM, x, dx, m, ga, rd, nd, M, ss, rk, s0, rfl, sp, sm, hrd, hnd, hm, hg, up, s0p, s0n, hs0, q⟩ := h
    refine ⟨_, (pss_cons (ps_par (i := 2) (j := 3) rfl sc_Search_walk.nd rfl rfl (by decide) rfl rfl (pa_cons (pe_lst (pa_cons (pe_tup (pa_cons (pv 1) (pa_cons (pe_f (ok_own_steps T) (hr.mono (by decide)) (pa_cons (pe_at (T.c "Search") (T.n "Search" "machine") (pv 0)) (pa_cons (pe_at (T.c "Search") (T.n "Search" "goals") (pv 0)) (pa_cons (pv 1) pa_nil)))) pa_nil))) pa_nil)) (pa_cons (pe_disp (pps_cons (pv 1) pe_int pps_nil) (by rfl) (by rfl) (fun z => by cases z) (by decide)) pa_nil)) rfl)
        (pss_cons (ps_l (i := 4) sc_Search_walk.nd rfl rfl (pe_lst pa_nil))
        (pss_one (ps_while PassesOwn.never (PW.pt (pw_and (pt_truth (pv 2) (by intro _; rfl)) (pw_and1 (pt_cmp (pc_isN (pe_at (T.c "Search") (T.n "Search" "loop") (pv 0))) rfl))))
        (pss_cons (ps_asg (pe_ix (ixL K) (pv 2) (pe_un un_neg pe_int) (fun _ _ => rfl)) (pg_t K 2 rfl (pgs_cons (pg_l (i := 5) sc_Search_walk.nd rfl rfl) (pgs_cons (pg_l (i := 6) sc_Search_walk.nd rfl rfl) pgs_nil))))
          (pss_cons (ps_if (pt_not (pt_truth (pv 6) (by intro _; rfl))) 
          (pss_cons (ps_expr (pe_m (pv 0) (ok_Search_finish T) (hr.mono (by decide)) (pa_cons (pv 5) pa_nil)))
            (pss_cons (ps_expr (pe_bm0 PySem.F.plainAttrs_list PySem.F.slot_list_pop PySem.F.type_list_pop mt_pop (pv 2)))
            (pss_cons (ps_expr (pe_dpop1 (pv 3) (pv 5) ⟨by rfl, by rfl, by rfl, by rfl⟩))
            (pss_cons (ps_if (pt_truth (pv 4) (by intro _; rfl)) 
            (pss_one (ps_expr (pe_bm0 PySem.F.plainAttrs_list PySem.F.slot_list_pop PySem.F.type_list_pop mt_pop (pv 4))))
            pss_nil)
            (pss_one ps_continue)))))
          pss_nil)
          (pss_cons (ps_l (i := 7) sc_Search_walk.nd rfl rfl (pe_bm PySem.F.plainAttrs_list PySem.F.slot_list_pop PySem.F.type_list_pop mt_popAt (pv 6) (pa_cons pe_int pa_nil)))
          (pss_one (ps_if (pt_cmp (pc_din (hu_of hr) (pe_ix (ixT K) (pv 7) pe_int (fun _ _ => rfl)) (pv 3))) 
          (pss_one (ps_at (T.c "Search") (T.n "Search" "loop") (pv 0) (pe_op op_cat (pe_slice sl_list (pv 4) (po_some (pe_dget (hu_of hr) (pv 3) (pe_ix (ixT K) (pv 7) pe_int (fun _ _ => rfl)) (fun _ _ => rfl))) po_none) (pe_lst (pa_cons (pv 7) pa_nil)))))
          (pss_one (ps_if (pt_cmp (pc_dnotin (hu_of hr) (pe_ix (ixT K) (pv 7) pe_int (fun _ _ => rfl)) (pe_at (T.c "Search") (T.n "Search" "ranks") (pv 0)))) 
            (pss_cons (ps_dput (hu_of hr) (pv 3) (pe_ix (ixT K) (pv 7) pe_int (fun _ _ => rfl)) (pe_callB (cLen K) (by rfl) (T.f "len") (by decide +kernel) (pa_cons (pv 2) pa_nil)) rfl)
              (pss_cons (ps_expr (pe_bm PySem.F.plainAttrs_list PySem.F.slot_list_append PySem.F.type_list_append mt_append (pv 2) (pa_cons (pe_tup (pa_cons (pe_ix (ixT K) (pv 7) pe_int (fun _ _ => rfl)) (pa_cons (pe_f (ok_own_steps T) (hr.mono (by decide)) (pa_cons (pe_at (T.c "Search") (T.n "Search" "machine") (pv 0)) (pa_cons (pe_at (T.c "Search") (T.n "Search" "goals") (pv 0)) (pa_cons (pe_ix (ixT K) (pv 7) pe_int (fun _ _ => rfl)) pa_nil)))) pa_nil))) pa_nil)))
              (pss_one (ps_expr (pe_bm PySem.F.plainAttrs_list PySem.F.slot_list_append PySem.F.type_list_append mt_append (pv 4) (pa_cons (pv 7) pa_nil))))))
            pss_nil))))))))))), ?_⟩
    have n2 := hm.ok.n2
    refine ⟨_, rfl, _, rfl, x, dx, _, _, rfl, sp.v, fs_machine .., _, rfl, x, dx, _, _, rfl, sp.v, fs_goals .., _, rfl, m, ga, M, ss, s0, rfl, hm.sm sm, smTup sm hg, s0p, s0n, fun H1 l as s1 hl el hst => ?_⟩
    refine ⟨(by show 2 ≤ sizeLine; decide), fun tp htp => ⟨(by show 1 ≤ sizeLine; decide), fun pl hpl => ?_⟩⟩
    refine fun op hop => ⟨_, rfl, upd_same, [(.inl s0, .int 0)], rfl, (by show 1 ≤ 15; decide), _, _, rfl, (by show 0 ≤ sizeLine; decide), fun tk htk => ?_⟩
    rw [upd_upd] at htk ⊢
    have e0 : (.dK (mergeK [] [(.inl s0, .int 0)]) : HO) = .dK (nmD (opens s0 1)) := by
      show (HO.dK [(.inl s0, .int 0)]) = .dK [(.inl (s0 + (0 : Nat)), .int ((0 : Nat) : Int))]
      rw [show s0 + ((0 : Nat) : Int) = s0 by omega]
      rfl
    rw [e0] at htk ⊢
    have a1 : Same H1 (upd H1 tp (.tup [.int s0, .ref l])) := smNew htp
    have a2 := smNew hpl (o := .lst [.ref tp])
    have a3 := smNew hop (o := .dK (nmD (opens s0 1)))
    have a4 := smNew htk (o := .lst [])
    have etp := a4 _ _ (a3 _ _ (a2 _ _ (upd_same (H := H1) (a := tp) (o := .tup [.int s0, .ref l]))))
    have epl := a4 _ _ (a3 _ _ (upd_same (H := upd H1 tp (.tup [.int s0, .ref l])) (a := pl) (o := .lst [.ref tp])))
    have eop := a4 _ _ (upd_same (H := upd (upd H1 tp (.tup [.int s0, .ref l])) pl (.lst [.ref tp])) (a := op) (o := .dK (nmD (opens s0 1))))
    have etk := upd_same (H := upd (upd (upd H1 tp (.tup [.int s0, .ref l])) pl (.lst [.ref tp])) op (.dK (nmD (opens s0 1)))) (a := tk) (o := .lst [])
    have sA := ((a1.trans a2).trans a3).trans a4
    have f1 := none_same (sm.trans s1) (none_same a1 hpl)
    have f2 := none_same (sm.trans s1) (none_same (a1.trans a2) hop)
    have f3 := none_same (sm.trans s1) (none_same ((a1.trans a2).trans a3) htk)
    obtain ⟨nx0, en0, _⟩ := sp.nx
    have nlp : l ≠ pl := ne_of_none (a1 _ _ el) hpl
    have nlt : l ≠ tk := ne_of_none (a3 _ _ (a2 _ _ (a1 _ _ el))) htk
    have npt : pl ≠ tk := ne_of_none (a3 _ _ (upd_same (H := upd H1 tp (.tup [.int s0, .ref l])) (a := pl) (o := .lst [.ref tp]))) htk
    have nor : op ≠ rd := (ne_of_none (a2 _ _ (a1 _ _ (s1 _ _ sp.ra))) hop).symm
    have non : op ≠ nd := (ne_of_none (a2 _ _ (a1 _ _ (s1 _ _ en0))) hop).symm
    generalize upd (upd (upd (upd H1 tp (.tup [.int s0, .ref l])) pl (.lst [.ref tp])) op (.dK (nmD (opens s0 1)))) tk (.lst []) = HA at etp epl eop etk sA
    have s1A := s1.trans sA
    have elA := sA _ _ el
    have wk0 : WkI K HM HA x dx m ga rd nd pl tk op M ss rk s0 [] [] tp s0 l as (ownL M ss s0) [] := by
      refine ⟨sp.sm s1A, sm.trans s1A, epl, etk, eop, .nil, etp, (by show s0 = s0 + ((0 : Nat) : Int); omega), s0p, (fun i q hq => by cases hq), List.nodup_nil, elA, hst.sm sA, .inl rfl, rfl, (fun i hi => ?_), s0n, npt, nlp, nlt, nor, non, f1, f3, f2, none_same sm hl⟩
      · have : i = 0 := Nat.le_zero.mp hi
        rw [this, show s0 + ((0 : Nat) : Int) = s0 by omega]
        exact hs0
    refine ⟨fun mu σ H' => ∃ (rk2 : NM) (o5 o6 o7 : Option V), σ = [some (.ref x), some (.int s0), some (.ref pl), some (.ref op), some (.ref tk), o5, o6, o7] ∧ (∀ t ∈ rk.map (·.1), t ∈ rk2.map (·.1)) ∧
      ((SrPc K H' x dx m ga rd nd M ss rk2 ∧ Same HM H' ∧ H' pl = some (.lst []) ∧ s0 ∈ rk2.map (·.1) ∧ mu = 0) ∨
      ∃ (pai : List Addr) (ini : List (Int × Addr)) (pal : Addr) (e : Int) (l : Addr) (cl : List Addr) (ts : List Stp) (tks : List V), WkI K HM H' x dx m ga rd nd pl tk op M ss rk2 s0 pai ini pal e l cl ts tks ∧ mu = 1 + ini.length + (if ts = [] then 0 else 2 * (M.n - e.toNat) + 1)), ⟨_, rk, _, _, _, rfl, fun t h => h, .inr ⟨[], [], tp, s0, l, as, _, [], wk0, rfl⟩⟩, ?_⟩
    clear wk0 sp hs0
    rintro mu σ H6 ⟨rk2, o5, o6, o7, rfl, sub, ⟨sp, sm6, epl6, hin, rfl⟩ | ⟨pai, ini, pal, e, l, cl, ts, tks, wk, rfl⟩⟩
    · exact ⟨_, rfl, false, .inl ⟨[], .of epl6, rfl⟩, q H6 rk2 sm6 sp sub hin⟩
    · have e0 : 0 ≤ e := by have h1 := wk.ie; have h2 := wk.s0p; omega
      refine ⟨_, rfl, true, .inl ⟨_, .of wk.epl, by simp⟩, _, rfl, x, dx, _, _, rfl, wk.sp.v, fs_loop .., true, rfl, _, fun _ _ h => h, ?_⟩
      have hat : atI ((pai ++ [pal]).map V.ref) (-1) = some (.ref pal) := by rw [List.map_append]; exact atI_last _ _
      refine ⟨_, rfl, 1, rfl, pl, _, -1, .ref pal, rfl, rfl, .of wk.epl, hat, pal, _, rfl, SqT.of wk.pt, rfl, _, _, rfl, _, _, rfl, rfl, ?_⟩
      refine ⟨_, rfl, !(cl.map V.ref).isEmpty, .inl ⟨_, .of wk.el, rfl⟩, ?_⟩
      have inilen : ini.length < M.n := by have h1 := wk.ie; have h2 := wk.en; have h3 := wk.s0p; omega
      by_cases ets : ts = []
      · subst ets
        have ecl : cl = [] := by cases wk.hl; rfl
        subst ecl
        refine ⟨_, rfl, x, dx, _, rfl, wk.sp.v, rfl, _, rfl, HM, x, dx, m, ga, rd, nd, M, ss, rk2, e, rfl, wk.sp, wk.sm, hm, hg, e0, wk.en, ?_, ?_, fun H7 r f7 sp7 => ?_⟩
        · have := wk.nr ini.length (Nat.le_refl _)
          rwa [← wk.ie] at this
        · rcases wk.ts with z | ⟨_, t, z1, z2⟩
          · exact .inl z.symm
          · obtain ⟨r', hr'⟩ := nm_keys z2
            exact .inr ⟨t, r', z1, hr'⟩
        · obtain ⟨nx, enx, _⟩ := wk.sp.nx
          have epl7 : H7 pl = _ := f7 _ _ (ne_of_kind wk.epl wk.sp.ra fun z => by cases z) (ne_of_kind wk.epl enx fun z => by cases z) wk.epl
          have eop7 : H7 op = _ := f7 _ _ wk.n4 wk.n5 wk.eop
          have etk7 : H7 tk = _ := f7 _ _ (ne_of_kind wk.etk wk.sp.ra fun z => by cases z) (ne_of_kind wk.etk enx fun z => by cases z) wk.etk
          have npo : pl ≠ op := ne_of_kind wk.epl wk.eop fun z => by cases z
          have nto : tk ≠ op := ne_of_kind wk.etk wk.eop fun z => by cases z
          have emap : (pai ++ [pal]).map V.ref = pai.map V.ref ++ [.ref pal] := by rw [List.map_append]; rfl
          refine ⟨_, rfl, .inl ⟨rfl, _, .of epl7⟩, pl, _, .ref pal, rfl, rfl, epl7, ?_, ?_⟩
          · rw [emap, List.length_append, List.length_singleton, Nat.add_sub_cancel, List.getElem?_append_right (Nat.le_refl _)]
            simp
          rw [emap, List.dropLast_concat]
          have eop8 : (upd H7 pl (.lst (pai.map V.ref))) op = _ := (upd_ne npo.symm).trans eop7
          refine ⟨_, rfl, op, rfl, .inl ⟨_, .inl eop8⟩, _, rfl, _, .inl e, .int (ini.length : Int), eop8, rfl, by rw [wk.ie]; exact opens_get (Nat.lt_succ_self _), ?_⟩
          rw [show dropK (nmD (opens s0 (ini.length + 1))) (Sum.inl e) = nmD (opens s0 ini.length) by rw [wk.ie]; exact opens_drop _ _]
          have etk9 : (upd (upd H7 pl (.lst (pai.map V.ref))) op (.dK (nmD (opens s0 ini.length)))) tk = _ := (upd_ne nto).trans ((upd_ne wk.n1.symm).trans etk7)
          refine ⟨_, rfl, !tks.isEmpty, .inl ⟨tks, .of etk9, rfl⟩, ?_⟩
          have sub7 : ∀ t ∈ rk.map (·.1), t ∈ (rk2 ++ [(e, r)]).map (·.1) := fun t ht => by rw [List.map_append]; exact List.mem_append_left _ (sub t ht)
          have opA : (upd H7 pl (.lst (pai.map V.ref))) op = _ := (upd_ne npo.symm).trans eop7
          have spA : SrPc K (upd (upd H7 pl (.lst (pai.map V.ref))) op (.dK (nmD (opens s0 ini.length)))) x dx m ga rd nd M ss (rk2 ++ [(e, r)]) :=
            (sp7.but epl7 (fun _ z => by cases z) (ne_of_kind wk.epl wk.sp.ra fun z => by cases z) (ne_of_kind wk.epl enx fun z => by cases z) (ne_of_kind wk.epl wk.sp.v fun z => by cases z)).but opA (fun _ z => by cases z) wk.n4 wk.n5 (ne_of_kind wk.eop wk.sp.v fun z => by cases z)
          rcases List.eq_nil_or_concat ini with ei | ⟨ini2, q0, ei⟩
          · subst ei
            have etks : tks = [] := List.length_eq_zero_iff.mp wk.tl
            subst etks
            have epai : pai = [] := by cases wk.pi; rfl
            subst epai
            refine ⟨0, Nat.lt_of_lt_of_le (Nat.zero_lt_succ 0) (Nat.le_add_right _ _), rk2 ++ [(e, r)], _, _, _, rfl, sub7, .inl ⟨spA, smMut (smMut (f7.same wk.sm hrd hnd) wk.hpl) wk.hop, (upd_ne npo).trans upd_same, ?_, rfl⟩⟩
            have e1 : e = s0 := by have := wk.ie; rw [List.length_nil] at this; omega
            rw [List.map_append, e1]
            exact List.mem_append_right _ (by simp)
          · rw [List.concat_eq_append] at ei
            subst ei
            obtain ⟨pai2, pq, epai⟩ : ∃ pai2 pq, pai = pai2 ++ [pq] := by
              rcases List.eq_nil_or_concat pai with z | ⟨p2, pq, z⟩
              · have := Paired.length wk.pi
                rw [z] at this
                simp at this
              · exact ⟨p2, pq, by rw [z, List.concat_eq_append]⟩
            subst epai
            have wk2 := wk.pop f7 hrd hnd sp7 up
            have ilen : (ini2 ++ [q0]).length = ini2.length + 1 := by rw [List.length_append]; rfl
            obtain ⟨tks2, y, etks⟩ : ∃ tks2 y, tks = tks2 ++ [y] := by
              rcases List.eq_nil_or_concat tks with z | ⟨p2, pq, z⟩
              · have := wk.tl
                rw [z] at this
                simp at this
              · exact ⟨p2, pq, by rw [z, List.concat_eq_append]⟩
            subst etks
            rw [show (!(tks2 ++ [y]).isEmpty) = true by simp]
            rw [ilen] at etk9 ⊢
            refine ⟨_, rfl, .inl ⟨rfl, _, .of etk9⟩, tk, _, y, rfl, rfl, etk9, ?_, ?_⟩
            · rw [List.length_append, List.length_singleton, Nat.add_sub_cancel, List.getElem?_append_right (Nat.le_refl _)]
              simp
            refine ⟨1 + ini2.length + 0, ?_, rk2 ++ [(e, r)], _, _, _, rfl, sub7, .inr ⟨pai2, ini2, pq, q0.1, q0.2, [], [], _, wk2, ?_⟩⟩
            · rw [if_pos rfl]
              omega
            · rw [if_pos rfl]
      · obtain ⟨t, hown, a, eclts⟩ : ∃ t, ownL M ss e = [t] ∧ ∃ a, cl = [a] ∧ ts = [t] ∧ t.g = e + 1 ∧ StpR H6 a t := by
          rcases wk.ts with z | z
          · have h1 := wk.hl
            rw [z] at h1
            rcases own_len up e0 wk.en h1 with y | ⟨a, t, y1, y2, y3, y4⟩
            · exact absurd (z.trans y.2) ets
            · exact ⟨t, y2, a, y1, by rw [z, y2], y3, y4⟩
          · exact absurd z.1 ets
        obtain ⟨rfl, rfl, tg, hta⟩ := eclts
        have tin := own_mem (M := M) (ss := ss) (s := e) (t := t) (by rw [hown]; simp)
        have tok := hm.ok.st t tin.1
        refine ⟨_, rfl, .inl ⟨rfl, _, .of wk.el⟩, l, [.ref a], 0, 0, .ref a, rfl, rfl, wk.el, by decide, by decide, rfl, rfl, ?_⟩
        rw [show (HO.lst ([V.ref a].eraseIdx 0)) = .lst [] from rfl]
        have eop7 : (upd H6 l (.lst [])) op = _ := (upd_ne (ne_of_kind wk.eop wk.el fun z => by cases z)).trans wk.eop
        have hta7 : (upd H6 l (.lst [])) a = _ := (upd_ne (ne_of_kind hta wk.el fun z => by cases z)).trans hta
        have nin : t.g ∉ (opens s0 (ini.length + 1)).map (·.1) := fun z => by
          obtain ⟨i, hi, e2⟩ := opens_key.mp z
          have := wk.ie
          omega
        refine ⟨_, rfl, a, t.vs, 3, .int t.g, rfl, rfl, .of hta7, rfl, _, rfl, op, _, rfl, DGet.k (k := .inl t.g) eop7, ?_⟩
        rw [nmD_none nin]
        refine ⟨false, rfl, ?_⟩
        have sp7 : SrPc K (upd H6 l (.lst [])) x dx m ga rd nd M ss rk2 := by
          obtain ⟨nx, enx, _⟩ := wk.sp.nx
          exact wk.sp.but wk.el (fun _ z => by cases z) (ne_of_kind wk.el wk.sp.ra fun z => by cases z) (ne_of_kind wk.el enx fun z => by cases z) (ne_of_kind wk.el wk.sp.v fun z => by cases z)
        refine ⟨_, rfl, a, t.vs, 3, .int t.g, rfl, rfl, .of hta7, rfl, _, rfl, x, dx, _, _, rfl, sp7.v, fs_ranks .., rd, _, rfl, DGet.k (k := .inl t.g) sp7.ra, ?_⟩
        rw [nmD_is]
        by_cases hg2 : t.g ∈ rk2.map (·.1)
        · rw [decide_eq_true hg2]
          refine ⟨false, rfl, ?_⟩
          refine ⟨1 + ini.length + 0, ?_, rk2, _, _, _, rfl, sub, .inr ⟨pai, ini, pal, e, l, [], [], tks, wk.spent hown hg2, ?_⟩⟩
          · rw [if_neg (List.cons_ne_nil _ _)]
            omega
          · rw [if_pos rfl]
        · rw [decide_eq_false hg2]
          refine ⟨true, rfl, ?_⟩
          have palen : pai.length = ini.length := Paired.length wk.pi
          have npl : pl ≠ l := wk.n2.symm
          have epl7 : (upd H6 l (.lst [])) pl = _ := (upd_ne npl).trans wk.epl
          have etk7 : (upd H6 l (.lst [])) tk = _ := (upd_ne wk.n3.symm).trans wk.etk
          refine ⟨_, rfl, pl, _, rfl, .inl (.of epl7), _, rfl, _, rfl, a, t.vs, 3, .int t.g, rfl, rfl, .of hta7, rfl, op, upd (upd H6 l (.lst [])) op (.dK (nmD (opens s0 (ini.length + 2)))), rfl, .inl ⟨nmD (opens s0 (ini.length + 1)), .inl t.g, eop7, rfl, szLt (by rw [nmD_len, opens_len]; omega), ?_⟩, ?_⟩
          · have e1 : (((pai ++ [pal]).map V.ref).length : Int) = ((ini.length + 1 : Nat) : Int) := by rw [List.length_map, List.length_append, palen]; rfl
            rw [e1, nmD_put nin]
            have e2 : opens s0 (ini.length + 2) = opens s0 (ini.length + 1) ++ [(t.g, ini.length + 1)] := by
              rw [opens_succ s0 (ini.length + 1), show s0 + ((ini.length + 1 : Nat) : Int) = t.g by have := wk.ie; omega]
            rw [e2]
          have sp8 : SrPc K (upd (upd H6 l (.lst [])) op (.dK (nmD (opens s0 (ini.length + 2))))) x dx m ga rd nd M ss rk2 := sp7.but eop7 (fun _ z => by cases z) wk.n4 wk.n5 (ne_of_kind wk.eop wk.sp.v fun z => by cases z)
          have sm8 : Same HM (upd (upd H6 l (.lst [])) op (.dK (nmD (opens s0 (ini.length + 2))))) := smMut (smMut wk.sm wk.hll) wk.hop
          have npo : pl ≠ op := ne_of_kind wk.epl wk.eop fun z => by cases z
          have nto : tk ≠ op := ne_of_kind wk.etk wk.eop fun z => by cases z
          have epl8 : (upd (upd H6 l (.lst [])) op (.dK (nmD (opens s0 (ini.length + 2))))) pl = _ := (upd_ne npo).trans epl7
          have etk8 : (upd (upd H6 l (.lst [])) op (.dK (nmD (opens s0 (ini.length + 2))))) tk = _ := (upd_ne nto).trans etk7
          have hta8 : (upd (upd H6 l (.lst [])) op (.dK (nmD (opens s0 (ini.length + 2))))) a = _ := (upd_ne (ne_of_kind hta wk.eop fun z => by cases z)).trans hta7
          refine ⟨_, rfl, .inl ⟨rfl, _, .of epl8⟩, _, rfl, a, t.vs, 3, .int t.g, rfl, rfl, .of hta8, rfl, _, rfl, x, dx, _, _, rfl, sp8.v, fs_machine .., _, rfl, x, dx, _, _, rfl, sp8.v, fs_goals .., _, rfl, a, t.vs, 3, .int t.g, rfl, rfl, .of hta8, rfl, m, ga, M, ss, t.g, rfl, hm.sm sm8, smTup sm8 hg, tok.g0, tok.g1, fun H9 l2 as2 s9 hl2 el2 hst2 => ?_⟩
          refine ⟨(by show 2 ≤ sizeLine; decide), fun tp2 htp2 => ?_⟩
          have s10 : Same H9 (upd H9 tp2 (.tup [.int t.g, .ref l2])) := smNew htp2
          have etp2 : (upd H9 tp2 (.tup [.int t.g, .ref l2])) tp2 = some (.tup [.int t.g, .ref l2]) := upd_same
          generalize upd H9 tp2 (.tup [.int t.g, .ref l2]) = H10 at s10 etp2
          have s810 := s9.trans s10
          have epl10 := s810 _ _ epl8
          have etk10 := s810 _ _ etk8
          refine ⟨pl, _, _, rfl, rfl, epl10, szLt (by rw [List.length_map, List.length_append, palen, List.length_singleton]; omega), ?_⟩
          have etk11 : (upd H10 pl (.lst ((pai ++ [pal]).map V.ref ++ [.ref tp2]))) tk = _ := (upd_ne wk.n1.symm).trans etk10
          refine ⟨_, rfl, .inl ⟨rfl, _, .of etk11⟩, _, rfl, tk, _, _, rfl, rfl, etk11, szLt (by rw [wk.tl]; omega), ?_⟩
          have wk2 := wk.push (y := .ref a) (tp := tp2) hown tg tok.g1 hg2 s810 hl2 (s10 _ _ el2) (hst2.sm s10) etp2
          rw [show ((pai ++ [pal]).map V.ref ++ [V.ref tp2]) = (pai ++ [pal] ++ [tp2]).map V.ref by rw [List.map_append (l₁ := pai ++ [pal])]; rfl]
          refine ⟨_, ?_, rk2, _, _, _, rfl, sub, .inr ⟨_, _, _, _, _, _, _, _, wk2, rfl⟩⟩
          rw [if_neg (List.cons_ne_nil _ _), List.length_append, List.length_singleton]
          obtain ⟨en, hen⟩ := Int.eq_ofNat_of_zero_le e0
          have h1 : t.g.toNat = en + 1 := by rw [tg, hen]; rfl
          have h2 : e.toNat = en := by rw [hen]; rfl
          have h3 := wk.en
          rw [h1, h2]
          by_cases c : ownL M ss t.g = []
          · rw [if_pos c]; omega
          · rw [if_neg c]; omega
end
end Al
set_option maxHeartbeats 4000000
/-! D28: Search.tail. -/
namespace Al
open PySem PySem.Spec PyProof.Rows L2
section
variable {P : Program} {w : World} {K : PySem.W.Frag} {mg : Str → Option Value} {base : Heap}
def spTail (K : PySem.W.Frag) : Sp := fun vs H Q _ => ∃ (x dx m ga rd nd : Addr) (M : Mch) (ss : List Int) (rk : NM) (s : Int), vs = [.ref x, .int s] ∧ SrPc K H x dx m ga rd nd M ss rk ∧ UpM M ss ∧ M.n ≤ 100 ∧ s ∈ rk.map (·.1) ∧
  ∀ (H' : Hp) (l : Addr) (xs : List V), Same H H' → H' l = some (.lst xs) → xs.length ≤ 1000 → Q (.ref l) H'
theorem ok_Search_tail (T : Txt K mg) : MFn P w K mg base 2 "Search" "tail" (spTail K) := by
  refine T.okM h_Search_tail rfl (by decide +kernel) (by decide +kernel) sc_Search_tail rfl rfl b_Search_tail (fun vs H Q E h => ?_) (fun cdv A outer s H vs Q E hr h => ?_)
  · obtain ⟨x, dx, m, ga, rd, nd, M, ss, rk, s, rfl, _⟩ := h
    rfl
  · obtain ⟨x, dx, m, ga, rd, nd, M, ss, rk, s0, rfl, sp, up, n2, hs, q⟩ := h
    refine ⟨_, (pss_cons (ps_l (i := 2) sc_Search_tail.nd rfl rfl (pe_lst pa_nil))
        (pss_cons (ps_while PassesOwn.never (pt_cmp (pc_notN (pe_dget (hu_of hr) (pe_at (T.c "Search") (T.n "Search" "nexts") (pv 0)) (pv 1) (fun _ _ => rfl))) rfl)
        (pss_cons (ps_expr (pe_bm PySem.F.plainAttrs_list PySem.F.slot_list_append PySem.F.type_list_append mt_append (pv 2) (pa_cons (pe_dget (hu_of hr) (pe_at (T.c "Search") (T.n "Search" "nexts") (pv 0)) (pv 1) (fun _ _ => rfl)) pa_nil)))
          (pss_one (ps_l (i := 1) sc_Search_tail.nd rfl rfl (pe_ix (ixT K) (pe_dget (hu_of hr) (pe_at (T.c "Search") (T.n "Search" "nexts") (pv 0)) (pv 1) (fun _ _ => rfl)) pe_int (fun _ _ => rfl))))))
        (pss_one (ps_ret (pv 2))))), ?_⟩
    refine ⟨(by show 0 ≤ sizeLine; decide), fun l hl => ?_⟩
    refine ⟨fun mu σ H' => ∃ (st : Int) (xs : List V), σ = [some (.ref x), some (.int st), some (.ref l)] ∧ st ∈ rk.map (·.1) ∧ Same H H' ∧ H' l = some (.lst xs) ∧ xs.length ≤ st.toNat ∧ mu = M.n - st.toNat, ⟨_, s0, [], rfl, hs, smNew hl, upd_same, Nat.zero_le _, rfl⟩, ?_⟩
    rintro mu σ H1 ⟨st, xs, rfl, hst, s1, el, xl, rfl⟩
    have sp1 := sp.sm s1
    obtain ⟨r, hr1⟩ := nm_keys hst
    obtain ⟨b0, b1⟩ := sp.i.bd _ _ hr1
    obtain ⟨nx, en, hnx⟩ := sp1.nx
    obtain ⟨v, gv, hv⟩ := nx_get hnx sp1.i.nd hr1
    have dg := DGet.k (k := .inl st) en
    rw [gv] at dg
    refine ⟨_, rfl, x, dx, _, _, rfl, sp1.v, fs_nexts .., _, rfl, nd, v, rfl, dg, ?_⟩
    rcases hv with ⟨e, rfl⟩ | ⟨t, a, e, rfl, hta⟩
    · exact ⟨false, rfl, _, rfl, q H1 l xs s1 el (by omega)⟩
    · refine ⟨true, rfl, _, fun _ _ h => h, ?_⟩
      refine ⟨_, rfl, .inl ⟨rfl, _, .of el⟩, _, rfl, x, dx, _, _, rfl, sp1.v, fs_nexts .., _, rfl, nd, .ref a, rfl, dg, l, _, _, rfl, rfl, el, szLt (by omega), ?_⟩
      have s2 : Same H (upd H1 l (.lst (xs ++ [.ref a]))) := smMut s1 hl
      have sp2 := sp.sm s2
      obtain ⟨nx2, en2, hnx2⟩ := sp2.nx
      obtain ⟨v2, gv2, hv2⟩ := nx_get hnx2 sp2.i.nd hr1
      have dg2 := DGet.k (k := .inl st) en2
      rw [gv2] at dg2
      rcases hv2 with ⟨e2, _⟩ | ⟨t2, a2, e2, rfl, hta2⟩
      · rw [e] at e2; cases e2
      · rw [e] at e2
        cases e2
        refine ⟨_, rfl, x, dx, _, _, rfl, sp2.v, fs_nexts .., _, rfl, nd, .ref a2, rfl, dg2, a2, t.vs, 3, .int t.g, rfl, rfl, .of hta2, rfl, ?_⟩
        obtain ⟨tg, hg⟩ : t.g = st + 1 ∧ t.g ∈ rk.map (·.1) := by
          rcases sp.i.rn _ _ hr1 with ⟨z, _⟩ | ⟨t3, r', z1, z2, _⟩
          · rw [e] at z; cases z
          · rw [e] at z1
            cases z1
            rcases up st b0 b1 with z | ⟨t4, z3, z4⟩
            · rw [e] at z; cases z
            · rw [e] at z3
              cases z3
              exact ⟨z4, nm_key z2⟩
        obtain ⟨n, hn⟩ := Int.eq_ofNat_of_zero_le b0
        have h1 : st.toNat = n := by rw [hn]; rfl
        have h2 : t.g.toNat = n + 1 := by rw [tg, hn]; rfl
        refine ⟨M.n - t.g.toNat, by omega, t.g, xs ++ [.ref a], rfl, hg, s2, upd_same, ?_, rfl⟩
        rw [List.length_append, List.length_singleton]
        omega
end
end Al
set_option maxHeartbeats 4000000
/-! F3: defs whose code object is told; heaps that keep all but the tables. -/
namespace Al
open PySem PySem.Spec PyProof.Rows L2
/-- the code object of a def -/
def codeOf (K : PySem.W.Frag) (f : Addr) : Option Addr := match K.lookup f with
  | some ⟨_, _, .func fd, _⟩ => match fd.code with
    | .ref c => some c
    | _ => none
  | _ => none
section
variable {P : Program} {w : World} {K : PySem.W.Frag} {mg : Str → Option Value} {base : Heap}
theorem Txt.okL (T : Txt K mg) {d : He.DefD} {N ps : List Str} {sp : Sp} {k i : Nat} {x : Str} {c : Addr} (hd : fnL[i]? = some d) (hx : d.at_ = (x, none)) (hg : x ∈ globs) (S : FnScope N ps d.scope) (h1 : d.dfl = []) (h2 : d.kwd = [])
    (hb : ∀ (kV doc pm : Value) (an : Option Addr) (cdv ct : Value) (us : List Value), us.length = ps.length → bindArgs (PySem.W.fnOf d.name d.qual d.params d.body d.scope .none kV doc pm an cdv ct) ⟨us, []⟩ = pure (ps.zip us))
    (len : ∀ vs H Q E, sp vs H Q E → vs.length = ps.length) (hc : codeOf K (He.ga K x) = some c)
    (hbody : ∀ (A : Around) (outer : List Env) (s : Shared) (H : Hp) (vs : List V) (Q : VK) (E : XK), Room k (A.deeper (envOfC d.qual d.scope s.heap.objs.size (He.fAd K d.at_) (.ref c))) → sp vs H Q E →
      ∃ t, PSs (cxOf CX0 P w K mg base N d.qual d.scope (He.fAd K d.at_) (.ref c) A outer s H E).nox d.body t ∧ t { nx := fun _ H' => Q .non H', rt := Q } (start N vs) H) : GFn P w K mg base (k + 1) x sp := by
  obtain ⟨fd, F⟩ := T.fn d (List.mem_of_getElem? hd)
  have e1 : d.dvs K = [] := by unfold He.DefD.dvs; rw [h1]; rfl
  have e2 : d.kws K = [] := by unfold He.DefD.kws; rw [h2]; rfl
  rw [e1, e2] at F
  have kp := F.kp
  have ea : He.fAd K d.at_ = He.ga K x := by rw [hx]; rfl
  have B := FunD.bindsN F hb
  obtain ⟨oc, od, dV, kV, doc, pm, an, cdv, ct, osl, rfl, lk, hcd, hD, hK⟩ := F.ex
  have ec : cdv = .ref c := by
    unfold codeOf at hc
    rw [← ea, lk] at hc
    dsimp only [PySem.W.fnOf] at hc
    cases cdv with
    | ref a =>
      cases hc
      rfl
    | _ => cases hc
  subst ec
  have G := (fn_of (CX := CX0) (P := P) (w := w) (mg := mg) (base := base) lk hcd S len fun A outer s H vs Q E hr h => let ⟨t, a, b⟩ := hbody A outer s H vs Q E hr h; ⟨t, a.nox, b⟩).raw B .nil
  have R : FnR P w K mg base CX0 (k + 1) (He.fAd K d.at_) sp := G.imp fun vs H Q E h => by
    rw [List.append_nil]
    exact h
  rw [ea] at R kp
  exact ⟨R, T.glo x hg, kp⟩
end
/-- isinstance(x, D), x of the class C, which is not below D -/
theorem call_isNo {X : Cx} {C D : Addr} (c : C8.InsC X.K C) (n : PySem.W.kitOne X.K (.ref C) (.ref D) = some false) : CallR X (.builtin "isinstance") (fun xs H Q => ∃ a dx fs, xs = [.ref a, .ref D] ∧ H a = some (.ins C dx fs) ∧ Q (.bl false) H) := by
  intro pins s σ H xs us Q I r h
  obtain ⟨a, dx, fs, rfl, ha, q⟩ := h
  obtain ⟨u, w', rfl, ru, rw'⟩ := vals2 r
  cases rw'
  exact isinst_ok I ru (TyOf.ins ha c.cl c.ha c.hn c.htk c.hm) n fun tk => ⟨.bl false, H, I.tok _, rfl, q⟩
/-- the scope of the key of a statement  x = max(.., key=lambda ..) -/
def keyScope : Stmt → Scope
  | .Assign _ (.Call _ _ [⟨_, .Lambda _ _ sc _, _⟩] _) _ => sc
  | _ => default
/-- the two tables -/
def TT (Pf Pd : Addr) : List (Addr × Str) := [(Pf, "farthest.<locals>.<lambda>"), (Pd, "delay.<locals>.<lambda>")]
structure TxtL (K : PySem.W.Frag) (mg : Str → Option Value) (base : Heap) (cf Pf cd Pd : Addr) : Prop where
  lf : codeOf K (He.ga K "farthest") = some cf
  ld : codeOf K (He.ga K "delay") = some cd
  tf : LamX.TabB base mg cf Pf
  td : LamX.TabB base mg cd Pd
  ne : Pf ≠ Pd
section
variable {K : PySem.W.Frag} {H H' : Hp}
theorem ext_sqT (e : LamX.ExtN H H') {a : Addr} {xs : List V} (h : SqT K H a xs) : SqT K H' a xs := by
  rcases h with (h | ⟨q, h⟩) | h
  · exact .inl (.inl (e _ _ h fun _ z => by cases z))
  · exact .inl (.inr ⟨q, e _ _ h fun _ z => by cases z⟩)
  · exact .inr h
theorem ext_stps (e : LamX.ExtN H H') {as : List Addr} {ts : List Stp} (h : StpsAt H as ts) : StpsAt H' as ts := Paired.mapP h fun a b z => e _ _ z fun _ y => by cases y
theorem MAt.ext {m : Addr} {M : Mch} (e : LamX.ExtN H H') (h : MAt K H m M) : MAt K H' m M := by
  obtain ⟨ok, dx, ts, wd, kl, wl, sa, wa, h1, h2, h3, h4, h5, h6⟩ := h
  refine ⟨ok, dx, ts, wd, kl, wl, sa, wa, (e _ _ h1 fun _ z => by cases z), (e _ _ h2 fun _ z => by cases z), ext_stps e h3, (e _ _ h4 fun _ z => by cases z), fun i hi => ?_, (e _ _ h6 fun _ z => by cases z)⟩
  obtain ⟨la, a, b⟩ := h5 i hi
  exact ⟨la, (e _ _ a fun _ z => by cases z), ext_stps e b⟩
theorem TabAt.ext {d : Addr} {tb : CK} (e : LamX.ExtN H H') (h : TabAt K H d tb) : TabAt K H' d tb := let ⟨kvs, a, b, c⟩ := h; ⟨kvs, (e _ _ a fun _ z => by cases z), Paired.mapP b fun x y ⟨p, a', va, q, r, s⟩ => ⟨p, a', va, q, (e _ _ r fun _ z => by cases z), Paired.mapP s fun u v z => ext_sqT e z⟩, c⟩
theorem SrPc.ext {x dx m ga rd nd : Addr} {M : Mch} {ss : List Int} {rk : NM} (e : LamX.ExtN H H') (h : SrPc K H x dx m ga rd nd M ss rk) : SrPc K H' x dx m ga rd nd M ss rk :=
  ⟨(e _ _ h.v fun _ z => by cases z), (e _ _ h.ra fun _ z => by cases z), let ⟨nx, a, b⟩ := h.nx; ⟨nx, (e _ _ a fun _ z => by cases z), Paired.mapP b fun u p z => z.keep fun a xs q => e _ _ q fun _ z => by cases z⟩, h.ne, h.i⟩
theorem ExtN.same {H0 H1 : Hp} (s : Same H0 H1) : LamX.ExtN H0 H1 := fun a o h _ => s a o h
end
end Al
set_option maxHeartbeats 4000000
/-! D29: farthest. -/
namespace Al
open PySem PySem.Spec PyProof.Rows L2
abbrev ks_farthest : Scope := keyScope ((defBody s_farthest).getD 3 (.Pass ⟨0, 0, 0, 0⟩))
theorem kfree_farthest : ∀ y ∈ ks_farthest.names, y.2 = .free → (defScope s_farthest).names.lookup y.1 = some .cell ∨ (defScope s_farthest).names.lookup y.1 = some .free := by decide +kernel
theorem kfr_farthest : ∀ y ∈ (["found"] : List Str), (y, NameKind.free) ∈ ks_farthest.names := by decide +kernel
theorem kns_farthest : NdefX.NScope ["state", "found"] ["state"] ["found"] ks_farthest := NdefX.nscope_by (by decide +kernel)
section
variable {P : Program} {w : World} {K : PySem.W.Frag} {mg : Str → Option Value} {base : Heap} {cf Pf cd Pd : Addr}
def spFst (K : PySem.W.Frag) (Pf Pd : Addr) : Sp := fun vs H Q _ => ∃ (m ga aa : Addr) (M : Mch) (ss : List Int) (al : List (Str × Option Int)), vs = [.ref m, .ref ga, .ref aa] ∧ MAt K H m M ∧ SqT K H ga (ss.map V.int) ∧ ss.Pairwise (· < ·) ∧ (∀ s ∈ ss, 0 ≤ s ∧ s < M.n) ∧ H aa = some (.dK (alK al)) ∧ AlOk al ∧ (∀ p ∈ al, p.1 ∈ M.kinds) ∧ LamX.Tabs (TT Pf Pd) H ∧
  (∀ rk, Ranks M ss rk → deadL M rk = []) ∧ (∀ s : Int, 0 ≤ s → s < M.n → ∃ nd p, PPath M (limsN M al) nd p ∧ nd.1 = s) ∧ belowB (zeros M.kinds.length) (M.kinds.map (alGet al)) = true ∧
  ∀ (H' : Hp) (x dx : Addr) (fs : List (Str × V)) (rk : NM) (b : Int) (r : Nat), LamX.ExtN H H' → LamX.Tabs (TT Pf Pd) H' → H' x = some (.ins (He.ga K "Farthest") dx fs) → fs.lookup ("number" : Str) = some (.int (r : Int)) → Ranks M ss rk → (b, r) ∈ rk → (∀ r0, ((0 : Int), r0) ∈ rk → r0 ≤ r) → Q (.ref x) H'
theorem ok_farthest (T : Txt K mg) (U : Txt2 P K) (L : TxtL K mg base cf Pf cd Pd) : GFn P w K mg base 7 "farthest" (spFst K Pf Pd) := by
  refine T.okL h_farthest rfl (by decide +kernel) sc_farthest rfl rfl b_farthest (fun vs H Q E h => ?_) L.lf (fun A outer s H vs Q E hr h => ?_)
  · obtain ⟨m, ga, aa, M, ss, al, rfl, _⟩ := h
    rfl
  · obtain ⟨m, ga, aa, M, ss, al, rfl, hm, hg, pw, sb, ha, aok, akin, ht, hdead, hreach, hz, q⟩ := h
    refine ⟨_, (pss_cons (ps_c (i := 3) sc_farthest.nd rfl rfl rfl (pe_f (ok_judge_can T U) (hr.mono (by decide)) (pa_cons (pv 0) (pa_cons (pv 1) (pa_cons (pv 2) pa_nil)))))
      (pss_cons (ps_if (pt_val (pe_callB (call_isNo (C := He.ga K "Able") (D := He.ga K "Stuck") U.insA U.noSt) (by rfl) (T.f "isinstance") (by decide +kernel) (pa_cons (pv 3) (pa_cons (pe_glob (v := .ref (He.ga K "Stuck")) (by rfl) (T.g "Stuck") rfl) pa_nil)))) (pss_one (ps_ret (pv 3))) pss_nil)
      (pss_cons (ps_l (i := 4) sc_farthest.nd rfl rfl (pe_f (ok_limits_of T) (hr.mono (by decide)) (pa_cons (pv 0) (pa_cons (pv 2) pa_nil))))
      (pss_cons (ps_l (i := 5) sc_farthest.nd rfl rfl (pe_maxKey (k := 1) (T := TT Pf Pd) (c := cf) (P := Pf) (scope := ks_farthest) (Nl := ["state", "found"]) (ps := ["state"]) (fr := ["found"]) (js := [3]) rfl (hr.mono (by decide)) (pe_at (T.c "Able") (T.n "Able" "ranks") (pv 3)) (T.f "max") kns_farthest rfl kfree_farthest kfr_farthest rfl (fun _ _ _ _ => rfl) L.tf rfl ?hmT ?hu rfl (fun f c' A outer s H hr' => pe_dget (hu_of hr') (pe_at (T.c "Able") (T.n "Able" "ranks") (pv 1)) (pv 0) (fun _ _ => rfl))))
      (pss_one (ps_ret (pe_mk (ok_Farthest_init T U) (hr.mono (by decide)) (pa_cons (pe_dget (hu_of hr) (pe_at (T.c "Able") (T.n "Able" "ranks") (pv 3)) (pv 5) (fun _ _ => rfl)) (pa_cons (pe_f (ok_shortest T) (hr.mono (by decide)) (pa_cons (pv 0) (pa_cons (pe_tup (pa_cons (pv 5) pa_nil)) (pa_cons (pv 4) pa_nil)))) (pa_cons (pe_at (T.c "Able") (T.n "Able" "ranks") (pv 3)) (pa_cons (pe_at (T.c "Able") (T.n "Able" "costs") (pv 3)) pa_nil))))))))))), ?_⟩
    case hmT => exact List.mem_cons.mpr (.inl (congrArg (Prod.mk Pf) (by rfl)))
    case hu =>
      intro p hp e
      rcases List.mem_cons.mp hp with rfl | hp
      · rfl
      · rw [List.mem_singleton.mp hp] at e
        exact absurd e.symm L.ne
    refine ⟨_, rfl, _, rfl, _, rfl, m, ga, aa, M, ss, al, rfl, hm, hg, pw, sb, ha, aok, akin, .inr ⟨hdead, fun H1 x dx d r tb rk s1 ex hrk htb er tb0 hz0 => ?_⟩⟩
    refine ⟨_, rfl, x, dx, _, rfl, ex, false, rfl, ?_⟩
    refine ⟨_, rfl, _, rfl, m, aa, M, al, rfl, hm.sm s1, s1 _ _ ha, aok, akin, fun H2 lp s2 el => ?_⟩
    have s12 := s1.trans s2
    have ex2 := s2 _ _ ex
    have er2 := s2 _ _ er
    have kin : 0 ∈ keysC tb := hz0 hz
    have nxr : x ≠ r := ne_of_kind ex2 er2 fun z => by cases z
    have inrk : ∀ s ∈ keysC tb, s ∈ rk.map (·.1) := fun s hs => Classical.byContradiction fun z => by
      have := dead_mem.mpr ⟨(tb0 s hs).1, (tb0 s hs).2, z⟩
      rw [hdead rk hrk] at this
      cases this
    obtain ⟨kvs0, _, _, knd, _⟩ := id htb
    have gk : ∀ s ∈ keysC tb, valV (nmD ((keysC tb).map fun s => (s, rkOf rk s))) (.inl s) = some (.int (rkOf rk s : Int)) := fun s hs => nmD_get (by rw [List.map_map, show ((fun x : Int × Nat => x.1) ∘ fun s : Int => (s, rkOf rk s)) = id from rfl, List.map_id]; exact knd) (List.mem_map.mpr ⟨s, hs, rfl⟩)
    refine ⟨_, rfl, x, dx, _, _, rfl, ex2, rfl, ht.ext (fun b o h => s12 b o h), r, _, keysC tb, fun s => (rkOf rk s : Int), rfl, er2, ?_, (fun z => by rw [z] at kin; cases kin), fun H3 eN T3 => ⟨fun i hi H4 hd4 hk4 Q' q' => ?_, fun b hb hmax H4 s4 => ?_⟩⟩
    · rw [nmD_keys]
      exact congrArg (List.map Sum.inl) (by rw [List.map_map, show ((fun x : Int × Nat => x.1) ∘ fun s : Int => (s, rkOf rk s)) = id from rfl, List.map_id])
    · have ex4 := hk4 x _ nxr (eN _ _ ex2 fun _ z => by cases z)
      have dg : DGet H4 r (.int i) (some (.int (rkOf rk i : Int))) := .inl ⟨_, .inl i, hd4, rfl, (gk i hi).symm⟩
      exact ⟨_, rfl, x, dx, _, _, rfl, ex4, rfl, _, rfl, r, _, rfl, dg, q'⟩
    · have eN4 : LamX.ExtN H H4 := ((ExtN.same s12).trans eN).trans (ExtN.same s4)
      have e24 : LamX.ExtN H2 H4 := eN.trans (ExtN.same s4)
      have ex4 := e24 _ _ ex2 fun _ z => by cases z
      have er4 := e24 _ _ er2 fun _ z => by cases z
      have T4 := T3.ext fun b o h => s4 b o h
      have dg := DGet.k (k := .inl b) er4
      rw [gk b hb] at dg
      obtain ⟨b0, b1⟩ := tb0 b hb
      refine ⟨_, rfl, x, dx, _, _, rfl, ex4, rfl, _, rfl, r, _, rfl, dg, ?_⟩
      refine ⟨_, rfl, _, rfl, (by show 1 ≤ sizeLine; decide), fun gp hgp => ?_⟩
      have s5 : Same H4 (upd H4 gp (.tup [.int b])) := smNew hgp
      have eg5 : (upd H4 gp (.tup [.int b])) gp = some (.tup ([b].map V.int)) := upd_same
      generalize upd H4 gp (.tup [.int b]) = H5 at s5 eg5
      have e25 := e24.trans (ExtN.same s5)
      have eN5 := eN4.trans (ExtN.same s5)
      refine ⟨_, rfl, m, gp, lp, M, [b], M.kinds.map (alGet al), rfl, hm.ext eN5, .of eg5, .of (e25 _ _ el fun _ z => by cases z), List.length_map .., fun H6 s6 hno => ?_, fun H6 l as p nd s6 hl hst _ _ _ _ => ?_⟩
      · obtain ⟨nd, p, hp, e⟩ := hreach b b0 b1
        exact absurd (by rw [e]; simp) (hno nd p hp)
      · have e26 := e25.trans (ExtN.same s6)
        have ex6 := e26 _ _ ex2 fun _ z => by cases z
        have er6 := e26 _ _ er2 fun _ z => by cases z
        have ht6 := (htb.sm s2).ext e26
        refine ⟨_, rfl, x, dx, _, _, rfl, ex6, rfl, _, rfl, x, dx, _, _, rfl, ex6, rfl, fun y dy hy hdy ndy => ?_⟩
        have sy : Same H6 (upd (upd H6 dy (.own y)) y (.ins (He.ga K "Farthest") dy [])) := smMut (smNew hdy) hy
        refine ⟨y, dy, l, r, d, (rkOf rk b : Int), _, _, tb, rfl, upd_same, .of (sy _ _ hl), sy _ _ er6, ht6.sm sy, fun H7 fs sb7 e7 lk7 => ⟨rfl, ?_⟩⟩
        have s67 : Same H4 H7 := (s5.trans s6).trans (same_but hy sy sb7)
        refine q H7 y dy fs rk b (rkOf rk b) (eN4.trans (ExtN.same s67)) (T4.ext fun b o h => s67 b o h) e7 lk7 hrk (rkOf_in (inrk b hb)) fun r0 h0 => ?_
        have h1 := hmax 0 kin
        have h2 := nm_one hrk.nd h0 (rkOf_in (inrk 0 kin))
        have h1 : (rkOf rk 0 : Int) ≤ (rkOf rk b : Int) := h1
        omega
end
end Al
set_option maxHeartbeats 4000000
/-! D30: delay. -/
namespace Al
open PySem PySem.Spec PyProof.Rows L2
abbrev ks_delay : Scope := keyScope ((defBody s_delay).getD 5 (.Pass ⟨0, 0, 0, 0⟩))
theorem kfree_delay : ∀ y ∈ ks_delay.names, y.2 = .free → (defScope s_delay).names.lookup y.1 = some .cell ∨ (defScope s_delay).names.lookup y.1 = some .free := by decide +kernel
theorem kfr_delay : ∀ y ∈ (["search"] : List Str), (y, NameKind.free) ∈ ks_delay.names := by decide +kernel
theorem kns_delay : NdefX.NScope ["state", "search"] ["state"] ["search"] ks_delay := NdefX.nscope_by (by decide +kernel)
/-- statements that are never met -/
theorem pss_never {X : Cx} {b : List Stmt} : PSs X b (fun _ _ _ => False) := ⟨fun _ _ _ _ _ _ h => h.elim⟩
section
variable {P : Program} {w : World} {K : PySem.W.Frag} {mg : Str → Option Value} {base : Heap} {cf Pf cd Pd : Addr}
def spDelay (K : PySem.W.Frag) (Pf Pd : Addr) : Sp := fun vs H Q _ => ∃ (m ga aa : Addr) (M : Mch) (ss : List Int) (al : List (Str × Option Int)), vs = [.ref m, .ref ga, .ref aa] ∧ MAt K H m M ∧ SqT K H ga (ss.map V.int) ∧ ss.Pairwise (· < ·) ∧ (∀ s ∈ ss, 0 ≤ s ∧ s < M.n) ∧ H aa = some (.dK (alK al)) ∧ AlOk al ∧ (∀ p ∈ al, p.1 ∈ M.kinds) ∧ LamX.Tabs (TT Pf Pd) H ∧
  UpM M ss ∧ (∀ s : Int, 0 ≤ s → s < M.n → ∃ nd p, PPath M (limsN M al) nd p ∧ nd.1 = s) ∧ belowB (zeros M.kinds.length) (M.kinds.map (alGet al)) = true ∧
  ∀ (H' : Hp) (x dx : Addr) (fs : List (Str × V)) (rk : NM) (b : Int) (r : Nat), LamX.ExtN H H' → LamX.Tabs (TT Pf Pd) H' → H' x = some (.ins (He.ga K "Longest") dx fs) → fs.lookup ("number" : Str) = some (.int (r : Int)) → SrI M ss rk → (b, r) ∈ rk → (∀ nd p, VPath M (M.kinds.map (alGet al)) nd p → ∃ r0, (nd.1, r0) ∈ rk ∧ r0 ≤ r) → Q (.ref x) H'
theorem ok_delay (T : Txt K mg) (U : Txt2 P K) (L : TxtL K mg base cf Pf cd Pd) : GFn P w K mg base 7 "delay" (spDelay K Pf Pd) := by
  refine T.okL h_delay rfl (by decide +kernel) sc_delay rfl rfl b_delay (fun vs H Q E h => ?_) L.ld (fun A outer s H vs Q E hr h => ?_)
  · obtain ⟨m, ga, aa, M, ss, al, rfl, _⟩ := h
    rfl
  · obtain ⟨m, ga, aa, M, ss, al, rfl, hm, hg, pw, sb, ha, aok, akin, ht, up, hreach, hz, q⟩ := h
    refine ⟨_, (pss_cons (ps_expr (pe_f (ok_check_states T) (hr.mono (by decide)) (pa_cons (pv 0) (pa_cons (pv 1) pa_nil))))
      (pss_cons (ps_l (i := 3) sc_delay.nd rfl rfl (pe_f (ok_limits_of T) (hr.mono (by decide)) (pa_cons (pv 0) (pa_cons (pv 2) pa_nil))))
      (pss_cons (ps_l (i := 4) sc_delay.nd rfl rfl (pe_m0 (pe_mk (ok_Ways_init T) (hr.mono (by decide)) (pa_cons (pv 0) (pa_cons (pv 3) pa_nil))) (ok_Ways_table T) (hr.mono (by decide))))
      (pss_cons (ps_c (i := 5) sc_delay.nd rfl rfl rfl (pe_mk (ok_Search_init T) (hr.mono (by decide)) (pa_cons (pv 0) (pa_cons (pv 1) pa_nil))))
      (pss_cons (ps_lock (ps_for PassesOwn.never rfl (pi_keys (pv 4)) (pg_l (i := 6) sc_delay.nd rfl rfl)
      (pss_cons (ps_if (pt_cmp (pc_dnotin (hu_of hr) (pv 6) (pe_at (T.c "Search") (T.n "Search" "ranks") (pv 5)))) (pss_one (ps_expr (pe_m (pv 5) (ok_Search_walk T) (hr.mono (by decide)) (pa_cons (pv 6) pa_nil)))) pss_nil)
        (pss_one (ps_if (pt_cmp (pc_notN (pe_at (T.c "Search") (T.n "Search" "loop") (pv 5))) rfl) pss_never pss_nil)))))
      (pss_cons (ps_l (i := 7) sc_delay.nd rfl rfl (pe_maxKey (k := 1) (T := TT Pf Pd) (c := cd) (P := Pd) (scope := ks_delay) (Nl := ["state", "search"]) (ps := ["state"]) (fr := ["search"]) (js := [5]) rfl (hr.mono (by decide)) (pv 4) (T.f "max") kns_delay rfl kfree_delay kfr_delay rfl (fun _ _ _ _ => rfl) L.td rfl ?hmT ?hu rfl (fun f c' A outer s H hr' => pe_dget (hu_of hr') (pe_at (T.c "Search") (T.n "Search" "ranks") (pv 1)) (pv 0) (fun _ _ => rfl))))
      (pss_cons (ps_l (i := 8) sc_delay.nd rfl rfl (pe_op op_cat (pe_f (ok_shortest T) (hr.mono (by decide)) (pa_cons (pv 0) (pa_cons (pe_tup (pa_cons (pv 7) pa_nil)) (pa_cons (pv 3) pa_nil)))) (pe_m (pv 5) (ok_Search_tail T) (hr.mono (by decide)) (pa_cons (pv 7) pa_nil))))
      (pss_one (ps_ret (pe_mk (ok_Longest_init T U) (hr.mono (by decide)) (pa_cons (pe_dget (hu_of hr) (pe_at (T.c "Search") (T.n "Search" "ranks") (pv 5)) (pv 7) (fun _ _ => rfl)) (pa_cons (pv 8) (pa_cons (pe_dcg (own := [("state", 6)]) dkindK rfl sc_delay.nd (pi_list (pe_callB (call_sortedKi rfl (hu20 hr)) (by rfl) (T.f "sorted") (by decide +kernel) (pa_cons (pe_at (T.c "Search") (T.n "Search" "ranks") (pv 5)) pa_nil))) (blkOk_by (own := [("state", 6)]) (N := N_delay) (sc := defScope s_delay) (by decide +kernel)) ⟨(fun _ _ _ _ _ => (pg_l (i := 6) sc_delay.nd rfl rfl)), (fun _ _ _ _ _ => pts_nil), (fun _ _ _ _ _ => (pv 6)), (fun _ _ _ _ _ => (pe_dget (hu_of hr) (pe_at (T.c "Search") (T.n "Search" "ranks") (pv 5)) (pv 6) (fun _ _ => rfl)))⟩) (pa_cons (pv 4) pa_nil)))))))))))))), ?_⟩
    case hmT => exact List.mem_cons.mpr (.inr (List.mem_singleton.mpr (congrArg (Prod.mk Pd) (by rfl))))
    case hu =>
      intro p hp e
      rcases List.mem_cons.mp hp with rfl | hp
      · exact absurd e L.ne
      · rw [List.mem_singleton.mp hp]
        rfl
    have ok := hm.ok
    have n2 := ok.n2
    refine ⟨_, rfl, _, rfl, m, ga, M, ss, rfl, hm, hg, pw, sb, fun H1 s1 => ?_⟩
    refine ⟨_, rfl, _, rfl, m, aa, M, al, rfl, hm.sm s1, s1 _ _ ha, aok, akin, fun H3 lp s3' el => ?_⟩
    have s13 := s1.trans s3'
    refine ⟨_, rfl, _, rfl, fun y dy hy hdy ndy => ⟨y, dy, m, lp, M, M.kinds.map (alGet al), rfl, upd_same, (hm.sm s13).sm (smMut (smNew hdy) hy), .inr (smMut (smNew hdy) hy _ _ el), fun H4 af cd' od' rl ck og ra sb4 wp wi kb dom => ⟨rfl, ?_⟩⟩⟩
    have s4 : Same H3 H4 := same_but hy (smMut (smNew hdy) hy) sb4
    refine ⟨y, dy, _, rfl, wp.v, rfl, y, dy, m, lp, af, cd', od', rl, M.kinds.map (alGet al), ck, og, ra, M.kinds.length, rfl, wp, wi.tab ok.n2 ok.k2, keys_len ok.n2 kb wp.co.choose_spec.2.2, fun H6 d tb s5 hd htb hkeys => ?_⟩
    have s14 := s13.trans s4
    have tb0 : ∀ s ∈ keysC tb, 0 ≤ s ∧ s < M.n := fun s hs => kb s (Classical.byContradiction fun z => (hkeys s).mp hs (keptOf_none z))
    have hall : ∀ nd p, VPath M (M.kinds.map (alGet al)) nd p → nd.1 ∈ keysC tb := fun nd p hp => (hkeys nd.1).mpr fun z => by
      obtain ⟨⟨u, hu, _⟩, _⟩ := wi.full ok dom hp
      rw [z] at hu
      cases hu
    have kin : 0 ∈ keysC tb := hall _ _ (.nil hz)
    obtain ⟨kvs, ed, hkv, knd, tlen, clen⟩ := id htb
    have kvlen : kvs.length = tb.length := Paired.length hkv
    have kkeys : kvs.map (·.1) = (keysC tb).map Sum.inl := tabR_keys hkv
    -- the search
    refine ⟨_, rfl, _, rfl, fun x dx hx hdx ndx => ⟨x, dx, m, ga, M, ss, rfl, upd_same, fun H7 rd nd sb7 hrd hnd sp7 => ⟨rfl, ?_⟩⟩⟩
    have sx : Same H6 (upd (upd H6 dx (.own x)) x (.ins (He.ga K "Search") dx [])) := smMut (smNew hdx) hx
    have s67 : Same H6 H7 := same_but hx sx sb7
    have hrd6 := none_same sx hrd
    have hnd6 := none_same sx hnd
    have ed7 := s67 _ _ ed
    refine ⟨d, _, ed7, True.intro, fun o => ?_⟩
    have hfM : (upd H6 d (.frz o (.dK kvs))) d = some (.frz o (.dK kvs)) := upd_same
    have sM : Same (upd H6 d (.frz o (.dK kvs))) (upd H7 d (.frz o (.dK kvs))) := fun b u hb => by
      by_cases e : b = d
      · rw [e, upd_same] at hb ⊢
        exact hb
      · rw [upd_ne e] at hb ⊢
        exact s67 _ _ hb
    have s5M : Same H4 (upd H6 d (.frz o (.dK kvs))) := smMut s5 hd
    have hrdM : (upd H6 d (.frz o (.dK kvs))) rd = none := (upd_ne fun z => by rw [z, ed] at hrd6; cases hrd6).trans hrd6
    have hndM : (upd H6 d (.frz o (.dK kvs))) nd = none := (upd_ne fun z => by rw [z, ed] at hnd6; cases hnd6).trans hnd6
    have hmM : MAt K (upd H6 d (.frz o (.dK kvs))) m M := (hm.sm s14).sm s5M
    have hgM : SqT K (upd H6 d (.frz o (.dK kvs))) ga (ss.map V.int) := smTup (s14.trans s5M) hg
    have back : ∀ H', Same (upd H6 d (.frz o (.dK kvs))) H' → Same H6 (upd H' d (.dK kvs)) := fun H' s => unlock_same ed s
    obtain ⟨nx7, en7, _⟩ := sp7.nx
    have spL : SrPc K (upd H7 d (.frz o (.dK kvs))) x dx m ga rd nd M ss [] := sp7.but ed7 (fun _ z => by cases z) (fun z => by rw [z, hrd6] at ed; cases ed) (fun z => by rw [z, hnd6] at ed; cases ed) (ne_of_kind ed7 sp7.v fun z => by cases z)
    generalize upd H6 d (.frz o (.dK kvs)) = HM at hfM sM hrdM hndM hmM hgM back
    generalize upd H7 d (.frz o (.dK kvs)) = HL at sM spL
    refine ⟨_, rfl, d, o, rfl, .inl ⟨kvs, sM _ _ hfM, ?_⟩⟩
    refine for_it walk_keys (fun i σ H' => ∃ (rk : NM) (o6 : Option V), σ = [some (.ref m), some (.ref ga), some (.ref aa), some (.ref lp), some (.ref d), some (.ref x), o6, none, none] ∧ Same HM H' ∧ SrPc K H' x dx m ga rd nd M ss rk ∧ ∀ s ∈ (keysC tb).take i, s ∈ rk.map (·.1)) ⟨[], _, rfl, sM, spL, fun s hs => by rw [List.take_zero] at hs; cases hs⟩ (fun i σ H' _ ⟨_, _, _, s, _⟩ => s _ _ hfM) ?_ ?_
    · rintro i v σ H8 H9 hi ⟨rk, o6, rfl, s8, sp8, tk8⟩ ⟨rfl, k, v', hk, rfl⟩
      have hk2 : (keysC tb)[i]? = (tb[i]?).map (·.1) := by unfold keysC; rw [List.getElem?_map]
      obtain ⟨c, hc, x1, _⟩ := paired_get hkv hk
      have x1 : k = .inl c.1 := x1
      subst x1
      rw [hc, Option.map_some] at hk2
      have cin : c.1 ∈ keysC tb := List.mem_of_getElem? hk2
      obtain ⟨c0, c1⟩ := tb0 _ cin
      have done : ∀ (H' : Hp) (rk' : NM) , SrPc K H' x dx m ga rd nd M ss rk' → (∀ t ∈ rk.map (·.1), t ∈ rk'.map (·.1)) → c.1 ∈ rk'.map (·.1) → ∀ s ∈ (keysC tb).take (i + 1), s ∈ rk'.map (·.1) := fun H' rk' sp' sub hin s hs => by
        rw [take_snoc hk2] at hs
        rcases List.mem_append.mp hs with hs | hs
        · exact sub s (tk8 s hs)
        · rw [List.mem_singleton.mp hs]
          exact hin
      refine ⟨_, rfl, _, rfl, x, dx, _, _, rfl, sp8.v, fs_ranks .., rd, _, rfl, DGet.k (k := .inl c.1) sp8.ra, ?_⟩
      rw [nmD_is]
      by_cases hin : c.1 ∈ rk.map (·.1)
      · rw [decide_eq_true hin]
        refine ⟨false, rfl, ?_⟩
        exact ⟨_, rfl, x, dx, _, _, rfl, sp8.v, fs_loop .., false, rfl, rk, _, rfl, s8, sp8, done H9 rk sp8 (fun t h => h) hin⟩
      · rw [decide_eq_false hin]
        refine ⟨true, rfl, ?_⟩
        refine ⟨_, rfl, x, dx, _, rfl, sp8.v, rfl, _, rfl, HM, x, dx, m, ga, rd, nd, M, ss, rk, c.1, rfl, sp8, s8, hrdM, hndM, hmM, hgM, up, c0, c1, hin, fun H10 rk' s10 sp10 sub hin' => ?_⟩
        exact ⟨_, rfl, x, dx, _, _, rfl, sp10.v, fs_loop .., false, rfl, rk', _, rfl, s10, sp10, done H10 rk' sp10 sub hin'⟩
    · rintro σ H8 ⟨rk, o6, rfl, s8, sp8, tk8⟩
      have hf8 := s8 _ _ hfM
      rw [kvlen, List.take_of_length_le (by rw [List.length_map]; omega)] at tk8
      refine ⟨hf8, ?_⟩
      have s6b := back H8 s8
      obtain ⟨nx8, en8, _⟩ := sp8.nx
      have sp9 : SrPc K (upd H8 d (.dK kvs)) x dx m ga rd nd M ss rk := sp8.but hf8 (fun _ z => by cases z) (ne_of_kind hf8 sp8.ra fun z => by cases z) (ne_of_kind hf8 en8 fun z => by cases z) (ne_of_kind hf8 sp8.v fun z => by cases z)
      generalize upd H8 d (.dK kvs) = H9 at s6b sp9
      have ed9 := s6b _ _ ed
      have s09 := (s14.trans s5).trans s6b
      have ndx2 : d ≠ x := ne_of_kind ed9 sp9.v fun z => by cases z
      have ndr : d ≠ rd := fun z => by rw [z, hrd6] at ed; cases ed
      refine ⟨_, rfl, ht.ext (fun b o h => s09 b o h), d, kvs, keysC tb, fun s => (rkOf rk s : Int), rfl, ed9, kkeys, (fun z => by rw [z] at kin; cases kin), fun H10 eN T10 => ⟨fun i hi H11 hd11 hk11 Q' q' => ?_, fun b hb hmax H11 s11 => ?_⟩⟩
      · have e1 := hk11 x _ ndx2.symm (eN _ _ sp9.v fun _ z => by cases z)
        have e2 := hk11 rd _ ndr.symm (eN _ _ sp9.ra fun _ z => by cases z)
        have dg := DGet.k (k := .inl i) e2
        rw [nmD_get sp9.i.nd (rkOf_in (tk8 i hi))] at dg
        exact ⟨_, rfl, x, dx, _, _, rfl, e1, fs_ranks .., _, rfl, rd, _, rfl, dg, q'⟩
      · have e911 : LamX.ExtN H9 H11 := eN.trans (ExtN.same s11)
        have e011 : LamX.ExtN H H11 := (ExtN.same s09).trans e911
        have T11 := T10.ext fun b o h => s11 b o h
        have sp11 := sp9.ext e911
        obtain ⟨b0, b1⟩ := tb0 b hb
        have hbr := rkOf_in (tk8 b hb)
        refine ⟨_, rfl, _, rfl, (by show 1 ≤ sizeLine; decide), fun gp hgp => ?_⟩
        have s12 : Same H11 (upd H11 gp (.tup [.int b])) := smNew hgp
        have eg : (upd H11 gp (.tup [.int b])) gp = some (.tup ([b].map V.int)) := upd_same
        generalize upd H11 gp (.tup [.int b]) = H12 at s12 eg
        have elp : H12 lp = _ := s12 _ _ (e911 _ _ (s6b _ _ (s5 _ _ (s4 _ _ el))) fun _ z => by cases z)
        refine ⟨_, rfl, m, gp, lp, M, [b], M.kinds.map (alGet al), rfl, hm.ext (e011.trans (ExtN.same s12)), .of eg, .of elp, List.length_map .., fun H13 s13 hno => ?_, fun H13 l as p nd' s13' hl hst _ _ _ plen => ?_⟩
        · obtain ⟨nd', p, hp, e⟩ := hreach b b0 b1
          exact absurd (by rw [e]; simp) (hno nd' p hp)
        · have s1113 := s12.trans s13'
          have sp13 := sp11.sm s1113
          refine ⟨_, rfl, x, dx, _, rfl, sp13.v, rfl, _, rfl, x, dx, m, ga, rd, nd, M, ss, rk, b, rfl, sp13, up, n2, nm_key hbr, fun H14 l2 xs s14' el2 xlen => ?_⟩
          have aslen := Paired.length hst
          refine ⟨l, l2, _, _, rfl, rfl, s14' _ _ hl, el2, (by rw [List.length_map, aslen]; exact Nat.le_trans (by omega) (show 1001000 ≤ sizeLine by decide)), fun nl hnl => ?_⟩
          have s15 : Same H14 (upd H14 nl (.lst (as.map V.ref ++ xs))) := smNew hnl
          have enl : (upd H14 nl (.lst (as.map V.ref ++ xs))) nl = _ := upd_same
          generalize upd H14 nl (.lst (as.map V.ref ++ xs)) = H15 at s15 enl
          have s1315 := s14'.trans s15
          have sp15 := sp13.sm s1315
          have dg := DGet.k (k := .inl b) sp15.ra
          rw [nmD_get sp15.i.nd hbr] at dg
          refine ⟨_, rfl, x, dx, _, _, rfl, sp15.v, fs_ranks .., _, rfl, rd, _, rfl, dg, ?_⟩
          refine ⟨_, rfl, _, rfl, x, dx, _, _, rfl, sp15.v, fs_ranks .., rd, nmD rk, rk.map (·.1), rfl, .of sp15.ra, nmD_keys rk, fun ys pl hys hpl => ?_⟩
          have s16 : Same H15 (upd H15 pl (.lst (ys.map V.int))) := smNew hpl
          have epl : (upd H15 pl (.lst (ys.map V.int))) pl = some (.lst (ys.map V.int)) := upd_same
          generalize upd H15 pl (.lst (ys.map V.int)) = H16 at s16 epl
          have sp16 := sp15.sm s16
          have yslen : ys.length ≤ 100 := by
            rw [hys.length_eq, List.length_map]
            have := sp16.i.len
            omega
          refine ⟨pl, rfl, ⟨_, .of epl⟩, ?_⟩
          refine dkR walk_list (fun _ _ _ _ => True) (fun _ _ _ _ _ _ _ => trivial) (fun H' s => .of (s _ _ epl)) (by rw [List.length_map]; omega) ?_ ?_
          · rintro D i v Ha Hb acc hi hD s17 eD ⟨rfl, hv⟩ Kt kk
            rw [List.length_map] at hi
            rw [List.getElem?_map, List.getElem?_eq_getElem hi] at hv
            cases hv
            obtain ⟨r0, hr0⟩ := nm_keys (hys.mem_iff.mp (List.getElem_mem hi))
            have sp17 := sp16.sm s17
            have dg := DGet.k (k := .inl ys[i]) sp17.ra
            rw [nmD_get sp17.i.nd hr0] at dg
            exact ⟨rfl, _, rfl, _, rfl, x, dx, _, _, rfl, sp17.v, fs_ranks .., _, rfl, rd, _, rfl, dg, kk (some (.inl ys[i], .int (r0 : Int))) _ (Same.refl _) trivial⟩
          · intro D H17 os hD s17 eD _ _
            have s1117 := ((s1113.trans s1315).trans s16).trans s17
            refine ⟨_, rfl, fun z dz hz' hdz ndz => ?_⟩
            have sz : Same H17 (upd (upd H17 dz (.own z)) z (.ins (He.ga K "Longest") dz [])) := smMut (smNew hdz) hz'
            have htb17 : TabAt K H17 d tb := ((htb.sm s6b).ext e911).sm s1117
            refine ⟨z, dz, nl, D, d, (rkOf rk b : Int), _, _, tb, rfl, upd_same, .of (sz _ _ (s17 _ _ (s16 _ _ enl))), sz _ _ eD, htb17.sm sz, fun H18 fs sb18 e18 lk18 => ⟨rfl, ?_⟩⟩
            have s18 : Same H11 H18 := s1117.trans (same_but hz' sz sb18)
            refine q H18 z dz fs rk b (rkOf rk b) (e011.trans (ExtN.same s18)) (T11.ext fun b o h => s18 b o h) e18 lk18 sp9.i hbr fun nd' p hp => ?_
            have hin := hall nd' p hp
            have h1 : (rkOf rk nd'.1 : Int) ≤ (rkOf rk b : Int) := hmax _ hin
            exact ⟨rkOf rk nd'.1, rkOf_in (tk8 _ hin), by omega⟩
end
end Al
set_option maxHeartbeats 4000000
/-! D31: _law_draw. -/
namespace Al
open PySem PySem.Spec PyProof.Rows L2
section
variable {P : Program} {w : World} {K : PySem.W.Frag} {mg : Str → Option Value} {base : Heap}
def spDraw (K : PySem.W.Frag) : Sp := fun vs H Q _ => ∃ (sa : Addr) (ns : List Int) (at_ many : Int), vs = [.ref sa, .int at_, .int many] ∧ SqL K H sa (ns.map V.int) ∧ ns.length ≤ 1000 ∧ 0 ≤ at_ ∧ at_ ≤ 1000000 ∧ 1 ≤ many ∧ ∀ (H' : Hp) (d : Int), Same H H' → 0 ≤ d → d < many → Q (.int d) H'
theorem ok_law_draw (T : Txt K mg) : GFn P w K mg base 1 "_law_draw" (spDraw K) := by
  refine T.okG h_law_draw rfl (by decide +kernel) sc_law_draw rfl rfl b_law_draw (fun vs H Q E h => ?_) (fun cdv A outer s H vs Q E hr h => ?_)
  · obtain ⟨sa, ns, at_, many, rfl, _⟩ := h
    rfl
  · obtain ⟨sa, ns, at_, many, rfl, hs, hl, a0, a1, m1, q⟩ := h
    refine ⟨_, (pss_cons (ps_l (i := 3) sc_law_draw.nd rfl rfl (pe_ifExp (pt_cmpR (op_neDK K hr.units) (pv 0) (pe_lst pa_nil) (nomark _)) (pe_slice sl_list (pv 0) po_none (po_some pe_int)) (pe_lst (pa_cons pe_int pa_nil))))
        (pss_cons (ps_par (i := 4) (j := 5) rfl sc_law_draw.nd rfl rfl (by decide) rfl rfl (pa_cons (pe_ix (ixL K) (pv 3) (pe_op op_mod (pv 1) (pe_callB (cLen K) (by rfl) (T.f "len") (by decide +kernel) (pa_cons (pv 3) pa_nil))) (fun _ _ => rfl)) (pa_cons (pe_op op_fdiv (pv 1) (pe_callB (cLen K) (by rfl) (T.f "len") (by decide +kernel) (pa_cons (pv 3) pa_nil))) pa_nil)) rfl)
        (pss_cons (ps_if (pt_cmpR op_ge (pv 4) (pe_op op_pow pe_int pe_int) (nomark _)) 
        (pss_cons (ps_l (i := 4) sc_law_draw.nd rfl rfl (pe_op op_mod (pe_callTy call_int1 (by rfl) (T.f "int") (by decide +kernel) (pa_cons (pv 4) pa_nil)) (pe_op op_pow pe_int pe_int)))
          (pss_cons (ps_for PassesOwn.never rfl (pi_range1 (by rfl) (T.f "range") (pa_cons (pe_op op_mod (pv 5) pe_int) pa_nil)) (pg_l (i := 6) sc_law_draw.nd rfl rfl)
          (pss_one (ps_l (i := 4) sc_law_draw.nd rfl rfl (pe_op op_fdiv (pv 4) pe_int))))
          (pss_one (ps_ret (pe_op op_mod (pe_op op_mod (pe_callTy call_int1 (by rfl) (T.f "int") (by decide +kernel) (pa_cons (pv 4) pa_nil)) pe_int) (pv 2))))))
        pss_nil)
        (pss_cons (ps_l (i := 7) sc_law_draw.nd rfl rfl (pe_op op_add (pe_op op_mul (pe_op op_add (pe_op op_add (pe_op op_mod (pe_callTy call_int1 (by rfl) (T.f "int") (by decide +kernel) (pa_cons (pe_op op_add (pv 4) (pe_op op_mul pe_int (pv 5))) pa_nil)) pe_int) (pe_op op_mul pe_int (pv 1))) pe_int) pe_int) (pe_op op_mod (pe_callTy call_int1 (by rfl) (T.f "int") (by decide +kernel) (pa_cons (pe_op op_fdiv (pv 4) pe_int) pa_nil)) pe_int)))
        (pss_one (ps_ret (pe_op op_mod (pe_callTy call_int1 (by rfl) (T.f "int") (by decide +kernel) (pa_cons (pe_op op_mod (pe_op op_mul (pe_op op_mod (pv 7) pe_int) pe_int) pe_int) pa_nil)) (pv 2)))))))), ?_⟩
    refine ⟨_, rfl, (by show 0 ≤ sizeLine; decide), fun e1 he1 => ?_⟩
    have sE : Same H (upd H e1 (.lst [])) := smNew he1
    refine ⟨.list (ns.map .int), .list [], .lst (hs.elim (fun z => z.elim (fun y => SqL.of (sE _ _ y)) fun ⟨o, y⟩ => .inl (.inr ⟨o, sE _ _ y⟩)) fun z => .inr z) (dpAll_ints ns), .lst (.of upd_same) .nil, shaped_ints ns, rfl, _, rfl, ?_⟩
    rw [eqv_nilI]
    have hsE := sE.seq hs
    generalize upd H e1 (.lst []) = H1 at sE hsE
    obtain ⟨rs, hrs, rlen, hrow⟩ : ∃ rs : List Int, rs ≠ [] ∧ rs.length ≤ 1000 ∧ rs = (if ns = [] then [7] else ns.take 60) := by
      by_cases e : ns = []
      · exact ⟨[7], by simp, by simp, by rw [if_pos e]⟩
      · refine ⟨ns.take 60, ?_, ?_, by rw [if_neg e]⟩
        · cases ns with
          | nil => exact absurd rfl e
          | cons a r => simp
        · rw [List.length_take]
          omega
    by_cases e : ns = []
    case' pos =>
      rw [show (!ns.isEmpty) = false by rw [e]; rfl]
      rw [if_pos e] at hrow
      refine ⟨(by show 1 ≤ sizeLine; decide), fun ra hra => ?_⟩
      have sR : Same H (upd H1 ra (.lst [.int 7])) := sE.trans (smNew hra)
      have er : (upd H1 ra (.lst [.int 7])) ra = some (.lst (rs.map V.int)) := by rw [upd_same, hrow]; rfl
      generalize upd H1 ra (.lst [.int 7]) = H2 at sR er
    case' neg =>
      rw [show (!ns.isEmpty) = true by cases ns with | nil => exact absurd rfl e | cons a r => rfl]
      rw [if_neg e] at hrow
      refine ⟨_, rfl, 60, rfl, sa, _, rfl, hsE, fun ra hra => ?_⟩
      rw [show (60 : Int) = ((60 : Nat) : Int) from rfl, cut_to, ← List.map_take, ← hrow]
      have sR : Same H (upd H1 ra (.lst (rs.map V.int))) := sE.trans (smNew hra)
      have er : (upd H1 ra (.lst (rs.map V.int))) ra = some (.lst (rs.map V.int)) := upd_same
      generalize upd H1 ra (.lst (rs.map V.int)) = H2 at sR er
    all_goals
      have lpos : 0 < rs.length := by cases rs with | nil => exact absurd rfl hrs | cons a r => simp
      have lp : (0 : Int) < ((rs.map V.int).length : Int) := by rw [List.length_map]; omega
      have ll : ((rs.map V.int).length : Int) < 1073741824 := by rw [List.length_map]; omega
      obtain ⟨j, hj⟩ := Int.eq_ofNat_of_zero_le (Int.emod_nonneg at_ (show ((rs.map V.int).length : Int) ≠ 0 by omega))
      have hj2 : j < rs.length := by
        have := Int.emod_lt_of_pos at_ lp
        rw [hj, List.length_map] at this
        omega
      have hat : atI (rs.map V.int) (at_ % ((rs.map V.int).length : Int)) = some (.int rs[j]) := by
        rw [hj]
        exact atI_nat (by rw [List.getElem?_map, List.getElem?_eq_getElem hj2]; rfl)
      refine ⟨_, rfl, _, rfl, _, rfl, ra, _, rfl, .inl (.of er), at_, _, rfl, rfl, lp, ra, _, _, .int rs[j], rfl, rfl, .of er, hat, _, rfl, _, rfl, ra, _, rfl, .inl (.of er), at_, _, rfl, rfl, ⟨lp, ll⟩, _, _, rfl, ?_⟩
      generalize rs[j] = cell
      refine ⟨_, rfl, 10, 18, rfl, rfl, ⟨by decide, by decide, by decide⟩, cell, _, rfl, rfl, ?_⟩
      have last : ∀ (X : Int), (0 : Int) ≤ X % many ∧ X % many < many := fun X => ⟨Int.emod_nonneg X (by omega), Int.emod_lt_of_pos X (by omega)⟩
      by_cases big : (10 : Int) ^ (18 : Int).toNat ≤ cell
      · refine ⟨true, blT big, ?_⟩
        refine ⟨_, rfl, .inl ⟨_, rfl, 97, 40, rfl, rfl, ⟨by decide, by decide, by decide⟩, cell, _, rfl, rfl, (by show (0 : Int) < 97 ^ (40 : Int).toNat; decide), ?_⟩⟩
        have t0 := Int.emod_nonneg (at_ / ((rs.map V.int).length : Int)) (show (40 : Int) ≠ 0 by decide)
        have t1 := Int.emod_lt_of_pos (at_ / ((rs.map V.int).length : Int)) (show (0 : Int) < 40 by decide)
        refine ⟨_, rfl, _, 40, rfl, rfl, (show (0 : Int) < 40 by decide), _, rfl, (by omega), (by omega), ?_⟩
        refine for_it walk_range (fun i σ H' => ∃ (c : Int) (o6 : Option V), σ = [some (.ref sa), some (.int at_), some (.int many), some (.ref ra), some (.int c), some (.int (at_ / ((rs.map V.int).length : Int))), o6, none] ∧ Same H H') ⟨_, _, rfl, sR⟩ (fun _ _ _ _ _ => trivial) ?_ ?_
        · rintro i y σ H3 H4 hi ⟨c, o6, rfl, s3⟩ ⟨rfl, rfl⟩
          exact ⟨_, rfl, c, 97, rfl, rfl, ⟨by decide, by decide⟩, _, _, rfl, s3⟩
        · rintro σ H3 ⟨c, o6, rfl, s3⟩
          exact ⟨_, rfl, .inl ⟨c, rfl, c, 97, rfl, rfl, (show (0 : Int) < 97 by decide), _, rfl, _, many, rfl, rfl, (by omega), q H3 _ s3 (last _).1 (last _).2⟩⟩
      · refine ⟨false, blNo big, ?_⟩
        refine ⟨_, rfl, _, rfl, 31, _, rfl, rfl, .inl ⟨by decide, by decide⟩, cell, _, rfl, rfl, .inl ⟨_, rfl, _, 1000003, rfl, rfl, (show (0 : Int) < 1000003 by decide), ?_⟩⟩
        refine ⟨_, rfl, 977, at_, rfl, rfl, .inl ⟨by decide, by decide⟩, _, _, rfl, rfl, _, 13, rfl, rfl, _, 48271, rfl, rfl, .inr ⟨by decide, by decide⟩, ?_⟩
        refine ⟨_, rfl, cell, 1000003, rfl, rfl, ⟨by decide, by decide⟩, .inl ⟨_, rfl, _, 999983, rfl, rfl, (show (0 : Int) < 999983 by decide), _, _, rfl, rfl, ?_⟩⟩
        exact ⟨_, rfl, _, 2147483647, rfl, rfl, (show (0 : Int) < 2147483647 by decide), _, 65537, rfl, rfl, .inr ⟨by decide, by decide⟩, _, 4294967291, rfl, rfl, (show (0 : Int) < 4294967291 by decide), .inl ⟨_, rfl, _, rfl, _, many, rfl, rfl, (by omega), q H2 _ sR (last _).1 (last _).2⟩⟩
end
end Al
set_option maxHeartbeats 4000000
/-! D32: _law_machine. -/
namespace Al
open PySem PySem.Spec PyProof.Rows L2
abbrev kindsL : List Str := ["", "", "x", "y"]
abbrev wordsL : List Str := ["", "a", "b"]
theorem kindsL_ok : ∀ k ∈ kindsL, KindOk k := by
  intro k hk
  simp at hk
  rcases hk with rfl | rfl | rfl
  · exact .inl rfl
  · exact .inr (.inl rfl)
  · exact .inr (.inr rfl)
theorem wordsL_ok : ∀ k ∈ wordsL, WdOk k := by
  intro k hk
  simp at hk
  rcases hk with rfl | rfl | rfl
  · exact .inl rfl
  · exact .inr (.inl rfl)
  · exact .inr (.inr rfl)
theorem stepOk {n : Nat} {a b : Int} {k x : Str} (ha : 0 ≤ a) (ha2 : a < n) (hb : 0 ≤ b) (hb2 : b < n) (hk : KindOk k) (hx : WdOk x) : StpOk n ⟨a, k, x, b⟩ ∧ KindOk k ∧ WdOk x := by
  refine ⟨⟨ha, ha2, hb, hb2, ?_, ?_⟩, hk, hx⟩
  · rcases hk with h | h | h
    · exact .inl h
    · exact .inr ⟨120, by decide, by decide, h⟩
    · exact .inr ⟨121, by decide, by decide, h⟩
  · rcases hx with h | h | h
    · exact .inl h
    · exact .inr ⟨97, by decide, by decide, h⟩
    · exact .inr ⟨98, by decide, by decide, h⟩
section
variable {P : Program} {w : World} {K : PySem.W.Frag} {mg : Str → Option Value} {base : Heap}
def spLMach (K : PySem.W.Frag) : Sp := fun vs H Q _ => ∃ (sa ka wa : Addr) (ns : List Int) (at_ most : Int), vs = [.ref sa, .int at_, .int most, .ref ka, .ref wa] ∧ SqL K H sa (ns.map V.int) ∧ ns.length ≤ 1000 ∧ 0 ≤ at_ ∧ at_ ≤ 1000 ∧ 2 ≤ most ∧ most ≤ 20 ∧ SqT K H ka (kindsL.map V.str) ∧ SqT K H wa (wordsL.map V.str) ∧
  ∀ (H' : Hp) (p l : Addr) (n : Nat) (as : List Addr) (ts : List Stp), Same H H' → H' p = some (.tup [.int n, .ref l]) → H' l = some (.lst (as.map V.ref)) → StpsAt H' as ts → 1 ≤ n → (n : Int) ≤ most → as.length ≤ 100 → (∀ t ∈ ts, StpOk n t ∧ KindOk t.k ∧ WdOk t.w) → Q (.ref p) H'
theorem ok_law_machine (T : Txt K mg) : GFn P w K mg base 2 "_law_machine" (spLMach K) := by
  refine T.okG h_law_machine rfl (by decide +kernel) sc_law_machine rfl rfl b_law_machine (fun vs H Q E h => ?_) (fun cdv A outer s H vs Q E hr h => ?_)
  · obtain ⟨sa, ka, wa, ns, at_, most, rfl, _⟩ := h
    rfl
  · obtain ⟨sa, ka, wa, ns, at_, most, rfl, hs, hl, a0, a1, m0, m1, hka, hwa, q⟩ := h
    refine ⟨_, (pss_cons (ps_l (i := 5) sc_law_machine.nd rfl rfl (pe_op op_add pe_int (pe_f (ok_law_draw T) (hr.mono (by decide)) (pa_cons (pv 0) (pa_cons (pv 1) (pa_cons (pe_op op_sub (pv 2) pe_int) pa_nil))))))
        (pss_cons (ps_l (i := 6) sc_law_machine.nd rfl rfl (pe_lst pa_nil))
        (pss_cons (ps_for PassesOwn.never rfl (pi_range1 (by rfl) (T.f "range") (pa_cons (pe_op op_add (pv 5) (pe_f (ok_law_draw T) (hr.mono (by decide)) (pa_cons (pv 0) (pa_cons (pe_op op_add (pv 1) pe_int) (pa_cons (pe_op op_add (pv 5) pe_int) pa_nil))))) pa_nil)) (pg_l (i := 7) sc_law_machine.nd rfl rfl)
        (pss_cons (ps_l (i := 8) sc_law_machine.nd rfl rfl (pe_op op_add (pe_op op_add (pv 1) (pe_op op_mul pe_int (pv 7))) pe_int))
          (pss_cons (ps_par (i := 9) (j := 10) rfl sc_law_machine.nd rfl rfl (by decide) rfl rfl (pa_cons (pe_ix (ixT K) (pv 3) (pe_f (ok_law_draw T) (hr.mono (by decide)) (pa_cons (pv 0) (pa_cons (pe_op op_add (pv 8) pe_int) (pa_cons (pe_callB (cLen K) (by rfl) (T.f "len") (by decide +kernel) (pa_cons (pv 3) pa_nil)) pa_nil)))) (fun _ _ => rfl)) (pa_cons (pe_ix (ixT K) (pv 4) (pe_f (ok_law_draw T) (hr.mono (by decide)) (pa_cons (pv 0) (pa_cons (pe_op op_add (pv 8) pe_int) (pa_cons (pe_callB (cLen K) (by rfl) (T.f "len") (by decide +kernel) (pa_cons (pv 4) pa_nil)) pa_nil)))) (fun _ _ => rfl)) pa_nil)) rfl)
          (pss_cons (ps_l (i := 11) sc_law_machine.nd rfl rfl (pe_ifExp (PW.pt (pw_and (pt_cmpR op_lt (pe_op op_add (pv 7) pe_int) (pv 5) (nomark _)) (pw_and1 (pt_cmpR op_eq (pe_f (ok_law_draw T) (hr.mono (by decide)) (pa_cons (pv 0) (pa_cons (pv 8) (pa_cons pe_int pa_nil)))) pe_int (nomark _))))) (pv 7) (pe_f (ok_law_draw T) (hr.mono (by decide)) (pa_cons (pv 0) (pa_cons (pe_op op_add (pv 8) pe_int) (pa_cons (pv 5) pa_nil))))))
          (pss_one (ps_expr (pe_bm PySem.F.plainAttrs_list PySem.F.slot_list_append PySem.F.type_list_append mt_append (pv 6) (pa_cons (pe_tup (pa_cons (pv 11) (pa_cons (pv 9) (pa_cons (pv 10) (pa_cons (pe_f (ok_law_draw T) (hr.mono (by decide)) (pa_cons (pv 0) (pa_cons (pe_op op_add (pv 8) pe_int) (pa_cons (pv 5) pa_nil)))) pa_nil))))) pa_nil))))))))
        (pss_one (ps_ret (pe_tup (pa_cons (pv 5) (pa_cons (pv 6) pa_nil)))))))), ?_⟩
    refine ⟨_, rfl, _, rfl, _, rfl, most, 1, rfl, rfl, sa, ns, at_, most - 1, rfl, hs, hl, a0, (by omega), (by omega), fun H1 d1 s1 d10 d11 => ⟨2, d1, rfl, rfl, ?_⟩⟩
    obtain ⟨n, hn⟩ := Int.eq_ofNat_of_zero_le (show 0 ≤ 2 + d1 by omega)
    rw [show ((fun i j : Int => V.int (i + j)) 2 d1) = .int (n : Int) by rw [← hn]]
    refine ⟨(by show 0 ≤ sizeLine; decide), fun l hl1 => ?_⟩
    have s2 : Same H1 (upd H1 l (.lst [])) := smNew hl1
    have el : (upd H1 l (.lst [])) l = some (.lst (([] : List Addr).map V.ref)) := upd_same
    have hlH := none_same s1 hl1
    generalize upd H1 l (.lst []) = H2 at s2 el
    have s12 := s1.trans s2
    refine ⟨_, rfl, _, rfl, _, rfl, at_, 1, rfl, rfl, _, rfl, (n : Int), 3, rfl, rfl, sa, ns, at_ + 1, (n : Int) + 3, rfl, s12.seq hs, hl, (by omega), (by omega), (by omega), fun H3 d2 s3 d20 d21 => ⟨(n : Int), d2, rfl, rfl, _, rfl, by omega, by omega, ?_⟩⟩
    have s13 := s12.trans s3
    refine for_it walk_range (fun i σ H' => ∃ (as : List Addr) (ts : List Stp) (o7 o8 o9 o10 o11 : Option V), σ = [some (.ref sa), some (.int at_), some (.int most), some (.ref ka), some (.ref wa), some (.int (n : Int)), some (.ref l), o7, o8, o9, o10, o11] ∧ Same H H' ∧ H' l = some (.lst (as.map V.ref)) ∧ StpsAt H' as ts ∧ as.length = i ∧ ∀ t ∈ ts, StpOk n t ∧ KindOk t.k ∧ WdOk t.w)
      ⟨[], [], _, _, _, _, _, rfl, s13, s3 _ _ el, .nil, rfl, (fun t ht => by cases ht)⟩ (fun _ _ _ _ _ => trivial) ?_ ?_
    · rintro i y σ H4 H5 hi ⟨as, ts, o7, o8, o9, o10, o11, rfl, s5, el5, hst5, alen, hok⟩ ⟨rfl, rfl⟩
      have hi2 : (i : Int) < n + d2 := by omega
      rw [show ((fun i : Nat => V.int (0 + (i : Int))) i) = V.int (i : Int) by show V.int (0 + (i : Int)) = _; rw [Int.zero_add]]
      have sq5 : SqT K H5 ka (kindsL.map V.str) := smTup s5 hka
      refine ⟨_, rfl, _, rfl, 5, (i : Int), rfl, rfl, .inl ⟨by decide, by decide⟩, at_, _, rfl, rfl, _, 2, rfl, rfl, ?_⟩
      have b0 : 0 ≤ at_ + 5 * (i : Int) + 2 := by omega
      have b1 : at_ + 5 * (i : Int) + 2 ≤ 2000 := by omega
      dsimp only
      generalize at_ + 5 * (i : Int) + 2 = spot at b0 b1
      refine ⟨_, rfl, _, rfl, _, rfl, spot, 1, rfl, rfl, _, rfl, ka, _, rfl, .inr (smTup s5 hka), sa, ns, spot + 1, _, rfl, s5.seq hs, hl, (by omega), (by omega), (by show (1 : Int) ≤ 4; decide), fun H6 dk s6 dk0 dk1 => ?_⟩
      obtain ⟨kj, hkj⟩ := Int.eq_ofNat_of_zero_le dk0
      have hkj2 : kj < kindsL.length := by rw [hkj] at dk1; have : (kj : Int) < 4 := dk1; show kj < 4; omega
      have s56 := s5.trans s6
      refine ⟨ka, _, _, .str kindsL[kj], rfl, rfl, smTup s56 hka, by rw [hkj]; exact atI_nat (by rw [List.getElem?_map, List.getElem?_eq_getElem hkj2]; rfl), ?_⟩
      have kok := kindsL_ok _ (List.getElem_mem hkj2)
      generalize kindsL[kj] = kk at kok
      refine ⟨_, rfl, _, rfl, _, rfl, spot, 2, rfl, rfl, _, rfl, wa, _, rfl, .inr (smTup s56 hwa), sa, ns, spot + 2, _, rfl, s56.seq hs, hl, (by omega), (by omega), (by show (1 : Int) ≤ 3; decide), fun H7 dw s7 dw0 dw1 => ?_⟩
      obtain ⟨wj, hwj⟩ := Int.eq_ofNat_of_zero_le dw0
      have hwj2 : wj < wordsL.length := by rw [hwj] at dw1; have : (wj : Int) < 3 := dw1; show wj < 3; omega
      have s57 := s56.trans s7
      have t57 := s6.trans s7
      refine ⟨wa, _, _, .str wordsL[wj], rfl, rfl, smTup s57 hwa, by rw [hwj]; exact atI_nat (by rw [List.getElem?_map, List.getElem?_eq_getElem hwj2]; rfl), _, _, rfl, ?_⟩
      have wok := wordsL_ok _ (List.getElem_mem hwj2)
      generalize wordsL[wj] = ww at wok
      rcases Classical.em ((i : Int) + 1 < n) with hc | hc
      case' inl =>
        refine ⟨_, rfl, (i : Int), 1, rfl, rfl, _, rfl, _, _, rfl, rfl, true, blT hc, _, rfl, _, rfl, sa, ns, spot, 2, rfl, s57.seq hs, hl, b0, (by omega), (by decide), fun H8 dz s8 _ _ => ⟨rfl, _, rfl, ?_⟩⟩
        by_cases hz : dz = 0
        case' pos =>
          rw [show decide (V.int dz = V.int 0) = true by rw [hz]; simp]
          refine ⟨_, rfl, ?_⟩
          obtain ⟨f, ef⟩ : ∃ f, f = (i : Int) := ⟨_, rfl⟩
          rw [← ef]
          have f0 : 0 ≤ f := by omega
          have f1 : f < n := by omega
          have s58 := t57.trans s8
          clear ef s8 hz
        case' neg =>
          rw [show decide (V.int dz = V.int 0) = false from decide_eq_false fun z => hz (by injection z)]
          refine ⟨_, rfl, _, rfl, spot, 3, rfl, rfl, _, rfl, sa, ns, spot + 3, (n : Int), rfl, (s57.trans s8).seq hs, hl, (by omega), (by omega), (by omega), fun H8 f s8' f0 f1 => ?_⟩
          have s58 := (t57.trans s8).trans s8'
          clear s8 s8' hz
      case' inr =>
        refine ⟨_, rfl, (i : Int), 1, rfl, rfl, _, rfl, _, _, rfl, rfl, false, blNo hc, _, rfl, _, rfl, spot, 3, rfl, rfl, _, rfl, sa, ns, spot + 3, (n : Int), rfl, s57.seq hs, hl, (by omega), (by omega), (by omega), fun H8 f s8 f0 f1 => ?_⟩
        have s58 := t57.trans s8
        clear s8
      all_goals
        have elX := s58 _ _ el5
        refine ⟨_, rfl, .inl ⟨rfl, _, .of elX⟩, _, rfl, _, rfl, _, rfl, _, rfl, _, rfl, spot, 4, rfl, rfl, _, rfl, sa, ns, spot + 4, (n : Int), rfl, (s5.trans s58).seq hs, hl, (by omega), (by omega), (by omega), fun H9 g s9 g0 g1 => ⟨(by show 4 ≤ sizeLine; decide), fun p hp => ?_⟩⟩
        have s10 : Same H9 (upd H9 p (.tup [.int f, .str kk, .str ww, .int g])) := smNew hp
        have ep : (upd H9 p (.tup [.int f, .str kk, .str ww, .int g])) p = some (.tup (Stp.vs ⟨f, kk, ww, g⟩)) := upd_same
        generalize upd H9 p (.tup [.int f, .str kk, .str ww, .int g]) = H10 at s10 ep
        have s510 := (s58.trans s9).trans s10
        have el10 := s510 _ _ el5
        refine ⟨l, _, _, rfl, rfl, el10, szLt (by rw [List.length_map]; omega), as ++ [p], ts ++ [⟨f, kk, ww, g⟩], _, _, _, _, _, rfl, smMut (s5.trans s510) hlH, (by rw [upd_same, List.map_append]; rfl), ?_, (by rw [List.length_append, alen]; rfl), fun t ht => ?_⟩
        · have keep : ∀ a xs, H10 a = some (.tup xs) → (upd H10 l (.lst (as.map V.ref ++ [.ref p]))) a = some (.tup xs) := fun a xs ha => (upd_ne fun z => by rw [z, el10] at ha; cases ha).trans ha
          exact paired_app (Paired.mapP hst5 fun a b z => keep _ _ (s510 _ _ z)) (.cons (keep _ _ ep) .nil)
        · rcases List.mem_append.mp ht with ht | ht
          · exact hok t ht
          · rw [List.mem_singleton.mp ht]
            exact stepOk f0 f1 g0 g1 kok wok
    · rintro σ H4 ⟨as, ts, o7, o8, o9, o10, o11, rfl, s4, el4, hst4, alen, hok⟩
      refine ⟨_, rfl, _, rfl, (by show 2 ≤ sizeLine; decide), fun p hp => ?_⟩
      have s5 := smNew hp (o := .tup [.int (n : Int), .ref l])
      exact q _ p l n as ts (s4.trans s5) upd_same (s5 _ _ el4) (hst4.sm s5) (by omega) (by omega) (by omega) hok
end
end Al
set_option maxHeartbeats 4000000
/-! D33: _law_some, _law_allowances. -/
namespace Al
open PySem PySem.Spec PyProof.Rows L2
theorem some_of : ∀ {os : List (Option V)} {k : Nat}, (∀ (i : Nat) (o : Option V), os[i]? = some o → o = none ∨ o = some (.int ((k + i : Nat) : Int))) → ∃ ss : List Int, os.filterMap id = ss.map V.int ∧ ss.Pairwise (· < ·) ∧ ∀ s ∈ ss, (k : Int) ≤ s ∧ s < ((k + os.length : Nat) : Int)
  | [], k, _ => ⟨[], rfl, .nil, fun s h => by cases h⟩
  | o :: os, k, h => by
    obtain ⟨ss, h1, h2, h3⟩ := some_of (os := os) (k := k + 1) fun i o ho => by
      have := h (i + 1) o ho
      rwa [show k + (i + 1) = k + 1 + i by omega] at this
    rcases h 0 o rfl with rfl | rfl
    · refine ⟨ss, by rw [List.filterMap_cons, ← h1]; rfl, h2, fun s hs => ?_⟩
      obtain ⟨a, b⟩ := h3 s hs
      rw [List.length_cons]
      omega
    · refine ⟨(k : Int) :: ss, ?_, ?_, fun s hs => ?_⟩
      · rw [List.filterMap_cons, h1]
        rfl
      · refine List.Pairwise.cons (fun s hs => ?_) h2
        obtain ⟨a, b⟩ := h3 s hs
        omega
      · rw [List.length_cons]
        rcases List.mem_cons.mp hs with rfl | hs
        · omega
        · obtain ⟨a, b⟩ := h3 s hs
          omega
theorem alK_new {al : List (Str × Option Int)} {k : Str} {o : Option Int} (h : k ∉ al.map (·.1)) : putK (alK al) (.inr k) (lv o) = alK (al ++ [(k, o)]) := by
  rw [putK_new]
  · unfold alK
    rw [List.map_append]
    rfl
  · cases e : valV (alK al) (.inr k) with
    | none => rfl
    | some v =>
      have := valV_mem.mp (show (valV (alK al) (.inr k)).isSome = true by rw [e]; rfl)
      unfold alK at this
      rw [List.map_map] at this
      obtain ⟨p, hp, e2⟩ := List.mem_map.mp this
      exact absurd (List.mem_map.mpr ⟨p, hp, Sum.inr.inj e2⟩) h
theorem AlOk.add {al : List (Str × Option Int)} {k : Str} {o : Option Int} (h : AlOk al) (hk : Letter k) (hn : k ∉ al.map (·.1)) (ho : ∀ i, o = some i → 0 ≤ i) (hz : al.length < 1000) : AlOk (al ++ [(k, o)]) := by
  refine ⟨fun p hp => ?_, fun p hp i e => ?_, by rw [List.length_append, List.length_singleton]; omega, ?_⟩
  · rcases List.mem_append.mp hp with hp | hp
    · exact h.wd p hp
    · rw [List.mem_singleton.mp hp]; exact hk
  · rcases List.mem_append.mp hp with hp | hp
    · exact h.nn p hp i e
    · rw [List.mem_singleton.mp hp] at e
      exact ho i e
  · rw [List.map_append]
    exact List.nodup_append.mpr ⟨h.nd, by simp, fun a ha b hb => by rintro rfl; simp at hb; exact hn (hb ▸ ha)⟩
section
variable {P : Program} {w : World} {K : PySem.W.Frag} {mg : Str → Option Value} {base : Heap}
def spSome (K : PySem.W.Frag) : Sp := fun vs H Q _ => ∃ (sa : Addr) (ns : List Int) (at_ : Int) (n : Nat), vs = [.ref sa, .int at_, .int n] ∧ SqL K H sa (ns.map V.int) ∧ ns.length ≤ 1000 ∧ 0 ≤ at_ ∧ at_ ≤ 1000 ∧ n ≤ 1000 ∧
  ∀ (H' : Hp) (p : Addr) (ss : List Int), Same H H' → H' p = some (.tup (ss.map V.int)) → ss.Pairwise (· < ·) → (∀ s ∈ ss, 0 ≤ s ∧ s < n) → Q (.ref p) H'
theorem ok_law_some (T : Txt K mg) : GFn P w K mg base 2 "_law_some" (spSome K) := by
  refine T.okG h_law_some rfl (by decide +kernel) sc_law_some rfl rfl b_law_some (fun vs H Q E h => ?_) (fun cdv A outer s H vs Q E hr h => ?_)
  · obtain ⟨sa, ns, at_, n, rfl, _⟩ := h
    rfl
  · obtain ⟨sa, ns, at_, n, rfl, hs, hl, a0, a1, n1, q⟩ := h
    refine ⟨_, (pss_one (ps_ret (pe_callTy (cTuple K) (by rfl) (T.f "tuple") (by decide +kernel) (pa_cons (pe_lc (own := [("_law_state", 3)]) rfl sc_law_some.nd (pi_range1 (by rfl) (T.f "range") (pa_cons (pv 2) pa_nil)) (blkOk_by (own := [("_law_state", 3)]) (N := N_law_some) (sc := defScope s_law_some) (by decide +kernel)) (fun _ _ _ _ _ => (pg_l (i := 3) sc_law_some.nd rfl rfl)) (fun _ _ _ _ _ => (pts_one (pt_cmpR op_eq (pe_f (ok_law_draw T) (hr.mono (by decide)) (pa_cons (pv 0) (pa_cons (pe_op op_add (pv 1) (pv 3)) (pa_cons pe_int pa_nil)))) pe_int (nomark _)))) (fun _ _ _ _ _ => (pv 3))) pa_nil)))), ?_⟩
    refine ⟨_, rfl, n, rfl, by omega, by omega, ?_⟩
    rw [show ((n : Int).toNat) = n from rfl]
    refine lcR walk_range (fun _ i o _ => o = none ∨ o = some (.int ((0 + i : Nat) : Int))) (fun _ _ _ _ _ h _ => h) (fun _ _ => trivial) (by omega) ?_ ?_
    · rintro D i y H1 H2 acc hi hD s1 eD ⟨rfl, rfl⟩ Kt kk
      have e0 : ((fun i : Nat => V.int (0 + (i : Int))) i) = V.int ((0 + i : Nat) : Int) := by show V.int (0 + (i : Int)) = _; rw [Int.zero_add, Nat.zero_add]
      rw [e0]
      refine ⟨rfl, _, rfl, _, rfl, _, rfl, at_, ((0 + i : Nat) : Int), rfl, rfl, sa, ns, at_ + ((0 + i : Nat) : Int), 3, rfl, s1.seq hs, hl, (by omega), (by omega), (by decide), fun H3 d s3 _ _ => ⟨rfl, _, rfl, ?_⟩⟩
      by_cases hz : d = 0
      · rw [show decide (V.int d = V.int 0) = true by rw [hz]; simp]
        exact ⟨_, rfl, kk _ _ s3 (.inr rfl)⟩
      · rw [show decide (V.int d = V.int 0) = false from decide_eq_false fun z => hz (by injection z)]
        exact kk none _ s3 (.inl rfl)
    · intro D H1 os hD s1 eD olen hos
      obtain ⟨ss, h1, h2, h3⟩ := some_of (k := 0) hos
      rw [h1] at eD
      dsimp only [tNil]
      refine ⟨D, _, rfl, .inl ⟨.of eD, fun p hp => q _ p ss (s1.trans (smNew hp)) upd_same h2 fun s hs => ?_⟩⟩
      have := h3 s hs
      rw [olen] at this
      omega
def spAllow (K : PySem.W.Frag) : Sp := fun vs H Q _ => ∃ (sa kl : Addr) (ns : List Int) (at_ : Int) (kinds : List Str), vs = [.ref sa, .int at_, .ref kl] ∧ SqL K H sa (ns.map V.int) ∧ ns.length ≤ 1000 ∧ 0 ≤ at_ ∧ at_ ≤ 1000 ∧ SqL K H kl (kinds.map V.str) ∧ kinds.Nodup ∧ kinds.length ≤ 2 ∧ (∀ k ∈ kinds, Letter k) ∧
  ∀ (H' : Hp) (D : Addr) (al : List (Str × Option Int)), Same H H' → H' D = some (.dK (alK al)) → AlOk al → (∀ p ∈ al, p.1 ∈ kinds) → Q (.ref D) H'
theorem ok_law_allowances (T : Txt K mg) : GFn P w K mg base 2 "_law_allowances" (spAllow K) := by
  refine T.okG h_law_allowances rfl (by decide +kernel) sc_law_allowances rfl rfl b_law_allowances (fun vs H Q E h => ?_) (fun cdv A outer s H vs Q E hr h => ?_)
  · obtain ⟨sa, kl, ns, at_, kinds, rfl, _⟩ := h
    rfl
  · obtain ⟨sa, kl, ns, at_, kinds, rfl, hs, hl, a0, a1, hk, knd, k2, klet, q⟩ := h
    refine ⟨_, (pss_cons (ps_l (i := 3) sc_law_allowances.nd rfl rfl pe_dnewK)
        (pss_cons (ps_for PassesOwn.never rfl (pi_enum (by rfl) (T.f "enumerate") (pa_cons (pv 2) pa_nil)) (pg_t K 2 rfl (pgs_cons (pg_l (i := 4) sc_law_allowances.nd rfl rfl) (pgs_cons (pg_l (i := 5) sc_law_allowances.nd rfl rfl) pgs_nil)))
        (pss_cons (ps_l (i := 6) sc_law_allowances.nd rfl rfl (pe_f (ok_law_draw T) (hr.mono (by decide)) (pa_cons (pv 0) (pa_cons (pe_op op_add (pv 1) (pv 4)) (pa_cons pe_int pa_nil)))))
          (pss_cons (ps_if (pt_cmpR op_lt (pv 6) pe_int (nomark _)) 
          (pss_one (ps_dput (hu_of hr) (pv 3) (pv 5) (pv 6) rfl))
          pss_nil)
          (pss_one (ps_if (pt_cmpR op_eq (pv 6) pe_int (nomark _)) 
          (pss_one (ps_dput (hu_of hr) (pv 3) (pv 5) pe_non rfl))
          pss_nil)))))
        (pss_one (ps_ret (pv 3))))), ?_⟩
    refine fun D hD => ⟨_, rfl, kl, _, rfl, (smNew hD (o := .dK [])).seq hk, ?_⟩
    refine for_it (walk_enum (xs := kinds.map V.str)) (fun i σ H' => ∃ (al : List (Str × Option Int)) (o4 o5 o6 : Option V), σ = [some (.ref sa), some (.int at_), some (.ref kl), some (.ref D), o4, o5, o6] ∧ Same H H' ∧ H' D = some (.dK (alK al)) ∧ AlOk al ∧ al.length ≤ i ∧ ∀ p ∈ al, p.1 ∈ kinds.take i)
      ⟨[], _, _, _, rfl, smNew hD, upd_same, ⟨(fun p hp => by cases hp), (fun p hp => by cases hp), (by decide), List.nodup_nil⟩, Nat.le_refl _, (fun p hp => by cases hp)⟩ (fun i σ H' _ ⟨_, _, _, _, _, s, _⟩ => s.seq hk) ?_ ?_
    · rintro i y σ H1 H2 hi ⟨al, o4, o5, o6, rfl, s1, eD, aok, alen, akin⟩ ⟨Ta, u, v, rfl, hT, rfl, hu, hv⟩
      rw [List.length_map] at hi
      have hv : (kinds.map V.str)[i]? = some v := hv
      rw [List.getElem?_map, List.getElem?_eq_getElem hi] at hv
      cases hv
      cases hu
      have s2 : Same H1 (upd H1 Ta (.tup [.int (i : Int), .str kinds[i]])) := smNew hT
      have eT : (upd H1 Ta (.tup [.int (i : Int), .str kinds[i]])) Ta = some (.tup [.int (i : Int), .str kinds[i]]) := upd_same
      generalize upd H1 Ta (.tup [.int (i : Int), .str kinds[i]]) = H2 at s2 eT
      have s12 := s1.trans s2
      refine ⟨Ta, _, rfl, SqT.of eT, rfl, _, _, rfl, _, _, rfl, rfl, ?_⟩
      refine ⟨_, rfl, _, rfl, _, rfl, at_, (i : Int), rfl, rfl, sa, ns, at_ + (i : Int), 5, rfl, s12.seq hs, hl, (by omega), (by omega), (by decide), fun H3 d s3 d0 d1 => ?_⟩
      have eD3 := s3 _ _ (s2 _ _ eD)
      have s13 := s12.trans s3
      have kn : kinds[i] ∉ al.map (·.1) := fun z => by
        obtain ⟨p, hp, e⟩ := List.mem_map.mp z
        have h1 := akin p hp
        rw [e] at h1
        obtain ⟨j, hj, ej⟩ := List.mem_take_iff_getElem.mp h1
        have := (List.getElem_inj knd).mp ej
        omega
      have sub : ∀ p ∈ al, p.1 ∈ kinds.take (i + 1) := fun p hp => by rw [take_snoc (List.getElem?_eq_getElem hi)]; exact List.mem_append_left _ (akin p hp)
      have sub2 : ∀ o : Option Int, ∀ p ∈ al ++ [(kinds[i], o)], p.1 ∈ kinds.take (i + 1) := fun o p hp => by
        rcases List.mem_append.mp hp with hp | hp
        · exact sub p hp
        · rw [List.mem_singleton.mp hp, take_snoc (List.getElem?_eq_getElem hi)]
          exact List.mem_append_right _ (by simp)
      have hlet := klet _ (List.getElem_mem hi)
      have alz : (alK al).length < sizeLine := szLt (by unfold alK; rw [List.length_map]; omega)
      by_cases h3 : d < 3
      · refine ⟨_, rfl, _, _, rfl, rfl, true, blT h3, _, rfl, _, rfl, _, rfl, D, upd H3 D (.dK (putK (alK al) (.inr kinds[i]) (.int d))), rfl, .inl ⟨alK al, .inr kinds[i], eD3, rfl, alz, rfl⟩, _, rfl, rfl, _, rfl, ?_⟩
        have hne : ¬ d = 3 := by omega
        rw [show decide (V.int d = V.int 3) = false from decide_eq_false fun z => hne (by injection z)]
        refine ⟨al ++ [(kinds[i], some d)], _, _, _, rfl, smMut s13 hD, ?_, aok.add hlet kn (fun i e => by cases e; exact d0) (by omega), by rw [List.length_append, List.length_singleton]; omega, sub2 _⟩
        rw [upd_same, ← alK_new kn]
        rfl
      · refine ⟨_, rfl, _, _, rfl, rfl, false, blNo h3, _, rfl, rfl, _, rfl, ?_⟩
        by_cases h4 : d = 3
        · rw [show decide (V.int d = V.int 3) = true by rw [h4]; simp]
          refine ⟨_, rfl, _, rfl, D, upd H3 D (.dK (putK (alK al) (.inr kinds[i]) .non)), rfl, .inl ⟨alK al, .inr kinds[i], eD3, rfl, alz, rfl⟩, ?_⟩
          refine ⟨al ++ [(kinds[i], none)], _, _, _, rfl, smMut s13 hD, ?_, aok.add hlet kn (fun i e => by cases e) (by omega), by rw [List.length_append, List.length_singleton]; omega, sub2 _⟩
          rw [upd_same, ← alK_new kn]
          rfl
        · rw [show decide (V.int d = V.int 3) = false from decide_eq_false fun z => h4 (by injection z)]
          exact ⟨al, _, _, _, rfl, s13, eD3, aok, by omega, sub⟩
    · rintro σ H1 ⟨al, o4, o5, o6, rfl, s1, eD, aok, _, akin⟩
      exact ⟨_, rfl, q H1 D al s1 eD aok fun p hp => List.mem_of_mem_take (akin p hp)⟩
end
end Al
set_option maxHeartbeats 4000000
/-! M16: more steps: what is kept. -/
namespace Al
open PySem PySem.Spec PyProof.Rows L2
section
variable {M M' : Mch}
theorem PPath.more {lims : List (Option Int)} (hk : M'.kinds = M.kinds) (h : ∀ t ∈ M.steps, t ∈ M'.steps) {nd : Node} {p : List Stp} (q : PPath M lims nd p) : PPath M' lims nd p := by
  induction q with
  | nil => rw [← hk]; exact .nil
  | cons _ ht hb ih =>
    rw [← hk] at hb ⊢
    exact .cons ih (h _ ht) hb
theorem VPath.more {lims : List (Option Int)} (hk : M'.kinds = M.kinds) (h : ∀ t ∈ M.steps, t ∈ M'.steps) {nd : Node} {p : List Stp} (q : VPath M lims nd p) : VPath M' lims nd p := by
  induction q with
  | nil hb =>
    rw [← hk] at hb ⊢
    exact .nil hb
  | cons _ ht hb ih =>
    rw [← hk] at hb ⊢
    exact .cons ih (h _ ht) hb
theorem ranks_more {ss : List Int} {rk rk' : NM} (h : ∀ t ∈ M.steps, t ∈ M'.steps) (a : Ranks M ss rk) (b : Ranks M' ss rk') : ∀ (r : Nat) (s : Int), (s, r) ∈ rk → s ∈ rk'.map (·.1)
  | 0, s, hs => b.gl s ((a.z s 0 hs).mp rfl)
  | r + 1, s, hs => by
    obtain ⟨t, ht, tk, ts, tg⟩ := a.own s r hs
    rw [← ts]
    exact b.cl t (h t ht) tk (ranks_more h a b r t.g tg) fun z => z
theorem dead_more {ss : List Int} {rk rk' : NM} (hn : M'.n = M.n) (h : ∀ t ∈ M.steps, t ∈ M'.steps) (a : Ranks M ss rk) (b : Ranks M' ss rk') : ∀ s ∈ deadL M' rk', s ∈ deadL M rk := fun s hs => by
  obtain ⟨h0, h1, h2⟩ := dead_mem.mp hs
  refine dead_mem.mpr ⟨h0, by rw [← hn]; exact h1, fun z => ?_⟩
  obtain ⟨r, hr⟩ := nm_keys z
  exact h2 (ranks_more h a b r s hr)
theorem falls_more {ss : List Int} {ls ls' : List (List Int)} (hk : M'.kinds = M.kinds) (h : ∀ t ∈ M.steps, t ∈ M'.steps) (a : FallsOf M ss ls) (b : FallsOf M' ss ls') : ∀ v ∈ ls, ∃ u ∈ ls', vle u v = true ∧ u.length = v.length := fun v hv => by
  obtain ⟨g, hg, p, hp⟩ := a.so v hv
  have q := hp.more hk h
  rw [← hk] at q
  obtain ⟨_, u, hu, hle⟩ := b.co g hg v p q
  exact ⟨u, hu, hle, (b.len u hu).trans ((a.len v hv).trans (by rw [hk])).symm⟩
theorem fars_more {fk fk' : NM} (h : ∀ t ∈ M.steps, t ∈ M'.steps) (a : Fars M fk) (b : Fars M' fk') : ∀ s r, (s, r) ∈ fk → ∃ r', r' ≤ r ∧ (s, r') ∈ fk' := fun s r hs => b.le s r ((a.so s r hs).mono h)
theorem trace_more {fr ws : List Str} (h : ∀ t ∈ M.steps, t ∈ M'.steps) : HasTr M fr ws → HasTr M' fr ws := fun ⟨s, p⟩ => ⟨s, p.mono h⟩
end
theorem kinds_xy {ks : List Str} (hs : sortedS ks = true) (hn : ks.Nodup) (hm : ∀ k, k ∈ ks ↔ k = "x" ∨ k = "y") : ks = (["x", "y"] : List Str) := by
  have key : ∀ a ∈ ks, a = "x" ∨ a = "y" := fun a ha => (hm a).mp ha
  have hx := (hm "x").mpr (.inl rfl)
  have hy := (hm "y").mpr (.inr rfl)
  match ks, hs, hn, key, hx, hy with
  | [], _, _, _, hx, _ => cases hx
  | [a], _, _, _, hx, hy =>
    have e1 := List.mem_singleton.mp hx
    have e2 := List.mem_singleton.mp hy
    rw [← e1] at e2
    exact absurd e2 (by decide)
  | [a, b], hs, hn, key, hx, hy =>
    rcases key a (by simp) with rfl | rfl <;> rcases key b (by simp) with rfl | rfl
    · simp at hn
    · rfl
    · exact absurd hs (by decide +kernel)
    · simp at hn
  | a :: b :: c :: r, _, hn, key, _, _ =>
    simp at hn
    rcases key a (by simp) with rfl | rfl <;> rcases key b (by simp) with rfl | rfl <;> rcases key c (by simp) with rfl | rfl <;> simp at hn
theorem kinds_x {ks : List Str} (hn : ks.Nodup) (hm : ∀ k, k ∈ ks ↔ k = "x") : ks = (["x"] : List Str) := by
  cases ks with
  | nil => exact absurd ((hm "x").mpr rfl) (by simp)
  | cons a r =>
    have ha := (hm a).mp (by simp)
    subst ha
    cases r with
    | nil => rfl
    | cons b r =>
      have hb := (hm b).mp (by simp)
      subst hb
      simp at hn
theorem kinds_none {ks : List Str} (hm : ∀ k, k ∉ ks) : ks = [] := by
  cases ks with
  | nil => rfl
  | cons a r => exact absurd (by simp) (hm a)
end Al
set_option maxHeartbeats 4000000
/-! M17: long rows of states. -/
namespace Al
open PySem PySem.Spec PyProof.Rows L2
/-- the step from a to the next -/
def rowS (kd : Nat → Str) (a : Nat) : Stp := ⟨(a : Int), kd a, "", (a : Int) + 1⟩
def backS (N : Nat) : Stp := ⟨(N : Int), "", "a", 0⟩
structure RowM (M : Mch) (N : Nat) (kd : Nat → Str) : Prop where
  n : M.n = N + 1
  mem : ∀ t, t ∈ M.steps ↔ (∃ a, a < N ∧ t = rowS kd a) ∨ t = backS N
  nd : M.steps.Nodup
theorem nd_one {α : Type} {x : α} : ∀ {xs : List α}, xs.Nodup → (∀ y ∈ xs, y = x) → xs = [] ∨ xs = [x]
  | [], _, _ => .inl rfl
  | [a], _, h => .inr (by rw [h a (by simp)])
  | a :: b :: r, hn, h => by
    have h1 := h a (by simp)
    have h2 := h b (by simp)
    rw [h1, h2] at hn
    simp at hn
section
variable {M : Mch} {N : Nat} {kd : Nat → Str}
/-- the own steps of a state of the row -/
theorem RowM.own (R : RowM M N kd) {s : Nat} (hs : s < N) : ownL M [(N : Int)] (s : Int) = if kd s = "" then [rowS kd s] else [] := by
  have hns : (s : Int) ∉ [(N : Int)] := fun z => by have := List.mem_singleton.mp z; omega
  have all : ∀ t ∈ ownL M [(N : Int)] (s : Int), t = rowS kd s ∧ kd s = "" := fun t ht => by
    obtain ⟨h1, h2, h3, _⟩ := own_mem ht
    rcases (R.mem t).mp h1 with ⟨a, ha, rfl⟩ | rfl
    · have e : (a : Int) = (s : Int) := h2
      have e : a = s := by omega
      subst e
      exact ⟨rfl, h3⟩
    · have e : (N : Int) = (s : Int) := h2
      omega
  have nd : (ownL M [(N : Int)] (s : Int)).Nodup := by
    unfold ownL
    rw [if_neg hns]
    exact (R.nd.filter _).filter _
  by_cases c : kd s = ""
  · rw [if_pos c]
    rcases nd_one nd (fun y hy => (all y hy).1) with e | e
    · have hin : rowS kd s ∈ ownL M [(N : Int)] (s : Int) := by
        unfold ownL
        rw [if_neg hns]
        exact List.mem_filter.mpr ⟨List.mem_filter.mpr ⟨(R.mem _).mpr (.inl ⟨s, hs, rfl⟩), decide_eq_true rfl⟩, decide_eq_true c⟩
      rw [e] at hin
      cases hin
    · exact e
  · rw [if_neg c]
    cases h : ownL M [(N : Int)] (s : Int) with
    | nil => rfl
    | cons t r => exact absurd (all t (by rw [h]; simp)).2 c
theorem RowM.own_end : ownL M [(N : Int)] (N : Int) = [] := by
  unfold ownL
  rw [if_pos (by simp)]
theorem RowM.up (R : RowM M N kd) : UpM M [(N : Int)] := fun s h0 h1 => by
  obtain ⟨i, rfl⟩ := Int.eq_ofNat_of_zero_le h0
  rw [R.n] at h1
  by_cases e : i = N
  · rw [e]
    exact .inl RowM.own_end
  · have hi : i < N := by omega
    rw [R.own hi]
    by_cases c : kd i = ""
    · rw [if_pos c]
      exact .inr ⟨_, rfl, rfl⟩
    · rw [if_neg c]
      exact .inl rfl
/-- a state and its rank, forward -/
theorem SrI.row (R : RowM M N kd) {rk : NM} (h : SrI M [(N : Int)] rk) {s : Nat} {r : Nat} (hs : s < N) (hm : ((s : Int), r) ∈ rk) : (kd s ≠ "" ∧ r = 0) ∨ (kd s = "" ∧ ∃ r', (((s + 1 : Nat) : Int), r') ∈ rk ∧ r = r' + 1) := by
  rcases h.rn _ _ hm with ⟨e, z⟩ | ⟨t, r', e, a, b⟩
  · rw [R.own hs] at e
    by_cases c : kd s = ""
    · rw [if_pos c] at e; cases e
    · exact .inl ⟨c, z⟩
  · rw [R.own hs] at e
    by_cases c : kd s = ""
    · rw [if_pos c] at e
      cases e
      exact .inr ⟨c, r', a, b⟩
    · rw [if_neg c] at e; cases e
theorem SrI.row_end {rk : NM} (h : SrI M [(N : Int)] rk) {r : Nat} (hm : ((N : Int), r) ∈ rk) : r = 0 := by
  rcases h.rn _ _ hm with ⟨_, z⟩ | ⟨t, r', e, _⟩
  · exact z
  · rw [RowM.own_end] at e; cases e
theorem SrI.bdN (R : RowM M N kd) {rk : NM} (h : SrI M [(N : Int)] rk) {s : Int} {r : Nat} (hm : (s, r) ∈ rk) : ∃ i : Nat, s = i ∧ i ≤ N := by
  obtain ⟨a, b⟩ := h.bd _ _ hm
  obtain ⟨i, rfl⟩ := Int.eq_ofNat_of_zero_le a
  rw [R.n] at b
  exact ⟨i, rfl, by omega⟩
/-! ### no falls -/
theorem SrI.free (R : RowM M N kd) (hk : ∀ a, kd a = "") {rk : NM} (h : SrI M [(N : Int)] rk) : ∀ (r : Nat) (s : Nat), s ≤ N → ((s : Int), r) ∈ rk → r = N - s
  | r, s, hs, hm => by
    by_cases e : s = N
    · rw [e] at hm ⊢
      rw [h.row_end hm]
      omega
    · have hs' : s < N := by omega
      rcases h.row R hs' hm with ⟨c, _⟩ | ⟨_, r', h1, h2⟩
      · exact absurd (hk s) c
      · have := SrI.free R hk h r' (s + 1) (by omega) h1
        omega
  termination_by r s => N - s
/-! ### falls at the multiples of g -/
def kdG (g : Nat) (a : Nat) : Str := if a % g = 0 then "x" else ""
theorem kdG_none {g a : Nat} : kdG g a = "" ↔ a % g ≠ 0 := by
  unfold kdG
  by_cases c : a % g = 0
  · rw [if_pos c]
    exact ⟨fun z => absurd z (by decide), fun z => absurd c z⟩
  · rw [if_neg c]
    exact ⟨fun _ => c, fun _ => rfl⟩
theorem mod_next {s g : Nat} (hg : 1 < g) : (s + 1) % g = if s % g + 1 = g then 0 else s % g + 1 := by
  have h1 := Nat.mod_lt s (show 0 < g by omega)
  rw [Nat.add_mod, Nat.mod_eq_of_lt hg]
  by_cases e : s % g + 1 = g
  · rw [if_pos e, e, Nat.mod_self]
  · rw [if_neg e, Nat.mod_eq_of_lt (by omega)]
theorem SrI.gap_le {g : Nat} (hg : 1 < g) (R : RowM M N (kdG g)) {rk : NM} (h : SrI M [(N : Int)] rk) : ∀ (r : Nat) (s : Nat), s ≤ N → ((s : Int), r) ∈ rk → (s % g = 0 → r = 0) ∧ r + s % g ≤ g
  | r, s, hs, hm => by
    have hlt := Nat.mod_lt s (show 0 < g by omega)
    by_cases e : s = N
    · have : r = 0 := h.row_end (by rw [← e]; exact hm)
      omega
    · rcases h.row R (by omega) hm with ⟨_, h2⟩ | ⟨c, r', h1, h2⟩
      · omega
      · have c := kdG_none.mp c
        obtain ⟨i1, i2⟩ := SrI.gap_le hg R h r' (s + 1) (by omega) h1
        rw [mod_next hg] at i1 i2
        by_cases e2 : s % g + 1 = g
        · rw [if_pos e2] at i1
          have := i1 rfl
          omega
        · rw [if_neg e2] at i2
          omega
  termination_by r s => N - s
theorem SrI.gap_at {g : Nat} (hg : 1 < g) (hN : g < N) (R : RowM M N (kdG g)) {rk : NM} (h : SrI M [(N : Int)] rk) : ∀ (i : Nat) (r : Nat), i < g → (((g - i : Nat) : Int), r) ∈ rk → r = i
  | 0, r, _, hm => (h.gap_le hg R r g (by omega) (by simpa using hm)).1 (Nat.mod_self g)
  | i + 1, r, hi, hm => by
    rcases h.row R (by omega) hm with ⟨c, _⟩ | ⟨_, r', h1, h2⟩
    · refine absurd (kdG_none.mpr ?_) c
      rw [Nat.mod_eq_of_lt (by omega)]
      omega
    · rw [show g - (i + 1) + 1 = g - i by omega] at h1
      have := SrI.gap_at hg hN R h i r' (by omega) h1
      omega
/-! ### ranks -/
theorem Ranks.free (R : RowM M N kd) (hk : ∀ a, kd a = "") {rk : NM} (h : Ranks M [(N : Int)] rk) : ∀ i : Nat, i ≤ N → ((N - i : Nat) : Int) ∈ rk.map (·.1)
  | 0, _ => h.gl _ (by simp)
  | i + 1, hi => by
    have ih := Ranks.free R hk h i (by omega)
    have c := h.cl (rowS kd (N - (i + 1))) ((R.mem _).mpr (.inl ⟨_, by omega, rfl⟩)) (hk _) (by
      show ((N - (i + 1) : Nat) : Int) + 1 ∈ _
      rw [show ((N - (i + 1) : Nat) : Int) + 1 = ((N - i : Nat) : Int) by omega]
      exact ih) fun z => z
    exact c
theorem Ranks.free_dead (R : RowM M N kd) (hk : ∀ a, kd a = "") {rk : NM} (h : Ranks M [(N : Int)] rk) : deadL M rk = [] := by
  cases e : deadL M rk with
  | nil => rfl
  | cons s r =>
    obtain ⟨h0, h1, h2⟩ := dead_mem.mp (show s ∈ deadL M rk by rw [e]; simp)
    obtain ⟨i, rfl⟩ := Int.eq_ofNat_of_zero_le h0
    rw [R.n] at h1
    have := Ranks.free R hk h (N - i) (by omega)
    rw [show N - (N - i) = i by omega] at this
    exact absurd this h2
theorem Ranks.free_at (R : RowM M N kd) {rk : NM} (h : Ranks M [(N : Int)] rk) : ∀ (r : Nat) (s : Int), (s, r) ∈ rk → s = (N : Int) - r
  | 0, s, hm => by have := (h.z s 0 hm).mp rfl; rw [List.mem_singleton.mp this]; omega
  | r + 1, s, hm => by
    obtain ⟨t, ht, tk, ts, tg⟩ := h.own s r hm
    have ih := Ranks.free_at R h r t.g tg
    rcases (R.mem t).mp ht with ⟨a, ha, rfl⟩ | rfl
    · have e1 : (a : Int) = s := ts
      have e2 : (a : Int) + 1 = (N : Int) - r := ih
      omega
    · have e1 : (N : Int) = s := ts
      have := (h.z s (r + 1) hm).mpr (by rw [← e1]; simp)
      omega
/-- the states that meet the end by themselves -/
theorem Ranks.gap {g : Nat} (hg : 1 < g) (hN : 1 ≤ N) (R : RowM M N (kdG g)) {rk : NM} (h : Ranks M [(N : Int)] rk) : ∀ s : Int, s ∈ rk.map (·.1) ↔ ((N - (N - 1) % g : Nat) : Int) ≤ s ∧ s ≤ N := by
  have hm := Nat.mod_lt (N - 1) (show 0 < g by omega)
  have hle := Nat.mod_le (N - 1) g
  have dm := Nat.div_add_mod (N - 1) g
  have down : ∀ i : Nat, i ≤ (N - 1) % g → ((N - i : Nat) : Int) ∈ rk.map (·.1) := by
    intro i
    induction i with
    | zero => intro _; exact h.gl _ (by simp)
    | succ i ih =>
      intro hi
      have ih := ih (by omega)
      have nm : (N - (i + 1)) % g ≠ 0 := by
        have e : N - (i + 1) = ((N - 1) % g - i) + g * ((N - 1) / g) := by omega
        rw [e, Nat.add_mul_mod_self_left, Nat.mod_eq_of_lt (by omega)]
        omega
      have c := h.cl (rowS (kdG g) (N - (i + 1))) ((R.mem _).mpr (.inl ⟨_, by omega, rfl⟩)) (kdG_none.mpr nm) (by
        show ((N - (i + 1) : Nat) : Int) + 1 ∈ _
        rw [show ((N - (i + 1) : Nat) : Int) + 1 = ((N - i : Nat) : Int) by omega]
        exact ih) fun z => z
      exact c
  have up : ∀ (r : Nat) (s : Int), (s, r) ∈ rk → ((N - (N - 1) % g : Nat) : Int) ≤ s ∧ s ≤ N := by
    intro r
    induction r with
    | zero =>
      intro s hs
      have := (h.z s 0 hs).mp rfl
      rw [List.mem_singleton.mp this]
      omega
    | succ r ih =>
      intro s hs
      obtain ⟨t, ht, tk, ts, tg⟩ := h.own s r hs
      have i1 := ih t.g tg
      rcases (R.mem t).mp ht with ⟨a, ha, rfl⟩ | rfl
      · have e1 : (a : Int) = s := ts
        have i1 : ((N - (N - 1) % g : Nat) : Int) ≤ (a : Int) + 1 ∧ (a : Int) + 1 ≤ N := i1
        have nm := kdG_none.mp (show kdG g a = "" from tk)
        have ne : a + 1 ≠ N - (N - 1) % g := fun z => nm (by
          have e : a = g * ((N - 1) / g) := by omega
          rw [e, Nat.mul_mod_right])
        omega
      · have e1 : (N : Int) = s := ts
        omega
  intro s
  constructor
  · intro hs
    obtain ⟨r, hr⟩ := nm_keys hs
    exact up r s hr
  · rintro ⟨h1, h2⟩
    obtain ⟨i, rfl⟩ := Int.eq_ofNat_of_zero_le (show 0 ≤ s by omega)
    have := down (N - i) (by omega)
    rwa [show N - (N - i) = i by omega] at this
theorem filter_range_lt : ∀ {m n : Nat}, m ≤ n → (List.range n).filter (fun s => decide (s < m)) = List.range m
  | m, 0, h => by rw [Nat.le_zero.mp h]; rfl
  | m, n + 1, h => by
    rw [List.range_succ, List.filter_append]
    by_cases e : m = n + 1
    · subst e
      rw [List.filter_eq_self.mpr fun a ha => decide_eq_true (by have := List.mem_range.mp ha; omega), List.range_succ]
      simp
    · rw [filter_range_lt (show m ≤ n by omega)]
      simp
      omega
theorem Ranks.gap_dead {g : Nat} (hg : 1 < g) (hN : 1 ≤ N) (R : RowM M N (kdG g)) {rk : NM} (h : Ranks M [(N : Int)] rk) : deadL M rk = (List.range (N - (N - 1) % g)).map fun (s : Nat) => (s : Int) := by
  unfold deadL
  congr 1
  rw [← filter_range_lt (show N - (N - 1) % g ≤ M.n by rw [R.n]; omega)]
  refine List.filter_congr fun s hs => ?_
  have hs := List.mem_range.mp hs
  rw [R.n] at hs
  rw [decide_eq_decide]
  have := Ranks.gap hg hN R h (s : Int)
  constructor
  · intro z
    refine Classical.byContradiction fun y => z (this.mpr ?_)
    omega
  · intro z y
    have := this.mp y
    omega
end
end Al
set_option maxHeartbeats 4000000
/-! M18: ways through long rows. -/
namespace Al
open PySem PySem.Spec PyProof.Rows L2
/-- the falls before a state -/
def ups (g s : Nat) : Nat := ((List.range s).filter fun a => decide (a % g = 0)).length
theorem ups_succ (g s : Nat) : ups g (s + 1) = ups g s + if s % g = 0 then 1 else 0 := by
  unfold ups
  rw [List.range_succ, List.filter_append, List.length_append]
  by_cases c : s % g = 0
  · rw [if_pos c, List.filter_cons_of_pos (by simpa using c)]
    rfl
  · rw [if_neg c, List.filter_cons_of_neg (by simpa using c)]
    rfl
theorem ups_le (g s : Nat) : ups g s ≤ s := by
  unfold ups
  have := List.length_filter_le (fun a => decide (a % g = 0)) (List.range s)
  rwa [List.length_range] at this
theorem ups_pos {g s : Nat} (h : 1 ≤ s) : 1 ≤ ups g s := by
  obtain ⟨t, rfl⟩ : ∃ t, s = t + 1 := ⟨s - 1, by omega⟩
  clear h
  induction t with
  | zero => rw [ups_succ, if_pos (Nat.zero_mod g)]; omega
  | succ t ih => rw [ups_succ]; omega
theorem va_none (c : Int) : vecAdd ["x"] [c] "" = [c] := by unfold vecAdd; rw [if_pos rfl]
theorem va_x (c : Int) : vecAdd ["x"] [c] "x" = [c + 1] := by
  unfold vecAdd
  rw [if_neg (by decide)]
  rfl
theorem below1 (c : Int) (l : Option Int) : belowB [c] [l] = true ↔ ∀ i, l = some i → c ≤ i := by
  cases l with
  | none => simp [belowB]
  | some i => simp [belowB]
section
variable {M : Mch} {N g : Nat}
theorem RowM.vpath (R : RowM M N (kdG g)) (hk : M.kinds = (["x"] : List Str)) {nd : Node} {p : List Stp} (h : VPath M [none] nd p) : ∃ s : Nat, nd.1 = s ∧ s ≤ N ∧ ∃ c : Int, nd.2 = [c] ∧ (ups g s : Int) ≤ c := by
  induction h with
  | nil hb =>
    refine ⟨0, rfl, Nat.zero_le _, 0, ?_, by simp [ups]⟩
    rw [hk]
    rfl
  | @cons v p t _ ht hb ih =>
    obtain ⟨s, h1, h2, c, h3, h4⟩ := ih
    have h1 : t.s = s := h1
    have h3 : v = [c] := h3
    subst h3
    rcases (R.mem t).mp ht with ⟨a, ha, rfl⟩ | rfl
    · have e : (a : Int) = s := h1
      have e : a = s := by omega
      subst e
      refine ⟨a + 1, rfl, ha, ?_⟩
      have ek : (rowS (kdG g) a).k = kdG g a := rfl
      rw [ek, hk]
      rw [ups_succ]
      by_cases c0 : a % g = 0
      · rw [if_pos c0]
        refine ⟨c + 1, ?_, by omega⟩
        show vecAdd _ _ _ = _
        unfold kdG
        rw [if_pos c0]
        exact va_x c
      · rw [if_neg c0]
        refine ⟨c, ?_, by omega⟩
        show vecAdd _ _ _ = _
        unfold kdG
        rw [if_neg c0]
        exact va_none c
    · refine ⟨0, rfl, Nat.zero_le _, c, ?_, by simp [ups]; omega⟩
      rw [hk]
      exact va_none c
theorem RowM.vways (R : RowM M N (kdG g)) (hk : M.kinds = (["x"] : List Str)) : ∀ s : Nat, s ≤ N → ∃ p, VPath M [none] ((s : Int), [(ups g s : Int)]) p
  | 0, _ => by
    refine ⟨[], ?_⟩
    have := VPath.nil (M := M) (lims := [none]) (by rw [hk]; decide)
    rw [hk] at this
    exact this
  | s + 1, h => by
    obtain ⟨p, hp⟩ := RowM.vways R hk s (by omega)
    have ht := (R.mem (rowS (kdG g) s)).mpr (.inl ⟨s, h, rfl⟩)
    have e : vecAdd M.kinds [(ups g s : Int)] (rowS (kdG g) s).k = [(ups g (s + 1) : Int)] := by
      rw [hk, ups_succ]
      show vecAdd _ _ (kdG g s) = _
      unfold kdG
      by_cases c0 : s % g = 0
      · rw [if_pos c0, if_pos c0, va_x]
        rfl
      · rw [if_neg c0, if_neg c0, va_none]
        rfl
    have := VPath.cons (t := rowS (kdG g) s) hp ht (by rw [e]; simp [belowB])
    rw [e] at this
    exact ⟨_, this⟩
theorem RowM.falls (R : RowM M N (kdG g)) (hk : M.kinds = (["x"] : List Str)) {ls : List (List Int)} (h : FallsOf M [(N : Int)] ls) : ls = [[(ups g N : Int)]] := by
  have er : List.replicate M.kinds.length (none : Option Int) = [none] := by rw [hk]; rfl
  obtain ⟨p, hp⟩ := R.vways hk N (Nat.le_refl _)
  have so : ∀ u ∈ ls, ∃ c : Int, u = [c] ∧ (ups g N : Int) ≤ c := fun u hu => by
    obtain ⟨g', hg', q, hq⟩ := h.so u hu
    rw [er] at hq
    rw [List.mem_singleton.mp hg'] at hq
    obtain ⟨s, h1, _, c, h3, h4⟩ := R.vpath hk hq
    have h1 : (N : Int) = s := h1
    have : s = N := by omega
    subst this
    exact ⟨c, h3, h4⟩
  rw [← er] at hp
  obtain ⟨_, u, hu, hle⟩ := h.co (N : Int) (by simp) _ p hp
  obtain ⟨c, rfl, hc⟩ := so u hu
  have hc2 : c ≤ (ups g N : Int) := by
    have := (below1 c (some (ups g N : Int))).mp hle _ rfl
    exact this
  have ec : c = (ups g N : Int) := by omega
  subst ec
  have all : ∀ y ∈ ls, y = [(ups g N : Int)] := fun y hy => by
    obtain ⟨c, rfl, hc⟩ := so y hy
    exact (h.mi [c] hy _ hu ((below1 _ (some c)).mpr fun i e => by cases e; exact hc)).symm
  rcases nd_one h.nd all with e | e
  · rw [e] at hu; cases hu
  · exact e
theorem RowM.ppath (R : RowM M N (kdG g)) (hk : M.kinds = (["x"] : List Str)) {f : Int} (f0 : 0 ≤ f) {nd : Node} {p : List Stp} (h : PPath M [some f] nd p) : ∃ s : Nat, nd.1 = s ∧ s ≤ N ∧ ∃ c : Int, nd.2 = [c] ∧ (ups g s : Int) ≤ c ∧ c ≤ f := by
  induction h with
  | nil =>
    refine ⟨0, rfl, Nat.zero_le _, 0, ?_, by simp [ups], f0⟩
    rw [hk]
    rfl
  | @cons v p t _ ht hb ih =>
    obtain ⟨s, h1, h2, c, h3, h4, h5⟩ := ih
    have h1 : t.s = s := h1
    have h3 : v = [c] := h3
    subst h3
    have cap0 : ∀ t : Stp, t.k = "" → capV M.kinds [some f] [c] t = [c] := fun t e => by unfold capV; rw [if_pos e]
    have cap1 : ∀ t : Stp, t.k = "x" → capV M.kinds [some f] [c] t = [c + 1] := fun t e => by
      unfold capV
      rw [if_neg (by rw [e]; decide), e, hk]
      rfl
    rcases (R.mem t).mp ht with ⟨a, ha, rfl⟩ | rfl
    · have e : (a : Int) = s := h1
      have e : a = s := by omega
      subst e
      refine ⟨a + 1, rfl, ha, ?_⟩
      rw [ups_succ]
      by_cases c0 : a % g = 0
      · have ek : (rowS (kdG g) a).k = "x" := by show kdG g a = _; unfold kdG; rw [if_pos c0]
        rw [cap1 _ ek] at hb ⊢
        rw [if_pos c0]
        exact ⟨c + 1, rfl, by omega, (below1 _ _).mp hb f rfl⟩
      · have ek : (rowS (kdG g) a).k = "" := by show kdG g a = _; unfold kdG; rw [if_neg c0]
        rw [cap0 _ ek] at hb ⊢
        rw [if_neg c0]
        exact ⟨c, rfl, by omega, h5⟩
    · rw [cap0 _ rfl]
      exact ⟨0, rfl, Nat.zero_le _, c, rfl, by simp [ups]; omega, h5⟩
end
section
variable {M : Mch} {N : Nat} {kd : Nat → Str}
theorem RowM.plen (R : RowM M N kd) {lims : List (Option Int)} {nd : Node} {p : List Stp} (h : PPath M lims nd p) : (∀ t ∈ p, t.s ∉ [(N : Int)]) → nd.1 = p.length := by
  induction h with
  | nil => intro _; rfl
  | @cons v p t _ ht hb ih =>
    intro hno
    have ih := ih fun t ht => hno t (List.mem_append_left _ ht)
    have ih : t.s = p.length := ih
    rcases (R.mem t).mp ht with ⟨a, ha, rfl⟩ | rfl
    · have e : (a : Int) = p.length := ih
      show (a : Int) + 1 = _
      rw [List.length_append, List.length_singleton]
      omega
    · exact absurd (show (backS N).s ∈ [(N : Int)] by simp [backS]) (hno _ (by simp))
/-- every state can be met where nothing is counted -/
theorem RowM.pways (R : RowM M N kd) {lims : List (Option Int)} {z : List Int} (hz : zeros M.kinds.length = z) (hc : ∀ a < N, capV M.kinds lims z (rowS kd a) = z) (hb : belowB z lims = true) : ∀ s : Nat, s ≤ N → ∃ p, PPath M lims ((s : Int), z) p
  | 0, _ => by
    refine ⟨[], ?_⟩
    rw [← hz]
    exact .nil
  | s + 1, h => by
    obtain ⟨p, hp⟩ := RowM.pways R hz hc hb s (by omega)
    have ht := (R.mem (rowS kd s)).mpr (.inl ⟨s, h, rfl⟩)
    have := PPath.cons (t := rowS kd s) hp ht (by rw [hc s h]; exact hb)
    rw [hc s h] at this
    exact ⟨_, this⟩
theorem cap_none {kd : Nat → Str} (hkd : ∀ a, kd a = "" ∨ kd a = "x") (a : Nat) : capV ["x"] [none] [0] (rowS kd a) = [0] := by
  unfold capV
  rcases hkd a with e | e
  · rw [if_pos (show (rowS kd a).k = "" from e)]
  · rw [if_neg (show ¬ (rowS kd a).k = "" by show ¬ kd a = ""; rw [e]; decide), show (rowS kd a).k = "x" from e]
    rfl
theorem cap_free (a : Nat) (hk : kd a = "") : capV [] [] [] (rowS kd a) = [] := by
  unfold capV
  rw [if_pos (show (rowS kd a).k = "" from hk)]
theorem kdG_or (g a : Nat) : kdG g a = "" ∨ kdG g a = "x" := by
  unfold kdG
  by_cases c : a % g = 0
  · rw [if_pos c]; exact .inr rfl
  · rw [if_neg c]; exact .inl rfl
end
end Al
set_option maxHeartbeats 4000000
/-! D34: the truth of the evidence; rules with K told. -/
namespace Al
open PySem PySem.Spec PyProof.Rows L2
section
variable {P : Program} {w : World} {K : PySem.W.Frag} {mg : Str → Option Value} {base : Heap}
def spBool (b : Bool) : Sp := fun vs H Q _ => ∃ x : Addr, vs = [.ref x] ∧ Q (.bl b) H
theorem ok_Kept_bool (T : Txt K mg) : MFn P w K mg base 1 "Kept" "__bool__" (spBool true) := by
  refine T.okM h_Kept_bool rfl (by decide +kernel) (by decide +kernel) sc_Kept_bool rfl rfl b_Kept_bool (fun vs H Q E h => ?_) (fun cdv A outer s H vs Q E hr h => ?_)
  · obtain ⟨x, rfl, _⟩ := h
    rfl
  · obtain ⟨x, rfl, q⟩ := h
    exact ⟨_, pss_one (ps_ret pe_bl), q⟩
theorem ok_Broken_bool (T : Txt K mg) : MFn P w K mg base 1 "Broken" "__bool__" (spBool false) := by
  refine T.okM h_Broken_bool rfl (by decide +kernel) (by decide +kernel) sc_Broken_bool rfl rfl b_Broken_bool (fun vs H Q E h => ?_) (fun cdv A outer s H vs Q E hr h => ?_)
  · obtain ⟨x, rfl, _⟩ := h
    rfl
  · obtain ⟨x, rfl, q⟩ := h
    exact ⟨_, pss_one (ps_ret pe_bl), q⟩
theorem ok_Stuck_bool (T : Txt K mg) : MFn P w K mg base 1 "Stuck" "__bool__" (spBool false) := by
  refine T.okM h_Stuck_bool rfl (by decide +kernel) (by decide +kernel) sc_Stuck_bool rfl rfl b_Stuck_bool (fun vs H Q E h => ?_) (fun cdv A outer s H vs Q E hr h => ?_)
  · obtain ⟨x, rfl, _⟩ := h
    rfl
  · obtain ⟨x, rfl, q⟩ := h
    exact ⟨_, pss_one (ps_ret pe_bl), q⟩
end
section
variable {X : Cx} {e e2 : Expr} {ta : TA} {p pos tpos : Pos} {elts : List Expr} {kk : Nat}
theorem pi_zipK (K : PySem.W.Frag) (hg : Gl X "zip") (hm : X.mg "zip" = none) (ha : PA X [e, e2] ta) (hK : X.K = K := by rfl)
    (hs : starEach [e, e2] X.env = (false, eval e X.env) :: starEach [e2] X.env := by rfl) (hpl : (backTo pos (starEach [e2] X.env)).any (·.1) = false := by rfl) :
    PI X (.Tuple elts kk tpos) (.Call (.Name "zip" p) [e, e2] [] pos) (RZ.iZipA K ta) := hK ▸ RZ.pi_zipA hg hm ha hs hpl
theorem op_catTK (K : PySem.W.Frag) (hK : X.K = K := by rfl) : OpR X (binaryOp .Add) (rCatT K) := hK ▸ op_catT
end
end Al
set_option maxHeartbeats 4000000
/-! M19: the rows as they are made; words for the law's end. -/
namespace Al
open PySem PySem.Spec PyProof.Rows L2
def rowT (kd : Nat → Str) (N : Nat) : List Stp := (List.range N).map (rowS kd) ++ [backS N]
theorem rowT_mem {kd : Nat → Str} {N : Nat} {t : Stp} : t ∈ rowT kd N ↔ (∃ a, a < N ∧ t = rowS kd a) ∨ t = backS N := by
  unfold rowT
  rw [List.mem_append, List.mem_map, List.mem_singleton]
  constructor
  · rintro (⟨a, h, e⟩ | h)
    · exact .inl ⟨a, List.mem_range.mp h, e.symm⟩
    · exact .inr h
  · rintro (⟨a, h, e⟩ | h)
    · exact .inl ⟨a, List.mem_range.mpr h, e.symm⟩
    · exact .inr h
theorem RowM.of {M : Mch} {N : Nat} {kd : Nat → Str} (h : MSame M (N + 1) (rowT kd N)) : RowM M N kd :=
  ⟨h.n, fun t => (h.mem t).trans rowT_mem, h.nd⟩
theorem rowT_ok {kd : Nat → Str} {N : Nat} (hk : ∀ a, KindOk (kd a)) : ∀ t ∈ rowT kd N, StpOk (N + 1) t ∧ KindOk t.k ∧ WdOk t.w := by
  intro t ht
  rcases rowT_mem.mp ht with ⟨a, ha, rfl⟩ | rfl
  · exact stepOk (by omega) (by omega) (by omega) (by omega) (hk a) (.inl rfl)
  · exact stepOk (by omega) (by omega) (by omega) (by omega) (.inl rfl) (.inr (.inl rfl))
theorem kdG_ok (g a : Nat) : KindOk (kdG g a) := by
  rcases kdG_or g a with e | e
  · exact .inl e
  · exact .inr (.inl e)
theorem row_kinds {M : Mch} {N g : Nat} (ok : MOk M) (hN : 1 ≤ N) (h : MSame M (N + 1) (rowT (kdG g) N)) : M.kinds = (["x"] : List Str) := by
  refine kinds_x ok.knd fun k => ?_
  rw [h.knd]
  constructor
  · rintro ⟨h1, t, ht, rfl⟩
    rcases rowT_mem.mp ht with ⟨a, ha, rfl⟩ | rfl
    · exact (kdG_or g a).elim (fun z => absurd z h1) id
    · exact absurd rfl h1
  · rintro rfl
    refine ⟨by decide, rowS (kdG g) 0, rowT_mem.mpr (.inl ⟨0, hN, rfl⟩), ?_⟩
    show kdG g 0 = _
    unfold kdG
    rw [if_pos (Nat.zero_mod g)]
theorem free_kinds {M : Mch} {N : Nat} {kd : Nat → Str} (hk : ∀ a, kd a = "") (h : MSame M (N + 1) (rowT kd N)) : M.kinds = [] := by
  refine kinds_none fun k hk' => ?_
  obtain ⟨h1, t, ht, rfl⟩ := (h.knd k).mp hk'
  rcases rowT_mem.mp ht with ⟨a, ha, rfl⟩ | rfl
  · exact h1 (hk a)
  · exact h1 rfl
/-- steps told by their places -/
theorem stps_rng {H : Hp} : ∀ {n : Nat} {f : Nat → Stp} {os : List (Option V)}, os.length = n → (∀ i o, os[i]? = some o → ∃ a, o = some (.ref a) ∧ StpR H a (f i)) → ∃ as : List Addr, os.filterMap id = as.map V.ref ∧ StpsAt H as ((List.range n).map f) ∧ as.length = n
  | 0, f, os, hl, _ => by
    have : os = [] := List.length_eq_zero_iff.mp hl
    subst this
    exact ⟨[], rfl, .nil, rfl⟩
  | n + 1, f, [], hl, _ => by cases hl
  | n + 1, f, o :: os, hl, h => by
    obtain ⟨as, e, p, l⟩ := stps_rng (n := n) (f := fun i => f (i + 1)) (os := os) (by simpa using hl) fun i o ho => h (i + 1) o (by simpa using ho)
    obtain ⟨a, rfl, ha⟩ := h 0 o rfl
    refine ⟨a :: as, by rw [List.filterMap_cons, e]; rfl, ?_, by rw [List.length_cons, l]⟩
    rw [List.range_succ_eq_map, List.map_cons, List.map_map]
    exact .cons ha p
theorem words_of {H : Hp} : ∀ {os : List (Option V)}, (∀ o ∈ os, ∃ w : Str, o = some (.str w) ∧ w ≠ "") → ∃ ws : List Str, os.filterMap id = ws.map V.str ∧ ∀ w ∈ ws, w ≠ ""
  | [], _ => ⟨[], rfl, fun w h => by cases h⟩
  | o :: os, h => by
    obtain ⟨ws, e, k⟩ := words_of (H := H) (os := os) fun o ho => h o (List.mem_cons_of_mem _ ho)
    obtain ⟨w, rfl, hw⟩ := h o (by simp)
    refine ⟨w :: ws, by rw [List.filterMap_cons, e]; rfl, fun u hu => ?_⟩
    rcases List.mem_cons.mp hu with rfl | hu
    · exact hw
    · exact k u hu
theorem fm_len (p : Nat → Prop) [DecidablePred p] (c : V) : ∀ xs : List Nat, (xs.filterMap fun i => if p i then some c else none).length = (xs.filter fun i => decide (p i)).length
  | [] => rfl
  | x :: xs => by
    rw [List.filterMap_cons, List.filter_cons]
    by_cases h : p x
    · rw [if_pos h, decide_eq_true h]
      simp only [List.length_cons, if_true, fm_len p c xs]
    · rw [if_neg h, decide_eq_false h]
      simp only [fm_len p c xs]
      rfl
theorem ups_len (g n : Nat) (c : V) : ((List.range n).filterMap fun i => if i % g = 0 then some c else none).length = ups g n := fm_len (fun i => i % g = 0) c (List.range n)
theorem eqv_one (u : List Int) : PyData.eqv (.list [dV u]) (.list [dV u]) = true := by
  show (PyData.eqv (dV u) (dV u) && true) = true
  rw [eqv_v, decide_eq_true rfl]
  rfl
theorem rgV_nat (n : Nat) : rgV 0 (n : Int) = ((List.range n).map fun (s : Nat) => (s : Int)).map V.int := by
  unfold rgV
  rw [List.map_map, Int.sub_zero, Int.toNat_natCast]
  refine List.map_congr_left fun i _ => ?_
  show V.int (0 + (i : Int)) = V.int (i : Int)
  rw [Int.zero_add]
/-! ### allowances of one kind -/
def alX (l : Option Int) : List (Str × Option Int) := [("x", l)]
theorem alX_ok {l : Option Int} (h : ∀ i, l = some i → 0 ≤ i) : AlOk (alX l) := by
  refine ⟨fun p hp => ?_, fun p hp i e => ?_, by show 1 ≤ 1000; decide, by simp [alX]⟩
  · rw [List.mem_singleton.mp hp]
    exact ⟨120, by decide, by decide, by kernel_rfl⟩
  · rw [List.mem_singleton.mp hp] at e
    exact h i e
theorem alX_get (l : Option Int) : alGet (alX l) "x" = l := by
  unfold alGet alX
  rw [List.find?_cons_of_pos (by simp)]
theorem al0_ok : AlOk [] := by
  refine ⟨fun p h => (by cases h), fun p h => (by cases h), (by decide), ?_⟩
  exact List.Pairwise.nil
theorem alX_D (l : Option Int) : mergeK [] [((.inr "x" : Key), lv l)] = alK (alX l) := by
  cases l <;> kernel_rfl
theorem lims_none {M : Mch} (hk : M.kinds = (["x"] : List Str)) : limsN M (alX none) = [none] := by
  unfold limsN
  rw [hk]
  show [cutL M.n (alGet (alX none) "x")] = _
  rw [alX_get]
  rfl
theorem lims_some {M : Mch} (hk : M.kinds = (["x"] : List Str)) {f : Int} (hf : f < M.n) : limsN M (alX (some f)) = [some f] := by
  unfold limsN
  rw [hk]
  show [cutL M.n (alGet (alX (some f)) "x")] = _
  rw [alX_get]
  show [if (M.n : Int) ≤ f then none else some f] = _
  rw [if_neg (by omega)]
theorem get_none {M : Mch} (hk : M.kinds = (["x"] : List Str)) : M.kinds.map (alGet (alX none)) = [none] := by
  rw [hk]
  show [alGet (alX none) "x"] = _
  rw [alX_get]
section
variable {M : Mch} {N g : Nat}
theorem RowM.reach (R : RowM M N (kdG g)) (hk : M.kinds = (["x"] : List Str)) : ∀ s : Int, 0 ≤ s → s < M.n → ∃ nd p, PPath M (limsN M (alX none)) nd p ∧ nd.1 = s := by
  intro s h0 h1
  obtain ⟨i, rfl⟩ := Int.eq_ofNat_of_zero_le h0
  rw [R.n] at h1
  rw [lims_none hk]
  obtain ⟨p, hp⟩ := R.pways (lims := [none]) (z := [0]) (by rw [hk]; rfl) (fun a _ => by rw [hk]; exact cap_none (kdG_or g) a) (by decide) i (by omega)
  exact ⟨_, p, hp, rfl⟩
theorem RowM.reach_free {kd : Nat → Str} (R : RowM M N kd) (h : ∀ a, kd a = "") (hk : M.kinds = []) : ∀ s : Int, 0 ≤ s → s < M.n → ∃ nd p, PPath M (limsN M []) nd p ∧ nd.1 = s := by
  intro s h0 h1
  obtain ⟨i, rfl⟩ := Int.eq_ofNat_of_zero_le h0
  rw [R.n] at h1
  have e : limsN M [] = [] := by unfold limsN; rw [hk]; rfl
  rw [e]
  obtain ⟨p, hp⟩ := R.pways (lims := []) (z := []) (by rw [hk]; rfl) (fun a _ => by rw [hk]; exact cap_free a (h a)) (by decide) i (by omega)
  exact ⟨_, p, hp, rfl⟩
/-- the longest run of own steps -/
theorem RowM.longest (R : RowM M N (kdG g)) (hk : M.kinds = (["x"] : List Str)) (hg : 1 < g) (hN : g < N) {rk : NM} {b : Int} {r : Nat} (h : SrI M [(N : Int)] rk) (hb : (b, r) ∈ rk) (hall : ∀ nd p, VPath M (M.kinds.map (alGet (alX none))) nd p → ∃ r0, (nd.1, r0) ∈ rk ∧ r0 ≤ r) : r = g - 1 := by
  obtain ⟨i, rfl, hi⟩ := h.bdN R hb
  obtain ⟨h1, h2⟩ := h.gap_le hg R r i hi hb
  rw [get_none hk] at hall
  obtain ⟨p, hp⟩ := R.vways hk 1 (by omega)
  obtain ⟨r0, h3, h4⟩ := hall _ p hp
  have e := h.gap_at hg hN R (g - 1) r0 (by omega) (by rw [show g - (g - 1) = 1 by omega]; exact h3)
  by_cases c : i % g = 0
  · have := h1 c
    omega
  · omega
theorem RowM.longest_free {kd : Nat → Str} (R : RowM M N kd) (hf : ∀ a, kd a = "") (hk : M.kinds = []) {rk : NM} {b : Int} {r : Nat} (h : SrI M [(N : Int)] rk) (hb : (b, r) ∈ rk) (hall : ∀ nd p, VPath M (M.kinds.map (alGet [])) nd p → ∃ r0, (nd.1, r0) ∈ rk ∧ r0 ≤ r) : r = N := by
  obtain ⟨i, rfl, hi⟩ := h.bdN R hb
  have e1 := h.free R hf r i hi hb
  obtain ⟨r0, h3, h4⟩ := hall _ _ (.nil (by rw [hk]; decide))
  have e2 := h.free R hf r0 0 (Nat.zero_le _) h3
  omega
theorem RowM.far_free {kd : Nat → Str} (R : RowM M N kd) (hf : ∀ a, kd a = "") {rk : NM} {b : Int} {r : Nat} (h : Ranks M [(N : Int)] rk) (hb : (b, r) ∈ rk) (hmax : ∀ r0, ((0 : Int), r0) ∈ rk → r0 ≤ r) : r = N := by
  have e := h.free_at R r b hb
  have b0 := (h.lt b r hb).1
  have k := Ranks.free R hf h N (Nat.le_refl _)
  rw [Nat.sub_self] at k
  obtain ⟨r0, hr0⟩ := nm_keys k
  have e0 := h.free_at R r0 _ hr0
  have := hmax r0 hr0
  omega
theorem Ranks.gap_stuck (hg : 1 < g) (hN : 1 ≤ N) (R : RowM M N (kdG g)) {rk : NM} (h : Ranks M [(N : Int)] rk) : 0 ∈ deadL M rk := by
  rw [Ranks.gap_dead hg hN R h]
  have := Nat.mod_le (N - 1) g
  exact List.mem_map.mpr ⟨0, List.mem_range.mpr (by omega), rfl⟩
end
end Al
set_option maxHeartbeats 8000000
/-! L1: the law from the long row on. -/
namespace Al
open PySem PySem.Spec PyProof.Rows L2
theorem cut_at {t u : TS} {D : L2.Ends} {σ : L2.St} {H : Hp} (B : Hp → Prop) (h1 : t { D with nx := fun σ' H' => σ' = σ ∧ B H' } σ H) (h2 : ∀ H', B H' → u D σ H') : C8.tCut t u D σ H := ⟨_, h1, fun σ' H' ⟨e, b⟩ => e ▸ h2 H' b⟩
theorem PSs.imp {X : Cx} {b : List Stmt} {t t' : TS} (h : PSs X b t) (k : ∀ D σ H, t' D σ H → t D σ H) : PSs X b t' := ⟨fun pins s σ H D I q => h.run pins s σ H D I (k D σ H q)⟩
/-- steps made of steps, place by place -/
theorem stps_ix {H : Hp} {f : Stp → Stp} : ∀ {ts : List Stp} {os : List (Option V)}, os.length = ts.length → (∀ (i : Nat) (o : Option V) (t : Stp), os[i]? = some o → ts[i]? = some t → ∃ a : Addr, o = some (.ref a) ∧ StpR H a (f t)) → ∃ as : List Addr, os.filterMap id = as.map V.ref ∧ StpsAt H as (ts.map f) ∧ as.length = ts.length
  | [], os, hl, _ => by
    have : os = [] := List.length_eq_zero_iff.mp hl
    subst this
    exact ⟨[], rfl, .nil, rfl⟩
  | t :: ts, [], hl, _ => by cases hl
  | t :: ts, o :: os, hl, h => by
    obtain ⟨as, e, p, l⟩ := stps_ix (f := f) (ts := ts) (os := os) (by simpa using hl) fun i o t ho ht => h (i + 1) o t (by simpa using ho) (by simpa using ht)
    obtain ⟨a, rfl, ha⟩ := h 0 o t rfl rfl
    exact ⟨a :: as, by rw [List.filterMap_cons, e]; rfl, .cons ha p, by rw [List.length_cons, List.length_cons, l]⟩
def frS (t : Stp) : Stp := ⟨t.s, "", t.w, t.g⟩
theorem row_fr (kd : Nat → Str) (N : Nat) : (rowT kd N).map frS = rowT (fun _ => "") N := by
  unfold rowT
  rw [List.map_append, List.map_map]
  rfl
def lawRow : List Stmt := (defBody s_law).drop 12
section
variable {P : Program} {w : World} {K : PySem.W.Frag} {mg : Str → Option Value} {base : Heap} {cf Pf cd Pd : Addr}
def spRowT (K : PySem.W.Frag) (Pf Pd : Addr) : TS := fun D σ H => ∃ (sa : Addr) (ns : List Int) (o1 o2 o3 o4 o5 o6 o7 o8 o9 o10 o11 o12 o13 : Option V), σ = [some (.ref sa), o1, o2, o3, o4, o5, o6, o7, o8, o9, o10, o11, o12, o13, none, none, none, none, none, none, none, none, none, none, none, none, none, none, none] ∧ SqL K H sa (ns.map V.int) ∧ ns.length ≤ 63 ∧ LamX.Tabs (TT Pf Pd) H ∧ ∀ H', D.rt (.bl true) H'
theorem law_row (T : Txt K mg) (U : Txt2 P K) (L : TxtL K mg base cf Pf cd Pd) (cdv : Value) (A : Around) (outer : List Env) (s : Shared) (H : Hp) (E : XK) (hr : Room 8 (A.deeper (envOfC d_law.qual d_law.scope s.heap.objs.size (He.fAd K d_law.at_) cdv))) :
    PSs (cxOf CX0 P w K mg base N_law d_law.qual d_law.scope (He.fAd K d_law.at_) cdv A outer s H E).nox lawRow (spRowT K Pf Pd) := by
  refine PSs.imp ((pss_cons (ps_asg (pe_tup (pa_cons (pe_op op_add pe_int (pe_f (ok_law_draw T) (hr.mono (by decide)) (pa_cons (pv 0) (pa_cons pe_int (pa_cons pe_int pa_nil))))) (pa_cons (pe_op op_add pe_int (pe_f (ok_law_draw T) (hr.mono (by decide)) (pa_cons (pv 0) (pa_cons pe_int (pa_cons pe_int pa_nil))))) pa_nil))) (pg_t K 2 rfl (pgs_cons (pg_l (i := 14) sc_law.nd rfl rfl) (pgs_cons (pg_c (i := 15) sc_law.nd rfl rfl rfl) pgs_nil))))
        (pss_cons (ps_l (i := 16) sc_law.nd rfl rfl (pe_op op_cat (pe_lc (own := [("_law_at", 22)]) rfl sc_law.nd (pi_range1 (by rfl) (T.f "range") (pa_cons (pv 14) pa_nil)) (blkOk_by (own := [("_law_at", 22)]) (N := N_law) (sc := defScope s_law) (by decide +kernel)) (fun _ _ _ _ _ => (pg_l (i := 22) sc_law.nd rfl rfl)) (fun _ _ _ _ _ => pts_nil) (fun _ _ _ _ _ => (pe_tup (pa_cons (pv 22) (pa_cons (pe_ifExp (pt_cmpR op_eq (pe_op op_mod (pv 22) (pv 15)) pe_int (nomark _)) pe_str pe_str) (pa_cons pe_str (pa_cons (pe_op op_add (pv 22) pe_int) pa_nil))))))) (pe_lst (pa_cons (pe_tup (pa_cons (pv 14) (pa_cons pe_str (pa_cons pe_str (pa_cons pe_int pa_nil))))) pa_nil))))
        (pss_cons (ps_l (i := 17) sc_law.nd rfl rfl (pe_mk (ok_Machine_init T) (hr.mono (by decide)) (pa_cons (pe_op op_add (pv 14) pe_int) (pa_cons (pv 16) pa_nil))))
        (pss_cons (ps_l (i := 18) sc_law.nd rfl rfl (pe_callB (cLen K) (by rfl) (T.f "len") (by decide +kernel) (pa_cons (pe_lc (own := [("_law_at", 22)]) rfl sc_law.nd (pi_range1 (by rfl) (T.f "range") (pa_cons (pv 14) pa_nil)) (blkOk_by (own := [("_law_at", 22)]) (N := N_law) (sc := defScope s_law) (by decide +kernel)) (fun _ _ _ _ _ => (pg_l (i := 22) sc_law.nd rfl rfl)) (fun _ _ _ _ _ => (pts_one (pt_cmpR op_eq (pe_op op_mod (pv 22) (pv 15)) pe_int (nomark _)))) (fun _ _ _ _ _ => pe_int)) pa_nil)))
        (C8.pss_cut (ps_if (PW.pt (pw_or (pt_cmpR (op_neDK K hr.units) (pe_at (T.c "Least") (T.n "Least" "vectors") (pe_f (ok_least_falls T U) (hr.mono (by decide)) (pa_cons (pv 17) (pa_cons (pe_tup (pa_cons (pv 14) pa_nil)) pa_nil)))) (pe_lst (pa_cons (pe_tup (pa_cons (pv 18) pa_nil)) pa_nil)) (nomark _)) (pw_or1 (pt_cmpR op_isnot_bl (pe_callTy (callR_or (call_boolO (C := He.ga K "Kept") (ok_Kept_bool T).run (hr.mono (by decide)) (T.m "Kept" "__bool__").at_ (T.m "Kept" "__bool__").fn) (call_boolO (C := He.ga K "Broken") (ok_Broken_bool T).run (hr.mono (by decide)) (T.m "Broken" "__bool__").at_ (T.m "Broken" "__bool__").fn)) (by rfl) (T.f "bool") (by decide +kernel) (pa_cons (pe_f (ok_judge_never T U) (hr.mono (by decide)) (pa_cons (pv 17) (pa_cons (pe_tup (pa_cons (pv 14) pa_nil)) (pa_cons (pe_disp (pps_cons pe_str (pe_op op_sub (pv 18) pe_int) pps_nil) (by rfl) (by rfl) (fun z => by cases z) (by decide)) pa_nil)))) pa_nil)) pe_bl (nomark _))))) 
        (pss_one (ps_ret pe_bl))
        pss_nil)
        (C8.pss_cut (ps_if (PW.pt (pw_or (pt_cmpR op_ne (pe_callB (cLen K) (by rfl) (T.f "len") (by decide +kernel) (pa_cons (pe_at (T.c "Broken") (T.n "Broken" "run") (pe_f (ok_judge_never T U) (hr.mono (by decide)) (pa_cons (pv 17) (pa_cons (pe_tup (pa_cons (pv 14) pa_nil)) (pa_cons (pe_disp (pps_cons pe_str pe_non pps_nil) (by rfl) (by rfl) (fun z => by cases z) (by decide)) pa_nil))))) pa_nil)) (pv 14) (nomark _)) (pw_or1 (pt_cmpR (op_neDK K hr.units) (pe_f (ok_dead_states T) (hr.mono (by decide)) (pa_cons (pv 17) (pa_cons (pe_tup (pa_cons (pv 14) pa_nil)) pa_nil))) (pe_tupRg rfl (by rfl) (T.f "tuple") (prg_1 (by rfl) (T.f "range") (pe_op op_sub (pv 14) (pe_op op_mod (pe_op op_sub (pv 14) pe_int) (pv 15))))) (nomark _))))) 
        (pss_one (ps_ret pe_bl))
        pss_nil)
        (pss_cons (ps_l (i := 19) sc_law.nd rfl rfl (pe_op op_sub (pv 14) (pe_op op_sub (pv 14) (pe_op op_mod (pe_op op_sub (pv 14) pe_int) (pv 15)))))
        (C8.pss_cut (ps_if (PW.pt (pw_or (pt_val (pe_callTy (call_boolO (C := He.ga K "Stuck") (ok_Stuck_bool T).run (hr.mono (by decide)) (T.m "Stuck" "__bool__").at_ (T.m "Stuck" "__bool__").fn) (by rfl) (T.f "bool") (by decide +kernel) (pa_cons (pe_f (ok_judge_can T U) (hr.mono (by decide)) (pa_cons (pv 17) (pa_cons (pe_tup (pa_cons (pv 14) pa_nil)) (pa_cons (pe_disp (pps_cons pe_str pe_int pps_nil) (by rfl) (by rfl) (fun z => by cases z) (by decide)) pa_nil)))) pa_nil))) (pw_or1 (pt_cmpR op_ne (pe_at (T.c "Longest") (T.n "Longest" "number") (pe_f (ok_delay T U L) (hr.mono (by decide)) (pa_cons (pv 17) (pa_cons (pe_tup (pa_cons (pv 14) pa_nil)) (pa_cons (pe_disp (pps_cons pe_str pe_non pps_nil) (by rfl) (by rfl) (fun z => by cases z) (by decide)) pa_nil))))) (pe_callB (call_min2 rfl) (by rfl) (T.f "min") (by decide +kernel) (pa_cons (pe_op op_sub (pv 15) pe_int) (pa_cons (pe_op op_sub (pv 14) pe_int) pa_nil))) (nomark _))))) 
        (pss_one (ps_ret pe_bl))
        pss_nil)
        (pss_cons (ps_l (i := 20) sc_law.nd rfl rfl (pe_mk (ok_Machine_init T) (hr.mono (by decide)) (pa_cons (pe_op op_add (pv 14) pe_int) (pa_cons (pe_lc (own := [("_law_step", 23)]) rfl sc_law.nd (pi_list (pv 16)) (blkOk_by (own := [("_law_step", 23)]) (N := N_law) (sc := defScope s_law) (by decide +kernel)) (fun _ _ _ _ _ => (pg_l (i := 23) sc_law.nd rfl rfl)) (fun _ _ _ _ _ => pts_nil) (fun _ _ _ _ _ => (pe_op (op_catTK K) (pe_op (op_catTK K) (pe_slice (sl_cut K) (pv 23) po_none (po_some pe_int)) (pe_tup (pa_cons pe_str pa_nil))) (pe_slice (sl_cut K) (pv 23) (po_some pe_int) po_none)))) pa_nil))))
        (pss_one (ps_ret (pe_and (pe_cmpR op_eq (pe_at (T.c "Farthest") (T.n "Farthest" "number") (pe_f (ok_farthest T U L) (hr.mono (by decide)) (pa_cons (pv 20) (pa_cons (pe_tup (pa_cons (pv 14) pa_nil)) (pa_cons pe_dnewK pa_nil))))) (pv 14) (nomark _)) (pe_and (pe_cmpR op_eq (pe_at (T.c "Longest") (T.n "Longest" "number") (pe_f (ok_delay T U L) (hr.mono (by decide)) (pa_cons (pv 20) (pa_cons (pe_tup (pa_cons (pv 14) pa_nil)) (pa_cons pe_dnewK pa_nil))))) (pv 14) (nomark _)) (pe_one (pe_cmpR op_ge (pv 19) pe_int (nomark _))))))))))))))))) ?_
  rintro D σ H0 ⟨sa, ns, o1, o2, o3, o4, o5, o6, o7, o8, o9, o10, o11, o12, o13, rfl, hs, hl, hT, q⟩
  have qF : ∀ {b : Bool} {H' : Hp}, b = true → D.rt (.bl b) H' := fun e => e ▸ q _
  -- size, gap
  refine ⟨_, rfl, sa, ns, 500, 60, rfl, hs, by omega, by decide, by decide, by decide, fun H1 d1 s1 d10 d11 => ⟨20, d1, rfl, rfl, ?_⟩⟩
  refine ⟨_, rfl, sa, ns, 501, 5, rfl, s1.seq hs, by omega, by decide, by decide, by decide, fun H2 d2 s2 d20 d21 => ⟨2, d2, rfl, rfl, ?_⟩⟩
  obtain ⟨N, hN⟩ : ∃ N : Nat, (20 : Int) + d1 = N := Int.eq_ofNat_of_zero_le (by omega)
  obtain ⟨g, hg⟩ : ∃ g : Nat, (2 : Int) + d2 = g := Int.eq_ofNat_of_zero_le (by omega)
  rw [show ((fun i j : Int => V.int (i + j)) 20 d1) = .int (N : Int) by rw [← hN], show ((fun i j : Int => V.int (i + j)) 2 d2) = .int (g : Int) by rw [← hg]]
  have N0 : 20 ≤ N := by omega
  have N1 : N ≤ 79 := by omega
  have g0 : 1 < g := by omega
  have g1 : g ≤ 6 := by omega
  clear hN hg
  refine ⟨(by show 2 ≤ sizeLine; decide), fun T5 hT5 => ?_⟩
  have s3 : Same H2 (upd H2 T5 (.tup [.int (N : Int), .int (g : Int)])) := smNew hT5
  have eT5 : (upd H2 T5 (.tup [.int (N : Int), .int (g : Int)])) T5 = some (.tup [.int (N : Int), .int (g : Int)]) := upd_same
  generalize upd H2 T5 (.tup [.int (N : Int), .int (g : Int)]) = H3 at s3 eT5
  refine ⟨T5, _, rfl, SqT.of eT5, rfl, _, _, rfl, _, _, rfl, rfl, ?_⟩
  have hT3 : LamX.Tabs (TT Pf Pd) H3 := hT.ext fun b o h => ((s1.trans s2).trans s3) b o h
  clear eT5 s1 s2 s3 hs hl hT hT5 d10 d11 d20 d21
  -- the row
  refine ⟨_, rfl, _, rfl, by omega, by omega, ?_⟩
  refine lcR walk_range (fun D i o H' => ∃ a, o = some (.ref a) ∧ a ≠ D ∧ StpR H' a (rowS (kdG g) i)) (fun D i o Ha Hb ⟨a, y1, y2, y3⟩ sb => ⟨a, y1, y2, sb _ _ y2 y3⟩) (fun _ _ => trivial) (by omega) ?_ ?_
  · rintro D6 i v Ha Hb acc hi hD sA eD ⟨rfl, rfl⟩ Kt kk
    rw [show ((fun i : Nat => V.int (0 + (i : Int))) i) = V.int (i : Int) by show V.int (0 + (i : Int)) = _; rw [Int.zero_add]]
    refine ⟨rfl, _, rfl, _, rfl, _, rfl, (i : Int), (g : Int), rfl, rfl, by omega, rfl, ?_⟩
    by_cases c : i % g = 0
    · have ek : kdG g i = "x" := by unfold kdG; rw [if_pos c]
      refine ⟨true, congrArg V.bl (decide_eq_true (congrArg V.int (show ((i : Int) % (g : Int)) = 0 by rw [← Int.natCast_emod, c]; rfl))), _, rfl, (i : Int), 1, rfl, rfl, (by show 4 ≤ sizeLine; decide), fun p hp => ?_⟩
      refine kk (some (.ref p)) _ (smNew hp) ⟨p, rfl, (fun z => by rw [← z, hp] at eD; cases eD), ?_⟩
      show _ = some (HO.tup [.int (i : Int), .str (kdG g i), .str "", .int ((i : Int) + 1)])
      rw [ek]
      exact upd_same
    · have ek : kdG g i = "" := by unfold kdG; rw [if_neg c]
      refine ⟨false, congrArg V.bl (decide_eq_false fun z => c (by have z := V.int.inj z; rw [← Int.natCast_emod] at z; omega)), _, rfl, (i : Int), 1, rfl, rfl, (by show 4 ≤ sizeLine; decide), fun p hp => ?_⟩
      refine kk (some (.ref p)) _ (smNew hp) ⟨p, rfl, (fun z => by rw [← z, hp] at eD; cases eD), ?_⟩
      show _ = some (HO.tup [.int (i : Int), .str (kdG g i), .str "", .int ((i : Int) + 1)])
      rw [ek]
      exact upd_same
  · intro D6 H4 os hD s4 eD olen hos
    obtain ⟨asr, eos, hst, alen⟩ := stps_rng (H := H4) (n := N) (f := rowS (kdG g)) (os := os) (by rw [olen]; omega) fun i o ho => by
      obtain ⟨a, y1, y2, y3⟩ := hos i o ho
      exact ⟨a, y1, y3⟩
    rw [eos] at eD
    refine ⟨_, rfl, (by show 4 ≤ sizeLine; decide), fun t1 ht1 => ⟨(by show 1 ≤ sizeLine; decide), fun l2 hl2 => ?_⟩⟩
    have b1 := smNew ht1 (o := .tup [.int (N : Int), .str "", .str "a", .int 0])
    have et1 : (upd H4 t1 (.tup [.int (N : Int), .str "", .str "a", .int 0])) t1 = some (.tup [.int (N : Int), .str "", .str "a", .int 0]) := upd_same
    generalize upd H4 t1 (.tup [.int (N : Int), .str "", .str "a", .int 0]) = H5 at b1 et1 hl2
    have b2 : Same H5 (upd H5 l2 (.lst [.ref t1])) := smNew hl2
    have el2 : (upd H5 l2 (.lst [.ref t1])) l2 = some (.lst [.ref t1]) := upd_same
    generalize upd H5 l2 (.lst [.ref t1]) = H6 at b2 el2
    refine ⟨D6, l2, _, _, rfl, rfl, b2 _ _ (b1 _ _ eD), el2, (by rw [List.length_map]; exact szOf (by show asr.length + 1 ≤ _; omega)), fun l3 hl3 => ?_⟩
    have b3 : Same H6 (upd H6 l3 (.lst (asr.map V.ref ++ [.ref t1]))) := smNew hl3
    have el3 : (upd H6 l3 (.lst (asr.map V.ref ++ [.ref t1]))) l3 = some (.lst ((asr ++ [t1]).map V.ref)) := by rw [upd_same, List.map_append]; rfl
    generalize upd H6 l3 (.lst (asr.map V.ref ++ [.ref t1])) = H7 at b3 el3
    have hst7 : StpsAt H7 (asr ++ [t1]) (rowT (kdG g) N) := paired_app (hst.sm ((b1.trans b2).trans b3)) (.cons (b3 _ _ (b2 _ _ et1)) .nil)
    have alen7 : (asr ++ [t1]).length = N + 1 := by rw [List.length_append, alen]; rfl
    have hT7 : LamX.Tabs (TT Pf Pd) H7 := hT3.ext fun b o h => (s4.trans ((b1.trans b2).trans b3)) b o h
    generalize asr ++ [t1] = as at el3 hst7 alen7
    clear b1 b2 b3 et1 el2 ht1 hl2 hl3 hst alen eos eD olen hos hD s4 hT3
    -- the machine
    refine ⟨_, rfl, (N : Int), 1, rfl, rfl, _, rfl, fun x dx hx hdx ndx => ?_⟩
    have sx : Same H7 (upd (upd H7 dx (.own x)) x (.ins (He.ga K "Machine") dx [])) := smMut (smNew hdx) hx
    refine ⟨x, dx, l3, N + 1, as, rowT (kdG g) N, rfl, upd_same, sx _ _ el3, hst7.sm sx, by omega, by omega, by omega, rowT_ok (kdG_ok g), fun H8 M sb8 mM hM => ⟨rfl, ?_⟩⟩
    have s78 : Same H7 H8 := same_but hx sx sb8
    have el8 := s78 _ _ el3
    have hst8 := hst7.sm s78
    have hT8 : LamX.Tabs (TT Pf Pd) H8 := hT7.ext fun b o h => s78 b o h
    have R := RowM.of hM
    have hk := row_kinds mM.ok (by omega) hM
    have nM : M.n = N + 1 := R.n
    clear el3 hst7 hT7 sx sb8 s78 hx hdx ndx hM
    -- the falls
    refine ⟨_, rfl, _, rfl, by omega, by omega, ?_⟩
    refine lcV walk_range (fun i => if i % g = 0 then some (.int 1) else none) (fun _ _ => trivial) (by omega) ?_ ?_
    · rintro i v Ha Hb hi sA ⟨rfl, rfl⟩ Kt kk
      rw [show ((fun i : Nat => V.int (0 + (i : Int))) i) = V.int (i : Int) by show V.int (0 + (i : Int)) = _; rw [Int.zero_add]]
      refine ⟨rfl, _, rfl, _, rfl, (i : Int), (g : Int), rfl, rfl, by omega, rfl, ?_⟩
      have k := kk Hb (Same.refl _)
      by_cases c : i % g = 0
      · rw [if_pos c] at k
        exact ⟨true, congrArg V.bl (decide_eq_true (congrArg V.int (show ((i : Int) % (g : Int)) = 0 by rw [← Int.natCast_emod, c]; rfl))), k⟩
      · rw [if_neg c] at k
        exact ⟨false, congrArg V.bl (decide_eq_false fun z => c (by have z := V.int.inj z; rw [← Int.natCast_emod] at z; omega)), k⟩
    · intro D7 H9 hD7 s9 eD7
      rw [Int.toNat_natCast] at eD7
      refine ⟨D7, _, rfl, .inl (.of eD7), ?_⟩
      rw [ups_len]
      have el9 := s9 _ _ el8
      have hst9 := hst8.sm s9
      have hT9 : LamX.Tabs (TT Pf Pd) H9 := hT8.ext fun b o h => s9 b o h
      have m9 := mM.sm s9
      clear el8 hst8 hT8 mM s9 eD7 hD7
      have pw1 : ([(N : Int)] : List Int).Pairwise (· < ·) := by simp
      have sb1 : ∀ s ∈ [(N : Int)], 0 ≤ s ∧ s < M.n := fun s hs => by rw [List.mem_singleton.mp hs, nM]; omega
      have u1 : 1 ≤ ups g N := ups_pos (by omega)
      have u2 : ups g N ≤ N := ups_le g N
      -- the least falls, never
      refine cut_at (Same H9) ?_ fun Hk sk => ?_
      · refine ⟨_, rfl, _, rfl, (by show 1 ≤ sizeLine; decide), fun t2 ht2 => ?_⟩
        have c1 : Same H9 (upd H9 t2 (.tup [.int (N : Int)])) := smNew ht2
        refine ⟨x, t2, M, [(N : Int)], rfl, m9.sm c1, .of upd_same, pw1, sb1, fun H10 xa dxa fsa la ba lsa c2 exa lka ela hva hFa _ => ⟨xa, dxa, _, _, rfl, exa, lka, ?_⟩⟩
        have c12 := c1.trans c2
        obtain rfl := R.falls hk hFa
        refine ⟨_, rfl, (by show 1 ≤ sizeLine; decide), fun t3 ht3 => ⟨(by show 1 ≤ sizeLine; decide), fun l4 hl4 => ?_⟩⟩
        have c3 : Same H10 (upd H10 t3 (.tup [.int (ups g N : Int)])) := smNew ht3
        have et3 : (upd H10 t3 (.tup [.int (ups g N : Int)])) t3 = some (.tup ([(ups g N : Int)].map V.int)) := upd_same
        generalize upd H10 t3 (.tup [.int (ups g N : Int)]) = H11 at c3 et3 hl4
        have c4 : Same H11 (upd H11 l4 (.lst [.ref t3])) := smNew hl4
        refine ⟨.list ([[(ups g N : Int)]].map dV), .list ([[(ups g N : Int)]].map dV), .lst (.of (c4 _ _ (c3 _ _ ela))) (dp_vs (hva.sm (c3.trans c4))), .lst (.of upd_same) (.cons (dp_v (.of (c4 _ _ et3))) .nil), shaped_vs _, shaped_vs _, ?_⟩
        have c14 := c12.trans (c3.trans c4)
        generalize upd H11 l4 (.lst [.ref t3]) = H12 at c14
        refine ⟨false, congrArg V.bl (by rw [show PyData.eqv (.list ([[(ups g N : Int)]].map dV)) (.list ([[(ups g N : Int)]].map dV)) = true from eqv_one _]; rfl), ?_⟩
        refine ⟨_, rfl, _, rfl, (by show 1 ≤ sizeLine; decide), fun t5 ht5 => fun p6 hp6 => ⟨_, rfl, (ups g N : Int), 1, rfl, rfl, upd_same, [(.inr "x", .int ((ups g N : Int) - 1))], rfl, (by show 1 ≤ 15; decide), ?_⟩⟩
        rw [upd_upd, show mergeK [] [((.inr "x" : Key), V.int ((ups g N : Int) - 1))] = alK (alX (some ((ups g N : Int) - 1))) from alX_D (some ((ups g N : Int) - 1))]
        have c5 : Same H12 (upd H12 t5 (.tup [.int (N : Int)])) := smNew ht5
        have et5 : (upd H12 t5 (.tup [.int (N : Int)])) t5 = some (.tup ([(N : Int)].map V.int)) := upd_same
        generalize upd H12 t5 (.tup [.int (N : Int)]) = H13 at c5 et5 hp6
        have c6 : Same H13 (upd H13 p6 (.dK (alK (alX (some ((ups g N : Int) - 1)))))) := smNew hp6
        have c16 := c14.trans (c5.trans c6)
        refine ⟨x, t5, p6, M, [(N : Int)], alX (some ((ups g N : Int) - 1)), rfl, m9.sm c16, .of (c6 _ _ et5), pw1, sb1, upd_same, alX_ok (fun i e => by cases e; omega), (fun p hp => by rw [hk, List.mem_singleton.mp hp]; simp), fun H2 x2 dx2 fs2 s2 ex2 _ => ?_, fun H2 x2 dx2 l2 as2 p2 nd2 s2 ex2 _ _ hp hin _ => ?_⟩
        · exact .inl ⟨x2, dx2, fs2, rfl, ex2, x2, rfl, true, rfl, true, true, rfl, rfl, false, rfl, rfl, c16.trans s2⟩
        · rw [lims_some hk (by omega)] at hp
          obtain ⟨s, h1, _, c, _, h4, h5⟩ := R.ppath hk (by omega) hp
          have h2 := List.mem_singleton.mp hin
          have e : s = N := by omega
          subst e
          omega
      -- the length of the run, the dead states
      refine cut_at (Same H9) ?_ fun Hk2 sk2 => ?_
      · refine ⟨_, rfl, _, rfl, (by show 1 ≤ sizeLine; decide), fun t5 ht5 => fun p6 hp6 => ⟨upd_same, [(.inr "x", .non)], rfl, by decide, ?_⟩⟩
        rw [upd_upd, show mergeK [] [((.inr "x" : Key), V.non)] = alK (alX none) from alX_D none]
        have c5 : Same Hk (upd Hk t5 (.tup [.int (N : Int)])) := smNew ht5
        have et5 : (upd Hk t5 (.tup [.int (N : Int)])) t5 = some (.tup ([(N : Int)].map V.int)) := upd_same
        generalize upd Hk t5 (.tup [.int (N : Int)]) = H13 at c5 et5 hp6
        have c6 : Same H13 (upd H13 p6 (.dK (alK (alX none)))) := smNew hp6
        have c16 := sk.trans (c5.trans c6)
        refine ⟨x, t5, p6, M, [(N : Int)], alX none, rfl, m9.sm c16, .of (c6 _ _ et5), pw1, sb1, upd_same, alX_ok (fun i e => by cases e), (fun p hp => by rw [hk, List.mem_singleton.mp hp]; simp), fun H2 x2 dx2 fs2 s2 ex2 hno => ?_, fun H2 x2 dx2 l2 as2 p2 nd2 s2 ex2 el2 alen2 hp hin hns => ?_⟩
        · obtain ⟨nd, p, hp, e⟩ := R.reach hk (N : Int) (by omega) (by omega)
          exact absurd (by rw [e]; simp) (hno nd p hp)
        · have e1 := R.plen hp hns
          rw [List.mem_singleton.mp hin] at e1
          have e1 : (N : Int) = (as2.length : Int) := by rw [alen2]; exact e1
          refine ⟨x2, dx2, _, _, rfl, ex2, rfl, l2, _, rfl, .inl (.of el2), ?_⟩
          rw [List.length_map, ← e1]
          refine ⟨_, rfl, rfl, false, congrArg V.bl (by rw [decide_eq_true rfl]; rfl), ?_⟩
          have c17 := c16.trans s2
          refine ⟨_, rfl, _, rfl, (by show 1 ≤ sizeLine; decide), fun t7 ht7 => ?_⟩
          have c7 : Same H2 (upd H2 t7 (.tup [.int (N : Int)])) := smNew ht7
          refine ⟨x, t7, M, [(N : Int)], rfl, m9.sm (c17.trans c7), .of upd_same, pw1, sb1, fun H3 p3 rk c8 rk' ep3 => ?_⟩
          rw [Ranks.gap_dead g0 (by omega) R rk'] at ep3
          have em : (N : Int) - ((N : Int) - 1) % (g : Int) = ((N - (N - 1) % g : Nat) : Int) := by
            have h1 : ((N : Int) - 1) % (g : Int) = (((N - 1) % g : Nat) : Int) := by
              rw [Int.natCast_emod]
              congr 1
              omega
            have h2 := Nat.mod_le (N - 1) g
            rw [h1]
            omega
          refine ⟨_, rfl, _, rfl, (N : Int), 1, rfl, rfl, _, rfl, _, (g : Int), rfl, rfl, by omega, (N : Int), _, rfl, rfl, _, rfl, ?_⟩
          rw [em]
          refine ⟨L2.RgOk.of_le (by omega) (by omega) (by omega) (by omega), fun q' hq' => ?_⟩
          have c9 := smNew hq' (o := .tup (rgV 0 ((N - (N - 1) % g : Nat) : Int)))
          have eq' : (upd H3 q' (.tup (rgV 0 ((N - (N - 1) % g : Nat) : Int)))) q' = some (.tup (((List.range (N - (N - 1) % g)).map fun (s : Nat) => (s : Int)).map V.int)) := by rw [upd_same, rgV_nat]
          refine ⟨dV _, dV _, dp_v (.of (c9 _ _ ep3)), dp_v (.of eq'), shaped_v _, shaped_v _, false, congrArg V.bl (by rw [eqv_v, decide_eq_true rfl]; rfl), rfl, (c17.trans c7).trans (c8.trans c9)⟩
      -- the tail
      refine ⟨_, rfl, _, rfl, _, rfl, (N : Int), 1, rfl, rfl, _, rfl, _, (g : Int), rfl, rfl, by omega, (N : Int), _, rfl, rfl, (N : Int), _, rfl, rfl, ?_⟩
      have tl0 : 0 ≤ (N : Int) - ((N : Int) - ((N : Int) - 1) % (g : Int)) := by
        have := Int.emod_nonneg ((N : Int) - 1) (show (g : Int) ≠ 0 by omega)
        omega
      dsimp only
      generalize (N : Int) - ((N : Int) - ((N : Int) - 1) % (g : Int)) = tl at tl0
      have m2 := m9.sm sk2
      have hT2 : LamX.Tabs (TT Pf Pd) Hk2 := hT9.ext fun b o h => sk2 b o h
      have el2 := sk2 _ _ el9
      have hst2 := hst9.sm sk2
      clear m9 hT9 el9 hst9 sk sk2
      -- can; the longest delay
      refine cut_at (fun H' => LamX.ExtN Hk2 H' ∧ LamX.Tabs (TT Pf Pd) H') ?_ fun Hk3 ⟨sk3, hT3⟩ => ?_
      · refine ⟨_, rfl, _, rfl, (by show 1 ≤ sizeLine; decide), fun t5 ht5 => fun p6 hp6 => ⟨upd_same, [(.inr "x", .int 0)], rfl, by decide, ?_⟩⟩
        rw [upd_upd, show mergeK [] [((.inr "x" : Key), V.int 0)] = alK (alX (some 0)) from alX_D (some 0)]
        have c5 : Same Hk2 (upd Hk2 t5 (.tup [.int (N : Int)])) := smNew ht5
        have et5 : (upd Hk2 t5 (.tup [.int (N : Int)])) t5 = some (.tup ([(N : Int)].map V.int)) := upd_same
        generalize upd Hk2 t5 (.tup [.int (N : Int)]) = H13 at c5 et5 hp6
        have c6 : Same H13 (upd H13 p6 (.dK (alK (alX (some 0))))) := smNew hp6
        have c16 := c5.trans c6
        refine ⟨x, t5, p6, M, [(N : Int)], alX (some 0), rfl, m2.sm c16, .of (c6 _ _ et5), pw1, sb1, upd_same, alX_ok (fun i e => by cases e; omega), (fun p hp => by rw [hk, List.mem_singleton.mp hp]; simp), .inl ⟨fun rk h => Ranks.gap_stuck g0 (by omega) R h, fun H2 x2 dx2 fs2 s2 ex2 => ⟨x2, dx2, fs2, rfl, ex2, x2, rfl, false, rfl, false, rfl, ?_⟩⟩⟩
        have c2 := c16.trans s2
        refine ⟨_, rfl, _, rfl, (by show 1 ≤ sizeLine; decide), fun t7 ht7 => fun p8 hp8 => ⟨upd_same, [(.inr "x", .non)], rfl, by decide, ?_⟩⟩
        rw [upd_upd, show mergeK [] [((.inr "x" : Key), V.non)] = alK (alX none) from alX_D none]
        have c7 : Same H2 (upd H2 t7 (.tup [.int (N : Int)])) := smNew ht7
        have et7 : (upd H2 t7 (.tup [.int (N : Int)])) t7 = some (.tup ([(N : Int)].map V.int)) := upd_same
        generalize upd H2 t7 (.tup [.int (N : Int)]) = H14 at c7 et7 hp8
        have c8 : Same H14 (upd H14 p8 (.dK (alK (alX none)))) := smNew hp8
        have c28 := c2.trans (c7.trans c8)
        refine ⟨x, t7, p8, M, [(N : Int)], alX none, rfl, m2.sm c28, .of (c8 _ _ et7), pw1, sb1, upd_same, alX_ok (fun i e => by cases e), (fun p hp => by rw [hk, List.mem_singleton.mp hp]; simp), hT2.ext (fun b o h => c28 b o h), R.up, R.reach hk, (by rw [get_none hk, hk]; decide), fun H3 x3 dx3 fs3 rk b r eN T3 ex3 lk3 hrk hb hall => ⟨x3, dx3, _, _, rfl, ex3, lk3, ?_⟩⟩
        have er := R.longest hk g0 (by omega) hrk hb hall
        refine ⟨_, rfl, (g : Int), 1, rfl, rfl, _, rfl, (N : Int), 1, rfl, rfl, _, _, rfl, ?_⟩
        rw [if_neg (show ¬ ((N : Int) - 1 < (g : Int) - 1) by omega)]
        refine ⟨rfl, false, congrArg V.bl (by rw [decide_eq_true (show V.int (r : Int) = V.int ((g : Int) - 1) by rw [er]; congr 1; omega)]; rfl), rfl, (ExtN.same c28).trans eN, T3⟩
      have el3' := sk3 _ _ el2 (fun _ z => by cases z)
      have hst3 := ext_stps sk3 hst2
      clear el2 hst2 hT2 m2 sk3 R hk nM pw1 sb1 u1 u2
      -- no falls
      refine ⟨_, rfl, (N : Int), 1, rfl, rfl, _, rfl, l3, rfl, ⟨_, .of el3'⟩, ?_⟩
      refine lcR walk_list (fun D i o H' => ∃ a t, o = some (.ref a) ∧ a ≠ D ∧ (rowT (kdG g) N)[i]? = some t ∧ StpR H' a (frS t)) (fun D i o Ha Hb ⟨a, t, y1, y2, y3, y4⟩ sb => ⟨a, t, y1, y2, y3, sb _ _ y2 y4⟩) (fun H' s => .of (s _ _ el3')) (by rw [List.length_map]; omega) ?_ ?_
      · rintro D8 i v Ha Hb acc hi hD sA eD ⟨rfl, hv⟩ Kt kk
        rw [List.length_map] at hi
        rw [List.getElem?_map, List.getElem?_eq_getElem hi] at hv
        cases hv
        obtain ⟨t, et, ht⟩ := paired_get hst3 (List.getElem?_eq_getElem hi)
        have ht := sA _ _ ht
        refine ⟨rfl, _, rfl, 1, rfl, as[i], t.vs, rfl, .of ht, fun pa Hc sc hpa => ?_⟩
        refine ⟨(by show 1 ≤ sizeLine; decide), fun pb hpb => ?_⟩
        have sd := smNew hpb (o := .tup [.str ""])
        refine ⟨pa, pb, _, _, rfl, rfl, smTup sd hpa, .of upd_same, (by rw [show (1 : Int) = ((1 : Nat) : Int) from rfl, cut_to]; exact fun z => by cases z), (by rw [show (1 : Int) = ((1 : Nat) : Int) from rfl, cut_to]; show 1 + 1 ≤ sizeLine; decide), (fun z => by cases z), fun _ pc hpc => ?_⟩
        have epc := upd_same (H := upd Hc pb (.tup [.str ""])) (a := pc) (o := .tup (cutV t.vs none (some 1) ++ [.str ""]))
        have se := smNew hpc (o := .tup (cutV t.vs none (some 1) ++ [.str ""]))
        generalize upd (upd Hc pb (.tup [.str ""])) pc (.tup (cutV t.vs none (some 1) ++ [.str ""])) = He at epc se
        have sHe := (sc.trans sd).trans se
        refine ⟨_, rfl, 2, rfl, as[i], t.vs, rfl, .of (sHe _ _ ht), fun pd Hf sf hpd => ?_⟩
        have e1 : cutV t.vs none (some 1) ++ [.str ""] = [.int t.s, .str ""] := by rw [show (1 : Int) = ((1 : Nat) : Int) from rfl, cut_to]; rfl
        have e2 : cutV t.vs (some 2) none = [.str t.w, .int t.g] := by rw [show (2 : Int) = ((2 : Nat) : Int) from rfl, cut_from]; rfl
        rw [e1] at epc
        rw [e2] at hpd
        refine ⟨pc, pd, _, _, rfl, rfl, .of (sf _ _ epc), hpd, (fun z => by cases z), (by show 2 + 2 ≤ sizeLine; decide), (fun z => by cases z), fun _ pe hpe => ?_⟩
        have sg := smNew hpe (o := .tup ([.int t.s, .str ""] ++ [.str t.w, .int t.g]))
        refine kk (some (.ref pe)) _ (sHe.trans (sf.trans sg)) ⟨pe, t, rfl, (fun z => by rw [z, (sHe.trans sf) _ _ eD] at hpe; cases hpe), et, upd_same⟩
      · intro D8 H8 os hD8 s8 eD8 olen hos
        obtain ⟨asf, eos, hstf, alenf⟩ := stps_ix (H := H8) (f := frS) (ts := rowT (kdG g) N) (os := os) (by rw [olen, List.length_map]; exact Paired.length hst3) fun i o t ho ht => by
          obtain ⟨a, t', y1, y2, y3, y4⟩ := hos i o ho
          rw [ht] at y3
          cases y3
          exact ⟨a, y1, y4⟩
        rw [row_fr] at hstf
        rw [eos] at eD8
        have rlen : (rowT (kdG g) N).length = N + 1 := by rw [← Paired.length hst3]; exact alen7
        have hT8 := hT3.ext fun b o h => s8 b o h
        clear hos eos olen s8 hD8 hst3 el3' hT3
        refine fun y dy hy hdy ndy => ?_
        have sy : Same H8 (upd (upd H8 dy (.own y)) y (.ins (He.ga K "Machine") dy [])) := smMut (smNew hdy) hy
        refine ⟨y, dy, D8, N + 1, asf, rowT (fun _ => "") N, rfl, upd_same, sy _ _ eD8, hstf.sm sy, by omega, by omega, by omega, rowT_ok (fun _ => .inl rfl), fun H9 F sb9 mF hF => ⟨rfl, ?_⟩⟩
        have s89 : Same H8 H9 := same_but hy sy sb9
        have hT9 := hT8.ext fun b o h => s89 b o h
        have R := RowM.of hF
        have hk := free_kinds (fun _ => rfl) hF
        have nF : F.n = N + 1 := R.n
        have lF : limsN F [] = [] := by unfold limsN; rw [hk]; rfl
        have pw1 : ([(N : Int)] : List Int).Pairwise (· < ·) := by simp
        have sb1 : ∀ s ∈ [(N : Int)], 0 ≤ s ∧ s < F.n := fun s hs => by rw [List.mem_singleton.mp hs, nF]; omega
        clear hF sy sb9 hy hdy ndy eD8 hstf s89 hT8
        -- the answer
        refine ⟨_, rfl, _, rfl, (by show 1 ≤ sizeLine; decide), fun t5 ht5 => fun p6 hp6 => ?_⟩
        have c5 : Same H9 (upd H9 t5 (.tup [.int (N : Int)])) := smNew ht5
        have et5 : (upd H9 t5 (.tup [.int (N : Int)])) t5 = some (.tup ([(N : Int)].map V.int)) := upd_same
        generalize upd H9 t5 (.tup [.int (N : Int)]) = H13 at c5 et5 hp6
        have c6 : Same H13 (upd H13 p6 (.dK (alK []))) := smNew hp6
        have c16 := c5.trans c6
        refine ⟨y, t5, p6, F, [(N : Int)], [], rfl, mF.sm c16, .of (c6 _ _ et5), pw1, sb1, upd_same, al0_ok, (fun p hp => by cases hp), hT9.ext (fun b o h => c16 b o h), (fun rk h => Ranks.free_dead R (fun _ => rfl) h), R.reach_free (fun _ => rfl) hk, (by rw [hk]; decide), fun H3 x3 dx3 fs3 rk b r eN T3 ex3 lk3 hrk hb hmax => ⟨x3, dx3, _, _, rfl, ex3, lk3, ?_⟩⟩
        have er := R.far_free (fun _ => rfl) hrk hb hmax
        subst er
        refine ⟨_, rfl, rfl, true, congrArg V.bl (decide_eq_true rfl), ?_⟩
        refine ⟨_, rfl, _, rfl, (by show 1 ≤ sizeLine; decide), fun t7 ht7 => fun p8 hp8 => ?_⟩
        have c7 : Same H3 (upd H3 t7 (.tup [.int (r : Int)])) := smNew ht7
        have et7 : (upd H3 t7 (.tup [.int (r : Int)])) t7 = some (.tup ([(r : Int)].map V.int)) := upd_same
        generalize upd H3 t7 (.tup [.int (r : Int)]) = H14 at c7 et7 hp8
        have c8 : Same H14 (upd H14 p8 (.dK (alK []))) := smNew hp8
        have c78 := c7.trans c8
        have e98 : LamX.ExtN H9 (upd H14 p8 (.dK (alK []))) := ((ExtN.same c16).trans eN).trans (ExtN.same c78)
        refine ⟨y, t7, p8, F, [(r : Int)], [], rfl, mF.ext e98, .of (c8 _ _ et7), pw1, sb1, upd_same, al0_ok, (fun p hp => by cases hp), T3.ext (fun b o h => c78 b o h), R.up, R.reach_free (fun _ => rfl) hk, (by rw [hk]; decide), fun H4 x4 dx4 fs4 rk' b' r' eN' T4 ex4 lk4 hrk' hb' hall => ⟨x4, dx4, _, _, rfl, ex4, lk4, ?_⟩⟩
        have er' := R.longest_free (fun _ => rfl) hk hrk' hb' hall
        subst er'
        refine ⟨_, rfl, rfl, true, congrArg V.bl (decide_eq_true rfl), ?_⟩
        exact ⟨_, rfl, tl, 0, rfl, rfl, qF (decide_eq_true tl0)⟩
end
end Al
set_option maxHeartbeats 8000000
/-! D35: the law. -/
namespace Al
open PySem PySem.Spec PyProof.Rows L2
abbrev scV : Scope := { kind := .function, names := [(".0", .local), ("_law_vector", .cell), ("any", .globalImplicit), ("_law_below", .cell)], isGenerator := false, isCoroutine := false }
abbrev scO : Scope := { kind := .function, names := [(".0", .local), ("_law_one", .local), ("all", .globalImplicit), ("zip", .globalImplicit), ("_law_vector", .cell)], isGenerator := false, isCoroutine := false }
abbrev kindsM : List Str := ["", "x", "y"]
theorem kindsM_ok : ∀ k ∈ kindsM, KindOk k := by
  intro k hk
  simp at hk
  rcases hk with rfl | rfl | rfl
  · exact .inl rfl
  · exact .inr (.inl rfl)
  · exact .inr (.inr rfl)
theorem stps_of {H : Hp} {n : Nat} : ∀ {os : List (Option V)}, (∀ o ∈ os, ∃ a t, o = some (.ref a) ∧ StpR H a t ∧ (StpOk n t ∧ KindOk t.k ∧ WdOk t.w)) → ∃ (as : List Addr) (ts : List Stp), os.filterMap id = as.map V.ref ∧ StpsAt H as ts ∧ as.length = os.length ∧ ∀ t ∈ ts, StpOk n t ∧ KindOk t.k ∧ WdOk t.w
  | [], _ => ⟨[], [], rfl, .nil, rfl, fun t h => by cases h⟩
  | o :: os, h => by
    obtain ⟨as, ts, e, p, l, k⟩ := stps_of (os := os) fun o ho => h o (List.mem_cons_of_mem _ ho)
    obtain ⟨a, t, rfl, ea, eo⟩ := h o (by simp)
    refine ⟨a :: as, t :: ts, by rw [List.filterMap_cons, e]; rfl, .cons ea p, by rw [List.length_cons, List.length_cons, l], fun u hu => ?_⟩
    rcases List.mem_cons.mp hu with rfl | hu
    · exact eo
    · exact k u hu
def ts0 : List Stp := [⟨0, "x", "", 0⟩, ⟨0, "y", "", 0⟩]
theorem ts0_ok {n : Nat} (h : 1 ≤ n) : ∀ t ∈ ts0, StpOk n t ∧ KindOk t.k ∧ WdOk t.w := by
  intro t ht
  simp [ts0] at ht
  rcases ht with rfl | rfl
  · exact stepOk (Int.le_refl 0) (by omega) (Int.le_refl 0) (by omega) (.inr (.inl rfl)) (.inl rfl)
  · exact stepOk (Int.le_refl 0) (by omega) (Int.le_refl 0) (by omega) (.inr (.inr rfl)) (.inl rfl)
abbrev wordsW : List Str := ["a", "b"]
theorem wordsW_ok : ∀ k ∈ wordsW, k ≠ "" := by
  intro k hk
  simp at hk
  rcases hk with rfl | rfl <;> decide
theorem dead_len {M : Mch} {rk : NM} (h : M.n ≤ 100) : (deadL M rk).length ≤ 1000000 := by
  unfold deadL
  rw [List.length_map]
  have := List.length_filter_le (fun s : Nat => decide ((s : Int) ∉ rk.map (fun p : Int × Nat => p.1))) (List.range M.n)
  rw [List.length_range] at this
  omega
theorem PathN.bd {M : Mch} (ok : MOk M) {r : Nat} {s : Int} (p : PathN M r s) : 0 ≤ s ∧ s < M.n := by
  cases p with
  | zero => have := ok.n1; omega
  | succ _ ht => exact ⟨(ok.st _ ht).g0, (ok.st _ ht).g1⟩
theorem fars_len {M : Mch} {fk : NM} (ok : MOk M) (h : Fars M fk) : fk.length ≤ 1000000 := by
  have h1 := nd_lt h.nd fun a ha => by obtain ⟨r, hr⟩ := nm_keys ha; exact (h.so a r hr).bd ok
  rw [List.length_map] at h1
  have := ok.n2
  omega
/-- the kinds of a machine with those two -/
theorem MSame.xy {M : Mch} {n : Nat} {ts : List Stp} (ok : MOk M) (h : MSame M n ts) (hk : ∀ t ∈ ts, KindOk t.k) (h0 : ∀ t ∈ ts0, t ∈ ts) : M.kinds = (["x", "y"] : List Str) := by
  refine kinds_xy h.srt ok.knd fun k => ?_
  rw [h.knd]
  constructor
  · rintro ⟨h1, t, ht, rfl⟩
    rcases hk t ht with z | z
    · exact absurd z h1
    · exact z
  · rintro (rfl | rfl)
    · exact ⟨by decide, _, h0 ⟨0, "x", "", 0⟩ (by simp [ts0]), rfl⟩
    · exact ⟨by decide, _, h0 ⟨0, "y", "", 0⟩ (by simp [ts0]), rfl⟩
theorem wipe1 (σ : L2.St) (i : Nat) (x : Option V) : wipe ((wipe σ [i]).set i x) [i] = wipe σ [i] := by
  show (((σ.set i none).set i x).set i none) = σ.set i none
  rw [List.set_set, List.set_set]
theorem wipe2 (σ : L2.St) {i j : Nat} (h : i ≠ j) (x y : Option V) : wipe (((wipe σ [i, j]).set i x).set j y) [i, j] = wipe σ [i, j] := by
  show ((((((σ.set j none).set i none).set i x).set j y).set j none).set i none) = (σ.set j none).set i none
  rw [List.set_set, List.set_set, List.set_comm _ _ h, List.set_set, List.set_set]
theorem cut_abs {t u : TS} {D : L2.Ends} {σ : L2.St} {H : Hp} (B : Hp → Prop) (h1 : ∀ τ : L2.St, τ = σ → t { D with nx := fun σ' H' => σ' = τ ∧ B H' } τ H) (h2 : ∀ H', B H' → u D σ H') : C8.tCut t u D σ H := ⟨_, h1 σ rfl, fun σ' H' ⟨e, b⟩ => e ▸ h2 H' b⟩
theorem lkS {τ : L2.St} {i : Nat} {x : Option V} (h : i < τ.length) : ((wipe τ [i]).set i x)[i]? = some x := List.getElem?_set_self (by rw [wipe_length]; exact h)
theorem lkO {τ : L2.St} {i j : Nat} {x : Option V} {y : Option (Option V)} (h : j ≠ i) (e : τ[j]? = y) : ((wipe τ [i]).set i x)[j]? = y := by
  rw [List.getElem?_set_ne (Ne.symm h), wipe_out (by simpa using h), e]
theorem lkL {τ : L2.St} {i n : Nat} {x : Option V} (h : τ.length = n) : ((wipe τ [i]).set i x).length = n := by rw [List.length_set, wipe_length, h]
theorem lkB {τ : L2.St} {i j : Nat} {x y : Option V} (h : j < τ.length) : (((wipe τ [i, j]).set i x).set j y)[j]? = some y := List.getElem?_set_self (by rw [List.length_set, wipe_length]; exact h)
theorem lkA {τ : L2.St} {i j : Nat} {x y : Option V} (n : i ≠ j) (h : i < τ.length) : (((wipe τ [i, j]).set i x).set j y)[i]? = some x := by
  rw [List.getElem?_set_ne (Ne.symm n)]
  exact List.getElem?_set_self (by rw [wipe_length]; exact h)
section
variable {P : Program} {w : World} {K : PySem.W.Frag} {mg : Str → Option Value} {base : Heap} {cf Pf cd Pd : Addr}
def spLaw (K : PySem.W.Frag) (Pf Pd : Addr) : Sp := fun vs H Q _ => ∃ (sa : Addr) (ns : List Int), vs = [.ref sa] ∧ SqL K H sa (ns.map V.int) ∧ ns.length ≤ 63 ∧ LamX.Tabs (TT Pf Pd) H ∧ ∀ H', Q (.bl true) H'
theorem body_law (T : Txt K mg) (U : Txt2 P K) (L : TxtL K mg base cf Pf cd Pd) (cdv : Value) (A : Around) (outer : List Env) (s : Shared) (H : Hp) (vs : List V) (Q : VK) (E : XK) (hr : Room 8 (A.deeper (envOfC d_law.qual d_law.scope s.heap.objs.size (He.fAd K d_law.at_) cdv))) (h : spLaw K Pf Pd vs H Q E) :
    ∃ t, PSs (cxOf CX0 P w K mg base N_law d_law.qual d_law.scope (He.fAd K d_law.at_) cdv A outer s H E).nox d_law.body t ∧ t { nx := fun _ H' => Q .non H', rt := Q } (start N_law vs) H := by
  have _ := True.intro
  · obtain ⟨sa, ns, rfl, hs, hl, hT, q⟩ := h
    refine ⟨_, (pss_cons (ps_asg (pe_f (ok_law_machine T) (hr.mono (by decide)) (pa_cons (pv 0) (pa_cons pe_int (pa_cons pe_int (pa_cons (pe_tup (pa_cons pe_str (pa_cons pe_str (pa_cons pe_str (pa_cons pe_str pa_nil))))) (pa_cons (pe_tup (pa_cons pe_str (pa_cons pe_str (pa_cons pe_str pa_nil)))) pa_nil)))))) (pg_t K 2 rfl (pgs_cons (pg_c (i := 1) sc_law.nd rfl rfl rfl) (pgs_cons (pg_l (i := 2) sc_law.nd rfl rfl) pgs_nil))))
        (pss_cons (ps_l (i := 2) sc_law.nd rfl rfl (pe_op op_cat (pv 2) (pe_lst (pa_cons (pe_tup (pa_cons pe_int (pa_cons pe_str (pa_cons pe_str (pa_cons pe_int pa_nil))))) (pa_cons (pe_tup (pa_cons pe_int (pa_cons pe_str (pa_cons pe_str (pa_cons pe_int pa_nil))))) pa_nil)))))
        (pss_cons (ps_setLc (i := 3) (own := [("_law_turn", 10)]) rfl sc_law.nd rfl rfl (sw_true rfl rfl rfl (by decide +kernel)) (pi_range1 (by rfl) (T.f "range") (pa_cons pe_int pa_nil)) (blkOk_by (own := [("_law_turn", 10)]) (N := N_law) (sc := defScope s_law) (by decide +kernel)) (fun _ _ _ _ _ => (pg_l (i := 10) sc_law.nd rfl rfl)) (fun _ _ _ _ _ => pts_nil) (fun _ _ _ _ _ => (pe_tup (pa_cons (pe_f (ok_law_draw T) (hr.mono (by decide)) (pa_cons (pv 0) (pa_cons (pe_op op_add pe_int (pe_op op_mul pe_int (pv 10))) (pa_cons (pv 1) pa_nil)))) (pa_cons (pe_ix (ixT K) (pe_tup (pa_cons pe_str (pa_cons pe_str (pa_cons pe_str pa_nil)))) (pe_f (ok_law_draw T) (hr.mono (by decide)) (pa_cons (pv 0) (pa_cons (pe_op op_add pe_int (pe_op op_mul pe_int (pv 10))) (pa_cons pe_int pa_nil)))) (fun _ _ => rfl)) (pa_cons pe_str (pa_cons (pe_f (ok_law_draw T) (hr.mono (by decide)) (pa_cons (pv 0) (pa_cons (pe_op op_add pe_int (pe_op op_mul pe_int (pv 10))) (pa_cons (pv 1) pa_nil)))) pa_nil)))))))
        (pss_cons (ps_asg (pe_tup (pa_cons (pe_mk (ok_Machine_init T) (hr.mono (by decide)) (pa_cons (pv 1) (pa_cons (pv 2) pa_nil))) (pa_cons (pe_mk (ok_Machine_init T) (hr.mono (by decide)) (pa_cons (pv 1) (pa_cons (pe_op op_cat (pv 2) (pv 3)) pa_nil))) (pa_cons (pe_f (ok_law_some T) (hr.mono (by decide)) (pa_cons (pv 0) (pa_cons pe_int (pa_cons (pv 1) pa_nil)))) pa_nil)))) (pg_t K 3 rfl (pgs_cons (pg_c (i := 4) sc_law.nd rfl rfl rfl) (pgs_cons (pg_l (i := 5) sc_law.nd rfl rfl) (pgs_cons (pg_c (i := 6) sc_law.nd rfl rfl rfl) pgs_nil)))))
        (pss_cons (ps_l (i := 7) sc_law.nd rfl rfl (pe_f (ok_law_allowances T) (hr.mono (by decide)) (pa_cons (pv 0) (pa_cons pe_int (pa_cons (pe_at (T.c "Machine") (T.n "Machine" "kinds") (pv 4)) pa_nil)))))
        (C8.pss_cut (ps_if (PW.pt (pw_and (pt_val (pe_callTy (callR_or (call_boolO (C := He.ga K "Kept") (ok_Kept_bool T).run (hr.mono (by decide)) (T.m "Kept" "__bool__").at_ (T.m "Kept" "__bool__").fn) (call_boolO (C := He.ga K "Broken") (ok_Broken_bool T).run (hr.mono (by decide)) (T.m "Broken" "__bool__").at_ (T.m "Broken" "__bool__").fn)) (by rfl) (T.f "bool") (by decide +kernel) (pa_cons (pe_f (ok_judge_never T U) (hr.mono (by decide)) (pa_cons (pv 5) (pa_cons (pv 6) (pa_cons (pv 7) pa_nil)))) pa_nil))) (pw_and1 (pt_not (pt_val (pe_callTy (callR_or (call_boolO (C := He.ga K "Kept") (ok_Kept_bool T).run (hr.mono (by decide)) (T.m "Kept" "__bool__").at_ (T.m "Kept" "__bool__").fn) (call_boolO (C := He.ga K "Broken") (ok_Broken_bool T).run (hr.mono (by decide)) (T.m "Broken" "__bool__").at_ (T.m "Broken" "__bool__").fn)) (by rfl) (T.f "bool") (by decide +kernel) (pa_cons (pe_f (ok_judge_never T U) (hr.mono (by decide)) (pa_cons (pv 4) (pa_cons (pv 6) (pa_cons (pv 7) pa_nil)))) pa_nil))))))) 
        (pss_one (ps_ret pe_bl))
        pss_nil)
        (pss_cons (ps_asg (pe_tup (pa_cons (pe_at (T.c "Least") (T.n "Least" "vectors") (pe_f (ok_least_falls T U) (hr.mono (by decide)) (pa_cons (pv 4) (pa_cons (pv 6) pa_nil)))) (pa_cons (pe_at (T.c "Least") (T.n "Least" "vectors") (pe_f (ok_least_falls T U) (hr.mono (by decide)) (pa_cons (pv 5) (pa_cons (pv 6) pa_nil)))) pa_nil))) (pg_t K 2 rfl (pgs_cons (pg_l (i := 8) sc_law.nd rfl rfl) (pgs_cons (pg_c (i := 9) sc_law.nd rfl rfl rfl) pgs_nil))))
        (C8.pss_cut (ps_if (pt_not (pt_val (pe_callB (cAll K) (by rfl) (T.f "all") (by decide +kernel) (pa_cons (pe_lc (own := [("_law_vector", 24)]) rfl sc_law.nd (pi_list (pv 8)) (blkOk_by (own := [("_law_vector", 24)]) (N := N_law) (sc := defScope s_law) (by decide +kernel)) (fun _ _ _ _ _ => (pg_c (i := 24) sc_law.nd rfl rfl rfl)) (fun _ _ _ _ _ => pts_nil) (fun _ _ _ _ _ => (pe_callB (cAny K) (by rfl) (T.f "any") (by decide +kernel) (pa_cons (pe_lc (own := [("_law_one", 26)]) rfl sc_law.nd (pi_listK K (pv 9)) (blkOk_by (own := [("_law_one", 26)]) (N := N_law) (sc := scV) (by decide +kernel)) (fun _ _ _ _ _ => (pg_l (i := 26) sc_law.nd rfl rfl)) (fun _ _ _ _ _ => pts_nil) (fun _ _ _ _ _ => (pe_callB (cAll K) (by rfl) (T.f "all") (by decide +kernel) (pa_cons (pe_lc (own := [("_law_a", 27), ("_law_b", 28)]) rfl sc_law.nd (pi_zipK K (by rfl) (T.f "zip") (pa_cons (pv 26) (pa_cons (pv 24) pa_nil))) (blkOk_by (own := [("_law_a", 27), ("_law_b", 28)]) (N := N_law) (sc := scO) (by decide +kernel)) (fun _ _ _ _ _ => (pg_t K 2 rfl (pgs_cons (pg_l (i := 27) sc_law.nd rfl rfl) (pgs_cons (pg_l (i := 28) sc_law.nd rfl rfl) pgs_nil)))) (fun _ _ _ _ _ => pts_nil) (fun _ _ _ _ _ => (pe_cmpR op_le (pv 27) (pv 28) (nomark _)))) pa_nil)))) pa_nil)))) pa_nil)))) 
        (pss_one (ps_ret pe_bl))
        pss_nil)
        (C8.pss_cut (ps_if (pt_not (pt_val (pe_callB (cAll K) (by rfl) (T.f "all") (by decide +kernel) (pa_cons (pe_lc (own := [("_law_state", 25)]) rfl sc_law.nd (pi_tup (pe_f (ok_dead_states T) (hr.mono (by decide)) (pa_cons (pv 5) (pa_cons (pv 6) pa_nil)))) (blkOk_by (own := [("_law_state", 25)]) (N := N_law) (sc := defScope s_law) (by decide +kernel)) (fun _ _ _ _ _ => (pg_l (i := 25) sc_law.nd rfl rfl)) (fun _ _ _ _ _ => pts_nil) (fun _ _ _ _ _ => (pe_cmpR (op_inK K) (pv 25) (pe_f (ok_dead_states T) (hr.mono (by decide)) (pa_cons (pv 4) (pa_cons (pv 6) pa_nil))) rfl))) pa_nil)))) 
        (pss_one (ps_ret pe_bl))
        pss_nil)
        (pss_cons (ps_for PassesOwn.never rfl (pi_range1 (by rfl) (T.f "range") (pa_cons pe_int pa_nil)) (pg_c (i := 10) sc_law.nd rfl rfl rfl)
        (pss_cons (ps_setLc (i := 11) (own := [("_law_spot", 21)]) rfl sc_law.nd rfl rfl (sw_true rfl rfl rfl (by decide +kernel)) (pi_range1 (by rfl) (T.f "range") (pa_cons (pe_f (ok_law_draw T) (hr.mono (by decide)) (pa_cons (pv 0) (pa_cons (pe_op op_add pe_int (pe_op op_mul pe_int (pv 10))) (pa_cons pe_int pa_nil)))) pa_nil)) (blkOk_by (own := [("_law_spot", 21)]) (N := N_law) (sc := defScope s_law) (by decide +kernel)) (fun _ _ _ _ _ => (pg_l (i := 21) sc_law.nd rfl rfl)) (fun _ _ _ _ _ => pts_nil) (fun _ _ _ _ _ => (pe_ix (ixT K) (pe_tup (pa_cons pe_str (pa_cons pe_str pa_nil))) (pe_f (ok_law_draw T) (hr.mono (by decide)) (pa_cons (pv 0) (pa_cons (pe_op op_add (pe_op op_add pe_int (pe_op op_mul pe_int (pv 10))) (pv 21)) (pa_cons pe_int pa_nil)))) (fun _ _ => rfl))))
          (pss_one (ps_if (PW.pt (pw_and (pt_val (pe_f (ok_is_trace T) (hr.mono (by decide)) (pa_cons (pv 4) (pa_cons (pv 11) (pa_cons (pe_tup (pa_cons pe_str (pa_cons pe_str pa_nil))) pa_nil))))) (pw_and1 (pt_not (pt_val (pe_f (ok_is_trace T) (hr.mono (by decide)) (pa_cons (pv 5) (pa_cons (pv 11) (pa_cons (pe_tup (pa_cons pe_str (pa_cons pe_str pa_nil))) pa_nil))))))))) 
          (pss_one (ps_ret pe_bl))
          pss_nil))))
        (pss_cons (ps_asg (pe_tup (pa_cons (pe_f (ok_far_states T) (hr.mono (by decide)) (pa_cons (pv 4) pa_nil)) (pa_cons (pe_f (ok_far_states T) (hr.mono (by decide)) (pa_cons (pv 5) pa_nil)) pa_nil))) (pg_t K 2 rfl (pgs_cons (pg_c (i := 12) sc_law.nd rfl rfl rfl) (pgs_cons (pg_c (i := 13) sc_law.nd rfl rfl rfl) pgs_nil))))
        (C8.pss_cut (ps_lock (ps_if (pt_not (pt_val (pe_callB (cAll K) (by rfl) (T.f "all") (by decide +kernel) (pa_cons (pe_lc (own := [("_law_state", 25)]) rfl sc_law.nd (pi_keys (pv 12)) (blkOk_by (own := [("_law_state", 25)]) (N := N_law) (sc := defScope s_law) (by decide +kernel)) (fun _ _ _ _ _ => (pg_l (i := 25) sc_law.nd rfl rfl)) (fun _ _ _ _ _ => pts_nil) (fun _ _ _ _ _ => (pe_and (pe_cmp (pc_din (hu_of hr) (pv 25) (pv 13))) (pe_one (pe_cmpR op_le (pe_dget (hu_of hr) (pv 13) (pv 25) (fun _ _ => rfl)) (pe_dget (hu_of hr) (pv 12) (pv 25) (fun _ _ => rfl)) (nomark _)))))) pa_nil)))) 
        (pss_one (ps_ret pe_bl))
        pss_nil))
        (law_row T U L cdv A outer s H E hr))))))))))))), ?_⟩
    -- the drawn machine
    refine ⟨_, rfl, (by show 4 ≤ sizeLine; decide), fun ka hka => ⟨(by show 3 ≤ sizeLine; decide), fun wa hwa => ?_⟩⟩
    have a1 : Same H (upd H ka (.tup (kindsL.map V.str))) := smNew hka
    have a2 := smNew hwa (o := .tup (wordsL.map V.str))
    have eka := a2 _ _ (upd_same (H := H) (a := ka) (o := .tup (kindsL.map V.str)))
    have ewa := upd_same (H := upd H ka (.tup (kindsL.map V.str))) (a := wa) (o := .tup (wordsL.map V.str))
    have s0 := a1.trans a2
    refine ⟨sa, ka, wa, ns, 0, 5, rfl, s0.seq hs, by omega, by decide, by decide, by decide, by decide, .of eka, .of ewa, fun H1 p l n as ts s1 ep el hst n1 n5 alen hok => ?_⟩
    have s01 := s0.trans s1
    clear s0 a1 a2 eka ewa hka hwa s1
    refine ⟨p, _, rfl, SqT.of ep, rfl, _, _, rfl, _, _, rfl, rfl, ?_⟩
    -- two falls more
    refine ⟨_, rfl, (by show 4 ≤ sizeLine; decide), fun t1 ht1 => ⟨(by show 4 ≤ sizeLine; decide), fun t2 ht2 => ⟨(by show 2 ≤ sizeLine; decide), fun l2 hl2 => ?_⟩⟩⟩
    have b1 := smNew ht1 (o := .tup [.int 0, .str "x", .str "", .int 0])
    have b2 := smNew ht2 (o := .tup [.int 0, .str "y", .str "", .int 0])
    have b3 := smNew hl2 (o := .lst [.ref t1, .ref t2])
    have et1 := b3 _ _ (b2 _ _ (upd_same (H := H1) (a := t1) (o := .tup [.int 0, .str "x", .str "", .int 0])))
    have et2 := b3 _ _ (upd_same (H := upd H1 t1 (.tup [.int 0, .str "x", .str "", .int 0])) (a := t2) (o := .tup [.int 0, .str "y", .str "", .int 0]))
    have el2 := upd_same (H := upd (upd H1 t1 (.tup [.int 0, .str "x", .str "", .int 0])) t2 (.tup [.int 0, .str "y", .str "", .int 0])) (a := l2) (o := .lst [.ref t1, .ref t2])
    have b13 := (b1.trans b2).trans b3
    have el' := b13 _ _ el
    refine ⟨l, l2, _, _, rfl, rfl, el', el2, (by rw [List.length_map]; exact szOf (by show as.length + 2 ≤ _; omega)), fun l3 hl3 => ?_⟩
    have b4 := smNew hl3 (o := .lst (as.map V.ref ++ [.ref t1, .ref t2]))
    have b14 := b13.trans b4
    have el3 := upd_same (H := upd (upd (upd H1 t1 (.tup [.int 0, .str "x", .str "", .int 0])) t2 (.tup [.int 0, .str "y", .str "", .int 0])) l2 (.lst [.ref t1, .ref t2])) (a := l3) (o := .lst (as.map V.ref ++ [.ref t1, .ref t2]))
    have et1 := b4 _ _ et1
    have et2 := b4 _ _ et2
    generalize upd (upd (upd (upd H1 t1 (.tup [.int 0, .str "x", .str "", .int 0])) t2 (.tup [.int 0, .str "y", .str "", .int 0])) l2 (.lst [.ref t1, .ref t2])) l3 (.lst (as.map V.ref ++ [.ref t1, .ref t2])) = H2 at b14 el3 et1 et2
    have s02 := s01.trans b14
    have hst2 : StpsAt H2 (as ++ [t1, t2]) (ts ++ ts0) := paired_app (hst.sm b14) (.cons et1 (.cons et2 .nil))
    have el3 : H2 l3 = some (.lst ((as ++ [t1, t2]).map V.ref)) := by rw [el3, List.map_append]; rfl
    have hok2 : ∀ t ∈ ts ++ ts0, StpOk n t ∧ KindOk t.k ∧ WdOk t.w := fun t ht => (List.mem_append.mp ht).elim (hok t) (ts0_ok n1 t)
    have alen2 : (as ++ [t1, t2]).length ≤ 102 := by rw [List.length_append]; show as.length + 2 ≤ 102; omega
    have in0 : ∀ t ∈ ts0, t ∈ ts ++ ts0 := fun t ht => List.mem_append_right _ ht
    clear b1 b2 b3 b4 b13 b14 et1 et2 el2 el' ht1 ht2 hl2 hl3 s01 hst el ep
    generalize as ++ [t1, t2] = as2 at hst2 el3 alen2
    generalize ts ++ ts0 = ts2 at hst2 hok2 in0
    clear hok alen
    -- the steps more
    refine ⟨2, rfl, by decide, by decide, ?_⟩
    refine lcR walk_range (fun D i o H' => ∃ a t, o = some (.ref a) ∧ a ≠ D ∧ StpR H' a t ∧ (StpOk n t ∧ KindOk t.k ∧ WdOk t.w)) (fun D i o Ha Hb ⟨a, t, y1, y2, y3, y4⟩ sb => ⟨a, t, y1, y2, sb _ _ y2 y3, y4⟩) (fun _ _ => trivial) (by decide) ?_ ?_
    · rintro D i y Ha Hb acc hi hD sA eD ⟨rfl, rfl⟩ Kt kk
      rw [show ((fun i : Nat => V.int (0 + (i : Int))) i) = V.int (i : Int) by show V.int (0 + (i : Int)) = _; rw [Int.zero_add]]
      have hi : i < 2 := hi
      have sHb := s02.trans sA
      refine ⟨rfl, _, rfl, _, rfl, 4, (i : Int), rfl, rfl, .inl ⟨by decide, by decide⟩, 400, _, rfl, rfl, _, rfl, sa, ns, _, (n : Int), rfl, sHb.seq hs, by omega, by omega, by omega, by omega, fun Hc d1 sc d10 d11 => ?_⟩
      refine ⟨(by show 3 ≤ sizeLine; decide), fun kt hkt => ?_⟩
      have skt := smNew hkt (o := .tup (kindsM.map V.str))
      refine ⟨_, rfl, _, rfl, 4, (i : Int), rfl, rfl, .inl ⟨by decide, by decide⟩, 401, _, rfl, rfl, sa, ns, _, 3, rfl, ((sHb.trans sc).trans skt).seq hs, by omega, by omega, by omega, by decide, fun Hd dk sd dk0 dk1 => ?_⟩
      obtain ⟨kj, hkj⟩ := Int.eq_ofNat_of_zero_le dk0
      have hkj2 : kj < kindsM.length := by show kj < 3; omega
      refine ⟨kt, _, _, .str kindsM[kj], rfl, rfl, .of (sd _ _ upd_same), by rw [hkj]; exact atI_nat (by show (kindsM.map V.str)[kj]? = _; rw [List.getElem?_map, List.getElem?_eq_getElem hkj2]; rfl), ?_⟩
      have kok := kindsM_ok _ (List.getElem_mem hkj2)
      generalize kindsM[kj] = kk' at kok
      have sHd := ((sHb.trans sc).trans skt).trans sd
      refine ⟨_, rfl, _, rfl, 4, (i : Int), rfl, rfl, .inl ⟨by decide, by decide⟩, 402, _, rfl, rfl, _, rfl, sa, ns, _, (n : Int), rfl, sHd.seq hs, by omega, by omega, by omega, by omega, fun He d2 se d20 d21 => ⟨(by show 4 ≤ sizeLine; decide), fun T hT => ?_⟩⟩
      refine kk (some (.ref T)) _ (((sc.trans skt).trans (sd.trans se)).trans (smNew hT)) ⟨T, ⟨d1, kk', "", d2⟩, rfl, fun z => ?_, upd_same, stepOk d10 d11 d20 d21 kok (.inl rfl)⟩
      have e := se _ _ (sd _ _ (skt _ _ (sc _ _ eD)))
      rw [← z, hT] at e
      cases e
    · intro D H3 os hD s3 eD olen hos
      obtain ⟨asm, tsm, eos, hsm, mlen, mok⟩ := stps_of (n := n) (os := os) fun o ho => by
        obtain ⟨i, hi, e⟩ := List.mem_iff_getElem.mp ho
        obtain ⟨a, t, y1, y2, y3, y4⟩ := hos i o (by rw [List.getElem?_eq_getElem hi, e])
        exact ⟨a, t, y1, y3, y4⟩
      rw [eos] at eD
      have s03 := s02.trans s3
      have el3 := s3 _ _ el3
      have hst3 := hst2.sm s3
      clear hos eos s3 hst2 s02 hD
      -- the two machines, the goals
      refine ⟨_, rfl, _, rfl, fun x dx hx hdx ndx => ?_⟩
      have sx : Same H3 (upd (upd H3 dx (.own x)) x (.ins (He.ga K "Machine") dx [])) := smMut (smNew hdx) hx
      refine ⟨x, dx, l3, n, as2, ts2, rfl, upd_same, sx _ _ el3, hst3.sm sx, n1, by omega, by omega, hok2, fun H4 ML sb4 mL hL => ⟨rfl, ?_⟩⟩
      have s4 : Same H3 H4 := same_but hx sx sb4
      refine ⟨_, rfl, _, rfl, _, rfl, l3, D, _, _, rfl, rfl, s4 _ _ el3, s4 _ _ eD, (by rw [List.length_map, List.length_map]; exact szOf (by omega)), fun l4 hl4 => ?_⟩
      have s5 : Same H4 (upd H4 l4 (.lst (as2.map V.ref ++ asm.map V.ref))) := smNew hl4
      have el4 : (upd H4 l4 (.lst (as2.map V.ref ++ asm.map V.ref))) l4 = some (.lst ((as2 ++ asm).map V.ref)) := by rw [upd_same, List.map_append]
      have hst4 : StpsAt (upd H4 l4 (.lst (as2.map V.ref ++ asm.map V.ref))) (as2 ++ asm) (ts2 ++ tsm) := paired_app (hst3.sm (s4.trans s5)) (hsm.sm (s4.trans s5))
      generalize upd H4 l4 (.lst (as2.map V.ref ++ asm.map V.ref)) = H5 at s5 el4 hst4
      refine fun y dy hy hdy ndy => ?_
      have sy : Same H5 (upd (upd H5 dy (.own y)) y (.ins (He.ga K "Machine") dy [])) := smMut (smNew hdy) hy
      refine ⟨y, dy, l4, n, as2 ++ asm, ts2 ++ tsm, rfl, upd_same, sy _ _ el4, hst4.sm sy, n1, by omega, by rw [List.length_append]; omega, (fun t ht => (List.mem_append.mp ht).elim (hok2 t) (mok t)), fun H6 MG sb6 mG hG => ⟨rfl, ?_⟩⟩
      have s56 : Same H5 H6 := same_but hy sy sb6
      have s46 := s5.trans s56
      have s06 := s03.trans (s4.trans s46)
      refine ⟨_, rfl, _, rfl, sa, ns, 300, n, rfl, s06.seq hs, by omega, by decide, by decide, by omega, fun H7 gp ss s7 egp pw sbd => ?_⟩
      refine ⟨(by show 3 ≤ sizeLine; decide), fun T3 hT3 => ?_⟩
      have s8 : Same H7 (upd H7 T3 (.tup [.ref x, .ref y, .ref gp])) := smNew hT3
      have eT3 : (upd H7 T3 (.tup [.ref x, .ref y, .ref gp])) T3 = some (.tup [.ref x, .ref y, .ref gp]) := upd_same
      generalize upd H7 T3 (.tup [.ref x, .ref y, .ref gp]) = H8 at s8 eT3
      refine ⟨T3, _, rfl, SqT.of eT3, rfl, _, _, rfl, _, _, rfl, _, _, rfl, rfl, ?_⟩
      have mL8 := mL.sm (s46.trans (s7.trans s8))
      have mG8 := mG.sm (s7.trans s8)
      have eg8 := s8 _ _ egp
      have s08 := s06.trans (s7.trans s8)
      have kL : ML.kinds = (["x", "y"] : List Str) := hL.xy mL.ok (fun t ht => (hok2 t ht).2.1) in0
      have kG : MG.kinds = (["x", "y"] : List Str) := hG.xy mG.ok (fun t ht => (List.mem_append.mp ht).elim (fun z => (hok2 t z).2.1) fun z => (mok t z).2.1) fun t ht => List.mem_append_left _ (in0 t ht)
      have sub : ∀ t ∈ ML.steps, t ∈ MG.steps := fun t ht => (hG.mem t).mpr (List.mem_append_left _ ((hL.mem t).mp ht))
      have nL := hL.n
      have nG := hG.n
      clear hL hG el3 hst3 mlen mok hsm eD s03 sx s4 s5 el4 hst4 sy s56 s46 s06 s7 s8 eT3 mL mG egp hok2 in0 alen2 olen hx hdx ndx hy hdy ndy hl4 hT3 sb4 sb6
      -- the allowances
      obtain ⟨mdx, mts, mwd, mkl, mfs, msa, mwa, pc⟩ := mL8.pc
      refine ⟨_, rfl, _, rfl, x, mdx, _, _, rfl, pc.m, pc.kinds, sa, mkl, ns, 320, ML.kinds, rfl, s08.seq hs, by omega, by decide, by decide, .of pc.kl, mL8.ok.knd, mL8.ok.k2, (fun k hk => (mL8.ok.kst k hk).1), fun HB ad al s9 ead aok akin => ?_⟩
      have mL := mL8.sm s9
      have mG := mG8.sm s9
      have hg : SqT K HB gp (ss.map V.int) := .of (s9 _ _ eg8)
      have s0B := s08.trans s9
      have akinG : ∀ p ∈ al, p.1 ∈ MG.kinds := fun p hp => by rw [kG, ← kL]; exact akin p hp
      have limE : limsN MG al = limsN ML al := by unfold limsN; rw [kG, kL, nG, nL]
      clear pc mL8 mG8 eg8 s9 s08
      have qF : ∀ {b : Bool} {H' : Hp}, b = true → Q (.bl b) H' := fun e => e ▸ q _
      -- promises that were broken
      refine cut_at (Same HB) ?_ fun Hk sk => ?_
      · refine ⟨_, rfl, _, rfl, _, rfl, y, gp, ad, MG, ss, al, rfl, mG, hg, pw, (fun s hs => by rw [nG]; exact sbd s hs), ead, aok, akinG, fun H1 x1 dx1 fs1 s1 ex1 hno => ?_, fun H1 x1 dx1 l1 as1 p1 nd1 s1 ex1 _ _ _ _ _ => ?_⟩
        · refine .inl ⟨x1, dx1, fs1, rfl, ex1, x1, rfl, true, rfl, true, rfl, ?_⟩
          refine ⟨_, rfl, _, rfl, _, rfl, x, gp, ad, ML, ss, al, rfl, mL.sm s1, smTup s1 hg, pw, (fun s hs => by rw [nL]; exact sbd s hs), s1 _ _ ead, aok, akin, fun H2 x2 dx2 fs2 s2 ex2 _ => ?_, fun H2 x2 dx2 l2 as2 p2 nd2 s2 ex2 _ _ hp hin _ => ?_⟩
          · exact .inl ⟨x2, dx2, fs2, rfl, ex2, x2, rfl, true, rfl, true, rfl, rfl, s1.trans s2⟩
          · rw [← limE] at hp
            exact absurd hin (hno nd2 p2 (hp.more (by rw [kG, kL]) sub))
        · exact .inr ⟨x1, dx1, _, rfl, ex1, x1, rfl, false, rfl, false, rfl, rfl, s1⟩
      have sbL : ∀ s ∈ ss, 0 ≤ s ∧ s < ML.n := fun s hs => by rw [nL]; exact sbd s hs
      have sbG : ∀ s ∈ ss, 0 ≤ s ∧ s < MG.n := fun s hs => by rw [nG]; exact sbd s hs
      -- the least vectors
      refine ⟨_, rfl, _, rfl, x, gp, ML, ss, rfl, mL.sm sk, smTup sk hg, pw, sbL, fun H1 xa dxa fsa la ba lsa s1 exa lka ela hva hFa lenA => ⟨xa, dxa, _, _, rfl, exa, lka, ?_⟩⟩
      refine ⟨_, rfl, _, rfl, y, gp, MG, ss, rfl, mG.sm (sk.trans s1), smTup (sk.trans s1) hg, pw, sbG, fun H2 xb dxb fsb lb bb lsb s2 exb lkb elb hvb hFb lenB => ⟨xb, dxb, _, _, rfl, exb, lkb, ?_⟩⟩
      refine ⟨(by show 2 ≤ sizeLine; decide), fun T2 hT2 => ?_⟩
      have s3 : Same H2 (upd H2 T2 (.tup [.ref la, .ref lb])) := smNew hT2
      have eT2 : (upd H2 T2 (.tup [.ref la, .ref lb])) T2 = some (.tup [.ref la, .ref lb]) := upd_same
      generalize upd H2 T2 (.tup [.ref la, .ref lb]) = H3' at s3 eT2
      refine ⟨T2, _, rfl, SqT.of eT2, rfl, _, _, rfl, _, _, rfl, rfl, ?_⟩
      have sk3 := sk.trans (s1.trans (s2.trans s3))
      have ela3 := (s2.trans s3) _ _ ela
      have elb3 := s3 _ _ elb
      have hva3 := hva.sm (s2.trans s3)
      have hvb3 := hvb.sm s3
      have hmore : ∀ v ∈ lsa, ∃ u ∈ lsb, vle u v = true ∧ u.length = v.length := falls_more (by rw [kG, kL]) sub hFa hFb
      have len2 : ∀ u ∈ lsb, u.length ≤ 2 := fun u hu => by rw [hFb.len u hu]; exact mG.ok.k2
      have balen : ba.length = lsa.length := Paired.length hva
      have bblen : bb.length = lsb.length := Paired.length hvb
      refine cut_abs (Same HB) (fun τ hτ => ?_) fun Hk4 sk4 => ?_
      · have f8 : τ[8]? = some (some (.ref la)) := by rw [hτ]; rfl
        have f9 : τ[9]? = some (some (.ref lb)) := by rw [hτ]; rfl
        have fl : τ.length = 29 := by rw [hτ]; rfl
        clear hτ
        refine ⟨_, f8, la, rfl, ⟨_, .of ela3⟩, ?_⟩
        refine lcData (VecR K) vecR_sm hva3 walk_list (fun _ => some (.bl true)) (fun H' s => .of (s _ _ ela3)) (by omega) ?_ ?_
        · intro v a Ha hv sa' hav Kt kk
          refine ⟨wipe1 _ _ _, ?_⟩
          have f9 : ((wipe τ [24]).set 24 (some (.ref a)))[9]? = some (some (.ref lb)) := lkO (by decide) f9
          have f24 : ((wipe τ [24]).set 24 (some (.ref a)))[24]? = some (some (.ref a)) := lkS (by rw [fl]; decide)
          have fl : ((wipe τ [24]).set 24 (some (.ref a))).length = 29 := lkL fl
          show tYes ((wipe τ [24]).set 24 (some (.ref a))) Ha _
          simp only [List.map_cons, List.map_nil]
          generalize (wipe τ [24]).set 24 (some (.ref a)) = τ1 at f9 f24 fl
          refine ⟨_, f9, lb, rfl, ⟨_, .of (sa' _ _ elb3)⟩, ?_⟩
          refine lcData (VecR K) vecR_sm (hvb3.sm sa') walk_list (fun u => some (.bl (vle u v))) (fun H' s => .of (s _ _ (sa' _ _ elb3))) (by omega) ?_ ?_
          · intro u b Hb hu sb' hbu Kt2 kk2
            refine ⟨wipe1 _ _ _, ?_⟩
            have f24 : ((wipe τ1 [26]).set 26 (some (.ref b)))[24]? = some (some (.ref a)) := lkO (by decide) f24
            have f26 : ((wipe τ1 [26]).set 26 (some (.ref b)))[26]? = some (some (.ref b)) := lkS (by rw [fl]; decide)
            have fl : ((wipe τ1 [26]).set 26 (some (.ref b))).length = 29 := lkL fl
            show tYes ((wipe τ1 [26]).set 26 (some (.ref b))) Hb _
            generalize (wipe τ1 [26]).set 26 (some (.ref b)) = τ2 at f24 f26 fl
            refine ⟨_, f26, _, f24, b, a, _, _, rfl, .inr ⟨hbu, smTup sb' hav, ?_⟩⟩
            refine lcPairs (walk_zipT rfl) rfl (fun p q => some (.bl (belowV p q))) (fun H' s => ⟨smTup s hbu, smTup (sb'.trans s) hav⟩) (by rw [List.length_map]; have := len2 u hu; omega) ?_ ?_
            · intro p q' Tp Hc hm sc hTp Kt3 kk3
              obtain ⟨i, j, rfl, rfl⟩ : ∃ i j, p = .int i ∧ q' = .int j := by
                have h1 := (List.of_mem_zip hm).1
                have h2 := (List.of_mem_zip hm).2
                obtain ⟨i, _, e1⟩ := List.mem_map.mp h1
                obtain ⟨j, _, e2⟩ := List.mem_map.mp h2
                exact ⟨i, j, e1.symm, e2.symm⟩
              exact ⟨Tp, _, rfl, SqT.of hTp, rfl, _, _, rfl, _, _, rfl, rfl, wipe2 _ (by decide) _ _, _, lkA (by decide) (by rw [fl]; decide), _, lkB (by rw [fl]; decide), i, j, rfl, rfl, kk3 _ (Same.refl _)⟩
            · intro D2 Hc hD2 sc eD2
              dsimp only [tNil]
              refine rAll_of eD2 (vle u v) ?_ (kk2 _ sc)
              rw [show vle u v = belowB u (v.map some) from rfl, ← below_eq, map_lv]
          · intro D2 Hb hD2 sb' eD2
            dsimp only [tNil]
            refine rAny_of eD2 true ?_ (kk _ sb')
            obtain ⟨u, hu, hle, _⟩ := hmore v hv
            exact List.any_eq_true.mpr ⟨u, hu, hle⟩
        · intro D2 Ha hD2 sa' eD2
          dsimp only [tNil]
          refine rAll_of eD2 true all_yes ?_
          exact ⟨true, rfl, rfl, sk3.trans sa'⟩
      -- the dead states
      refine cut_at (Same HB) ?_ fun Hk5 sk5 => ?_
      · refine ⟨_, rfl, _, rfl, y, gp, MG, ss, rfl, mG.sm sk4, smTup sk4 hg, pw, sbG, fun H1 p1 rkG s1 rG ep => ⟨p1, rfl, ⟨_, .of ep⟩, ?_⟩⟩
        refine lcItems walk_tup (fun _ => some (.bl true)) (fun H' s => smTup s (.of ep)) (by rw [List.length_map]; exact dead_len mG.ok.n2) ?_ ?_
        · intro v Ha hv sa' Kt kk
          obtain ⟨d, hd, rfl⟩ := List.mem_map.mp hv
          refine ⟨rfl, _, rfl, _, rfl, _, rfl, x, gp, ML, ss, rfl, mL.sm ((sk4.trans s1).trans sa'), smTup ((sk4.trans s1).trans sa') hg, pw, sbL, fun H2 p2 rkL s2 rL ep2 => ⟨p2, _, rfl, .inr (.of ep2), rfl, all_flatI _, ?_⟩⟩
          show Kt (some (V.bl (inV (.int d) _))) H2
          rw [inV_int, decide_eq_true (dead_more (by rw [nG, nL]) sub rL rG d hd)]
          exact kk _ s2
        · intro D2 Hb hD2 sb eD2
          dsimp only [tNil]
          refine rAll_of eD2 true all_yes ?_
          exact ⟨true, rfl, rfl, (sk4.trans s1).trans sb⟩
      -- the traces
      refine ⟨4, rfl, by decide, by decide, ?_⟩
      refine for_it walk_range (fun i σ H' => ∃ o10 o11 : Option V, σ = [some (.ref sa), some (.int (n : Int)), some (.ref l3), some (.ref D), some (.ref x), some (.ref y), some (.ref gp), some (.ref ad), some (.ref la), some (.ref lb), o10, o11, none, none, none, none, none, none, none, none, none, none, none, none, none, none, none, none, none] ∧ Same HB H') ⟨_, _, rfl, sk5⟩ (fun _ _ _ _ _ => trivial) ?_ ?_
      · rintro i v σ H4 H5 hi ⟨o10, o11, rfl, s5⟩ ⟨rfl, rfl⟩
        have hi : i < 4 := hi
        rw [show ((fun i : Nat => V.int (0 + (i : Int))) i) = V.int (i : Int) by show V.int (0 + (i : Int)) = _; rw [Int.zero_add]]
        refine ⟨_, rfl, _, rfl, 4, (i : Int), rfl, rfl, .inl ⟨by decide, by decide⟩, 329, _, rfl, rfl, sa, ns, _, 4, rfl, (s0B.trans s5).seq hs, by omega, by omega, by omega, by decide, fun H6 d1 s6 d10 d11 => ?_⟩
        obtain ⟨m1, rfl⟩ := Int.eq_ofNat_of_zero_le d10
        have m14 : m1 < 4 := by omega
        refine ⟨_, rfl, by omega, by omega, ?_⟩
        refine lcR walk_range (fun D i o H' => ∃ w : Str, o = some (.str w) ∧ w ≠ "") (fun D i o Ha Hb h _ => h) (fun _ _ => trivial) (by omega) ?_ ?_
        · rintro D j v Ha Hb acc hj hD sA eD ⟨rfl, rfl⟩ Kt kk
          have hj : j < 4 := by omega
          rw [show ((fun i : Nat => V.int (0 + (i : Int))) j) = V.int (j : Int) by show V.int (0 + (j : Int)) = _; rw [Int.zero_add]]
          refine ⟨rfl, (by show 2 ≤ sizeLine; decide), fun kt hkt => ?_⟩
          have skt := smNew hkt (o := .tup (wordsW.map V.str))
          refine ⟨_, rfl, _, rfl, 4, (i : Int), rfl, rfl, .inl ⟨by decide, by decide⟩, 330, _, rfl, rfl, _, rfl, _, (j : Int), rfl, rfl, sa, ns, _, 2, rfl, ((((s0B.trans s5).trans s6).trans sA).trans skt).seq hs, by omega, by omega, by omega, by decide, fun Hd dk sd dk0 dk1 => ?_⟩
          obtain ⟨kj, hkj⟩ := Int.eq_ofNat_of_zero_le dk0
          have hkj2 : kj < wordsW.length := by show kj < 2; omega
          refine ⟨kt, _, _, .str wordsW[kj], rfl, rfl, .of (sd _ _ upd_same), by rw [hkj]; exact atI_nat (by show (wordsW.map V.str)[kj]? = _; rw [List.getElem?_map, List.getElem?_eq_getElem hkj2]; rfl), ?_⟩
          exact kk (some (.str wordsW[kj])) _ (skt.trans sd) ⟨_, rfl, wordsW_ok _ (List.getElem_mem hkj2)⟩
        · intro D3 H7 os hD3 s7 eD3 olen hos
          obtain ⟨ws, eos, hws⟩ := words_of (H := H7) (os := os) fun o ho => by
            obtain ⟨j, hj, e⟩ := List.mem_iff_getElem.mp ho
            exact hos j o (by rw [List.getElem?_eq_getElem hj, e])
          rw [eos] at eD3
          have s57 := (s5.trans s6).trans s7
          refine ⟨_, rfl, _, rfl, (by show 2 ≤ sizeLine; decide), fun f1 hf1 => ?_⟩
          have sf1 := smNew hf1 (o := .tup (frXY.map V.str))
          refine ⟨x, D3, f1, ML, ws, rfl, mL.sm (s57.trans sf1), .of (sf1 _ _ eD3), hws, .of upd_same, fun H8 b1 s8 hb1 => ⟨b1, rfl, ?_⟩⟩
          have s58 := s57.trans (sf1.trans s8)
          cases b1 with
          | false => exact ⟨_, _, rfl, s58⟩
          | true =>
            refine ⟨_, rfl, _, rfl, (by show 2 ≤ sizeLine; decide), fun f2 hf2 => ?_⟩
            have sf2 := smNew hf2 (o := .tup (frXY.map V.str))
            refine ⟨y, D3, f2, MG, ws, rfl, mG.sm (s58.trans sf2), .of (sf2 _ _ ((sf1.trans s8) _ _ eD3)), hws, .of upd_same, fun H9 b2 s9 hb2 => ⟨b2, rfl, ?_⟩⟩
            have e2 : b2 = true := hb2.mpr (trace_more sub (hb1.mp rfl))
            subst e2
            exact ⟨_, _, rfl, s58.trans (sf2.trans s9)⟩
      · rintro σ H4 ⟨o10, o11, rfl, s4⟩
        -- how far
        refine ⟨_, rfl, x, ML, rfl, mL.sm s4, fun H5 Dn fkL s5 hDn eDn fL => ?_⟩
        refine ⟨_, rfl, y, MG, rfl, mG.sm (s4.trans s5), fun H6 Df fkG s6 hDf eDf fG => ?_⟩
        refine ⟨(by show 2 ≤ sizeLine; decide), fun T4 hT4 => ?_⟩
        have s7 : Same H6 (upd H6 T4 (.tup [.ref Dn, .ref Df])) := smNew hT4
        have eT4 : (upd H6 T4 (.tup [.ref Dn, .ref Df])) T4 = some (.tup [.ref Dn, .ref Df]) := upd_same
        generalize upd H6 T4 (.tup [.ref Dn, .ref Df]) = H7 at s7 eT4
        refine ⟨T4, _, rfl, SqT.of eT4, rfl, _, _, rfl, _, _, rfl, rfl, ?_⟩
        have s47 := (s4.trans s5).trans (s6.trans s7)
        have eDn7 := (s6.trans s7) _ _ eDn
        have eDf7 := s7 _ _ eDf
        have nDf : Df ≠ Dn := fun z => by rw [z] at hDf; rw [eDn] at hDf; cases hDf
        refine cut_at (Same HB) ?_ fun Hk8 sk8 => ?_
        · refine ⟨Dn, _, eDn7, True.intro, fun od => ?_⟩
          have hf : (upd H7 Dn (.frz od (.dK (nmD fkL)))) Dn = some (.frz od (.dK (nmD fkL))) := upd_same
          have hf2 : (upd H7 Dn (.frz od (.dK (nmD fkL)))) Df = some (.dK (nmD fkG)) := (upd_ne nDf).trans eDf7
          refine ⟨_, rfl, Dn, od, rfl, .inl ⟨_, hf, ?_⟩⟩
          have kl : (nmD fkL).length ≤ 1000000 := by rw [nmD_len]; exact fars_len mL.ok fL
          refine lcV walk_keys (fun _ => some (.bl true)) (fun H' s1 => s1 _ _ hf) kl ?_ ?_
          · rintro i v H8 H9 hi s8 ⟨rfl, k, u, hk, rfl⟩ Kt kk
            unfold nmD at hk
            rw [List.getElem?_map] at hk
            cases hp : fkL[i]? with
            | none => rw [hp] at hk; cases hk
            | some p =>
              rw [hp] at hk
              cases hk
              have hpm : (p.1, p.2) ∈ fkL := List.mem_of_getElem? hp
              obtain ⟨r', hr, hpG⟩ := fars_more sub fL fG p.1 p.2 hpm
              have g1 := nmD_get fL.nd hpm
              have g2 := nmD_get fG.nd hpG
              have dN : DGet H9 Dn (.int p.1) (some (.int (p.2 : Int))) := .inl ⟨_, .inl p.1, .inr ⟨od, s8 _ _ hf⟩, rfl, g1.symm⟩
              have dF : DGet H9 Df (.int p.1) (some (.int (r' : Int))) := .inl ⟨_, .inl p.1, .inl (s8 _ _ hf2), rfl, g2.symm⟩
              refine ⟨rfl, _, rfl, _, rfl, Df, _, rfl, dF, true, rfl, ?_⟩
              refine ⟨_, rfl, _, rfl, Df, _, rfl, dF, _, rfl, _, rfl, Dn, _, rfl, dN, (r' : Int), (p.2 : Int), rfl, rfl, ?_⟩
              show Kt (some (V.bl (decide ((r' : Int) ≤ (p.2 : Int))))) H9
              rw [decide_eq_true (show (r' : Int) ≤ (p.2 : Int) by omega)]
              exact kk _ (Same.refl _)
          · intro D4 H8 hD4 s8 eD4
            dsimp only [tNil]
            refine rAll_of eD4 true all_yes ?_
            exact ⟨true, rfl, s8 _ _ hf, rfl, s47.trans (unlock_same eDn7 s8)⟩
        exact ⟨sa, ns, _, _, _, _, _, _, _, _, _, _, _, _, _, rfl, (s0B.trans sk8).seq hs, hl, hT.ext fun b o h => (s0B.trans sk8) b o h, fun H' => q H'⟩
end
end Al
set_option maxHeartbeats 4000000
/-! H0: what the Hook says, in the proof's words. -/
namespace Al
open PySem PySem.Spec PyProof.Rows L2
theorem sup_ok {P : Program} {K : PySem.W.Frag} {C qual : Str} {st : Stmt} (e : fnS K C = supV qual st) (h1 : supF1 K P.main.file C qual = true) (h2 : supF2 K C = true) (h3 : supG K = true) : SupF P K C qual st := by
  obtain ⟨a1, a2⟩ := He.ba h2
  obtain ⟨a2, a3⟩ := He.ba a2
  obtain ⟨b1, b2⟩ := He.ba h3
  obtain ⟨b2, b3⟩ := He.ba b2
  refine ⟨?_, of_decide_eq_true a2, He.eqO_ok a3, of_decide_eq_true b1, b2, He.eqO_ok b3⟩
  unfold supF1 at h1
  unfold fnS at e
  split at h1
  · rename_i oc od fd osl q
    rw [q] at e
    obtain ⟨n1, n2, n3, n4, n5, n6, n7, n8, n9, n10, n11, n12, n13, n14, n15⟩ := fd
    have e2 : (some (n1, n2, n3, n4, n5, n6, n15) : FnSv) = (some (("__init__" : Str), qual, defArgs st, FuncBody.stmts (defBody st), defScope st, mainGlobals, builtinsNs) : FnSv) := e
    simp only [Option.some.injEq, Prod.mk.injEq] at e2
    obtain ⟨g1, g2, g3, g4, g5, g6, g7⟩ := e2
    subst g1 g2 g3 g4 g5 g6 g7
    obtain ⟨c1, c2⟩ := He.ba h1
    obtain ⟨c2, c3⟩ := He.ba c2
    obtain ⟨c3, c4⟩ := He.ba c3
    obtain ⟨cc, p1, p2, p3, x1, x2⟩ := cellB_ok c1
    have y2 := noneB_ok c2
    have y3 := noneB_ok c3
    obtain ⟨c, o1, o2, o3, vs, fl, tf, z1, z2, z3, z4, z5⟩ := fileB_ok c4
    obtain ⟨cd, w1⟩ := Option.isSome_iff_exists.mp (show (PySem.W.clsIn K (He.ga K C)).isSome = true from a1)
    dsimp only at x1 y2 y3 z1
    subst x1 y2 y3 z1
    exact ⟨oc, od, osl, n10, n11, n14, n12, c, cc, o1, o2, o3, vs, fl, tf, p1, p2, p3, cd, q, z2, z3, z4, z5, x2, w1⟩
  · cases h1
theorem insB_ok {K : PySem.W.Frag} {C : Addr} (c : Cls K C) (h : insB K C = true) : C8.InsC K C := by
  obtain ⟨h1, h⟩ := He.ba h
  obtain ⟨h2, h⟩ := He.ba h
  obtain ⟨h3, h⟩ := He.ba h
  obtain ⟨h4, h5⟩ := He.ba h
  exact ⟨c, He.eqO_ok h1, He.eqO_ok h2, of_decide_eq_true h3, of_decide_eq_true h4, of_decide_eq_true h5⟩
/-! ### what the Hook says, in the proof's words -/
section
variable {K : PySem.W.Frag} {h : Heap} {mg : Str → Option Value}
theorem SaysY.txt (c : SaysY h K) (X : K.In h) (G : h.Ns mainGlobals mg) : Txt K mg := by
  have f : ∀ f ∈ faL, f.ok K = true := fun f hf => c.d.facts hf
  have mem : ∀ {f : He.Fa}, f ∈ globs.map He.Fa.glo ∨ f ∈ frees.map He.Fa.free ∨ f ∈ clss.map He.Fa.cls ∨ f ∈ noats.map (fun p => He.Fa.noat p.1 p.2) ∨ f ∈ meths.map (fun p => He.Fa.meth p.1 p.2) ∨ f ∈ mkrs.map He.Fa.mkr ∨ f ∈ [He.Fa.int "MOST_STATES" 3000, He.Fa.int "MOST_LETTERS" 8] → f ∈ faL := fun h => by
    unfold faL
    simp only [List.mem_append]
    rcases h with h | h | h | h | h | h | h
    · exact .inl (.inl (.inl (.inl (.inl (.inl h)))))
    · exact .inl (.inl (.inl (.inl (.inl (.inr h)))))
    · exact .inl (.inl (.inl (.inl (.inr h))))
    · exact .inl (.inl (.inl (.inr h)))
    · exact .inl (.inl (.inr h))
    · exact .inl (.inr h)
    · exact .inr h
  refine ⟨fun x hx => He.glo_ok X G (f _ (mem (.inl (List.mem_map_of_mem hx)))), fun x hx => He.free_ok X G (f _ (mem (.inr (.inl (List.mem_map_of_mem hx))))), fun x hx => He.cls_ok (f _ (mem (.inr (.inr (.inl (List.mem_map_of_mem hx)))))),
    fun p hp => He.noat_ok (f _ (mem (.inr (.inr (.inr (.inl (List.mem_map.mpr ⟨p, hp, rfl⟩))))))), fun p hp => He.meth_ok (f _ (mem (.inr (.inr (.inr (.inr (.inl (List.mem_map.mpr ⟨p, hp, rfl⟩)))))))), fun x hx => He.mkr_ok (f _ (mem (.inr (.inr (.inr (.inr (.inr (.inl (List.mem_map_of_mem hx)))))))))
    , fun d hd => c.d.defs hd, He.int_ok X G (f _ (mem (.inr (.inr (.inr (.inr (.inr (.inr (by simp)))))))))
    , He.int_ok X G (f _ (mem (.inr (.inr (.inr (.inr (.inr (.inr (by simp)))))))))⟩
theorem SaysY.txt2 (c : SaysY h K) (T : Txt K mg) : Txt2 PySem.Challenge.pw_allbrokers_k28_whole_more_steps K := by
  obtain ⟨h1, h2⟩ := He.ba c.more
  obtain ⟨h2, h3⟩ := He.ba h2
  obtain ⟨h3, h4⟩ := He.ba h3
  obtain ⟨h4, h5⟩ := He.ba h4
  have sup : ∀ (i : Nat) (q : Str × Str × Stmt), supL[i]? = some q → SupF PySem.Challenge.pw_allbrokers_k28_whole_more_steps K q.1 q.2.1 q.2.2 := fun i q hq => by
    have e2 : (supL.map fun q => fnS K q.1)[i]? = (supL.map fun q => supV q.2.1 q.2.2)[i]? := by rw [c.s]
    rw [List.getElem?_map, List.getElem?_map, hq] at e2
    obtain ⟨a1, a2⟩ := He.ba (List.all_eq_true.mp h1 q (List.mem_of_getElem? hq))
    exact sup_ok (Option.some.inj e2) a1 a2 h2
  exact ⟨sup 0 _ rfl, sup 1 _ rfl, sup 2 _ rfl, sup 3 _ rfl, sup 4 _ rfl, insB_ok (T.c "Able") h3, of_decide_eq_true h4, by decide +kernel⟩
theorem codeOf_of {x : Str} {d : He.DefD} {fd : FuncData} (hx : d.at_ = (x, none)) (F : FunD K d.name d.qual d.params d.body d.scope (d.dvs K) (d.kws K) (He.fAd K d.at_) fd) : codeOf K (He.ga K x) = some (He.codeOf K (x, none)) := by
  obtain ⟨oc, od, dV, kV, doc, pm, an, cdv, ct, osl, rfl, lk, hcd, _, _⟩ := F.ex
  obtain ⟨c, rfl⟩ := He.codeIn_ref hcd
  rw [hx] at lk
  have e := He.codeOf_eq lk rfl
  rw [e]
  unfold codeOf
  rw [show K.lookup (He.ga K x) = _ from lk]
theorem SaysY.txtL (c : SaysY h K) {base : Heap} (TB : ∀ p ∈ tfL.map (He.cT K), LamX.TabB base mg p.1 p.2) :
    TxtL K mg base (He.cT K ("farthest", none)).1 (He.cT K ("farthest", none)).2 (He.cT K ("delay", none)).1 (He.cT K ("delay", none)).2 := by
  obtain ⟨_, h2⟩ := He.ba c.more
  obtain ⟨_, h3⟩ := He.ba h2
  obtain ⟨_, h4⟩ := He.ba h3
  obtain ⟨_, h5⟩ := He.ba h4
  obtain ⟨fd1, F1⟩ := c.d.defs (List.mem_of_getElem? h_farthest)
  obtain ⟨fd2, F2⟩ := c.d.defs (List.mem_of_getElem? h_delay)
  exact ⟨codeOf_of rfl F1, codeOf_of rfl F2, TB _ (List.mem_map.mpr ⟨_, by simp [tfL], rfl⟩), TB _ (List.mem_map.mpr ⟨_, by simp [tfL], rfl⟩), by simpa using h5⟩
end
end Al
set_option maxHeartbeats 4000000
/-! H2: the law's promise at the head's heap. -/
namespace Al
open PySem PySem.Spec PyProof.Rows L2
theorem law_at {w : World} {K : PySem.W.Frag} {h : Heap} {mg : Str → Option Value} {fa : Addr} (X : K.In h) (G : h.Ns mainGlobals mg) (hfa : mg ("law" : Str) = some (.ref fa)) (c : SaysY h K) :
    LamX.LawAtS PySem.Challenge.rw_allbrokers_k28_whole_more_steps w K L2.CX0 9 63 "_law_script" mg fa h := by
  have T := c.txt X G
  have U := c.txt2 T
  obtain ⟨fd, F⟩ := T.fn d_law (List.mem_of_getElem? h_law)
  have e1 : d_law.dvs K = [] := rfl
  have e2 : d_law.kws K = [] := rfl
  rw [e1, e2] at F
  have e : fa = He.fAd K d_law.at_ := by
    have e3 := hfa.symm.trans (T.g "law")
    have e4 := Option.some.inj e3
    injection e4
  subst e
  have b := FunD.bindsA (ps := ["_law_script"]) F b_law
  refine ⟨fd, tfL.map (He.cT K), spLaw K (He.cT K ("farthest", none)).2 (He.cT K ("delay", none)).2, fun p hp => ?_, fun p hp => ?_, fun p hp => ?_, fun s u => b s [u] rfl, fun H a ns hl _ hT hS => ⟨a, ns, rfl, hS, hl, fun p hp => ?_, fun H' => rfl⟩, fun base KB NB TB => ?_⟩
  · obtain ⟨q, hq, rfl⟩ := List.mem_map.mp hp
    exact c.empty q hq
  · obtain ⟨q, hq, rfl⟩ := List.mem_map.mp hp
    exact c.out q hq
  · obtain ⟨q, hq, rfl⟩ := List.mem_map.mp hp
    exact PySem.W.codeHd_of_K X (c.hd q hq)
  · rcases List.mem_cons.mp hp with rfl | hp
    · exact LamX.TabS.nil (hT _ (List.mem_map.mpr ⟨("farthest", none), by simp [tfL], rfl⟩))
    · rw [List.mem_singleton.mp hp]
      exact LamX.TabS.nil (hT _ (List.mem_map.mpr ⟨("delay", none), by simp [tfL], rfl⟩))
  · show FnOk PySem.Challenge.pw_allbrokers_k28_whole_more_steps w K mg base L2.CX0 9 (He.fAd K d_law.at_) fd ["_law_script"] _
    refine FunD.ok F sc_law (fun vs H Q E h => ?_) (fun cdv A outer s H vs Q E hr h => ?_)
    · obtain ⟨sa, ns, rfl, _⟩ := h
      rfl
    · obtain ⟨t, a, b⟩ := body_law T U (c.txtL TB) cdv A outer s H vs Q E hr h
      exact ⟨t, a.nox, b⟩
end Al
open PySem PySem.W PySem.Calls PyProof.Rows
set_option maxRecDepth 100000 in
set_option maxHeartbeats 8000000 in
theorem PySem.Challenge.cw_allbrokers_k28_whole_more_steps_holds : PySem.Challenge.rw_allbrokers_k28_whole_more_steps.Holds := by
  w_on; o_law
  refine HandSHeadRun.head_any (r := OpenLaw.row PySem.Challenge.rw_allbrokers_k28_whole_more_steps) (q := view (OpenLaw.row PySem.Challenge.rw_allbrokers_k28_whole_more_steps).prog [65]) (H := Al.hkY) (ob := Al.ob) (M := 9000) (loose := Al.names) (d := HandSHeadRun.topDef (OpenLaw.row PySem.Challenge.rw_allbrokers_k28_whole_more_steps).prog 65) (kwd := []) Al.ob_eq
    (by kernel_rfl) (fun s => by kernel_rfl) Al.run_top (by kernel_rfl) (by kernel_rfl) (by kernel_rfl) (by rfl) (by first | assumption | decide +kernel) (by decide +kernel) ⟨rfl, rfl, rfl, rfl, rfl, by decide +kernel⟩ ?hw ?hc
  case hw => w_witness2
  case hc =>
    refine LamX.walk_ofTsE (l := PySem.Challenge.rw_allbrokers_k28_whole_more_steps) (n := 63) (k := 9) (x := "_law_script") (CX := fun _ => L2.CX0) rfl (by decide) (by kernel_rfl) ⟨rfl, by decide, by decide⟩ ?F (fun _ _ _ _ _ z => z)
    intro w mg fa h Y G hmg0
    obtain ⟨K, KX, c⟩ := Y
    have hmg : mg ("law" : PySem.Str) = some (.ref fa) := by
      have e : (HandSHeadRun.topDef (OpenLaw.row PySem.Challenge.rw_allbrokers_k28_whole_more_steps).prog 65).name = ("law" : PySem.Str) := by kernel_rfl
      rw [← e]
      exact hmg0
    exact ⟨K, KX, Al.law_at KX G hmg c⟩
