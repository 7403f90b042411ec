import PyProof.Rows.All
import HandS.ForMost
import HandS.ForExc
import HandS.TryMany
import HandS.ExcInit
import HandS.IsInst
import HandS.Deep
import HandS.More
import KE.SortData
import KE.DataEq
import KE.KDictPairs
import HandS.Defaults
import HandS.HeadHook2
import HandS.TupLe
import HandS.TupAny
import HandS.Wide
import HandS.Replace
import HandS.ExcField
import HandS.Small
import HandS.Walk
import HandS.HeadEnd
import HandS.Head0
import HandS.Head1
import HandS.Head2
import PySem.Challenge.RW_cellsmeet_k19_words_and_stacks
import HandS.SortInts
set_option Elab.async false
set_option linter.all false
set_option maxRecDepth 100000
set_option maxHeartbeats 0
/-! Own exceptions over Exception: made without arguments, made by an own init that stores its arguments; a try with several clauses, named ones too. -/
namespace MeX
open PySem PySem.Spec PyProof.Rows L2

/-- Exception and what stands above it -/
abbrev exTail : List Value := [.type "Exception", .type "BaseException", .type "object"]

section
variable {X : Cx} {C : Addr} {B newId initId : String} {bmB : List Value}
/-- X(), X an own exception class without own init -/
theorem pmk_none {x : Str} {p pos : Pos} (F : ExcBaseFacts B newId initId bmB)
    (q : PySem.W.excIn X.K C bmB newId = true) (gC : X.mg x = some (.ref C))
    (kC : PySem.W.keepIn X.K (.ref C) = true) (r : Raises X (.ref C)) (hg : Gl X x)
    (hdb : (x == ("__debug__" : Str)) = false := by decide) :
    PMk X (.Call (.Name x p) [] [] pos) (fun _ H Q => Q (.ref C) none H) := by
  intro pins s σ H Q I h
  refine wpAny_Call_Name_kw (ld_glob I hg gC ?_ hdb)
  refine PySem.W.callWith_K0 I.kIn kC ?_
  obtain ⟨bm, N, nm, qn, bs, hdct, sn, sub, ab, col, dd, k0, k1, k2, k3, k5, mN, hC, hN, hni, T⟩ :=
    exc_obj I.kIn q
  exact wpAny_call_exc_subT F T hC hN hni
    (fun h' e hm => mk_of I hm r h (I.hok.gone hm.new)) (by show 0 ≤ sizeLine; exact Nat.zero_le _)
end

/-! ### a class whose mro is own classes, then exTail -/
structure MroE (l : List Value) : Prop where
  own : ∃ cs : List Addr, l = cs.map Value.ref ++ exTail
def refsE : List Value → Bool
  | .ref _ :: r => refsE r
  | l => l == exTail
theorem mroE_of : ∀ {l : List Value}, refsE l = true → MroE l := by
  intro l
  induction l with
  | nil => intro e; exact absurd e (by decide)
  | cons v r ih =>
    intro e
    cases v with
    | ref c =>
      obtain ⟨cs, q⟩ := (ih e).own
      exact ⟨c :: cs, by rw [q]; rfl⟩
    | _ => exact ⟨[], beq_iff_eq.mp e⟩
theorem MroE.cons {l : List Value} (m : MroE l) (c : Addr) : MroE (.ref c :: l) := by
  obtain ⟨cs, q⟩ := m.own
  exact ⟨c :: cs, by rw [q]; rfl⟩
theorem MroE.passes {l : List Value} (m : MroE l) (self : Value) : refuseLoop self "__setattr__" l = pure () := by
  obtain ⟨cs, q⟩ := m.own
  rw [q]
  clear q
  induction cs with
  | nil => exact F.store_Exception.passes self
  | cons c cs ih => exact (refuseLoop_ref self _ c _).trans ih
theorem MroE.has {l : List Value} (m : MroE l) (Y : String) : l.contains (.type Y) = exTail.contains (.type Y) := by
  obtain ⟨cs, q⟩ := m.own
  rw [q]
  clear q
  induction cs with
  | nil => rfl
  | cons c cs ih =>
    show (Value.ref c :: (cs.map Value.ref ++ exTail)).contains (.type Y) = _
    rw [List.contains_cons, ih]
    rfl
theorem MroE.ne {l : List Value} (m : MroE l) : l.isEmpty = false := by
  obtain ⟨cs, q⟩ := m.own
  rw [q]
  cases cs <;> rfl

section
open PySem.W PySem.Calls PySem.HandSPX
open Builtin Builtin.ObjectAttr
variable {prog : Program} {w : World} {A : Around} {R : Result → Shared → Prop}
variable {hp : Heap} {g : Array GenState} {d : Drawn} {t : Nat} {os : OsState}

/-- the first attribute of an exception -/
theorem osa_first {K : W.Frag} {name : Str} {tk : Tok} {v : Value} {x C : Addr} {fv : Array Value} {cd : ClassData}
    (X : K.In hp) (hx : hp.get? x = some { cls := .ref C, data := .fields fv })
    (hcd : W.clsIn K C = some cd) (hm : MroE cd.mro) (hh : cd.hasDict = true)
    (ha : W.findIn K (.ref C) name = some none)
    (hq : ∀ h' tk' dx, (∀ b o, b ≠ x → hp.get? b = some o → h'.get? b = some o) → hp.objs.size ≤ dx → dx ≠ x →
      h'.get? x = some { cls := .ref C, dict := some dx, data := .fields fv } →
      h'.Ns1 dx (fun y => if y = name then some v else none) → R (.ok (.ret .none)) ⟨h', g, d, tk', os⟩) :
    codeAny (model prog w) A (.call (.builtin "object.__setattr__") ⟨[.ref x, .str name tk, v], []⟩) R
      ⟨hp, g, d, t, os⟩ := by
  have J : W.InstAt hp x { cls := .ref C, data := .fields fv } C none := ⟨hx, rfl, rfl, trivial⟩
  have SF := F.store_object
  have ne := hm.ne
  have hob : cd.mro.contains (.type "object") = true := (hm.has "object").trans (by decide +kernel)
  have hin : W.mroIn K C (.type "object") = some true := by
    unfold W.mroIn
    rw [hcd, Option.bind_some, if_neg (by rw [ne]; decide), hob]
  have far : x ≠ hp.objs.size := Nat.ne_of_lt (Heap.lt_size hx)
  have sub : W.Looks (model prog w) hp (isInstance (.ref x) (.type "object")) true :=
    J.type.andThen (W.looks_mroIn X hin)
  refine codeAny_call_builtin SF.slot.plain SF.entry ?_
  refine @W.check_slot (model prog w) _ _ ⟨hp, g, d, t, os⟩ "object.__setattr__" "object" "__setattr__"
    (.ref x) [.str name tk, v] [] _ SF.kind SF.split sub (SF.args (.ref x) (.str name tk) v) ?_
  have mr : W.Looks (model prog w) hp (mroOf (.ref C)) cd.mro := (W.looks_clsIn X hcd).andThen .now
  have L3 : W.Looks (model prog w) hp (storeTaker? none) none := .now
  have lc : W.Looks (model prog w) hp (classData C) cd := W.looks_clsIn X hcd
  rw [W.osa_eq, refuse_eq]
  refine wpAny_bind (wpAny_bind (J.type.at (wpAny_bind (mr.at ?_))))
  rw [hm.passes]
  refine wpAny_pure ?_
  refine wpAny_bind (J.type.at (wpAny_bind ((W.looks_findIn X ha).at (wpAny_bind (L3.at ?_)))))
  show wpAny _ _ (storeInOwnDict (.ref x) (.ref C) (.str name tk) name v false) _ _ _
  obtain ⟨nm, bs, mro, ns, qn, hd, sn, sb, ab, col, del⟩ := cd
  dsimp only at hh
  subst hh
  unfold storeInOwnDict ownDictForStores
  repeat (first
    | with_reducible refine store_in_new ?_ ?_
    | with_reducible refine wpAny_loadPart_at hx ?_
    | with_reducible refine lc.at ?_
    | wp_step)
  · refine ⟨_, #[], _, (Heap.get?_update_ne _ _ _ _ far.symm).trans (Heap.get?_push_at rfl rfl), rfl, ?_, fun _ => rfl⟩
    exact fun e he => absurd he (by simp)
  · intro h' tk' hn' hs
    have hx1 : (hp.push { cls := .type "dict", data := .dict #[] }).get? x =
        some { cls := .ref C, data := .fields fv } := Heap.get?_push_of_some _ hx
    refine hq h' tk' hp.objs.size (fun b o hb ho => ?_) (Nat.le_refl _) far.symm ?_ hn'
    · refine (hs.2 b (Nat.ne_of_lt (Heap.lt_size ho))).trans ?_
      exact (Heap.get?_update_ne _ _ _ _ hb).trans (Heap.get?_push_of_some _ ho)
    · exact (hs.2 x far).trans (Heap.get?_update_self _ hx1 rfl)
/-- a further one -/
theorem osa_next {K : W.Frag} {name : Str} {tk : Tok} {v : Value} {x C dx : Addr} {fv : Array Value} {cd : ClassData}
    {m0 : Str → Option Value} {nl : List Str}
    (X : K.In hp) (hx : hp.get? x = some { cls := .ref C, dict := some dx, data := .fields fv })
    (hns : hp.Ns1 dx m0) (hw : Within m0 nl) (hz : nl.length ≤ 1000)
    (hcd : W.clsIn K C = some cd) (hm : MroE cd.mro) (hh : cd.hasDict = true)
    (ha : W.findIn K (.ref C) name = some none)
    (hq : ∀ h' tk', (∀ b o, b ≠ dx → hp.get? b = some o → h'.get? b = some o) →
      h'.Ns1 dx (fun y => if y = name then some v else m0 y) → R (.ok (.ret .none)) ⟨h', g, d, tk', os⟩) :
    codeAny (model prog w) A (.call (.builtin "object.__setattr__") ⟨[.ref x, .str name tk, v], []⟩) R
      ⟨hp, g, d, t, os⟩ := by
  obtain ⟨oD, esD, epD, hoD, hdD, _⟩ := hns.count hw
  have J : W.InstAt hp x { cls := .ref C, dict := some dx, data := .fields fv } C (some oD) := ⟨hx, rfl, rfl, hoD⟩
  have SF := F.store_object
  have ne := hm.ne
  have hob : cd.mro.contains (.type "object") = true := (hm.has "object").trans (by decide +kernel)
  have hin : W.mroIn K C (.type "object") = some true := by
    unfold W.mroIn
    rw [hcd, Option.bind_some, if_neg (by rw [ne]; decide), hob]
  have sub : W.Looks (model prog w) hp (isInstance (.ref x) (.type "object")) true :=
    J.type.andThen (W.looks_mroIn X hin)
  refine codeAny_call_builtin SF.slot.plain SF.entry ?_
  refine @W.check_slot (model prog w) _ _ ⟨hp, g, d, t, os⟩ "object.__setattr__" "object" "__setattr__"
    (.ref x) [.str name tk, v] [] _ SF.kind SF.split sub (SF.args (.ref x) (.str name tk) v) ?_
  have mr : W.Looks (model prog w) hp (mroOf (.ref C)) cd.mro := (W.looks_clsIn X hcd).andThen .now
  have L3 : W.Looks (model prog w) hp (storeTaker? none) none := .now
  have lc : W.Looks (model prog w) hp (classData C) cd := W.looks_clsIn X hcd
  rw [W.osa_eq, refuse_eq]
  refine wpAny_bind (wpAny_bind (J.type.at (wpAny_bind (mr.at ?_))))
  rw [hm.passes]
  refine wpAny_pure ?_
  refine wpAny_bind (J.type.at (wpAny_bind ((W.looks_findIn X ha).at (wpAny_bind (L3.at ?_)))))
  show wpAny _ _ (storeInOwnDict (.ref x) (.ref C) (.str name tk) name v false) _ _ _
  obtain ⟨nm, bs, mro, ns, qn, hd, sn, sb, ab, col, del⟩ := cd
  dsimp only at hh
  subst hh
  unfold storeInOwnDict ownDictForStores
  repeat (first
    | with_reducible refine PySem.OEX.store_in_old hns hw hz ?_
    | with_reducible refine wpAny_loadPart_at hx ?_
    | with_reducible refine lc.at ?_
    | wp_step)
  intro h' tk' hn' hs
  exact hq h' tk' (fun b o hb ho => (hs.2 b hb).trans ho) hn'
end

/-! ### an exception that is being made by its own init -/
/-- what the written part says of such a class -/
structure OexE (K : PySem.W.Frag) (C : Addr) : Prop where
  cls : ∃ nm q N bs bm sn sub ab col dd k0 k1 k2 k3 k5, MroE bm ∧
    K.lookup C = some (excClassObj nm q C N bs bm true sn sub ab col dd k0 k1 k2 k3 k5 "Exception.__new__")
  sa : PySem.W.findIn K (.ref C) "__setattr__" = some (some (.builtin "object.__setattr__"))
  exC : PySem.W.subIn K (.ref C) (.type "BaseException") = some true
  tyC : PySem.W.typeIn K (.ref C) = some (.type "type")
  kC : PySem.W.keepIn K (.ref C) = true
theorem OexE.data {K : PySem.W.Frag} {C : Addr} (T : OexE K C) : ∃ cd, PySem.W.clsIn K C = some cd ∧ MroE cd.mro ∧ cd.hasDict = true := by
  obtain ⟨nm, q, N, bs, bm, sn, sub, ab, col, dd, k0, k1, k2, k3, k5, m, e⟩ := T.cls
  refine ⟨{ name := nm, bases := bs, mro := .ref C :: bm, ns := N, qualname := q, hasDict := true, slotNames := sn, subclasses := sub, abstract := ab, collection := col, hasDel := false }, ?_, m.cons C, rfl⟩
  unfold PySem.W.clsIn
  rw [e] <;> rfl
section
variable {X : Cx} {pins : List (Addr × Obj)} {σ : L2.St} {H : Hp} {s : Shared} {a C dx : Addr} {f : Str} {y : V} {u : Value}
variable {fs : List (Str × V)} {Q : Unit → Shared → Prop} {E : Value → Shared → Prop} {A : Around}
theorem put_first (T : OexE X.K C) (I : Inv X pins σ H s) (e : H a = some (exo a C none))
    (hno : PySem.W.findIn X.K (.ref C) f = some none) (ry : RelV y u)
    (h : ∀ dx s', H dx = none → dx ≠ a → Inv X pins σ (upd (upd H dx (exd dx [(f, y)])) a (exo a C (some dx))) s' → Q () s') :
    wpAny (model X.prog X.w) A (setAttr (.ref a) f u) Q E s := by
  obtain ⟨cd, hcl, hm, hh⟩ := T.data
  obtain ⟨t1, ho⟩ := exo_at I.hok e
  obtain ⟨hp, g, d, t, os⟩ := s
  refine PySem.W.set_plain I.kIn (ox := PySem.HandSPX.excO C t1) (od := none) ⟨ho, rfl, rfl, trivial⟩ T.sa ?_
  refine osa_first I.kIn ho hcl hm hh hno (fun h' tk' dx k dn dne hx hn => ?_)
  have hnd : H dx = none := I.hok.fresh dn
  have nd : ∀ {b : Addr} {o : Obj}, hp.get? b = some o → b ≠ dx := fun {b o} q =>
    Nat.ne_of_lt (Nat.lt_of_lt_of_le (Heap.lt_size q) dn)
  have na : ∀ {b : Addr}, H b = none → b ≠ a := fun {b} n z => by
    rw [z, e] at n
    cases n
  have U : Un X.fs [] H (upd (upd H dx (exd dx [(f, y)])) a (exo a C (some dx))) hp h' := by
    constructor
    · exact fun b o q n _ _ => k b o (na n) q
    · exact fun b o q n _ _ => ⟨o.slots, k b o (na n) q⟩
    · intro b o q n _
      rw [upd_ne (na n), upd_ne (nd q)]
      exact n
    · intro b o q _
      by_cases hb : b = a
      · exact ⟨_, by rw [hb]; exact hx⟩
      · exact ⟨o, k b o hb q⟩
    · intro b xs q
      rw [upd_ne (at_ne e q exo_tup), upd_ne (ne_of_none q hnd)]
      exact q
    · intro b o v q
      rw [upd_ne (at_ne e q exo_frz), upd_ne (ne_of_none q hnd)]
      exact q
    · intro b ps q
      exact ⟨#[], by rw [upd_ne (at_ne e q exo_tbl), upd_ne (ne_of_none q hnd), q]; simp⟩
  refine h dx _ hnd dne (I.un (t' := tk') U fun b o q => ?_)
  by_cases hb : b = a
  · subst hb
    rw [upd_same] at q
    cases q
    exact exo_ok hx
  · rw [upd_ne hb] at q
    by_cases hd : b = dx
    · subst hd
      rw [upd_same] at q
      cases q
      exact exd_ok hn (relO_put (fs := []) ry fun g => True.intro)
    · rw [upd_ne hd] at q
      refine (I.hok b o q).stay (fun c v hc z => k c v ?_ z) (fun c hc => ?_) (fun c xs hc => ?_)
      · rcases hc with hc | hc
        · rw [hc]
          exact hb
        · exact at_ne e hc exo_own
      · rw [upd_ne (at_ne e hc exo_own), upd_ne (ne_of_none hc hnd)]
        exact hc
      · rw [upd_ne (at_ne e hc exo_tup), upd_ne (ne_of_none hc hnd)]
        exact hc
theorem put_next (T : OexE X.K C) (I : Inv X pins σ H s) (e : H a = some (exo a C (some dx))) (ed : H dx = some (exd dx fs))
    (hl : fs.length ≤ 900) (hno : PySem.W.findIn X.K (.ref C) f = some none) (ry : RelV y u)
    (h : ∀ s', Inv X pins σ (upd H dx (exd dx ((f, y) :: fs))) s' → Q () s') :
    wpAny (model X.prog X.w) A (setAttr (.ref a) f u) Q E s := by
  obtain ⟨cd, hcl, hm, hh⟩ := T.data
  obtain ⟨t1, ho⟩ := exo_at I.hok e
  obtain ⟨mA, hns, rel⟩ := exd_at I.hok ed
  have hw := within_of rel
  obtain ⟨hp, g, d, t, os⟩ := s
  obtain ⟨oD, _, _, hoD, _, _⟩ := hns.count hw
  refine PySem.W.set_plain I.kIn (od := some oD) (ox := { PySem.HandSPX.excO C t1 with dict := some dx }) ⟨ho, rfl, rfl, hoD⟩ T.sa ?_
  refine osa_next I.kIn ho hns hw ?_ hcl hm hh hno (fun h' tk' k hn => ?_)
  · rw [List.length_map]
    omega
  have hd : ∃ o, h'.get? dx = some o := by
    obtain ⟨o, _, _, e', _⟩ := hn
    exact ⟨o, e'⟩
  refine h _ (I.write (t' := tk') (x := dx) (e := dx) (o := exd dx ((f, y) :: fs)) ?_ (.inl rfl) k hd (exd_ok hn (relO_put ry rel)))
  rw [ed]
  exact True.intro
end
/-- self.f = e, self the exception that is being made -/
def tPutE (K : PySem.W.Frag) (f : Str) (to te : TE) : TS := fun D σ H =>
  te σ H fun y H1 => to σ H1 fun x H2 => ∃ a C : Addr, x = .ref a ∧ OexE K C ∧ PySem.W.findIn K (.ref C) f = some none ∧
    ((H2 a = some (exo a C none) ∧ ∀ dx, H2 dx = none → dx ≠ a →
        D.nx σ (upd (upd H2 dx (exd dx [(f, y)])) a (exo a C (some dx)))) ∨
      ∃ (dx : Addr) (fs : List (Str × V)), H2 a = some (exo a C (some dx)) ∧ H2 dx = some (exd dx fs) ∧ fs.length ≤ 900 ∧
        D.nx σ (upd H2 dx (exd dx ((f, y) :: fs))))
section
variable {X : Cx} {o e : Expr} {es : List Expr} {to te : TE} {ta : TA} {f : Str} {p p' pos : Pos}
theorem ps_putE (ho : PE X o to) (he : PE X e te)
    (hs : swapsWith e (some (.Attribute o f p')) pos.line X.env = pure false := by rfl) :
    PS X (.Assign [.Attribute o f p'] e pos) (tPutE X.K f to te) := by
  refine ⟨fun pins s σ H D I h => ?_⟩
  refine plainObj_wpAny_Assign_Attribute (thn (he.run pins s σ H _ I h) fun v s1 g1 => ?_) hs
  obtain ⟨y, H1, I1, r1, q1⟩ := g1
  refine thn (ho.run pins s1 σ H1 _ I1 q1) fun u s2 g2 => ?_
  obtain ⟨x, H2, I2, r2, a, C, ex, T, hno, q⟩ := g2
  subst ex
  obtain rfl : u = Value.ref a := r2
  rcases q with ⟨ea, q⟩ | ⟨dx, fs, ea, ed, hl, q⟩
  · exact put_first T I2 ea hno r1 fun dx s' n ne J => ⟨σ, _, J, q dx n ne⟩
  · exact put_next T I2 ea ed hl hno r1 fun s' J => ⟨σ, _, J, q⟩
/-- C(e, ..), C's own init keeping sp -/
theorem pmk_init {CX : CXT} {x : Str} {C fI : Addr} {k : Nat} {fd : FuncData} {ps : List Str} {sp : Sp} {ds : List Value} {dvs : List V}
    (T : OexE X.K C) (iC : PySem.W.findIn X.K (.ref C) "__init__" = some (some (.ref fI)))
    (tI : PySem.W.typeIn X.K (.ref fI) = some (.type "function"))
    (G : FnOk X.prog X.w X.K X.mg X.base CX k fI fd ps sp) (hr : Room (k + 1) X.A) (hb : Binds X.K fd ps ds) (hd : Vals dvs ds)
    (hx : Passes CX X (fun _ _ _ => False)) (hg : Gl X x) (hm : X.mg x = some (.ref C)) (ha : PA X (e :: es) ta)
    (hdb : (x == ("__debug__" : Str)) = false := by decide)
    (he : starEach (e :: es) X.env = (false, eval e X.env) :: starEach es X.env := by rfl)
    (hpl : (backTo pos (starEach es X.env)).any (·.1) = false := by rfl) :
    PMk X (.Call (.Name x p) (e :: es) [] pos) (tMkO C sp dvs ta) := by
  intro pins s σ H Q I h
  obtain ⟨nm, q, N, bs, bm, sn, sub, ab, col, dd, k0, k1, k2, k3, k5, hbm, hC⟩ := T.cls
  refine wpAny_Call_Name_kw (ld_glob I hg hm ?_ hdb)
  refine PySem.W.callWith_K (h₀ := X.base) I.ok.mod.kin T.kC ?_ he hpl
  refine thn (ha.run pos pins s σ H _ I h) fun us s1 g1 => ?_
  obtain ⟨vs, H1, I1, r1, hz, q1⟩ := g1
  refine ⟨I1.kIn, ?_⟩
  show wpAny _ _ (call (.ref C) us) _ _ _
  obtain ⟨hp, g, dr, tk, os⟩ := s1
  have hsz : hp.objs.size ≤ hp.objs.size + 1 := Nat.le_succ _
  have hn : H1 (hp.objs.size + 1) = none := I1.hok.fresh hsz
  have hq := q1 (hp.objs.size + 1) hn
  generalize hG : (hp.push (PySem.W.kdv_tup us)).push (PySem.HandSPX.excO C hp.objs.size) = hp2
  have kk : ∀ b o, hp.get? b = some o → hp2.get? b = some o := fun b o e => by
    rw [← hG]
    exact Heap.get?_push_of_some _ (Heap.get?_push_of_some _ e)
  have hget : hp2.get? (hp.objs.size + 1) = some (PySem.HandSPX.excO C hp.objs.size) := by
    rw [← hG]
    heap_get
  have I2 : Inv X pins σ (upd H1 (hp.objs.size + 1) (exo (hp.objs.size + 1) C none)) ⟨hp2, g, dr, tk, os⟩ :=
    I1.laid (t' := tk) (h' := hp2) (a := hp.objs.size + 1) (o := exo (hp.objs.size + 1) C none) kk hsz (exo_ok hget)
  have r2 : Vals (V.ref (hp.objs.size + 1) :: (vs ++ dvs)) (Value.ref (hp.objs.size + 1) :: (us ++ ds)) :=
    .cons rfl (r1.append hd)
  have hl : (Value.ref (hp.objs.size + 1) :: us ++ ds).length = ps.length := by
    have e := r2.length
    rw [G.len _ _ _ _ hq] at e
    exact e.symm
  have hus : us.length ≤ sizeLine := by
    rw [← Paired.length r1, sizeLine_eq]
    omega
  refine wpAny_call (PySem.HandSPX.call_own PySem.F.excBase_Exception (fun Y => hbm.has Y) (I1.kIn _ _ hC)
    (PySem.W.looks_findIn I1.kIn iC) (fun self => PySem.W.bind_fn I1.kIn self tI) hus ?_)
  rw [hG]
  have run := G.run _ X.stack _ _ ⟨Value.ref (hp.objs.size + 1) :: us, []⟩ (Value.ref (hp.objs.size + 1) :: (us ++ ds))
    _ _ (fun _ _ _ => False) (hr.make C us []) (I2.env0.make C us []) (hb _ (Value.ref (hp.objs.size + 1) :: us) I2.kIn hl) r2 hq
  refine codeAny_mono run fun r s' hq' => ?_
  cases r with
  | error er => exact hx pins σ _ _ er s' I2 hq'
  | ok fl =>
    cases fl with
    | ret u =>
      obtain ⟨v, H2, os2, bare2, un2, hok2, rv, ev, d, fs, ea, ed, hd1, q2⟩ := hq'
      subst ev
      obtain ⟨h2, g2, d2, t2, os'⟩ := s'
      exact ⟨rv, mk_end (raises_own T.exC T.tyC) I1 hsz kk un2 hok2 os2 bare2 ea ed hd1 q2⟩
    | next => exact False.elim hq'
    | brk => exact False.elim hq'
    | cont => exact False.elim hq'
end

/-! ### try: body, several clauses, each with or without a name -/
abbrev Clause : Type := Value × Option Nat × (Addr → Value → Option Addr → TS)
/-- the ends of a suite whose name goes -/
def dropped (i : Nat) (D : Ends) : Ends where
  nx := fun σ H => D.nx (σ.set i none) H
  rt := D.rt
  bk := fun σ H => D.bk (σ.set i none) H
  ct := fun σ H => D.ct (σ.set i none) H
def wMix (K : PySem.W.Frag) (Wout : WX) (D : Ends) : List Clause → WX
  | [] => Wout
  | (c, o, ts) :: r => fun cls d σ H => ∃ b, PySem.W.exmOne K cls c = some b ∧ (b = false → wMix K Wout D r cls d σ H) ∧
      (b = true → ∀ a, H a = none → match o with
        | none => ts a cls d D σ H
        | some i => ts a cls d (dropped i D) (σ.set i (some (.ref a))) H)
inductive HdsMix (X : Cx) : List ExceptHandler → List Clause → Prop
  | nil : HdsMix X [] []
  | cons {x : Str} {c : Value} {ts : Addr → Value → Option Addr → TS} {b₀ : Stmt} {suite : List Stmt} {np pos' : Pos}
      {hds : List ExceptHandler} {l : List Clause} (hc : Names X x c)
      (hsu : ∀ (a : Addr) (oe : Obj) (cls : Value) (d : Option Addr) (pn : List (Addr × Obj)), Zc cls d oe →
        (∃ vs, oe.data = .fields vs) → PSs (X.suite a ((a, oe) :: pn)) (b₀ :: suite) (ts a cls d)) (r : HdsMix X hds l) :
      HdsMix X (.ExceptHandler (some (.Name x np)) none (b₀ :: suite) pos' :: hds) ((c, none, ts) :: l)
  | consAs {x n : Str} {c : Value} {i : Nat} {ts : Addr → Value → Option Addr → TS} {b₀ : Stmt} {suite : List Stmt} {np pos' : Pos}
      {hds : List ExceptHandler} {l : List Clause} (hc : Names X x c) (hN : X.N.Nodup) (hi : X.N[i]? = some n)
      (hln : X.env.kindOf n = some .local)
      (hsu : ∀ (a : Addr) (oe : Obj) (cls : Value) (d : Option Addr) (pn : List (Addr × Obj)), Zc cls d oe →
        (∃ vs, oe.data = .fields vs) → PSs (X.suite a ((a, oe) :: pn)) (b₀ :: suite) (ts a cls d)) (r : HdsMix X hds l) :
      HdsMix X (.ExceptHandler (some (.Name x np)) (some n) (b₀ :: suite) pos' :: hds) ((c, some i, ts) :: l)
section
variable {X : Cx} {body : List Stmt} {h₀ : ExceptHandler} {hds : List ExceptHandler} {l : List Clause} {pos : Pos}
variable {tb : WX → TS} {Wout : WX}
theorem ps_try_mix (hs : X.stack = X.env :: X.outer) (hf : X.env.frame = some X.env.locals) (tk : Takes X Wout)
    (hb : ∀ (W : WX) (pn : List (Addr × Obj)) (xe : Value → Shared → Prop), Takes (X.tr pn xe) W →
      PassesOwn (model X.prog X.w) X.A X.env xe → PSs (X.tr pn xe) body (tb W))
    (hh : HdsMix X (h₀ :: hds) l) :
    PS X (.Try body (h₀ :: hds) [] [] pos) (fun D σ H => tb (wMix X.K Wout D l) D σ H) := by
  refine ⟨fun pins s σ H D I h => ?_⟩
  have ok := I.ok
  have hfr : X.A.frames = some (X.env :: X.outer) := by rw [ok.frames, hs]
  refine wpAny_Try_except ?_
  have start := (hb (wMix X.K Wout D l) (X.pn ++ pins) (fun e s₁ =>
    wpAny (model X.prog X.w) X.A (noteFrame e X.env) (fun _ s₂ =>
      wpAny (model X.prog X.w) X.A (setFlight e none) (fun _ s₃ =>
        wpAny (model X.prog X.w) X.A (handleBy e X.env (h₀ :: hds)) (SP X pins D) X.xe s₃) X.xe s₂) X.xe s₁)
    (fun u s' xx => ?_) PassesOwn.looking).run [] s σ H D (I.toTry _) h
  · refine wpAny_mono start (fun f s1 hsp => ?_) (fun e s1 he => he)
    cases f with
    | next =>
      obtain ⟨σ', H', J', q⟩ := hsp
      exact wpAny_execs_nil ⟨σ', H', J'.ofTry ok, q⟩
    | ret u =>
      obtain ⟨v, σ', H', J', r, q⟩ := hsp
      exact ⟨v, σ', H', J'.ofTry ok, r, q⟩
    | _ =>
      obtain ⟨σ', H', J', q⟩ := hsp
      exact ⟨σ', H', J'.ofTry ok, q⟩
  · -- it is caught
    obtain ⟨a, B, sI, pins', σ', H', cls, d, rfl, J', nb, up, sky, na, os, ag, w⟩ := xx
    have J : Inv X pins σ' H' sI := J'.ofTry ok
    have sky2 : Sky B (X.env :: X.outer) a (Zc cls d) X.env.locals s'.heap := by
      rw [← hs]
      exact sky
    show wpAny (model X.prog X.w) X.A (noteFrame (.ref a) X.env) _ _ _
    refine Sky.land Zc.steady hfr hf sky2 fun h3 fl3 up3 => ?_
    have J3 : Inv X pins σ' H' { s' with heap := h3 } := J.landed nb fl3.1 (up.trans up3) os ag
    obtain ⟨oe3, vs3, he3, hz3, hd3⟩ := fl3.there
    have nfr : a ∉ frs (X.env :: X.outer) := fun hm => by
      obtain ⟨_, o', e', hnf⟩ := fl3.2.2.1.mem hm
      rw [he3] at e'
      cases e'
      exact hnf _ hd3
    have nL : a ≠ X.env.locals := fun z =>
      nfr (List.mem_filterMap.mpr ⟨X.env, List.mem_cons_self, by rw [hf, z]⟩)
    have nF : a ∉ X.fs := fun hm => by
      obtain ⟨e, he, q⟩ := List.mem_filterMap.mp hm
      exact nfr (List.mem_filterMap.mpr ⟨e, List.mem_cons_of_mem _ he, q⟩)
    have S3 := J3.suite he3 hd3 na nL nF
    have LT : PySem.W.Looks (model X.prog X.w) h3 (typeOf (.ref a)) cls := fun A Q E s k q =>
      wpAny_typeOf_ref (k _ _ he3) (by rw [hz3.1]; exact q)
    have named : ∀ {x : Str} {c : Value} {np : Pos} {Q : Value → Shared → Prop} {E : Value → Shared → Prop}, Names X x c →
        Q c { s' with heap := h3 } →
        wpAny (model X.prog X.w) (X.A.mark (some (.ref a))) (eval (.Name x np) X.env) Q E { s' with heap := h3 } := by
      intro x c np Q E hc q
      obtain ⟨hg, hdbg, hm | ⟨hm, hv, hnn⟩⟩ := hc
      · exact ld_glob (X := X.suite a ((a, oe3) :: (X.pn ++ pins))) S3 hg hm q hdbg
      · exact ld_blt (X := X.suite a ((a, oe3) :: (X.pn ++ pins))) S3 hg hm hv q hnn hdbg
    have go : ∀ {hds' : List ExceptHandler} {l' : List Clause}, HdsMix X hds' l' → wMix X.K Wout D l' cls d σ' H' →
        wpAny (model X.prog X.w) X.A (handleBy (.ref a) X.env hds') (SP X pins D) X.xe { s' with heap := h3 } := by
      intro hds' l' hk
      induction hk with
      | nil =>
        intro w
        refine wpAny_handleBy_nil ?_
        obtain ⟨k1, k2, k3, oe, vs, T, oT, ts', he, hz, hd, h1, hr⟩ := id fl3
        unfold PySem.passOn
        refine wpAny_bind (wpAny_field he hd h1 ?_)
        rw [if_neg (show ¬ ((Value.ref T == Value.none) = true) from by simp)]
        have fin : wpAny (model X.prog X.w) X.A (setFlight (.ref a) X.env.frame) (fun _ s4 =>
            wpAny (model X.prog X.w) X.A (throw (.ref a) : Sem Flow) (SP X pins D) X.xe s4) X.xe { s' with heap := h3 } := by
          rw [hf]
          refine HandSPX.setFlight_upZ fl3 fun h4 hh4 up4 => wpAny_throw (tk _ _ ?_)
          refine ⟨a, B, sI, pins, σ', H', cls, d, rfl, J, nb, (up.trans up3).trans up4, .inr (.inr ?_), na, os, ag, w⟩
          rw [hs]
          exact hh4
        first
          | exact wpAny_bind (wpAny_pure (wpAny_bind fin))
          | exact wpAny_bind fin
      | @cons x c ts b₀ suite np pos' hds2 l2 hc hsu r ih =>
        intro w
        obtain ⟨b, hb1, hno, hyes⟩ := w
        refine wpAny_handleBy_cons (codeAny_handlers_test ?_) (by intro q; cases q)
        have LM := PySem.W.exm_one (M := model X.prog X.w) (J3.kIn) LT hb1
        refine named hc (LM.here ?_)
        cases b with
        | false =>
          show wpAny _ X.A (handleBy (.ref a) X.env hds2) _ _ _
          exact ih (hno rfl)
        | true =>
          refine codeAny_handlers_suite ?_
          refine HandSPX.lands_againZ fl3 fun h4 fl4 up4 => ?_
          have J4 : Inv X pins σ' H' { s' with heap := h4 } := J.landed nb fl4.1 ((up.trans up3).trans up4) os ag
          obtain ⟨oe4, vs4, he4, hz4, hd4⟩ := fl4.there
          have run := (hsu a oe4 cls d (X.pn ++ pins) hz4 ⟨_, hd4⟩).run [] _ _ H' _ (J4.suite he4 hd4 na nL nF) (hyes rfl a na)
          refine wpAny_mono run (fun f s6 hsp => ?_) (fun _ _ z => False.elim z)
          cases f with
          | ret u =>
            obtain ⟨v6, σ6, H6, S6, r6, q6⟩ := hsp
            exact ⟨_, _, _, S6.unsuite ok, r6, q6⟩
          | _ =>
            obtain ⟨σ6, H6, S6, q6⟩ := hsp
            exact ⟨_, _, S6.unsuite ok, q6⟩
      | @consAs x n c i ts b₀ suite np pos' hds2 l2 hc hN hi hln hsu r ih =>
        intro w
        obtain ⟨b, hb1, hno, hyes⟩ := w
        refine wpAny_handleBy_cons (codeAny_handlers_test ?_) (by intro q; cases q)
        have LM := PySem.W.exm_one (M := model X.prog X.w) (J3.kIn) LT hb1
        refine named hc (LM.here ?_)
        cases b with
        | false =>
          show wpAny _ X.A (handleBy (.ref a) X.env hds2) _ _ _
          exact ih (hno rfl)
        | true =>
          refine codeAny_handlers_suite_as ?_
          refine HandSPX.lands_againZ fl3 fun h4 fl4 up4 => ?_
          have J4 : Inv X pins σ' H' { s' with heap := h4 } := J.landed nb fl4.1 ((up.trans up3).trans up4) os ag
          obtain ⟨oe4, vs4, he4, hz4, hd4⟩ := fl4.there
          have S4 := J4.suite he4 hd4 na nL nF
          have hloc : Loc X.env.scope n := .inl hln
          refine store_ok (X := X.suite a ((a, oe4) :: (X.pn ++ pins))) (v := .ref a) S4 hN hi hloc rfl (fun s5 S5 => ?_) (.inr hln)
          have run := (hsu a oe4 cls d (X.pn ++ pins) hz4 ⟨_, hd4⟩).run [] s5 _ H' _ S5 (hyes rfl a na)
          refine wpAny_mono run (fun f s6 hsp => ?_) (fun _ _ z => False.elim z)
          have off : ∀ {σ6 : L2.St} {H6 : Hp} {Q : Shared → Prop}, Inv (X.suite a ((a, oe4) :: (X.pn ++ pins))) [] σ6 H6 s6 →
              (∀ s7, Inv X pins (σ6.set i none) H6 s7 → Q s7) →
              wpAny (model X.prog X.w) X.A (do bindName X.env n .none; unbindBehindTheSuite X.env n pos') (fun _ s7 => Q s7) X.xe s6 :=
            fun {σ6 H6 Q} S6 hq => gone_ok (S6.unsuite ok) hN hi hln hq
          cases f with
          | next =>
            obtain ⟨σ6, H6, S6, q6⟩ := hsp
            exact off S6 fun s7 J7 => ⟨_, _, J7, q6⟩
          | brk =>
            obtain ⟨σ6, H6, S6, q6⟩ := hsp
            exact off S6 fun s7 J7 => ⟨_, _, J7, q6⟩
          | cont =>
            obtain ⟨σ6, H6, S6, q6⟩ := hsp
            exact off S6 fun s7 J7 => ⟨_, _, J7, q6⟩
          | ret u =>
            obtain ⟨v6, σ6, H6, S6, r6, q6⟩ := hsp
            exact off S6 fun s7 J7 => ⟨_, _, _, J7, r6, q6⟩
    exact go hh w
end
/-- nothing goes out of it -/
theorem tk_no {X : Cx} : Takes X (fun _ _ _ _ => False) := by
  rintro u s' ⟨a, B, sI, pins, σ, H, cls, d, _, _, _, _, _, _, _, _, f⟩
  exact f.elim
end MeX

/-! Data over the abstract heap: what is kept of it; isinstance, ==, in, sorted of it; dict of a tuple of pairs. -/
namespace MeD
open PySem PySem.Spec PyProof.Rows L2

/-! ### what a call may change: nothing but what stands at M -/
structure Kept (M : List Addr) (H H' : Hp) : Prop where
  at_ : ∀ b o, b ∉ M → H b = some o → H' b = some o
  on : ∀ b o, H b = some o → ∃ o', H' b = some o'
theorem Kept.refl {M : List Addr} (H : Hp) : Kept M H H := ⟨fun _ _ _ e => e, fun _ o e => ⟨o, e⟩⟩
theorem Kept.trans {M : List Addr} {H H1 H2 : Hp} (a : Kept M H H1) (b : Kept M H1 H2) : Kept M H H2 :=
  ⟨fun c o n e => b.at_ c o n (a.at_ c o n e), fun c o e => by
    obtain ⟨o1, e1⟩ := a.on c o e
    exact b.on c o1 e1⟩
theorem kept_of {H H' : Hp} {M : List Addr} (h : Same H H') : Kept M H H' := ⟨fun b o _ e => h b o e, fun b o e => ⟨o, h b o e⟩⟩
theorem Kept.same {H H' : Hp} (h : Kept [] H H') : Same H H' := fun b o e => h.at_ b o (by simp) e
theorem same_new {H : Hp} {p : Addr} {o : HO} (h : H p = none) : Same H (upd H p o) := fun b u e => by
  rw [upd_ne (ne_of_none e h)]
  exact e
theorem kept_put {M : List Addr} {H : Hp} {p : Addr} {o : HO} (h : p ∈ M) : Kept M H (upd H p o) := by
  refine ⟨fun b u n e => ?_, fun b u e => ?_⟩
  · rw [upd_ne (fun z => n (by rw [z]; exact h))]
    exact e
  · by_cases z : b = p
    · exact ⟨o, by rw [z]; exact upd_same⟩
    · exact ⟨u, by rw [upd_ne z]; exact e⟩
/-- a new object may change -/
theorem Same.put {H H' : Hp} {p : Addr} {o : HO} (s : Same H H') (h : H p = none) : Same H (upd H' p o) := fun b u e => by
  rw [upd_ne (ne_of_none e h)]
  exact s b u e
theorem Kept.put {M : List Addr} {H H' : Hp} {p : Addr} {o : HO} (s : Kept M H H') (h : H p = none) : Kept M H (upd H' p o) := by
  refine ⟨fun b u n e => ?_, fun b u e => ?_⟩
  · rw [upd_ne (ne_of_none e h)]
    exact s.at_ b u n e
  · rw [upd_ne (ne_of_none e h)]
    exact s.on b u e
theorem Kept.new {M : List Addr} {H H' : Hp} {p : Addr} {o : HO} (s : Kept M H H') (h : H' p = none) : Kept M H (upd H' p o) :=
  s.trans (kept_of (same_new h))
theorem Kept.free {M : List Addr} {H H' : Hp} (k : Kept M H H') {l : Addr} (h : H' l = none) : H l = none := by
  cases q : H l with
  | none => rfl
  | some o =>
    obtain ⟨o', e⟩ := k.on l o q
    rw [h] at e
    cases e
/-- a tuple, a locked object stands at no m of M -/
def Lists (M : List Addr) (H : Hp) : Prop := ∀ m ∈ M, ∃ xs, H m = some (.lst xs)
theorem lists_nil {H : Hp} : Lists [] H := fun m h => by simp at h
theorem lists_one {H : Hp} {d : Addr} {xs : List V} (h : H d = some (.lst xs)) : Lists [d] H := fun m hm => by
  have e : m = d := by simpa using hm
  exact ⟨xs, by rw [e]; exact h⟩
section
variable {K : PySem.W.Frag} {M : List Addr} {H H' : Hp} {a : Addr} {xs : List V}
theorem Kept.tup (k : Kept M H H') (l : Lists M H) (h : SqT K H a xs) : SqT K H' a xs := by
  have off : ∀ u, H a = some u → (∀ ys, u ≠ .lst ys) → H' a = some u := fun u e n => by
    refine k.at_ a u (fun hm => ?_) e
    obtain ⟨ys, q⟩ := l a hm
    rw [e] at q
    exact n ys (Option.some.inj q)
  rcases h with (h | ⟨o, h⟩) | h
  · exact .inl (.inl (off _ h (fun ys z => nomatch z)))
  · exact .inl (.inr ⟨o, off _ h (fun ys z => nomatch z)⟩)
  · exact .inr h
theorem Kept.frzL {o : Obj} (k : Kept M H H') (l : Lists M H) (h : H a = some (.frz o (.lst xs))) : H' a = some (.frz o (.lst xs)) := by
  refine k.at_ a _ (fun hm => ?_) h
  obtain ⟨ys, q⟩ := l a hm
  rw [h] at q
  cases Option.some.inj q
theorem same_tup (k : Same H H') (h : SqT K H a xs) : SqT K H' a xs := (kept_of (M := []) k).tup lists_nil h
theorem same_seq (k : Same H H') (h : SqL K H a xs) : SqL K H' a xs := L2.Same.seq k h
end

/-! ### data -/
mutual
/-- no list within -/
def noL : PyData → Bool
  | .none | .bool _ | .int _ | .str _ => true
  | .tuple xs => noLs xs
  | .list _ | .dict _ => false
def noLs : List PyData → Bool
  | [] => true
  | x :: xs => noL x && noLs xs
end
section
variable {K : PySem.W.Frag} {M : List Addr} {H H' : Hp}
mutual
theorem dpSame (k : Same H H') : ∀ {d : PyData} {v : V}, Dp K H v d → Dp K H' v d
  | .none, _, h => by cases h; exact .non
  | .bool _, _, h => by cases h; exact .bl _
  | .int _, _, h => by cases h; exact .int _
  | .str _, _, h => by cases h; exact .str _
  | .list _, _, h => by
    cases h with
    | lst h1 h2 => exact .lst (same_seq k h1) (dpsSame k h2)
  | .tuple _, _, h => by
    cases h with
    | tup h1 h2 => exact .tup (same_tup k h1) (dpsSame k h2)
  | .dict _, _, h => by cases h
theorem dpsSame (k : Same H H') : ∀ {ds : List PyData} {vs : List V}, DpAll K H vs ds → DpAll K H' vs ds
  | [], _, h => by cases h; exact .nil
  | _ :: _, _, h => by
    cases h with
    | cons h1 h2 => exact .cons (dpSame k h1) (dpsSame k h2)
end
mutual
theorem dpKept (k : Kept M H H') (l : Lists M H) : ∀ {d : PyData} {v : V}, noL d = true → Dp K H v d → Dp K H' v d
  | .none, _, _, h => by cases h; exact .non
  | .bool _, _, _, h => by cases h; exact .bl _
  | .int _, _, _, h => by cases h; exact .int _
  | .str _, _, _, h => by cases h; exact .str _
  | .list _, _, n, _ => absurd n (by simp [noL])
  | .tuple _, _, n, h => by
    cases h with
    | tup h1 h2 => exact .tup (k.tup l h1) (dpsKept k l (by simpa [noL] using n) h2)
  | .dict _, _, n, _ => absurd n (by simp [noL])
theorem dpsKept (k : Kept M H H') (l : Lists M H) : ∀ {ds : List PyData} {vs : List V}, noLs ds = true → DpAll K H vs ds → DpAll K H' vs ds
  | [], _, _, h => by cases h; exact .nil
  | _ :: _, _, n, h => by
    cases h with
    | cons h1 h2 =>
      rw [noLs, Bool.and_eq_true] at n
      exact .cons (dpKept k l n.1 h1) (dpsKept k l n.2 h2)
end
mutual
theorem dpPlain : ∀ {d : PyData} {v : V}, Dp K H v d → d.plain = true
  | .none, _, _ => rfl
  | .bool _, _, _ => rfl
  | .int _, _, _ => rfl
  | .str _, _, _ => rfl
  | .list _, _, h => by
    cases h with
    | lst h1 h2 => exact dpsPlain h2
  | .tuple _, _, h => by
    cases h with
    | tup h1 h2 => exact dpsPlain h2
  | .dict _, _, h => by cases h
theorem dpsPlain : ∀ {ds : List PyData} {vs : List V}, DpAll K H vs ds → PyData.plainAll ds = true
  | [], _, _ => rfl
  | _ :: _, _, h => by
    cases h with
    | cons h1 h2 => rw [PyData.plainAll, dpPlain h1, dpsPlain h2]; rfl
end
theorem _root_.L2.Dp.same (k : Same H H') {d : PyData} {v : V} (h : Dp K H v d) : Dp K H' v d := dpSame k h
theorem _root_.L2.DpAll.same (k : Same H H') {ds : List PyData} {vs : List V} (h : DpAll K H vs ds) : DpAll K H' vs ds := dpsSame k h
theorem _root_.L2.Dp.kept {d : PyData} {v : V} (h : Dp K H v d) (k : Kept M H H') (l : Lists M H) (n : noL d = true) : Dp K H' v d := dpKept k l n h
theorem _root_.L2.DpAll.kept {ds : List PyData} {vs : List V} (h : DpAll K H vs ds) (k : Kept M H H') (l : Lists M H) (n : noLs ds = true) : DpAll K H' vs ds := dpsKept k l n h
theorem _root_.L2.Dp.plain {d : PyData} {v : V} (h : Dp K H v d) : d.plain = true := dpPlain h
theorem _root_.L2.DpAll.plain {ds : List PyData} {vs : List V} (h : DpAll K H vs ds) : PyData.plainAll ds = true := dpsPlain h
theorem _root_.L2.DpAll.len {ds : List PyData} {vs : List V} (h : DpAll K H vs ds) : vs.length = ds.length := by
  induction ds generalizing vs with
  | nil => cases h; rfl
  | cons d ds ih =>
    cases h with
    | cons h1 h2 => rw [List.length_cons, List.length_cons, ih h2]
theorem _root_.L2.DpAll.get {ds : List PyData} {vs : List V} (h : DpAll K H vs ds) {i : Nat} {v : V} (e : vs[i]? = some v) : ∃ d, ds[i]? = some d ∧ Dp K H v d := by
  induction ds generalizing vs i with
  | nil => cases h; simp at e
  | cons d ds ih =>
    cases h with
    | cons h1 h2 =>
      cases i with
      | zero =>
        simp at e
        subst e
        exact ⟨d, rfl, h1⟩
      | succ i =>
        simp at e
        obtain ⟨d', q1, q2⟩ := ih h2 e
        exact ⟨d', by simpa using q1, q2⟩
theorem _root_.L2.DpAll.get' {ds : List PyData} {vs : List V} (h : DpAll K H vs ds) {i : Nat} {d : PyData} (e : ds[i]? = some d) : ∃ v, vs[i]? = some v ∧ Dp K H v d := by
  induction ds generalizing vs i with
  | nil => simp at e
  | cons d0 ds ih =>
    cases h with
    | cons h1 h2 =>
      cases i with
      | zero =>
        simp at e
        subst e
        exact ⟨_, rfl, h1⟩
      | succ i =>
        simp at e
        obtain ⟨v, q1, q2⟩ := ih h2 e
        exact ⟨v, by simpa using q1, q2⟩
theorem _root_.L2.DpAll.append {ds es : List PyData} {vs ws : List V} (h : DpAll K H vs ds) (g : DpAll K H ws es) : DpAll K H (vs ++ ws) (ds ++ es) := by
  induction ds generalizing vs with
  | nil => cases h; exact g
  | cons d ds ih =>
    cases h with
    | cons h1 h2 => exact .cons h1 (ih h2)
theorem _root_.L2.DpAll.one {v : V} {d : PyData} (h : Dp K H v d) : DpAll K H [v] [d] := .cons h .nil
theorem _root_.L2.DpAll.snoc {ds : List PyData} {vs : List V} {v : V} {d : PyData} (h : DpAll K H vs ds) (g : Dp K H v d) : DpAll K H (vs ++ [v]) (ds ++ [d]) := h.append (.one g)
theorem _root_.L2.DpAll.take {ds : List PyData} {vs : List V} (h : DpAll K H vs ds) (n : Nat) : DpAll K H (vs.take n) (ds.take n) := by
  induction ds generalizing vs n with
  | nil => cases h; simp; exact .nil
  | cons d ds ih =>
    cases h with
    | cons h1 h2 =>
      cases n with
      | zero => exact .nil
      | succ n => exact .cons h1 (ih h2 n)
theorem _root_.L2.DpAll.drop {ds : List PyData} {vs : List V} (h : DpAll K H vs ds) (n : Nat) : DpAll K H (vs.drop n) (ds.drop n) := by
  induction ds generalizing vs n with
  | nil => cases h; simp; exact .nil
  | cons d ds ih =>
    cases h with
    | cons h1 h2 =>
      cases n with
      | zero => exact .cons h1 h2
      | succ n => exact ih h2 n
theorem _root_.L2.DpAll.ints (ns : List Int) : DpAll K H (ns.map V.int) (ns.map PyData.int) := by
  induction ns with
  | nil => exact .nil
  | cons n ns ih => exact .cons (.int n) ih
theorem _root_.L2.DpAll.strs (ns : List Str) : DpAll K H (ns.map V.str) (ns.map PyData.str) := by
  induction ns with
  | nil => exact .nil
  | cons n ns ih => exact .cons (.str n) ih
theorem _root_.L2.Dp.tupleAt {v : V} {ds : List PyData} (h : Dp K H v (.tuple ds)) : ∃ a xs, v = .ref a ∧ SqT K H a xs ∧ DpAll K H xs ds := by
  cases h with
  | tup h1 h2 => exact ⟨_, _, rfl, h1, h2⟩
theorem _root_.L2.Dp.listAt {v : V} {ds : List PyData} (h : Dp K H v (.list ds)) : ∃ a xs, v = .ref a ∧ SqL K H a xs ∧ DpAll K H xs ds := by
  cases h with
  | lst h1 h2 => exact ⟨_, _, rfl, h1, h2⟩
end

/-! ### isinstance -/
def tyN : PyData → String
  | .none => "NoneType"
  | .bool _ => "bool"
  | .int _ => "int"
  | .str _ => "str"
  | .list _ => "list"
  | .tuple _ => "tuple"
  | .dict _ => "dict"
section
variable {K : PySem.W.Frag} {H : Hp}
theorem _root_.L2.Dp.ty {d : PyData} {v : V} (h : Dp K H v d) : TyX K H v (.type (tyN d)) := by
  cases h with
  | non => exact .base .non
  | bl b => exact .base (.bl b)
  | int i => exact .base (.int i)
  | str x => exact .base (.str x)
  | lst h1 h2 =>
    rcases h1 with (h | ⟨o, h⟩) | ⟨o, its, n, h, c, _⟩
    · exact .base (.lst h)
    · exact .base (.frz h)
    · exact .kList h c
  | tup h1 h2 =>
    rcases h1 with (h | ⟨o, h⟩) | ⟨o, its, n, h, c, _⟩
    · exact .base (.tup h)
    · exact .fTuple h
    · exact .kTuple h c
def isI : PyData → Bool
  | .int _ | .bool _ => true
  | _ => false
def isB : PyData → Bool
  | .bool _ => true
  | _ => false
def isS : PyData → Bool
  | .str _ => true
  | _ => false
def isT : PyData → Bool
  | .tuple _ => true
  | _ => false
def isL : PyData → Bool
  | .list _ => true
  | _ => false
theorem kb_int : ∀ d : PyData, kitB (tyN d) "int" = some (isI d)
  | .none => (by decide +kernel : kitB "NoneType" "int" = some false)
  | .bool _ => (by decide +kernel : kitB "bool" "int" = some true)
  | .int _ => (by decide +kernel : kitB "int" "int" = some true)
  | .str _ => (by decide +kernel : kitB "str" "int" = some false)
  | .list _ => (by decide +kernel : kitB "list" "int" = some false)
  | .tuple _ => (by decide +kernel : kitB "tuple" "int" = some false)
  | .dict _ => (by decide +kernel : kitB "dict" "int" = some false)
theorem kb_bool : ∀ d : PyData, kitB (tyN d) "bool" = some (isB d)
  | .none => (by decide +kernel : kitB "NoneType" "bool" = some false)
  | .bool _ => (by decide +kernel : kitB "bool" "bool" = some true)
  | .int _ => (by decide +kernel : kitB "int" "bool" = some false)
  | .str _ => (by decide +kernel : kitB "str" "bool" = some false)
  | .list _ => (by decide +kernel : kitB "list" "bool" = some false)
  | .tuple _ => (by decide +kernel : kitB "tuple" "bool" = some false)
  | .dict _ => (by decide +kernel : kitB "dict" "bool" = some false)
theorem kb_str : ∀ d : PyData, kitB (tyN d) "str" = some (isS d)
  | .none => (by decide +kernel : kitB "NoneType" "str" = some false)
  | .bool _ => (by decide +kernel : kitB "bool" "str" = some false)
  | .int _ => (by decide +kernel : kitB "int" "str" = some false)
  | .str _ => (by decide +kernel : kitB "str" "str" = some true)
  | .list _ => (by decide +kernel : kitB "list" "str" = some false)
  | .tuple _ => (by decide +kernel : kitB "tuple" "str" = some false)
  | .dict _ => (by decide +kernel : kitB "dict" "str" = some false)
theorem kb_tuple : ∀ d : PyData, kitB (tyN d) "tuple" = some (isT d)
  | .none => (by decide +kernel : kitB "NoneType" "tuple" = some false)
  | .bool _ => (by decide +kernel : kitB "bool" "tuple" = some false)
  | .int _ => (by decide +kernel : kitB "int" "tuple" = some false)
  | .str _ => (by decide +kernel : kitB "str" "tuple" = some false)
  | .list _ => (by decide +kernel : kitB "list" "tuple" = some false)
  | .tuple _ => (by decide +kernel : kitB "tuple" "tuple" = some true)
  | .dict _ => (by decide +kernel : kitB "dict" "tuple" = some false)
theorem kb_list : ∀ d : PyData, kitB (tyN d) "list" = some (isL d)
  | .none => (by decide +kernel : kitB "NoneType" "list" = some false)
  | .bool _ => (by decide +kernel : kitB "bool" "list" = some false)
  | .int _ => (by decide +kernel : kitB "int" "list" = some false)
  | .str _ => (by decide +kernel : kitB "str" "list" = some false)
  | .list _ => (by decide +kernel : kitB "list" "list" = some true)
  | .tuple _ => (by decide +kernel : kitB "tuple" "list" = some false)
  | .dict _ => (by decide +kernel : kitB "dict" "list" = some false)
theorem isi_int {v : V} {d : PyData} {Q : VK} (h : Dp K H v d) (q : Q (.bl (isI d)) H) : rIsi K [v, .ty "int"] H Q :=
  ⟨v, _, _, _, _, rfl, .ty "int", h.ty, kit_ty (kb_int d), q⟩
theorem isi_bool {v : V} {d : PyData} {Q : VK} (h : Dp K H v d) (q : Q (.bl (isB d)) H) : rIsi K [v, .ty "bool"] H Q :=
  ⟨v, _, _, _, _, rfl, .ty "bool", h.ty, kit_ty (kb_bool d), q⟩
theorem isi_str {v : V} {d : PyData} {Q : VK} (h : Dp K H v d) (q : Q (.bl (isS d)) H) : rIsi K [v, .ty "str"] H Q :=
  ⟨v, _, _, _, _, rfl, .ty "str", h.ty, kit_ty (kb_str d), q⟩
theorem isi_tuple {v : V} {d : PyData} {Q : VK} (h : Dp K H v d) (q : Q (.bl (isT d)) H) : rIsi K [v, .ty "tuple"] H Q :=
  ⟨v, _, _, _, _, rfl, .ty "tuple", h.ty, kit_ty (kb_tuple d), q⟩
theorem isi_list {v : V} {d : PyData} {Q : VK} (h : Dp K H v d) (q : Q (.bl (isL d)) H) : rIsi K [v, .ty "list"] H Q :=
  ⟨v, _, _, _, _, rfl, .ty "list", h.ty, kit_ty (kb_list d), q⟩
/-- isinstance(x, (list, tuple)) -/
theorem isi_row {v : V} {d : PyData} {Q : VK} {t : Addr} (h : Dp K H v d) (ht : H t = some (.tup [.ty "list", .ty "tuple"])) (q : Q (.bl (isL d || isT d)) H) : rIsiT K [v, .ref t] H Q := by
  refine ⟨v, t, _, _, _, _, rfl, ht, .cons (.ty _) (.cons (.ty _) .nil), h.ty, ?_, q⟩
  have a : PySem.W.kitOne K (.type (tyN d)) (.type "list") = some (isL d) := kit_ty (kb_list d)
  have b : PySem.W.kitOne K (.type (tyN d)) (.type "tuple") = some (isT d) := kit_ty (kb_tuple d)
  refine kitAny_cons a (fun e => ?_) (fun e => by rw [e]; rfl)
  rw [e]
  exact kitAny_cons b (fun e2 => by rw [e2]; exact kitAny_nil) (fun e2 => e2)
end

/-! ### == and in -/
section
variable {X : Cx}
def rEqP (K : PySem.W.Frag) : R2 := fun x y H Q => ∃ d e, Dp K H x d ∧ Dp K H y e ∧ min d.depth e.depth ≤ 64 ∧ Q (.bl (PyData.eqv d e)) H
def rNeP (K : PySem.W.Frag) : R2 := fun x y H Q => ∃ d e, Dp K H x d ∧ Dp K H y e ∧ min d.depth e.depth ≤ 64 ∧ Q (.bl (!PyData.eqv d e)) H
theorem op_eqP (hu : X.A.units + 64 < cLine) : OpR X (compareOp .Eq) (rEqP X.K) := by
  intro pins s σ H x y v u Q I rx ry h
  obtain ⟨d, e, hd, he, hz, q⟩ := h
  obtain ⟨as, r1⟩ := Dp.reads I d x v hd rx
  obtain ⟨bs, r2⟩ := Dp.reads I e y u he ry
  exact SeqAt.eq_plain r1 r2 hd.plain he.plain (by omega) ⟨.bl _, H, I, rfl, q⟩
theorem op_neP (hu : X.A.units + 64 < cLine) : OpR X (compareOp .NotEq) (rNeP X.K) := by
  intro pins s σ H x y v u Q I rx ry h
  obtain ⟨d, e, hd, he, hz, q⟩ := h
  obtain ⟨as, r1⟩ := Dp.reads I d x v hd rx
  obtain ⟨bs, r2⟩ := Dp.reads I e y u he ry
  exact SeqAt.ne_plain r1 r2 hd.plain he.plain (by omega) ⟨.bl _, H, I, rfl, q⟩
end

/-! ### sorted -/
section
variable {X : Cx} {pins : List (Addr × Obj)} {σ : L2.St} {H : Hp} {s : Shared}
/-- a value that stands for data -/
def Stands (K : PySem.W.Frag) (H : Hp) (u : Value) (d : PyData) : Prop := ∃ x, RelV x u ∧ Dp K H x d
theorem each_of {vs : List V} {us : List Value} {ds : List PyData} (h : DpAll X.K H vs ds) (r : Vals vs us) : PySem.W.EachIs (Stands X.K H) us ds := by
  induction ds generalizing vs us with
  | nil =>
    cases h
    cases r
    exact .nil
  | cons d ds ih =>
    cases h with
    | cons h1 h2 =>
      cases r with
      | cons r1 r2 => exact .cons ⟨_, r1, h1⟩ (ih h2 r2)
theorem of_each {us : List Value} {ds : List PyData} (h : PySem.W.EachIs (Stands X.K H) us ds) : ∃ vs, Vals vs us ∧ DpAll X.K H vs ds := by
  induction h with
  | nil => exact ⟨[], .nil, .nil⟩
  | cons h1 h2 ih =>
    obtain ⟨x, r, d⟩ := h1
    obtain ⟨vs, r2, d2⟩ := ih
    exact ⟨x :: vs, .cons r r2, .cons d d2⟩
theorem each_reads (I : Inv X pins σ H s) {us : List Value} {ds : List PyData} (h : PySem.W.EachIs (Stands X.K H) us ds) :
    PySem.W.EachIs (fun v b => ∃ as, Reads s.heap v (id b) as) us ds := by
  induction h with
  | nil => exact .nil
  | cons h1 h2 ih =>
    obtain ⟨x, r, d⟩ := h1
    exact .cons (Dp.reads I _ x _ d r) ih
def rSortedP (K : PySem.W.Frag) : List V → Hp → VK → Prop := fun vs H Q => ∃ (a : Addr) (ds : List PyData), vs = [V.ref a] ∧ Dp K H (.ref a) (.list ds) ∧
  PySem.W.AllAlike ds ∧ PySem.W.Sortable ds ∧ (∀ d ∈ ds, d.depth ≤ 60) ∧
  ∀ p ys, H p = none → DpAll K H ys (ds.mergeSort (PySem.W.dataLe false id)) → Q (.ref p) (upd H p (.lst ys))
theorem call_sortedP (hu : X.A.units + 64 < cLine) : CallR X (.builtin "sorted") (rSortedP X.K) := by
  intro pins s σ H vs us Q I r h
  obtain ⟨a, ds, rfl, hd, hal, hk, hz, q⟩ := h
  obtain ⟨a', xs, ea, hs, hx⟩ := hd.listAt
  cases ea
  obtain ⟨its, rv, hl, hlen⟩ := I.list hs
  rw [Vals.ref1 r]
  have ev := each_of hx rv
  refine PySem.W.sorted_data (enc := id) (R := Stands X.K H) hl.isList ev (each_reads I ev) (by rw [List.map_id]; exact hal) (by rw [List.map_id]; exact hk) ?_ (fun b hb => ?_) fun out ho he => ?_
  · rw [← hx.len]
    exact hlen
  · have := hz b hb
    show X.A.units + 2 + b.depth < cLine
    omega
  · obtain ⟨ys, ry, dy⟩ := of_each he
    obtain ⟨ep, he'⟩ := PyProof.Rows.sortedAll_at s.heap its out.toArray
    have hl2 : ys.length ≤ sizeLine := by
      rw [ry.length, ho, ← hx.len]
      exact hlen
    have hn : H (s.heap.objs.size + 1) = none := I.hok.fresh (Nat.le_succ _)
    have J : Inv X pins σ (upd H (s.heap.objs.size + 1) (.lst ys)) { s with heap := PyProof.Rows.sortedAll s.heap its out.toArray } :=
      I.laid (t' := s.toks) (fun _ _ => PyProof.Rows.sortedAll_old) (Nat.le_succ _) ⟨hl2, out, ep, ry, he'⟩
    exact ⟨.ref _, _, J, rfl, q _ ys hn dy⟩
end

/-! ### a tuple without a dict of its own; tuple(l), dict(t) -/
/-- at a: a tuple that no attribute was ever laid on -/
def PTup (H : Hp) (a : Addr) (xs : List V) : Prop := ∃ o : Obj, o.dict = none ∧ H a = some (.frz o (.tup xs))
theorem PTup.sq {K : PySem.W.Frag} {H : Hp} {a : Addr} {xs : List V} (h : PTup H a xs) : SqT K H a xs := by
  obtain ⟨o, _, e⟩ := h
  exact .inl (.inr ⟨o, e⟩)
theorem PTup.same {H H' : Hp} {a : Addr} {xs : List V} (h : PTup H a xs) (s : Same H H') : PTup H' a xs := by
  obtain ⟨o, d, e⟩ := h
  exact ⟨o, d, s _ _ e⟩
theorem PTup.kept {M : List Addr} {H H' : Hp} {a : Addr} {xs : List V} (h : PTup H a xs) (k : Kept M H H') (l : Lists M H) : PTup H' a xs := by
  obtain ⟨o, d, e⟩ := h
  refine ⟨o, d, k.at_ a _ (fun hm => ?_) e⟩
  obtain ⟨ys, q⟩ := l a hm
  rw [e] at q
  cases Option.some.inj q
section
variable {X : Cx}
/-- tuple(l) of a list: a new one; of a tuple: itself -/
theorem call_tupleP : CallR X (.type "tuple") (fun xs H Q => ∃ p ys, xs = [.ref p] ∧
    ((SqL X.K H p ys ∧ ∀ l o, H l = none → PTup (upd H l o) l ys → Q (.ref l) (upd H l o)) ∨ (SqT X.K H p ys ∧ Q (.ref p) H))) := by
  intro pins s σ H xs us Q I r h
  obtain ⟨p, ys, rfl, h⟩ := h
  obtain ⟨u, rfl, rx⟩ := vals1 r
  cases rx
  rcases h with ⟨hq, q⟩ | ⟨hq, q⟩
  · obtain ⟨its, rv, pl, hz⟩ := I.list hq
    have hlen := rv.length
    refine call_tuple_list pl.isList (fun h' kp => ?_) (by simp only [List.size_toArray] <;> omega)
    have I1 : Inv X pins σ H { s with heap := h' } := I.kept (t' := s.toks) kp
    have hg : (h'.push { cls := .type "tuple", data := .seq its.toArray }).get? h'.objs.size = some { cls := .type "tuple", data := .seq its.toArray } :=
      Heap.get?_push_size _ rfl
    have new : ∀ G : Hp, ObjOk X.prog X.w G (h'.push { cls := .type "tuple", data := .seq its.toArray }) h'.objs.size
        (.frz { cls := .type "tuple", data := .seq its.toArray } (.tup ys)) := fun G => ⟨hg, hz, its, rv, IsTup.new _ _⟩
    refine ⟨.ref h'.objs.size, _, I1.laid (t' := s.toks) (fun b o e => Heap.get?_push_of_some _ e) (Nat.le_refl _) (new _), rfl, ?_⟩
    exact q _ _ (I1.hok.fresh (Nat.le_refl _)) ⟨_, rfl, upd_same⟩
  · obtain ⟨its, rv, pl, hz⟩ := I.tuple hq
    exact call_tuple_same pl ⟨.ref p, H, I, rfl, q⟩
theorem picked {h : Heap} : ∀ {prs : List (Key × Value)} {ps : List Addr},
    (∀ (j : Nat) (q : Key × Value), prs[j]? = some q → ∃ (b : Addr) (u : Value), ps[j]? = some b ∧ IsTup h b #[u, q.2] ∧ keyIs q.1 u = true) →
    ∃ pv : List (Value × Value), pv.length = prs.length ∧ ∀ (j : Nat) (k v : Value), pv[j]? = some (k, v) →
      ∃ (b : Addr) (key : Key), ps[j]? = some b ∧ IsTup h b #[k, v] ∧ prs[j]? = some (key, v) ∧ keyIs key k = true
  | [], _, _ => ⟨[], rfl, fun j k v e => by simp at e⟩
  | q :: prs, ps, hp => by
    obtain ⟨b, u, e1, e2, e3⟩ := hp 0 q rfl
    have step : ∀ (j : Nat) (q : Key × Value), prs[j]? = some q → ∃ (b : Addr) (u : Value), ps.tail[j]? = some b ∧ IsTup h b #[u, q.2] ∧ keyIs q.1 u = true := by
      intro j q' e
      obtain ⟨b', u', g1, g2⟩ := hp (j + 1) q' (by simpa using e)
      exact ⟨b', u', by rw [List.getElem?_tail]; exact g1, g2⟩
    obtain ⟨pv, hl, hv⟩ := picked step
    refine ⟨(u, q.2) :: pv, by rw [List.length_cons, List.length_cons, hl], fun j k v e => ?_⟩
    cases j with
    | zero =>
      have z : (u, q.2) = (k, v) := Option.some.inj e
      cases z
      exact ⟨b, q.1, e1, e2, rfl, e3⟩
    | succ j =>
      obtain ⟨b', key, g1, g2, g3, g4⟩ := hv j k v (by simpa using e)
      exact ⟨b', key, by rw [List.getElem?_tail] at g1; exact g1, g2, by simpa using g3, g4⟩
theorem call_dictT (hcalm : X.calm = true) : CallR X (.type "dict") (fun xs H Q => ∃ (a : Addr) (ps : List Addr) (kvs : List (Key × V)), xs = [.ref a] ∧
    PTup H a (ps.map V.ref) ∧ Paired (fun p kv => SqT X.K H p [kV kv.1, kv.2]) ps kvs ∧ ∀ p, H p = none → Q (.ref p) (upd H p (.dK (mergeK [] kvs)))) := by
  intro pins s σ H xs us Q I r q
  obtain ⟨a, ps, kvs, ex, ⟨o, od, ea⟩, hp, q⟩ := q
  subst ex
  obtain ⟨u, eu, rx⟩ := vals1 r
  subst eu
  cases rx
  obtain ⟨ho, hz, its, rv, o', ho', hc, n, hdat⟩ := (show ObjOk X.prog X.w H s.heap a (.frz o (.tup (ps.map V.ref))) from I.hok a _ ea)
  rw [ho] at ho'
  cases ho'
  have ei := refs_at rv
  subst ei
  rw [List.length_map] at hz
  obtain ⟨prs, rel, hl, hpr⟩ := pairs_of I hp
  obtain ⟨pv, hpl, hpv⟩ := picked hpr
  have it : PlainSeq "tuple" s.heap a (ps.map Value.ref).toArray := ⟨o, n, ho, hc, od, hdat⟩
  have pit : PairItems s.heap (ps.map Value.ref).toArray (fun j => ps.getD j 0) pv := by
    refine ⟨by simp [hpl, hl], fun j k v e => ?_⟩
    obtain ⟨b, key, g1, g2, _, _⟩ := hpv j k v e
    have gd : ps.getD j 0 = b := by simp [List.getD, g1]
    dsimp only
    rw [gd]
    exact ⟨by simp [g1], .inl g2⟩
  have have_ : PairsHave (mixKind X.prog X.w) pv.length (PairRel pv) prs := by
    refine ⟨hpl.symm, fun i k v e => ?_⟩
    obtain ⟨b, key, _, _, g3, g4⟩ := hpv i k v e
    exact ⟨key, g3, g4⟩
  have hz2 : pv.length ≤ sizeLine := by
    rw [hpl, hl]
    exact hz
  refine PySem.call_dict_pairs (knd := mixKind X.prog X.w) (PairArg.tuple a (ps.map Value.ref).toArray (fun j => ps.getD j 0) pv) (I.ok.hd hcalm) ⟨it, pit⟩ have_ hz2 fun h' tk hd' k => ?_
  have hm : (s.heap.objs.size == sysModules) = false := beq_eq_false_iff_ne.mpr (Nat.ne_of_gt I.big)
  have hlen : (mergeK [] kvs).length ≤ sizeLine := by
    refine Nat.le_trans (length_mergeK kvs []) ?_
    rw [List.length_nil, Nat.zero_add, rel.length, hl]
    exact hz
  have k2 : ∀ b o, s.heap.get? b = some o → h'.get? b = some o := fun b o e => k b o (by simp) e
  refine ⟨.ref s.heap.objs.size, _, I.laid (t' := tk) k2 (Nat.le_refl _) (show ObjOk X.prog X.w _ _ _ (.dK (mergeK [] kvs)) from ?_), rfl, q _ (I.hok.fresh (Nat.le_refl _))⟩
  exact ⟨hlen, hm, merged [] prs, KV.merge rel .nil, hd'⟩
end
end MeD

/-! A def of the module by its name: what is known of it, its call. -/
namespace MeK
open PySem PySem.Spec PyProof.Rows L2 MeD

structure Knows (P : Program) (w : World) (K : PySem.W.Frag) (mg : Str → Option Value) (base : Heap) (CX : CXT) (k : Nat) (x : Str) (ps : List Str) (sp : Sp) : Prop where
  fn : ∃ fd, FnOk P w K mg base CX k (He.ga K x) fd ps sp ∧ Binds K fd ps []
  g : mg x = some (.ref (He.ga K x))
  kp : PySem.W.keepIn K (.ref (He.ga K x)) = true
def tK (sp : Sp) (E : XK) (t : TA) : TE := fun σ H Q => t σ H fun vs H1 => sp vs H1 Q E
section
variable {X : Cx} {CX : CXT} {k : Nat} {x : Str} {ps : List Str} {sp : Sp} {E : XK} {e : Expr} {es : List Expr} {t : TA} {p pos : Pos}
theorem pe_k (h : Knows X.prog X.w X.K X.mg X.base CX k x ps sp) (hr : Room k X.A) (hx : Passes CX X E) (ha : PA X (e :: es) t) (hg : Gl X x := by rfl)
    (hdb : (x == ("__debug__" : Str)) = false := by decide)
    (he : starEach (e :: es) X.env = (false, eval e X.env) :: starEach es X.env := by rfl)
    (hpl : (backTo pos (starEach es X.env)).any (·.1) = false := by rfl) :
    PE X (.Call (.Name x p) (e :: es) [] pos) (tK sp E t) := by
  obtain ⟨⟨fd, F, b⟩, g, kp⟩ := h
  have q := pe_call (E := E) (p := p) (pos := pos) F hr hg g kp b .nil hx ha hdb he hpl
  have ee : (tCall sp [] E t : TE) = tK sp E t := by
    funext σ H Q
    show t σ H (fun vs H1 => sp (vs ++ []) H1 Q E) = t σ H fun vs H1 => sp vs H1 Q E
    simp only [List.append_nil]
  rw [← ee]
  exact q
/-- the same within a try's body, where an exception is wished for at the slots -/
def tKS (sp : Sp) (E : L2.St → XK) (t : TA) : TE := fun σ H Q => t σ H fun vs H1 => sp vs H1 Q (E σ)
theorem pe_kS {E : L2.St → XK} (h : Knows X.prog X.w X.K X.mg X.base CX k x ps sp) (hr : Room k X.A) (hx : ∀ σ, PassesAt CX X σ (E σ)) (ha : PA X (e :: es) t) (hg : Gl X x := by rfl)
    (hdb : (x == ("__debug__" : Str)) = false := by decide)
    (he : starEach (e :: es) X.env = (false, eval e X.env) :: starEach es X.env := by rfl)
    (hpl : (backTo pos (starEach es X.env)).any (·.1) = false := by rfl) :
    PE X (.Call (.Name x p) (e :: es) [] pos) (tKS sp E t) := by
  obtain ⟨⟨fd, F, b⟩, g, kp⟩ := h
  exact pe_callS (E := E) (p := p) (pos := pos) F hr hg g kp b hx ha hdb he hpl
end
section
variable {P : Program} {w : World} {K : PySem.W.Frag} {mg : Str → Option Value} {base : Heap} {CX : CXT} {k : Nat} {x qual : Str} {ps : List Str} {sp : Sp}
variable {pa : Arguments} {bd : List Stmt} {sc : Scope}
theorem knows_of (g : mg x = some (.ref (He.ga K x))) (F : ∃ fd, FunD K x qual pa bd sc [] [] (He.ga K x) fd)
    (bn : ∀ (kV doc pm : Value) (an : Option Addr) (cdv ct : Value) (us : List Value), us.length = ps.length →
      bindArgs (PySem.W.fnOf x qual pa bd sc .none kV doc pm an cdv ct) ⟨us, []⟩ = pure (ps.zip us))
    (ok : ∀ fd, FunD K x qual pa bd sc [] [] (He.ga K x) fd → FnOk P w K mg base CX k (He.ga K x) fd ps sp) :
    Knows P w K mg base CX k x ps sp := by
  obtain ⟨fd, F⟩ := F
  exact ⟨⟨fd, ok fd F, F.bindsN bn⟩, g, F.kp⟩
theorem Knows.mono {j : Nat} (h : Knows P w K mg base CX j x ps sp) (hj : j ≤ k) : Knows P w K mg base CX k x ps sp := by
  obtain ⟨⟨fd, F, b⟩, g, kp⟩ := h
  exact ⟨⟨fd, F.mono hj, b⟩, g, kp⟩
end
/-- what a callee lets out, a def that lets it out too lets out -/
theorem passO {X : Cx} {E : XK} (tk : Takes X (fun cls d _ H => E cls d H)) : Passes (L2.CX X.prog X.w) X E :=
  passes_call tk fun _ _ _ _ h => h

/-! ### raise C(e), C's init storing its one argument -/
section
variable {K : PySem.W.Frag}
/-- the promise of def __init__(self, f): self.f = f -/
def spInit1 (C : Addr) (f : Str) : Sp := fun vs H Q _ => ∃ (a : Addr) (v : V), vs = [.ref a, v] ∧ H a = some (exo a C none) ∧
  ∀ dx, H dx = none → dx ≠ a → Q .non (upd (upd H dx (exd dx [(f, v)])) a (exo a C (some dx)))
/-- what such a raise asks -/
def tRs1 (C : Addr) (f : Str) (ta : TA) : L2.St → Hp → XK → Prop := fun σ H Q => ta σ H fun vs H1 => ∃ v, vs = [v] ∧
  ∀ d H', Same H1 H' → H1 d = none → H' d = some (.xd [(f, v)]) → Q (.ref C) (some d) H'
end
section
variable {X : Cx} {e : Expr} {ta : TA} {p pos : Pos}
def Mono (ta : TA) : Prop := ∀ σ H (Q Q' : List V → Hp → Prop), (∀ vs H', Q vs H' → Q' vs H') → ta σ H Q → ta σ H Q'
theorem pmk_one {CX : CXT} {x f : Str} {C fI : Addr} {k : Nat} (T : MeX.OexE X.K C)
    (iC : PySem.W.findIn X.K (.ref C) "__init__" = some (some (.ref fI))) (tI : PySem.W.typeIn X.K (.ref fI) = some (.type "function"))
    (G : ∃ fd, FnOk X.prog X.w X.K X.mg X.base CX k fI fd ["self", f] (spInit1 C f) ∧ Binds X.K fd ["self", f] []) (hr : Room (k + 1) X.A)
    (hx : Passes CX X (fun _ _ _ => False)) (hm : X.mg x = some (.ref C)) (ha : PA X [e] ta) (mo : Mono ta) (hg : Gl X x := by rfl)
    (hdb : (x == ("__debug__" : Str)) = false := by decide)
    (he : starEach (e :: []) X.env = (false, eval e X.env) :: starEach [] X.env := by rfl)
    (hpl : (backTo pos (starEach [] X.env)).any (·.1) = false := by rfl) :
    PMk X (.Call (.Name x p) [e] [] pos) (tRs1 C f ta) := by
  obtain ⟨fd, F, b⟩ := G
  have q := MeX.pmk_init (p := p) (pos := pos) T iC tI F hr b .nil hx hg hm ha hdb he hpl
  intro pins s σ H Q I h
  refine q pins s σ H Q I (mo σ H _ _ (fun vs H1 g => ?_) h)
  obtain ⟨v, rfl, g⟩ := g
  refine ⟨(by show 1 ≤ 1000; decide), fun a na => ⟨a, v, rfl, upd_same, fun dx nd ne => ⟨rfl, dx, [(f, v)], upd_same, ?_, ?_, ?_⟩⟩⟩
  · rw [upd_ne ne, upd_same]
  · rw [upd_ne ne] at nd
    exact nd
  · rw [upd_ne ne] at nd
    refine g dx _ (fun c o ec => ?_) nd upd_same
    have c1 : c ≠ dx := ne_of_none ec nd
    have c2 : c ≠ a := ne_of_none ec na
    rw [upd_ne c1, del_ne c2, upd_ne c2, upd_ne c1, upd_ne c2]
    exact ec
theorem mono_one {te : TE} (h : ∀ σ H (Q Q' : VK), (∀ v H', Q v H' → Q' v H') → te σ H Q → te σ H Q') : Mono (tCons te tNil) :=
  fun σ H Q Q' hq g => h σ H _ _ (fun v H' z => hq _ _ z) g
theorem mono_var {i : Nat} : Mono (tCons (tVar i) tNil) := mono_one fun σ H Q Q' hq g => by
  obtain ⟨v, e, q⟩ := g
  exact ⟨v, e, hq _ _ q⟩
theorem mono_c {v : V} : Mono (tCons (tC v) tNil) := mono_one fun σ H Q Q' hq g => hq _ _ g
end
/-! ### one rule or another -/
section
variable {X : Cx}
theorem pg_or {tg : Expr} {t t' : TG} (h : PG X tg t) (h' : PG X tg t') : PG X tg (fun v σ H Q => t v σ H Q ∨ t' v σ H Q) := by
  constructor
  intros
  rename_i q
  rcases q with q | q
  · apply h.run <;> assumption
  · apply h'.run <;> assumption
theorem pi_or {tg it : Expr} {t t' : TI} (h : PI X tg it t) (h' : PI X tg it t') : PI X tg it (fun σ H R => t σ H R ∨ t' σ H R) := by
  constructor
  intro pins s σ H R I q
  rcases q with q | q
  · exact h.run pins s σ H R I q
  · exact h'.run pins s σ H R I q
theorem pe_or' {e : Expr} {t t' : TE} (h : PE X e t) (h' : PE X e t') : PE X e (fun σ H Q => t σ H Q ∨ t' σ H Q) := by
  constructor
  intro pins s σ H Q I q
  rcases q with q | q
  · exact h.run pins s σ H Q I q
  · exact h'.run pins s σ H Q I q
end

/-! ### rules whose reading names the written part, that part given (inside a comprehension it must be) -/
section
variable {X : Cx} {K : PySem.W.Frag}
theorem in_seqK (hK : X.K = K := by rfl) : OpR X (compareOp .In) (rIn K false) := hK ▸ op_in_seq
theorem notIn_seqK (hK : X.K = K := by rfl) : OpR X (compareOp .NotIn) (rIn K true) := hK ▸ op_notIn_seq
theorem eqPK (hu : X.A.units + 64 < cLine) (hK : X.K = K := by rfl) : OpR X (compareOp .Eq) (rEqP K) := hK ▸ op_eqP hu
theorem nePK (hu : X.A.units + 64 < cLine) (hK : X.K = K := by rfl) : OpR X (compareOp .NotEq) (rNeP K) := hK ▸ op_neP hu
theorem catAK (hK : X.K = K := by rfl) : OpR X (binaryOp .Add) (rCatA K) := hK ▸ op_catA
theorem ix_tupK (hK : X.K = K := by rfl) : IxR X (rIxT K) := hK ▸ ix_tup
theorem ix_listK (hK : X.K = K := by rfl) : IxR X (rIxL K) := hK ▸ ix_list
theorem ix_seqK (hK : X.K = K := by rfl) : IxR X (fun x y H Q => rIxL K x y H Q ∨ rIxT K x y H Q) := IxR.or (ix_listK hK) (ix_tupK hK)
theorem sl_listK (hK : X.K = K := by rfl) : SlR X (rSlL K) := hK ▸ sl_list
theorem sl_tupK (hK : X.K = K := by rfl) : SlR X (rSlA K) := hK ▸ sl_tupA
theorem isiK (hK : X.K = K := by rfl) : CallR X (.builtin "isinstance") (rIsi K) := hK ▸ call_isi
theorem isiTK (hK : X.K = K := by rfl) : CallR X (.builtin "isinstance") (rIsiT K) := hK ▸ call_isiT
/-- len of a list or tuple -/
def rLenQ (K : PySem.W.Frag) : List V → Hp → VK → Prop := fun xs H Q => ∃ p ys, xs = [.ref p] ∧ (SqL K H p ys ∨ SqT K H p ys) ∧ Q (.int ys.length) H
theorem lenK (hK : X.K = K := by rfl) : CallR X (.builtin "len") (rLenQ K) := hK ▸ call_len_seq
def rListQ (K : PySem.W.Frag) : List V → Hp → VK → Prop := fun xs H Q => ∃ p ys, xs = [.ref p] ∧ (SqL K H p ys ∨ SqT K H p ys) ∧ ∀ l, H l = none → Q (.ref l) (upd H l (.lst ys))
theorem listK (hK : X.K = K := by rfl) : CallR X (.type "list") (rListQ K) := hK ▸ call_list_of
def rTupQ (K : PySem.W.Frag) : List V → Hp → VK → Prop := fun xs H Q => ∃ p ys, xs = [.ref p] ∧
  ((SqL K H p ys ∧ ∀ l o, H l = none → PTup (upd H l o) l ys → Q (.ref l) (upd H l o)) ∨ (SqT K H p ys ∧ Q (.ref p) H))
theorem tupleK (hK : X.K = K := by rfl) : CallR X (.type "tuple") (rTupQ K) := hK ▸ call_tupleP
def rDictQ (K : PySem.W.Frag) : List V → Hp → VK → Prop := fun xs H Q => ∃ (a : Addr) (ps : List Addr) (kvs : List (Key × V)), xs = [.ref a] ∧
  PTup H a (ps.map V.ref) ∧ Paired (fun p kv => SqT K H p [kV kv.1, kv.2]) ps kvs ∧ ∀ p, H p = none → Q (.ref p) (upd H p (.dK (mergeK [] kvs)))
theorem dictTK (hc : X.calm = true) (hK : X.K = K := by rfl) : CallR X (.type "dict") (rDictQ K) := hK ▸ call_dictT hc
theorem sumK (hc : X.calm = true) (hK : X.K = K := by rfl) : CallR X (.builtin "sum") (rSum K) := hK ▸ cr_sum hc
theorem allK (hc : X.calm = true) (hK : X.K = K := by rfl) : CallR X (.builtin "all") (rAll K) := hK ▸ cr_all hc
theorem anyK (hc : X.calm = true) (hK : X.K = K := by rfl) : CallR X (.builtin "any") (rAny K) := hK ▸ cr_any hc
theorem sortedK (hu : X.A.units + 64 < cLine) (hK : X.K = K := by rfl) : CallR X (.builtin "sorted") (MeD.rSortedP K) := hK ▸ call_sortedP hu
/-- sorted(d), d a dict with int keys -/
def rSortDI : List V → Hp → VK → Prop := fun xs H Q => ∃ (a : Addr) (kvs : List (Key × V)) (ks : List Int), xs = [.ref a] ∧ Rd H a (.dK kvs) ∧ kvs.map (·.1) = ks.map Sum.inl ∧ ks.length < 64 ∧
  ∀ (ys : List Int) (p : Addr), ys.Perm ks → ys.Pairwise (· ≤ ·) → H p = none → Q (.ref p) (upd H p (.lst (ys.map V.int)))
theorem sortDI (hc : X.calm = true) : CallR X (.builtin "sorted") rSortDI := call_sortedDI hc
def rJoinQ (K : PySem.W.Frag) : V → List V → Hp → VK → Prop := fun x xs H Q => ∃ a p, ∃ ys : List Str, x = .str a ∧ xs = [.ref p] ∧ (SqL K H p (ys.map V.str) ∨ SqT K H p (ys.map V.str)) ∧
  (ys.map (·.length)).sum + ys.length * a.length ≤ 16777216 ∧ Q (.str (Txt.join a ys)) H
theorem joinK (hK : X.K = K := by rfl) : MtR X "str.join" (rJoinQ K) := hK ▸ mt_join
theorem pg_tupK {es : List Expr} {k : Nat} {pos : Pos} {t : TGs} {n : Nat} (hc : X.calm = true) (h : PGs X es t)
    (hn : (assignEach es X.env).length = n := by rfl) (hst : (assignEach es X.env).findIdx? (·.1) = none := by rfl) (hK : X.K = K := by rfl) : PG X (.Tuple es k pos) (gTup K n t) :=
  hK ▸ pg_tup hc h hn hst
theorem pg_lstK {es : List Expr} {k : Nat} {pos : Pos} {t : TGs} {n : Nat} (hc : X.calm = true) (h : PGs X es t)
    (hn : (assignEach es X.env).length = n := by rfl) (hst : (assignEach es X.env).findIdx? (·.1) = none := by rfl) (hK : X.K = K := by rfl) : PG X (.Tuple es k pos) (gLst K n t) :=
  hK ▸ pg_lst hc h hn hst
end
/-! ### == of scalars, read -/
section
variable {H : Hp} {Q : VK} {i j : Int} {a b : Str} {x y : Bool} {v : V}
theorem req_int : rEq (.int i) (.int j) H Q = Q (.bl (decide (i = j))) H := by simp [rEq, scal]
theorem rne_int : rNe (.int i) (.int j) H Q = Q (.bl (!decide (i = j))) H := by simp [rNe, scal]
theorem req_str : rEq (.str a) (.str b) H Q = Q (.bl (decide (a = b))) H := by simp [rEq, scal]
theorem rne_str : rNe (.str a) (.str b) H Q = Q (.bl (!decide (a = b))) H := by simp [rNe, scal]
theorem req_bl : rEq (.bl x) (.bl y) H Q = Q (.bl (decide (x = y))) H := by simp [rEq, scal]
theorem rne_bl : rNe (.bl x) (.bl y) H Q = Q (.bl (!decide (x = y))) H := by simp [rNe, scal]
theorem tyv_str {K : PySem.W.Frag} {z : Str} : tyV K "str" (.str z) H = True := by simp [tyV]
theorem tyv_list {K : PySem.W.Frag} {p : Addr} {xs : List V} (h : SqL K H p xs) : tyV K "list" (.ref p) H := .inl ⟨rfl, xs, h⟩
end
end MeK

/-! Loops and comprehensions over data, in forms that are kept folded. -/
namespace MeL
open PySem PySem.Spec PyProof.Rows L2 MeD MeK

section
variable {K : PySem.W.Frag}
/-- a for over what x is: a tuple, a list, one of both; over a range; over a text -/
def loopT (K : PySem.W.Frag) (g : TG) (tb : TS) (D : Ends) (σ : L2.St) (x : V) (H : Hp) : Prop := tFor (iTup K (tC x)) g tb D σ H
def loopL (K : PySem.W.Frag) (g : TG) (tb : TS) (D : Ends) (σ : L2.St) (x : V) (H : Hp) : Prop := tFor (iList K (tC x)) g tb D σ H
def loopR (lo : Int) (n : Nat) (g : TG) (tb : TS) (D : Ends) (σ : L2.St) (H : Hp) : Prop := tFor (fun σ H R => R (Itr lo n) H) g tb D σ H
def loopS (g : TG) (tb : TS) (D : Ends) (σ : L2.St) (x : V) (H : Hp) : Prop := tFor (iStr (tC x)) g tb D σ H
theorem for_tup_eq (te : TE) (g : TG) (tb : TS) (D : Ends) (σ : L2.St) (H : Hp) : tFor (iTup K te) g tb D σ H = te σ H (fun x H1 => loopT K g tb D σ x H1) := rfl
theorem for_list_eq (te : TE) (g : TG) (tb : TS) (D : Ends) (σ : L2.St) (H : Hp) : tFor (iList K te) g tb D σ H = te σ H (fun x H1 => loopL K g tb D σ x H1) := rfl
theorem for_str_eq (te : TE) (g : TG) (tb : TS) (D : Ends) (σ : L2.St) (H : Hp) : tFor (iStr te) g tb D σ H = te σ H (fun x H1 => loopS g tb D σ x H1) := rfl
theorem for_rng_eq (ta : TA) (g : TG) (tb : TS) (D : Ends) (σ : L2.St) (H : Hp) : tFor (iRng1 ta) g tb D σ H =
  ta σ H (fun vs H1 => ∃ j : Int, vs = [.int j] ∧ -(2 ^ 62) ≤ j ∧ j < 2 ^ 62 ∧ loopR 0 j.toNat g tb D σ H1) := rfl
/-- a comprehension -/
def compT (K : PySem.W.Frag) (g : TG) (tt : TT) (te : TE) (ws : List Nat) (σ : L2.St) (x : V) (H : Hp) (Q : VK) : Prop := tLc (iTup K (tC x)) g tt te ws σ H Q
def compL (K : PySem.W.Frag) (g : TG) (tt : TT) (te : TE) (ws : List Nat) (σ : L2.St) (x : V) (H : Hp) (Q : VK) : Prop := tLc (iList K (tC x)) g tt te ws σ H Q
def compS (g : TG) (tt : TT) (te : TE) (ws : List Nat) (σ : L2.St) (x : V) (H : Hp) (Q : VK) : Prop := tLc (iStr (tC x)) g tt te ws σ H Q
def compR (lo : Int) (n : Nat) (g : TG) (tt : TT) (te : TE) (ws : List Nat) (σ : L2.St) (H : Hp) (Q : VK) : Prop := tLc (fun σ H R => R (Itr lo n) H) g tt te ws σ H Q
theorem lc_tup_eq (ts : TE) (g : TG) (tt : TT) (te : TE) (ws : List Nat) (σ : L2.St) (H : Hp) (Q : VK) : tLc (iTup K ts) g tt te ws σ H Q = ts σ H (fun x H1 => compT K g tt te ws σ x H1 Q) := rfl
theorem lc_list_eq (ts : TE) (g : TG) (tt : TT) (te : TE) (ws : List Nat) (σ : L2.St) (H : Hp) (Q : VK) : tLc (iList K ts) g tt te ws σ H Q = ts σ H (fun x H1 => compL K g tt te ws σ x H1 Q) := rfl
theorem lc_str_eq (ts : TE) (g : TG) (tt : TT) (te : TE) (ws : List Nat) (σ : L2.St) (H : Hp) (Q : VK) : tLc (iStr ts) g tt te ws σ H Q = ts σ H (fun x H1 => compS g tt te ws σ x H1 Q) := rfl
theorem lc_rng_eq (ta : TA) (g : TG) (tt : TT) (te : TE) (ws : List Nat) (σ : L2.St) (H : Hp) (Q : VK) : tLc (iRng1 ta) g tt te ws σ H Q =
  ta σ H (fun vs H1 => ∃ j : Int, vs = [.int j] ∧ -(2 ^ 62) ≤ j ∧ j < 2 ^ 62 ∧ compR 0 j.toNat g tt te ws σ H1 Q) := rfl
/-- the same of a list or a tuple, whichever it is -/
def iRow (K : PySem.W.Frag) (tl : TE) : TI := fun σ H R => tl σ H fun x H1 => ∃ a, x = .ref a ∧ ((∃ xs, SqL K H1 a xs) ∧ R (Itl K a) H1 ∨ (∃ xs, SqT K H1 a xs) ∧ R (Itt K a) H1)
def loopW (K : PySem.W.Frag) (g : TG) (tb : TS) (D : Ends) (σ : L2.St) (x : V) (H : Hp) : Prop := loopL K g tb D σ x H ∨ loopT K g tb D σ x H
theorem for_row_eq (te : TE) (g : TG) (tb : TS) (D : Ends) (σ : L2.St) (H : Hp) : tFor (iRow K te) g tb D σ H = te σ H (fun x H1 => loopW K g tb D σ x H1) := by
  unfold tFor iRow loopW loopL loopT tFor iList iTup
  congr 1
  funext x H1
  apply propext
  constructor
  · rintro ⟨a, rfl, h | h⟩
    · exact .inl ⟨a, rfl, h⟩
    · exact .inr ⟨a, rfl, h⟩
  · rintro (⟨a, rfl, h⟩ | ⟨a, rfl, h⟩)
    · exact ⟨a, rfl, .inl h⟩
    · exact ⟨a, rfl, .inr h⟩
theorem pi_row {X : Cx} {tg l : Expr} {tl : TE} (hl : PE X l tl) : PI X tg l (iRow X.K tl) := by
  constructor
  intro pins s σ H R I h
  refine thn (hl.run pins s σ H _ I h) fun v s1 hv => ?_
  obtain ⟨x, H1, J, r1, a, rfl, both⟩ := hv
  obtain rfl : v = Value.ref a := r1
  have old : ∀ (u : Obj) b o, s1.heap.get? b = some o → (s1.heap.push u).get? b = some o := fun u b o e => Heap.get?_push_of_some _ e
  have fp : ∀ b ∈ [s1.heap.objs.size], FpOk X pins H1 b := fun b hb => by
    obtain rfl : b = s1.heap.objs.size := by simpa using hb
    exact J.fpOk (Nat.le_refl _) (J.hok.fresh (Nat.le_refl _))
  rcases both with ⟨⟨xs, hq⟩, q⟩ | ⟨⟨xs, hq⟩, q⟩
  · obtain ⟨its, rv, pl, hz⟩ := J.list hq
    refine wpAny_pyIter_list pl.isList ⟨_, _, _, _, H1, rfl, J.kept (t' := s1.toks) (old _), turn_list a _, ?_, fp, q⟩
    exact ⟨_, Heap.get?_push_size _ rfl, rfl, rfl⟩
  · obtain ⟨its, rv, pl, hz⟩ := J.tuple hq
    refine wpAny_pyIter_tuple (show s1.heap.IsTuple a its.toArray from pl) ⟨_, _, _, _, H1, rfl, J.kept (t' := s1.toks) (old _), turn_tuple a _, ?_, fp, q⟩
    exact ⟨_, Heap.get?_push_size _ rfl, rfl, rfl⟩

/-! ### a for over data: the rest of it as the word's own letter -/
section
variable {g : TG} {tb : TS} {D : Ends} {σ : L2.St} {x : V} {H : Hp} {ds : List PyData}
/-- the ends of a turn behind which N stands -/
abbrev turnE (D : Ends) (N : L2.St → Hp → Prop) : Ends := { D with nx := N, ct := N, bk := D.nx }
theorem drop_at {ds : List PyData} {n : Nat} {d : PyData} (e : ds[n]? = some d) : ds.drop n = d :: ds.drop (n + 1) := by
  obtain ⟨h, e⟩ := List.getElem?_eq_some_iff.mp e
  rw [List.drop_eq_getElem_cons h, e]
theorem loopT_core {a : Addr} {xs : List V} (hS : SqT K H a xs) (hds : DpAll K H xs ds) (Inv : List PyData → L2.St → Hp → Prop) (h0 : Inv ds σ H)
    (hk : ∀ r σ' H', Inv r σ' H' → SqT K H' a xs ∧ DpAll K H' xs ds)
    (hs : ∀ y d r σ' H', d ∈ ds → Inv (d :: r) σ' H' → Dp K H' y d → g y σ' H' fun σ2 H2 => tb (turnE D (Inv r)) σ2 H2)
    (hd : ∀ σ' H', Inv [] σ' H' → D.nx σ' H') : loopT K g tb D σ (.ref a) H := by
  refine ⟨a, rfl, ⟨_, hS⟩, for_tup (K := K) (xs := xs) (fun n σ' H' => Inv (ds.drop n) σ' H') h0 (fun n σ' H' _ p => (hk _ _ _ p).1) (fun n y σ' H' e p => ?_) fun σ' H' p => hd σ' H' ?_⟩
  · obtain ⟨d, e1, e2⟩ := (hk _ _ _ p).2.get e
    refine hs y d (ds.drop (n + 1)) σ' H' (List.mem_of_getElem? e1) ?_ e2
    rw [← drop_at e1]
    exact p
  · have z : ds.drop xs.length = [] := by rw [hds.len]; exact List.drop_length
    rw [z] at p
    exact p
theorem loopL_core {a : Addr} {xs : List V} (hS : SqL K H a xs) (hds : DpAll K H xs ds) (Inv : List PyData → L2.St → Hp → Prop) (h0 : Inv ds σ H)
    (hk : ∀ r σ' H', Inv r σ' H' → SqL K H' a xs ∧ DpAll K H' xs ds)
    (hs : ∀ y d r σ' H', d ∈ ds → Inv (d :: r) σ' H' → Dp K H' y d → g y σ' H' fun σ2 H2 => tb (turnE D (Inv r)) σ2 H2)
    (hd : ∀ σ' H', Inv [] σ' H' → D.nx σ' H') : loopL K g tb D σ (.ref a) H := by
  refine ⟨a, rfl, ⟨_, hS⟩, for_list (K := K) (xs := xs) (fun n σ' H' => Inv (ds.drop n) σ' H') h0 (fun n σ' H' _ p => (hk _ _ _ p).1) (fun n y σ' H' e p => ?_) fun σ' H' p => hd σ' H' ?_⟩
  · obtain ⟨d, e1, e2⟩ := (hk _ _ _ p).2.get e
    refine hs y d (ds.drop (n + 1)) σ' H' (List.mem_of_getElem? e1) ?_ e2
    rw [← drop_at e1]
    exact p
  · have z : ds.drop xs.length = [] := by rw [hds.len]; exact List.drop_length
    rw [z] at p
    exact p
theorem loopT_same {H0 : Hp} (hx : Dp K H0 x (.tuple ds)) (Inv : List PyData → L2.St → Hp → Prop) (h0 : Inv ds σ H) (hk : ∀ r σ' H', Inv r σ' H' → Same H0 H')
    (hs : ∀ y d r σ' H', d ∈ ds → Inv (d :: r) σ' H' → Dp K H' y d → g y σ' H' fun σ2 H2 => tb (turnE D (Inv r)) σ2 H2)
    (hd : ∀ σ' H', Inv [] σ' H' → D.nx σ' H') : loopT K g tb D σ x H := by
  obtain ⟨a, xs, rfl, hS, hds⟩ := hx.tupleAt
  exact loopT_core (same_tup (hk _ _ _ h0) hS) (hds.same (hk _ _ _ h0)) Inv h0 (fun r σ' H' p => ⟨same_tup (hk _ _ _ p) hS, hds.same (hk _ _ _ p)⟩) hs hd
theorem loopL_same {H0 : Hp} (hx : Dp K H0 x (.list ds)) (Inv : List PyData → L2.St → Hp → Prop) (h0 : Inv ds σ H) (hk : ∀ r σ' H', Inv r σ' H' → Same H0 H')
    (hs : ∀ y d r σ' H', d ∈ ds → Inv (d :: r) σ' H' → Dp K H' y d → g y σ' H' fun σ2 H2 => tb (turnE D (Inv r)) σ2 H2)
    (hd : ∀ σ' H', Inv [] σ' H' → D.nx σ' H') : loopL K g tb D σ x H := by
  obtain ⟨a, xs, rfl, hS, hds⟩ := hx.listAt
  exact loopL_core (same_seq (hk _ _ _ h0) hS) (hds.same (hk _ _ _ h0)) Inv h0 (fun r σ' H' p => ⟨same_seq (hk _ _ _ p) hS, hds.same (hk _ _ _ p)⟩) hs hd
theorem step_map {α : Type} {as : List α} {F : α → PyData} {Inv : List α → L2.St → Hp → Prop} {d : PyData} {r : List PyData} {σ' : L2.St} {H' : Hp}
    (h : ∃ l, l <:+ as ∧ d :: r = l.map F ∧ Inv l σ' H') : ∃ a l, a ∈ as ∧ d = F a ∧ l <:+ as ∧ r = l.map F ∧ Inv (a :: l) σ' H' := by
  obtain ⟨l, h1, h2, h3⟩ := h
  cases l with
  | nil => cases h2
  | cons a l =>
    cases h2
    exact ⟨a, l, h1.subset List.mem_cons_self, rfl, (List.suffix_cons a l).trans h1, rfl, h3⟩
theorem done_map {α : Type} {as : List α} {F : α → PyData} {Inv : List α → L2.St → Hp → Prop} {σ' : L2.St} {H' : Hp} (h : ∃ l, l <:+ as ∧ [] = l.map F ∧ Inv l σ' H') : Inv [] σ' H' := by
  obtain ⟨l, _, h2, h3⟩ := h
  cases l with
  | nil => exact h3
  | cons a l => cases h2
theorem loopT_map {H0 : Hp} {α : Type} {as : List α} (F : α → PyData) (hx : Dp K H0 x (.tuple (as.map F))) (Inv : List α → L2.St → Hp → Prop) (h0 : Inv as σ H) (hk : ∀ r σ' H', Inv r σ' H' → Same H0 H')
    (hs : ∀ y d r σ' H', d ∈ as → Inv (d :: r) σ' H' → Dp K H' y (F d) → ∀ N : L2.St → Hp → Prop, (∀ σ2 H2, Inv r σ2 H2 → N σ2 H2) → g y σ' H' fun σ2 H2 => tb (turnE D N) σ2 H2)
    (hd : ∀ σ' H', Inv [] σ' H' → D.nx σ' H') : loopT K g tb D σ x H := by
  refine loopT_same hx (fun ds σ' H' => ∃ l, l <:+ as ∧ ds = l.map F ∧ Inv l σ' H') ⟨as, List.suffix_refl _, rfl, h0⟩ (fun _ _ _ ⟨_, _, _, h⟩ => hk _ _ _ h) (fun y d r σ' H' _ h hy => ?_) (fun σ' H' h => hd _ _ (done_map h))
  obtain ⟨a, l, h1, rfl, h2, rfl, h3⟩ := step_map h
  exact hs y a l σ' H' h1 h3 hy _ fun σ2 H2 q => ⟨l, h2, rfl, q⟩
theorem loopL_map {H0 : Hp} {α : Type} {as : List α} (F : α → PyData) (hx : Dp K H0 x (.list (as.map F))) (Inv : List α → L2.St → Hp → Prop) (h0 : Inv as σ H) (hk : ∀ r σ' H', Inv r σ' H' → Same H0 H')
    (hs : ∀ y d r σ' H', d ∈ as → Inv (d :: r) σ' H' → Dp K H' y (F d) → ∀ N : L2.St → Hp → Prop, (∀ σ2 H2, Inv r σ2 H2 → N σ2 H2) → g y σ' H' fun σ2 H2 => tb (turnE D N) σ2 H2)
    (hd : ∀ σ' H', Inv [] σ' H' → D.nx σ' H') : loopL K g tb D σ x H := by
  refine loopL_same hx (fun ds σ' H' => ∃ l, l <:+ as ∧ ds = l.map F ∧ Inv l σ' H') ⟨as, List.suffix_refl _, rfl, h0⟩ (fun _ _ _ ⟨_, _, _, h⟩ => hk _ _ _ h) (fun y d r σ' H' _ h hy => ?_) (fun σ' H' h => hd _ _ (done_map h))
  obtain ⟨a, l, h1, rfl, h2, rfl, h3⟩ := step_map h
  exact hs y a l σ' H' h1 h3 hy _ fun σ2 H2 q => ⟨l, h2, rfl, q⟩
theorem loopL_mapE {α : Type} {as : List α} (F : α → PyData) {a : Addr} {xs : List V} (hS : SqL K H a xs) (hds : DpAll K H xs (as.map F)) (Inv : List α → L2.St → Hp → Prop) (h0 : Inv as σ H)
    (hk : ∀ r σ' H', Inv r σ' H' → SqL K H' a xs ∧ DpAll K H' xs (as.map F))
    (hs : ∀ y d r σ' H', d ∈ as → Inv (d :: r) σ' H' → Dp K H' y (F d) → ∀ N : L2.St → Hp → Prop, (∀ σ2 H2, Inv r σ2 H2 → N σ2 H2) → g y σ' H' fun σ2 H2 => tb (turnE D N) σ2 H2)
    (hd : ∀ σ' H', Inv [] σ' H' → D.nx σ' H') : loopL K g tb D σ (.ref a) H := by
  refine loopL_core hS hds (fun ds σ' H' => ∃ l, l <:+ as ∧ ds = l.map F ∧ Inv l σ' H') ⟨as, List.suffix_refl _, rfl, h0⟩ (fun _ _ _ ⟨_, _, _, h⟩ => hk _ _ _ h) (fun y d r σ' H' _ h hy => ?_) (fun σ' H' h => hd _ _ (done_map h))
  obtain ⟨a, l, h1, rfl, h2, rfl, h3⟩ := step_map h
  exact hs y a l σ' H' h1 h3 hy _ fun σ2 H2 q => ⟨l, h2, rfl, q⟩
/-- a list's or tuple's items -/
def itemsD : PyData → Option (List PyData)
  | .list xs | .tuple xs => some xs
  | _ => none
theorem items_row (d : PyData) : (isL d || isT d) = (itemsD d).isSome := by cases d <;> rfl
theorem items_at {H0 : Hp} {d : PyData} (hx : Dp K H0 x d) (e : itemsD d = some ds) : ∃ a vs, x = .ref a ∧ (SqL K H0 a vs ∨ SqT K H0 a vs) ∧ DpAll K H0 vs ds := by
  cases hx with
  | lst h1 h2 => cases e; exact ⟨_, _, rfl, .inl h1, h2⟩
  | tup h1 h2 => cases e; exact ⟨_, _, rfl, .inr h1, h2⟩
  | _ => cases e
theorem loopW_same {H0 : Hp} {d : PyData} (hx : Dp K H0 x d) (e : itemsD d = some ds) (Inv : List PyData → L2.St → Hp → Prop) (h0 : Inv ds σ H) (hk : ∀ r σ' H', Inv r σ' H' → Same H0 H')
    (hs : ∀ y d r σ' H', d ∈ ds → Inv (d :: r) σ' H' → Dp K H' y d → g y σ' H' fun σ2 H2 => tb (turnE D (Inv r)) σ2 H2)
    (hd : ∀ σ' H', Inv [] σ' H' → D.nx σ' H') : loopW K g tb D σ x H := by
  cases d with
  | list xs => cases e; exact .inl (loopL_same hx Inv h0 hk hs hd)
  | tuple xs => cases e; exact .inr (loopT_same hx Inv h0 hk hs hd)
  | _ => cases e
/-- some m of M may change within -/
theorem loopT_kept {M : List Addr} (hx : Dp K H x (.tuple ds)) (n : noLs ds = true) (hM : Lists M H) (Inv : List PyData → L2.St → Hp → Prop) (h0 : Inv ds σ H) (hk : ∀ r σ' H', Inv r σ' H' → Kept M H H')
    (hs : ∀ y d r σ' H', d ∈ ds → Inv (d :: r) σ' H' → Dp K H' y d → g y σ' H' fun σ2 H2 => tb (turnE D (Inv r)) σ2 H2)
    (hd : ∀ σ' H', Inv [] σ' H' → D.nx σ' H') : loopT K g tb D σ x H := by
  obtain ⟨a, xs, rfl, hS, hds⟩ := hx.tupleAt
  exact loopT_core hS hds Inv h0 (fun r σ' H' p => ⟨(hk _ _ _ p).tup hM hS, hds.kept (hk _ _ _ p) hM n⟩) hs hd
theorem loopL_kept {M : List Addr} {a : Addr} {xs : List V} (ha : H a = some (.lst xs)) (hna : a ∉ M) (hds : DpAll K H xs ds) (n : noLs ds = true) (hM : Lists M H) (Inv : List PyData → L2.St → Hp → Prop) (h0 : Inv ds σ H)
    (hk : ∀ r σ' H', Inv r σ' H' → Kept M H H')
    (hs : ∀ y d r σ' H', d ∈ ds → Inv (d :: r) σ' H' → Dp K H' y d → g y σ' H' fun σ2 H2 => tb (turnE D (Inv r)) σ2 H2)
    (hd : ∀ σ' H', Inv [] σ' H' → D.nx σ' H') : loopL K g tb D σ (.ref a) H :=
  loopL_core (SqL.of ha) hds Inv h0 (fun r σ' H' p => ⟨SqL.of ((hk _ _ _ p).at_ a _ hna ha), hds.kept (hk _ _ _ p) hM n⟩) hs hd
theorem loopR_of {lo : Int} {n : Nat} (Pv : Nat → L2.St → Hp → Prop) (h0 : Pv 0 σ H)
    (hs : ∀ i σ' H', i < n → Pv i σ' H' → g (.int (lo + i)) σ' H' fun σ2 H2 => tb (turnE D (Pv (i + 1))) σ2 H2) (hd : ∀ σ' H', Pv n σ' H' → D.nx σ' H') :
    loopR lo n g tb D σ H := for_range Pv h0 hs hd

/-! ### a comprehension over data that changes nothing -/
variable {tt : TT} {te : TE} {ws : List Nat} {Q : VK}
/-- one turn: for data d the reading gives nothing, or what stands for e -/
def Turns (K : PySem.W.Frag) (g : TG) (tt : TT) (te : TE) (ws : List Nat) (σ : L2.St) (H : Hp) (d : PyData) (r : Option PyData) : Prop :=
  ∀ (y : V) (H' : Hp) (N : Hp → Prop) (Y : V → Hp → Prop), Same H H' → Dp K H' y d →
    (∀ H2, Same H' H2 → r = none → N H2) → (∀ z H2 e, Same H' H2 → r = some e → Dp K H2 z e → Y z H2) →
    g y (wipe σ ws) H' fun σ2 H2 => wipe σ2 ws = wipe σ ws ∧ tt σ2 H2 fun b H3 => if b = true then te σ2 H3 Y else N H3
theorem put_same {H H' : Hp} {p : Addr} {o : HO} (s : Same H H') (h : H p = none) : Same H (upd H' p o) := fun b u e => by
  rw [upd_ne (ne_of_none e h)]
  exact s b u e
theorem noLs_all {ds : List PyData} (h : ∀ d ∈ ds, noL d = true) : noLs ds = true := by
  induction ds with
  | nil => rfl
  | cons d ds ih => rw [noLs, h d (by simp), ih fun e he => h e (by simp [he])]; rfl
theorem noLs_mem {ds : List PyData} (h : noLs ds = true) : ∀ d ∈ ds, noL d = true := by
  induction ds with
  | nil => intro d hd; simp at hd
  | cons x ds ih =>
    rw [noLs, Bool.and_eq_true] at h
    intro d hd
    rcases List.mem_cons.mp hd with rfl | hd
    · exact h.1
    · exact ih h.2 d hd
theorem dps_put {H : Hp} {p : Addr} {old : List V} {o : HO} {vs : List V} {es : List PyData} (hp : H p = some (.lst old)) (n : noLs es = true) (h : DpAll K H vs es) : DpAll K (upd H p o) vs es :=
  h.kept (kept_put (M := [p]) (by simp)) (lists_one hp) n
theorem dp_put {H : Hp} {p : Addr} {old : List V} {o : HO} {v : V} {e : PyData} (hp : H p = some (.lst old)) (n : noL e = true) (h : Dp K H v e) : Dp K (upd H p o) v e :=
  h.kept (kept_put (M := [p]) (by simp)) (lists_one hp) n
/-- what stands between two turns -/
def Made (K : PySem.W.Frag) (H : Hp) (p : Addr) (es : List PyData) (H' : Hp) : Prop := Same H H' ∧ ∃ acc, H' p = some (.lst acc) ∧ DpAll K H' acc es
theorem comp_step {α : Type} {as : List α} (F : α → PyData) {f : α → Option PyData} {p : Addr} {H1 : Hp} (hp : H p = none) (hz : as.length ≤ 100000) (hturn : ∀ d ∈ as, Turns K g tt te ws σ H (F d) (f d))
    (hn : ∀ d ∈ as, ∀ e, f d = some e → noL e = true)
    {n : Nat} {d : α} {y : V} (e1 : as[n]? = some d) (e2 : Dp K H1 y (F d)) (m : Made K H p ((as.take n).filterMap f) H1) :
    g y (wipe σ ws) H1 fun σ2 H2 => wipe σ2 ws = wipe σ ws ∧ tt σ2 H2 fun b H3 =>
      if b = true then te σ2 H3 fun z H4 => ∃ acc, H4 p = some (.lst acc) ∧ acc.length < sizeLine ∧ Made K H p ((as.take (n + 1)).filterMap f) (upd H4 p (.lst (acc ++ [z])))
      else Made K H p ((as.take (n + 1)).filterMap f) H3 := by
  obtain ⟨s1, acc, ea, hacc⟩ := m
  have et : (as.take (n + 1)).filterMap f = (as.take n).filterMap f ++ (match f d with | some e => [e] | none => []) := by
    rw [List.take_add_one, e1, List.filterMap_append]
    cases q : f d <;> simp [q]
  have hlen : acc.length ≤ 100000 := by
    rw [hacc.len]
    refine Nat.le_trans (List.length_filterMap_le ..) (Nat.le_trans ?_ hz)
    rw [List.length_take]
    omega
  have hns : noLs ((as.take n).filterMap f) = true := noLs_all fun e he => by
    obtain ⟨d', h1, h2⟩ := List.mem_filterMap.mp he
    exact hn d' (List.mem_of_mem_take h1) e h2
  have hm := List.mem_of_getElem? e1
  refine hturn d hm y H1 _ _ s1 e2 (fun H2 s2 er => ?_) (fun z H2 e s2 er hz => ?_)
  · refine ⟨s1.trans s2, acc, s2 _ _ ea, ?_⟩
    rw [et, er, List.append_nil]
    exact hacc.same s2
  · refine ⟨acc, s2 _ _ ea, Nat.lt_of_le_of_lt hlen (by decide), put_same (s1.trans s2) hp, _, upd_same, ?_⟩
    rw [et, er]
    exact (dps_put (s2 _ _ ea) hns (hacc.same s2)).snoc (dp_put (s2 _ _ ea) (hn d hm e er) hz)
theorem made_0 {p : Addr} (hp : H p = none) : Made K H p [] (upd H p (.lst [])) := ⟨same_new hp, [], upd_same, .nil⟩
theorem made_end {α : Type} {as : List α} {f : α → Option PyData} {p : Addr} {H' : Hp} {m : Nat} (hm : m = as.length) (h : Made K H p ((as.take m).filterMap f) H')
    (q : ∀ p H', H p = none → Same H H' → ∀ acc, H' p = some (.lst acc) → DpAll K H' acc (as.filterMap f) → Q (.ref p) H') (hp : H p = none) : Q (.ref p) H' := by
  subst hm
  rw [List.take_length] at h
  obtain ⟨s, acc, e, d⟩ := h
  exact q p H' hp s acc e d
theorem get_map {α : Type} {as : List α} {F : α → PyData} {vs : List V} {H' : Hp} (h : DpAll K H' vs (as.map F)) {n : Nat} {y : V} (e : vs[n]? = some y) : ∃ d, as[n]? = some d ∧ Dp K H' y (F d) := by
  obtain ⟨d, e1, e2⟩ := h.get e
  rw [List.getElem?_map] at e1
  cases q : as[n]? with
  | none => rw [q] at e1; cases e1
  | some a =>
    rw [q] at e1
    cases e1
    exact ⟨a, rfl, e2⟩
theorem compT_map {α : Type} {as : List α} (F : α → PyData) (hx : Dp K H x (.tuple (as.map F))) (f : α → Option PyData) (hz : as.length ≤ 100000) (hn : ∀ d ∈ as, ∀ e, f d = some e → noL e = true) (hturn : ∀ d ∈ as, Turns K g tt te ws σ H (F d) (f d))
    (q : ∀ p H', H p = none → Same H H' → ∀ acc, H' p = some (.lst acc) → DpAll K H' acc (as.filterMap f) → Q (.ref p) H') : compT K g tt te ws σ x H Q := by
  obtain ⟨a, xs, rfl, hS, hds⟩ := hx.tupleAt
  refine ⟨a, rfl, ⟨_, hS⟩, fun p hp => ?_⟩
  refine lc_tup (K := K) (xs := xs) (Qd := fun H => Q (.ref p) H) (fun n H' => Made K H p ((as.take n).filterMap f) H') (made_0 hp) (fun n H' _ m => same_tup m.1 hS) (fun n y H' e m => ?_) (fun H' m => made_end (hds.len.trans (by simp)) m q hp)
  obtain ⟨d, e1, e2⟩ := get_map (hds.same m.1) e
  exact comp_step F hp hz hturn hn e1 e2 m
theorem compL_map {α : Type} {as : List α} (F : α → PyData) (hx : Dp K H x (.list (as.map F))) (f : α → Option PyData) (hz : as.length ≤ 100000) (hn : ∀ d ∈ as, ∀ e, f d = some e → noL e = true) (hturn : ∀ d ∈ as, Turns K g tt te ws σ H (F d) (f d))
    (q : ∀ p H', H p = none → Same H H' → ∀ acc, H' p = some (.lst acc) → DpAll K H' acc (as.filterMap f) → Q (.ref p) H') : compL K g tt te ws σ x H Q := by
  obtain ⟨a, xs, rfl, hS, hds⟩ := hx.listAt
  refine ⟨a, rfl, ⟨_, hS⟩, fun p hp => ?_⟩
  refine lc_list (K := K) (xs := xs) (Qd := fun H => Q (.ref p) H) (fun n H' => Made K H p ((as.take n).filterMap f) H') (made_0 hp) (fun n H' _ m => same_seq m.1 hS) (fun n y H' e m => ?_) (fun H' m => made_end (hds.len.trans (by simp)) m q hp)
  obtain ⟨d, e1, e2⟩ := get_map (hds.same m.1) e
  exact comp_step F hp hz hturn hn e1 e2 m
theorem compT_of (hx : Dp K H x (.tuple ds)) (f : PyData → Option PyData) (hz : ds.length ≤ 100000) (hn : ∀ d ∈ ds, ∀ e, f d = some e → noL e = true) (hturn : ∀ d ∈ ds, Turns K g tt te ws σ H d (f d))
    (q : ∀ p H', H p = none → Same H H' → ∀ acc, H' p = some (.lst acc) → DpAll K H' acc (ds.filterMap f) → Q (.ref p) H') : compT K g tt te ws σ x H Q :=
  compT_map (as := ds) (fun d => d) (by rw [List.map_id']; exact hx) f hz hn hturn q
theorem compL_of (hx : Dp K H x (.list ds)) (f : PyData → Option PyData) (hz : ds.length ≤ 100000) (hn : ∀ d ∈ ds, ∀ e, f d = some e → noL e = true) (hturn : ∀ d ∈ ds, Turns K g tt te ws σ H d (f d))
    (q : ∀ p H', H p = none → Same H H' → ∀ acc, H' p = some (.lst acc) → DpAll K H' acc (ds.filterMap f) → Q (.ref p) H') : compL K g tt te ws σ x H Q :=
  compL_map (as := ds) (fun d => d) (by rw [List.map_id']; exact hx) f hz hn hturn q
/-- the signsD of a text, each a text of one sign -/
def signsD (s : Str) : List PyData := s.cps.toList.map fun c => .str ⟨#[c]⟩
theorem compS_of {z : Str} (f : PyData → Option PyData) (hz : z.cps.size ≤ 100000) (hn : ∀ d ∈ signsD z, ∀ e, f d = some e → noL e = true) (hturn : ∀ d ∈ signsD z, Turns K g tt te ws σ H d (f d))
    (q : ∀ p H', H p = none → Same H H' → ∀ acc, H' p = some (.lst acc) → DpAll K H' acc ((signsD z).filterMap f) → Q (.ref p) H') : compS g tt te ws σ (.str z) H Q := by
  have hl : (signsD z).length = z.cps.size := by simp [signsD]
  refine ⟨z, rfl, fun p hp => ?_⟩
  refine lc_it (walk_str (z := z)) (Qd := fun H => Q (.ref p) H) (fun n H' => Made K H p (((signsD z).take n).filterMap f) H') (made_0 hp) (fun _ _ _ _ => trivial) (fun n y H' H'' hi m hy => ?_) (fun H' m => made_end hl.symm m q hp)
  obtain ⟨rfl, c, ec, rfl⟩ := hy
  have e1 : (signsD z)[n]? = some (.str ⟨#[c]⟩) := by
    unfold signsD
    rw [List.getElem?_map, Array.getElem?_toList, ec]
    rfl
  exact comp_step (fun d => d) hp (by rw [hl]; exact hz) hturn hn e1 (.str _) m
end
end
/-! ### short forms over data -/
section
variable {K : PySem.W.Frag} {H : Hp} {Q : VK} {ds es : List PyData} {xs zs : List V} {p l b : Addr}
theorem ixT0 {v : V} {vs : List V} (h : SqT K H p (v :: vs)) (q : Q v H) : rIxT K (.ref p) (.int 0) H Q := ⟨p, v :: vs, 0, v, rfl, rfl, h, atI_nat (j := 0) rfl, q⟩
theorem ixT1 {u v : V} {vs : List V} (h : SqT K H p (u :: v :: vs)) (q : Q v H) : rIxT K (.ref p) (.int 1) H Q := ⟨p, u :: v :: vs, 1, v, rfl, rfl, h, atI_nat (j := 1) rfl, q⟩
theorem ixL0 {v : V} {vs : List V} (h : SqL K H p (v :: vs)) (q : Q v H) : rIxL K (.ref p) (.int 0) H Q := ⟨p, v :: vs, 0, v, rfl, rfl, h, atI_nat (j := 0) rfl, q⟩
theorem ixL1 {u v : V} {vs : List V} (h : SqL K H p (u :: v :: vs)) (q : Q v H) : rIxL K (.ref p) (.int 1) H Q := ⟨p, u :: v :: vs, 1, v, rfl, rfl, h, atI_nat (j := 1) rfl, q⟩
theorem ixL2 {t u v : V} {vs : List V} (h : SqL K H p (t :: u :: v :: vs)) (q : Q v H) : rIxL K (.ref p) (.int 2) H Q := ⟨p, t :: u :: v :: vs, 2, v, rfl, rfl, h, atI_nat (j := 2) rfl, q⟩
/-- == of the same data -/
theorem eq_same {v u : V} {d : PyData} (h : Dp K H v d) (g : Dp K H u d) (hz : d.depth ≤ 64) (q : Q (.bl true) H) : rEqP K v u H Q :=
  ⟨d, d, h, g, by omega, by rw [PySem.SeqAt.eqv_refl_plain d h.plain]; exact q⟩
theorem ne_same {v u : V} {d : PyData} (h : Dp K H v d) (g : Dp K H u d) (hz : d.depth ≤ 64) (q : Q (.bl false) H) : rNeP K v u H Q :=
  ⟨d, d, h, g, by omega, by rw [PySem.SeqAt.eqv_refl_plain d h.plain]; exact q⟩
/-- tuple of a list -/
theorem tup_of (h : H p = some (.lst xs)) (d : DpAll K H xs ds) (q : ∀ v H', Same H H' → Dp K H' v (.tuple ds) → Q v H') : rTupQ K [.ref p] H Q :=
  ⟨p, xs, rfl, .inl ⟨SqL.of h, fun l o hl hp => q _ _ (same_new hl) (.tup hp.sq (d.same (same_new hl)))⟩⟩
/-- tuple of a list, plain -/
theorem ptup_of (h : SqL K H p xs) (q : ∀ l H', Same H H' → PTup H' l xs → Q (.ref l) H') : rTupQ K [.ref p] H Q :=
  ⟨p, xs, rfl, .inl ⟨h, fun l o hl hp => q l _ (same_new hl) hp⟩⟩
/-- l + b, a new list -/
theorem cat_new (h : H l = some (.lst xs)) (g : H b = some (.lst zs)) (hz : xs.length + zs.length ≤ 100000) (q : ∀ p H', H p = none → Same H H' → H' p = some (.lst (xs ++ zs)) → Q (.ref p) H') : rCat (.ref l) (.ref b) H Q :=
  ⟨l, b, xs, zs, rfl, rfl, h, g, Nat.le_trans hz (by decide), fun p hp => q p _ hp (same_new hp) upd_same⟩
/-- l + b, both lists that nothing else holds -/
theorem cat_of (h : H l = some (.lst xs)) (g : H b = some (.lst zs)) (hz : xs.length + zs.length ≤ 100000) (q : ∀ p H', Same H H' → H' p = some (.lst (xs ++ zs)) → Q (.ref p) H') : rCat (.ref l) (.ref b) H Q :=
  ⟨l, b, xs, zs, rfl, rfl, h, g, Nat.le_trans hz (by decide), fun p hp => q p _ (same_new hp) upd_same⟩
end
/-! ### draws: a list of small numbers that calls take from -/
section
variable {K : PySem.W.Frag} {H H1 H2 : Hp} {d : Addr}
def DrawsAt (d : Addr) (H : Hp) : Prop := ∃ ns : List Int, H d = some (.lst (ns.map V.int)) ∧ ns.length ≤ 5000 ∧ ∀ n ∈ ns, 0 ≤ n
/-- behind calls that take from the list at d, make new objects and change nothing else -/
def Dk (d : Addr) (H H' : Hp) : Prop := Kept [d] H H' ∧ DrawsAt d H'
theorem Dk.refl (h : DrawsAt d H) : Dk d H H := ⟨.refl H, h⟩
theorem Dk.trans (a : Dk d H H1) (b : Dk d H1 H2) : Dk d H H2 := ⟨a.1.trans b.1, b.2⟩
theorem DrawsAt.lists (h : DrawsAt d H) : Lists [d] H := by
  obtain ⟨ns, e, _⟩ := h
  exact lists_one e
theorem DrawsAt.same (h : DrawsAt d H) (s : Same H H1) : DrawsAt d H1 := by
  obtain ⟨ns, e, h⟩ := h
  exact ⟨ns, s _ _ e, h⟩
theorem Dk.same (h : DrawsAt d H) (s : Same H H1) : Dk d H H1 := ⟨kept_of s, h.same s⟩
theorem DrawsAt.ne {p : Addr} (h : DrawsAt d H) (hp : H p = none) : p ≠ d := fun e => by
  obtain ⟨ns, e1, _⟩ := h
  rw [← e, hp] at e1
  cases e1
/-- an object made since, not the draws, may change -/
theorem Dk.put {p : Addr} {o : HO} (h : DrawsAt d H) (k : Dk d H H1) (hp : H p = none) : Dk d H (upd H1 p o) := by
  refine ⟨k.1.put hp, ?_⟩
  obtain ⟨ns, e, q⟩ := k.2
  exact ⟨ns, by rw [upd_ne (h.ne hp).symm]; exact e, q⟩
/-- what stands elsewhere stays -/
theorem Dk.at_ {p : Addr} {o : HO} (k : Dk d H H1) (hp : p ≠ d) (e : H p = some o) : H1 p = some o := k.1.at_ p o (by simpa using hp) e
theorem compR_draws {lo : Int} {n : Nat} {g : TG} {te : TE} {ws : List Nat} {σ : L2.St} {Q : VK} (hd : DrawsAt d H) (R : V → Prop) (hz : n ≤ 1000)
    (hturn : ∀ i H' (Y : VK), i < n → Dk d H H' → (∀ v H2, Dk d H' H2 → R v → Y v H2) →
      g (.int (lo + i)) (wipe σ ws) H' fun σ2 H2 => wipe σ2 ws = wipe σ ws ∧ te σ2 H2 Y)
    (q : ∀ p H' acc, H p = none → Dk d H H' → H' p = some (.lst acc) → acc.length = n → (∀ v ∈ acc, R v) → Q (.ref p) H') : compR lo n g tYes te ws σ H Q := by
  refine fun p hp => ?_
  have pd : p ≠ d := hd.ne hp
  refine lc_it walk_range (Qd := fun H => Q (.ref p) H) (fun i H' => Dk d H H' ∧ ∃ acc, H' p = some (.lst acc) ∧ acc.length = i ∧ ∀ v ∈ acc, R v)
    ⟨Dk.same hd (same_new hp), [], upd_same, rfl, by simp⟩ (fun _ _ _ _ => trivial) (fun i y H' H'' hi m hy => ?_) (fun H' m => ?_)
  · obtain ⟨rfl, rfl⟩ := hy
    obtain ⟨k, acc, ea, hl, hr⟩ := m
    refine hturn i _ _ hi k fun v H2 k2 hv => ?_
    refine ⟨acc, k2.at_ pd ea, Nat.lt_of_le_of_lt (show acc.length ≤ 1000 by omega) (by decide), Dk.put hd (k.trans k2) hp, acc ++ [v], upd_same, by simp [hl], fun u hu => ?_⟩
    rcases List.mem_append.mp hu with h | h
    · exact hr u h
    · rw [List.mem_singleton.mp h]; exact hv
  · obtain ⟨k, acc, ea, hl, hr⟩ := m
    exact q p H' acc hp k ea hl hr
end
end MeL

/-! The head's facts with one more Bool; the Bools of own exception classes over Exception. -/
namespace MeH
open PySem PySem.Spec PyProof.Rows L2 MeX MeK
abbrev AlM : Type := He.AlD × Bool
structure SaysM (fa : List He.Fa) (fn : List He.DefD) (ex : PySem.W.Frag → Bool) (K : PySem.W.Frag) : Prop where
  d : He.SaysD fa fn K
  more : ex K = true
def obsM (n : Nat) (fa : List He.Fa) (fn : List He.DefD) (ex : PySem.W.Frag → Bool) (g : Addr → Option Obj) : AlM :=
  (He.obsD fa fn (He.frG g (He.asD g n)), ex (He.frG g (He.asD g n)))
def hookM (n : Nat) (fa : List He.Fa) (fn : List He.DefD) (ex : PySem.W.Frag → Bool) : PySem.W.Hook where
  α := AlM
  obs := fun s => obsM n fa fn ex s.heap.get?
  val := fun _ => (He.valD fn, true)
  says := fun _ h => ∃ K : PySem.W.Frag, K.In h ∧ SaysM fa fn ex K
  of := fun _ _ e => ⟨_, He.frG_in, congrArg (fun z : AlM => z.1) e, congrArg (fun z : AlM => z.2) e⟩
  keeps := fun _ _ _ ⟨K, hK, c⟩ k => ⟨K, PySem.W.Frag.In.keeps hK k, c⟩
theorem obsM_eq {n : Nat} {fa : List He.Fa} {fn : List He.DefD} {ex : PySem.W.Frag → Bool} {g : Addr → Option Obj} {s : Shared}
    (h : ∀ a, g a = s.heap.get? a) : obsM n fa fn ex g = (hookM n fa fn ex).obs s := by
  have e : g = s.heap.get? := funext h
  rw [e] <;> rfl

/-- an own class over Exception without own init -/
def excB (K : PySem.W.Frag) (x : Str) : Bool :=
  PySem.W.excIn K (He.ga K x) exTail "Exception.__new__" && (PySem.W.keepIn K (.ref (He.ga K x)) &&
    (decide (PySem.W.subIn K (.ref (He.ga K x)) (.type "BaseException") = some true) && decide (PySem.W.typeIn K (.ref (He.ga K x)) = some (.type "type"))))
structure ExcP (K : PySem.W.Frag) (C : Addr) : Prop where
  x : PySem.W.excIn K C exTail "Exception.__new__" = true
  kp : PySem.W.keepIn K (.ref C) = true
  sub : PySem.W.subIn K (.ref C) (.type "BaseException") = some true
  ty : PySem.W.typeIn K (.ref C) = some (.type "type")
theorem excB_ok {K : PySem.W.Frag} {x : Str} (h : excB K x = true) : ExcP K (He.ga K x) := by
  obtain ⟨h1, h⟩ := He.ba h
  obtain ⟨h2, h⟩ := He.ba h
  obtain ⟨h3, h4⟩ := He.ba h
  exact ⟨h1, h2, of_decide_eq_true h3, of_decide_eq_true h4⟩
theorem ExcP.raises {X : Cx} {C : Addr} (h : ExcP X.K C) : Raises X (.ref C) := raises_own h.sub h.ty

/-- an own class over Exception with an own init -/
def clsB (K : PySem.W.Frag) (C : Addr) : Bool := match K.lookup C with
  | some ⟨.type "type", _, .cls cd, sl⟩ => (match cd.mro, sl.toList with
    | .ref C' :: bm, [_, _, _, _, some (.builtin n), _] => decide (C' = C) && (decide (n = "Exception.__new__") && (!cd.hasDel && (cd.hasDict && refsE bm)))
    | _, _ => false)
  | _ => false
def initB (K : PySem.W.Frag) (x : Str) (fs : List Str) : Bool :=
  clsB K (He.ga K x) && (decide (PySem.W.findIn K (.ref (He.ga K x)) "__setattr__" = some (some (.builtin "object.__setattr__"))) &&
    (decide (PySem.W.subIn K (.ref (He.ga K x)) (.type "BaseException") = some true) && (decide (PySem.W.typeIn K (.ref (He.ga K x)) = some (.type "type")) &&
    (PySem.W.keepIn K (.ref (He.ga K x)) && (decide (PySem.W.findIn K (.ref (He.ga K x)) "__init__" = some (some (.ref (He.ma K (He.ga K x) "__init__")))) &&
    (decide (PySem.W.typeIn K (.ref (He.ma K (He.ga K x) "__init__")) = some (.type "function")) &&
    (fs.all (fun f => decide (PySem.W.findIn K (.ref (He.ga K x)) f = some none)) && xfB K (He.ga K x))))))))
structure InitP (K : PySem.W.Frag) (C fI : Addr) (fs : List Str) : Prop where
  o : OexE K C
  i : PySem.W.findIn K (.ref C) "__init__" = some (some (.ref fI))
  t : PySem.W.typeIn K (.ref fI) = some (.type "function")
  no : ∀ f ∈ fs, PySem.W.findIn K (.ref C) f = some none
  xf : XfC K C
theorem clsB_ok {K : PySem.W.Frag} {C : Addr} (h : clsB K C = true) : ∃ nm q N bs bm sn sub ab col dd k0 k1 k2 k3 k5, MroE bm ∧
    K.lookup C = some (excClassObj nm q C N bs bm true sn sub ab col dd k0 k1 k2 k3 k5 "Exception.__new__") := by
  unfold clsB at h
  split at h
  · rename_i dd cd sl ho
    split at h
    · rename_i C' bm k0 k1 k2 k3 n k5 hm hs
      obtain ⟨h1, h⟩ := He.ba h
      obtain ⟨h2, h⟩ := He.ba h
      obtain ⟨h3, h⟩ := He.ba h
      obtain ⟨h4, h5⟩ := He.ba h
      have e1 := of_decide_eq_true h1
      have e2 := of_decide_eq_true h2
      subst e1 e2
      obtain ⟨nm, bs, mro, ns, qn, hd, sn, sub, ab, col, del⟩ := cd
      dsimp only at hm h3 h4
      have h6 : del = false := by
        cases del with
        | false => rfl
        | true => cases h3
      subst hm h4 h6
      obtain ⟨l⟩ := sl
      simp only at hs
      subst hs
      exact ⟨nm, qn, ns, bs, bm, sn, sub, ab, col, dd, k0, k1, k2, k3, k5, mroE_of h5, ho⟩
    · cases h
  · cases h
theorem initB_ok {K : PySem.W.Frag} {x : Str} {fs : List Str} (h : initB K x fs = true) : InitP K (He.ga K x) (He.ma K (He.ga K x) "__init__") fs := by
  obtain ⟨h1, h⟩ := He.ba h
  obtain ⟨h2, h⟩ := He.ba h
  obtain ⟨h3, h⟩ := He.ba h
  obtain ⟨h4, h⟩ := He.ba h
  obtain ⟨h5, h⟩ := He.ba h
  obtain ⟨h6, h⟩ := He.ba h
  obtain ⟨h7, h⟩ := He.ba h
  obtain ⟨h8, h9⟩ := He.ba h
  exact ⟨⟨clsB_ok h1, of_decide_eq_true h2, of_decide_eq_true h3, of_decide_eq_true h4, h5⟩, of_decide_eq_true h6, of_decide_eq_true h7,
    fun f hf => of_decide_eq_true (List.all_eq_true.mp h8 f hf), xfB_ok h9⟩
end MeH

/-! Rows of (colour, word), in plain Lean. -/
namespace K19
open PySem PySem.Spec PyProof.Rows L2 MeD

abbrev Row := List (Int × Str)
def ent (p : Int × Str) : PyData := .tuple [.int p.1, .str p.2]
def rowD (r : Row) : List PyData := r.map ent
def keys (r : Row) : List Int := r.map (·.1)
def Srt (r : Row) : Prop := r.Pairwise (fun p q => p.1 < q.1) ∧ ∀ p ∈ r, p.2 ≠ ""
def atR : Row → Int → Str
  | [], _ => ""
  | (h, w) :: r, c => if h = c then w else atR r c
theorem atR_none {r : Row} {c : Int} (h : c ∉ keys r) : atR r c = "" := by
  induction r with
  | nil => rfl
  | cons p r ih =>
    obtain ⟨k, w⟩ := p
    rw [keys, List.map_cons, List.mem_cons] at h
    rw [atR, if_neg fun e => h (.inl e.symm)]
    exact ih fun e => h (.inr e)
theorem atR_mem {r : Row} (n : (keys r).Nodup) {c : Int} {w : Str} (h : (c, w) ∈ r) : atR r c = w := by
  induction r with
  | nil => simp at h
  | cons p r ih =>
    obtain ⟨k, u⟩ := p
    rw [keys, List.map_cons, List.nodup_cons] at n
    rcases List.mem_cons.mp h with e | e
    · cases e
      rw [atR, if_pos rfl]
    · rw [atR, if_neg fun z => n.1 (by rw [z]; exact List.mem_map_of_mem (f := (·.1)) e)]
      exact ih n.2 e
theorem mem_atR {r : Row} {c : Int} (h : c ∈ keys r) : (c, atR r c) ∈ r := by
  induction r with
  | nil => simp [keys] at h
  | cons p r ih =>
    obtain ⟨k, u⟩ := p
    by_cases e : k = c
    · rw [atR, if_pos e, e]
      exact List.mem_cons_self
    · rw [atR, if_neg e]
      refine List.mem_cons_of_mem _ (ih ?_)
      rw [keys, List.map_cons, List.mem_cons] at h
      rcases h with h | h
      · exact absurd h.symm e
      · exact h
theorem keys_of_ne {r : Row} {c : Int} (h : atR r c ≠ "") : c ∈ keys r := Classical.byContradiction fun z => h (atR_none z)
theorem Srt.nodup {r : Row} (h : Srt r) : (keys r).Nodup := by
  refine List.Pairwise.map _ (fun a b (hab : a.1 < b.1) => ?_) h.1
  exact fun e => by rw [e] at hab; exact absurd hab (Int.lt_irrefl _)
theorem Srt.ext {r s : Row} (h : Srt r) (g : Srt s) (e : ∀ c, atR r c = atR s c) : r = s := by
  have half : ∀ {r s : Row}, Srt r → Srt s → (∀ c, atR r c = atR s c) → ∀ p ∈ r, p ∈ s := fun {r s} h g e p hp => by
    obtain ⟨c, w⟩ := p
    have e1 := atR_mem h.nodup hp
    have e2 : atR s c ≠ "" := by rw [← e, e1]; exact h.2 _ hp
    have e3 := mem_atR (keys_of_ne e2)
    rw [← e, e1] at e3
    exact e3
  have nd : ∀ {r : Row}, Srt r → r.Nodup := fun {r} h => h.1.imp fun {a b} hab z => by rw [z] at hab; exact absurd hab (Int.lt_irrefl _)
  refine List.Perm.eq_of_pairwise (fun a b _ _ (h1 : a.1 < b.1) h2 => absurd h1 (Int.not_lt.mpr (Int.le_of_lt h2))) h.1 g.1 ?_
  exact (List.perm_ext_iff_of_nodup (nd h) (nd g)).mpr fun p => ⟨half h g e p, half g h (fun c => (e c).symm) p⟩
theorem atR_perm {r s : Row} (n : (keys r).Nodup) (p : r.Perm s) (c : Int) : atR r c = atR s c := by
  have ps : (keys r).Perm (keys s) := p.map _
  by_cases h : c ∈ keys r
  · have e := p.mem_iff.mp (mem_atR h)
    exact (atR_mem (ps.nodup n) e).symm
  · rw [atR_none h, atR_none fun z => h (ps.mem_iff.mpr z)]
/-! ### with -/
def withR (r : Row) (c : Int) (w : Str) : Row := r.filter (fun p => decide (p.1 < c)) ++ ((if w = "" then [] else [(c, w)]) ++ r.filter (fun p => decide (p.1 > c)))
theorem withR_srt {r : Row} (h : Srt r) (c : Int) (w : Str) : Srt (withR r c w) := by
  refine ⟨?_, fun p hp => ?_⟩
  · unfold withR
    rw [List.pairwise_append, List.pairwise_append]
    refine ⟨h.1.filter _, ⟨?_, h.1.filter _, ?_⟩, ?_⟩
    · by_cases e : w = ""
      · rw [if_pos e]; exact .nil
      · rw [if_neg e]; exact List.pairwise_singleton ..
    · intro a ha b hb
      by_cases e : w = ""
      · rw [if_pos e] at ha; simp at ha
      · rw [if_neg e] at ha
        simp at ha hb
        rw [ha]
        exact hb.2
    · intro a ha b hb
      simp at ha
      rcases List.mem_append.mp hb with hb | hb
      · by_cases e : w = ""
        · rw [if_pos e] at hb; simp at hb
        · rw [if_neg e] at hb
          simp at hb
          rw [hb]
          exact ha.2
      · simp at hb
        exact Int.lt_trans ha.2 hb.2
  · unfold withR at hp
    simp only [List.mem_append, List.mem_filter] at hp
    rcases hp with hp | hp | hp
    · exact h.2 p hp.1
    · by_cases e : w = ""
      · rw [if_pos e] at hp; simp at hp
      · rw [if_neg e] at hp
        simp at hp
        rw [hp]
        exact e
    · exact h.2 p hp.1
theorem atR_of {r : Row} (n : (keys r).Nodup) {c : Int} {w : Str} (h : w ≠ "" → (c, w) ∈ r) (h0 : w = "" → ∀ p ∈ r, p.1 = c → p.2 = "") : atR r c = w := by
  by_cases e : w = ""
  · by_cases k : c ∈ keys r
    · rw [e]
      exact h0 e _ (mem_atR k) rfl
    · rw [e, atR_none k]
  · exact atR_mem n (h e)
theorem atR_with {r : Row} (h : Srt r) (c : Int) (w : Str) (x : Int) : atR (withR r c w) x = if x = c then w else atR r x := by
  refine atR_of (withR_srt h c w).nodup (fun hw => ?_) (fun hw p hp ep => ?_)
  · unfold withR
    simp only [List.mem_append, List.mem_filter]
    by_cases e : x = c
    · rw [if_pos e] at hw ⊢
      rw [if_neg hw, e]
      exact .inr (.inl (by simp))
    · rw [if_neg e] at hw ⊢
      have m := mem_atR (keys_of_ne hw)
      rcases Int.lt_or_gt_of_ne e with g | g
      · exact .inl ⟨m, decide_eq_true g⟩
      · exact .inr (.inr ⟨m, decide_eq_true g⟩)
  · refine absurd ?_ ((withR_srt h c w).2 p hp)
    unfold withR at hp
    simp only [List.mem_append, List.mem_filter] at hp
    have at_ : ∀ p ∈ r, p.1 = x → x ≠ c → p.2 = "" := fun p hp ep ne => by
      rw [if_neg ne] at hw
      rw [← hw, ← ep]
      exact (atR_mem h.nodup (c := p.1) (w := p.2) hp).symm
    rcases hp with hp | hp | hp
    · have z := of_decide_eq_true hp.2
      exact at_ p hp.1 ep (by omega)
    · by_cases e : w = ""
      · rw [if_pos e] at hp; simp at hp
      · rw [if_neg e] at hp
        simp at hp
        rw [hp] at ep ⊢
        rw [if_pos ep.symm] at hw
        exact absurd hw e
    · have z := of_decide_eq_true hp.2
      exact at_ p hp.1 ep (by omega)
/-! ### put, as of a dict -/
def putR (r : Row) (c : Int) (w : Str) : Row := if c ∈ keys r then r.map (fun p => if p.1 = c then (p.1, w) else p) else r ++ [(c, w)]
theorem keys_app (r s : Row) : keys (r ++ s) = keys r ++ keys s := List.map_append ..
theorem keys_put (r : Row) (c : Int) (w : Str) : keys (putR r c w) = if c ∈ keys r then keys r else keys r ++ [c] := by
  unfold putR
  by_cases h : c ∈ keys r
  · rw [if_pos h, if_pos h]
    unfold keys
    rw [List.map_map]
    refine List.map_congr_left fun p _ => ?_
    show (if p.1 = c then (p.1, w) else p).1 = p.1
    split <;> rfl
  · rw [if_neg h, if_neg h, keys_app]
    rfl
theorem put_nodup {r : Row} (n : (keys r).Nodup) (c : Int) (w : Str) : (keys (putR r c w)).Nodup := by
  rw [keys_put]
  by_cases h : c ∈ keys r
  · rw [if_pos h]; exact n
  · rw [if_neg h, List.nodup_append]
    exact ⟨n, by simp, fun a ha b hb => by simp at hb; rw [hb]; exact fun z => h (by rw [← z]; exact ha)⟩
theorem atR_app {r s : Row} {x : Int} : atR (r ++ s) x = if x ∈ keys r then atR r x else atR s x := by
  induction r with
  | nil => rfl
  | cons p r ih =>
    obtain ⟨k, u⟩ := p
    rw [List.cons_append, atR, atR, ih]
    by_cases e : k = x
    · rw [if_pos e, if_pos e, if_pos (by rw [keys, List.map_cons, e]; exact List.mem_cons_self)]
    · rw [if_neg e, if_neg e]
      by_cases m : x ∈ keys r
      · rw [if_pos m, if_pos (by rw [keys, List.map_cons]; exact List.mem_cons_of_mem _ m)]
      · rw [if_neg m, if_neg]
        rw [keys, List.map_cons, List.mem_cons]
        rintro (z | z)
        · exact e z.symm
        · exact m z
theorem atR_map {r : Row} {c : Int} {w : Str} (h : c ∈ keys r) (x : Int) : atR (r.map (fun p => if p.1 = c then (p.1, w) else p)) x = if x = c then w else atR r x := by
  induction r with
  | nil => simp [keys] at h
  | cons p r ih =>
    obtain ⟨k, u⟩ := p
    rw [List.map_cons]
    by_cases e : k = c
    · rw [if_pos e, atR]
      by_cases f : k = x
      · rw [if_pos f, if_pos (by rw [← f, e])]
      · have g : ¬ x = c := fun z => f (by rw [z, e])
        rw [if_neg f, if_neg g, atR, if_neg f]
        by_cases m : c ∈ keys r
        · rw [ih m, if_neg g]
        · refine congrArg (atR · x) ?_
          conv => rhs; rw [← List.map_id r]
          refine List.map_congr_left fun p hp => ?_
          rw [if_neg]
          · rfl
          · exact fun z => m (by rw [← z]; exact List.mem_map_of_mem (f := (·.1)) hp)
    · rw [if_neg e, atR, atR]
      have m : c ∈ keys r := by
        rw [keys, List.map_cons, List.mem_cons] at h
        rcases h with h | h
        · exact absurd h.symm e
        · exact h
      by_cases f : k = x
      · rw [if_pos f, if_pos f, if_neg (by rw [← f]; exact e)]
      · rw [if_neg f, if_neg f, ih m]
theorem atR_put (r : Row) (c : Int) (w : Str) (x : Int) : atR (putR r c w) x = if x = c then w else atR r x := by
  unfold putR
  by_cases h : c ∈ keys r
  · rw [if_pos h]
    exact atR_map h x
  · rw [if_neg h, atR_app]
    by_cases e : x = c
    · rw [if_pos e, if_neg (by rw [e]; exact h), e, atR, if_pos rfl]
    · rw [if_neg e]
      by_cases m : x ∈ keys r
      · rw [if_pos m]
      · rw [if_neg m, atR_none m, atR, if_neg fun z => e z.symm]
        rfl
/-- the row of a dict's data -/
def dk (r : Row) : List (Key × V) := r.map fun p => (.inl p.1, .str p.2)
theorem dk_any (r : Row) (c : Int) : ((dk r).any fun kv => decide (kv.1 = (.inl c : Key))) = decide (c ∈ keys r) := by
  unfold dk keys
  rw [List.any_map, Bool.eq_iff_iff, List.any_eq_true, decide_eq_true_eq, List.mem_map]
  constructor
  · rintro ⟨p, hp, e⟩
    exact ⟨p, hp, Sum.inl.inj (of_decide_eq_true e)⟩
  · rintro ⟨p, hp, e⟩
    exact ⟨p, hp, decide_eq_true (congrArg Sum.inl e)⟩
theorem putK_dk (r : Row) (c : Int) (w : Str) : putK (dk r) (.inl c) (.str w) = dk (putR r c w) := by
  unfold putK putR
  rw [dk_any]
  by_cases h : c ∈ keys r
  · rw [if_pos (decide_eq_true h), if_pos h]
    unfold dk
    rw [List.map_map, List.map_map]
    refine List.map_congr_left fun p _ => ?_
    show (if (Sum.inl p.1 : Key) = .inl c then _ else _) = _
    by_cases e : p.1 = c
    · rw [if_pos (by rw [e])]
      show _ = (Sum.inl (if p.1 = c then (p.1, w) else p).1, V.str (if p.1 = c then (p.1, w) else p).2)
      rw [if_pos e]
    · rw [if_neg fun z => e (Sum.inl.inj z)]
      show _ = (Sum.inl (if p.1 = c then (p.1, w) else p).1, V.str (if p.1 = c then (p.1, w) else p).2)
      rw [if_neg e]
  · rw [if_neg (by simpa using h), if_neg h]
    unfold dk
    rw [List.map_append]
    rfl
theorem valV_dk {r : Row} {c : Int} (h : c ∈ keys r) : valV (dk r) (.inl c) = some (.str (atR r c)) := by
  induction r with
  | nil => simp [keys] at h
  | cons p r ih =>
    obtain ⟨k, u⟩ := p
    by_cases e : k = c
    · rw [atR, if_pos e]
      exact valV_pos (by rw [e])
    · rw [atR, if_neg e]
      refine Eq.trans (valV_neg fun z => e (Sum.inl.inj z)) (ih ?_)
      rw [keys, List.map_cons, List.mem_cons] at h
      rcases h with h | h
      · exact absurd h.symm e
      · exact h
theorem valV_dk_some (r : Row) (c : Int) : (valV (dk r) (.inl c)).isSome = decide (c ∈ keys r) := by
  rw [← valV_any, dk_any]
theorem put_new {r : Row} {c : Int} {w : Str} (h : c ∉ keys r) : putR r c w = r ++ [(c, w)] := if_neg h
theorem merge_dk : ∀ (b a : Row), (keys (a ++ b)).Nodup → mergeK (dk a) (dk b) = dk (a ++ b)
  | [], a, _ => by rw [List.append_nil]; rfl
  | (c, w) :: b, a, n => by
    have h : c ∉ keys a := fun z => by
      rw [keys_app, List.nodup_append] at n
      exact n.2.2 c z c (by rw [keys, List.map_cons]; exact List.mem_cons_self) rfl
    have e : mergeK (dk a) (dk ((c, w) :: b)) = mergeK (dk (a ++ [(c, w)])) (dk b) := by
      show mergeK (putK (dk a) (.inl c) (.str w)) (dk b) = _
      rw [putK_dk, put_new h]
    rw [e, merge_dk b (a ++ [(c, w)]) (by rw [List.append_assoc]; exact n), List.append_assoc]
    rfl
/-! ### what is sorted out of a dict -/
/-- the row out of sorted keys -/
def outR (ys : List Int) (f : Int → Str) : Row := ys.filterMap fun c => if f c = "" then none else some (c, f c)
theorem mem_outR {ys : List Int} {f : Int → Str} {p : Int × Str} : p ∈ outR ys f ↔ p.1 ∈ ys ∧ f p.1 = p.2 ∧ p.2 ≠ "" := by
  unfold outR
  rw [List.mem_filterMap]
  constructor
  · rintro ⟨c, hc, e⟩
    by_cases z : f c = ""
    · rw [if_pos z] at e; cases e
    · rw [if_neg z] at e
      cases e
      exact ⟨hc, rfl, z⟩
  · rintro ⟨h1, h2, h3⟩
    refine ⟨p.1, h1, ?_⟩
    rw [h2, if_neg h3]
theorem outR_srt {ys : List Int} (h : ys.Pairwise (· < ·)) (f : Int → Str) : Srt (outR ys f) := by
  refine ⟨?_, fun p hp => (mem_outR.mp hp).2.2⟩
  unfold outR
  refine List.Pairwise.filterMap _ (fun a b hab x hx y hy => ?_) h
  by_cases z : f a = ""
  · rw [if_pos z] at hx; cases hx
  · by_cases z2 : f b = ""
    · rw [if_pos z2] at hy; cases hy
    · rw [if_neg z] at hx
      rw [if_neg z2] at hy
      cases hx
      cases hy
      exact hab
theorem atR_out {ys : List Int} (h : ys.Pairwise (· < ·)) {f : Int → Str} (x : Int) (hx : x ∉ ys → f x = "") : atR (outR ys f) x = f x := by
  refine atR_of (outR_srt h f).nodup (fun hw => mem_outR.mpr ⟨Classical.byContradiction fun z => hw (hx z), rfl, hw⟩) (fun hw p hp ep => ?_)
  have := mem_outR.mp hp
  rw [← this.2.1, ep, hw]
theorem lt_of_le {ys : List Int} (h : ys.Pairwise (· ≤ ·)) (n : ys.Nodup) : ys.Pairwise (· < ·) := by
  refine (h.and n).imp fun {a b} hab => ?_
  have := hab.1
  have := hab.2
  omega
/-- a row that has the words of f, sorted, is what comes out -/
theorem out_eq {ys : List Int} (h : ys.Pairwise (· < ·)) {f : Int → Str} {r : Row} (hr : Srt r) (hx : ∀ x, x ∉ ys → f x = "") (he : ∀ x, atR r x = f x) : outR ys f = r :=
  (outR_srt h f).ext hr fun x => by rw [atR_out h x (hx x), he]
/-- the row in order of its colours, empty words left out -/
def sorR (r : Row) : Row := outR ((keys r).mergeSort fun a b => decide (a ≤ b)) (atR r)
theorem sor_keys {r : Row} (n : (keys r).Nodup) : ((keys r).mergeSort fun a b => decide (a ≤ b)).Pairwise (· < ·) := by
  refine lt_of_le ?_ ((List.mergeSort_perm _ _).symm.nodup n)
  refine (List.pairwise_mergeSort (le := fun a b : Int => decide (a ≤ b)) (fun a b c h1 h2 => ?_) (fun a b => ?_) (keys r)).imp fun {a b} h => of_decide_eq_true h
  · have := of_decide_eq_true h1
    have := of_decide_eq_true h2
    exact decide_eq_true (by omega)
  · rw [Bool.or_eq_true, decide_eq_true_eq, decide_eq_true_eq]
    omega
theorem sor_srt {r : Row} (n : (keys r).Nodup) : Srt (sorR r) := outR_srt (sor_keys n) _
theorem at_sor {r : Row} (n : (keys r).Nodup) (x : Int) : atR (sorR r) x = atR r x :=
  atR_out (sor_keys n) x fun h => atR_none fun z => h ((List.mergeSort_perm _ _).mem_iff.mpr z)
theorem out_sor {r : Row} (n : (keys r).Nodup) {ys : List Int} (h : ys.Pairwise (· < ·)) (h0 : ∀ x, x ∉ ys → atR r x = "") : outR ys (atR r) = sorR r :=
  out_eq h (sor_srt n) h0 (at_sor n)
theorem sor_eq {r s : Row} (n : (keys r).Nodup) (h : Srt s) (e : ∀ x, atR r x = atR s x) : sorR r = s :=
  (sor_srt n).ext h fun x => by rw [at_sor n, e]
end K19

namespace K19
open PySem PySem.Spec PyProof.Rows L2
/-! ### the text by places -/
def topS (i : Nat) : Stmt := PySem.Challenge.pw_cellsmeet_k19_words_and_stacks.main.body.getD i (.Pass ⟨0, 0, 0, 0⟩)
abbrev s_BadNumber_init : Stmt := inClass (topS 3) 0
abbrev s_is_int : Stmt := topS 6
abbrev s_is_row : Stmt := topS 7
abbrev s_check_number : Stmt := topS 8
abbrev s_is_word : Stmt := topS 11
abbrev s_is_stacks : Stmt := topS 12
abbrev s_check_stacks : Stmt := topS 13
abbrev s__words_check_letter : Stmt := topS 14
abbrev s__words_at : Stmt := topS 15
abbrev s__words_with : Stmt := topS 16
abbrev s__words_sorted : Stmt := topS 17
abbrev s__words_agree : Stmt := topS 18
abbrev s_stacks_from : Stmt := topS 19
abbrev s_word_at : Stmt := topS 20
abbrev s_put : Stmt := topS 21
abbrev s_behind : Stmt := topS 22
abbrev s_taken : Stmt := topS 23
abbrev s_agree : Stmt := topS 24
abbrev s_longer : Stmt := topS 25
abbrev s_rest : Stmt := topS 26
abbrev s_after : Stmt := topS 27
abbrev s_letters : Stmt := topS 28
abbrev s__law_draws : Stmt := topS 30
abbrev s__law_take : Stmt := topS 31
abbrev s__law_pick : Stmt := topS 32
abbrev s__law_letters : Stmt := topS 33
abbrev s__law_first : Stmt := topS 34
abbrev s__law_turned : Stmt := topS 35
abbrev s__law_second : Stmt := topS 36
abbrev s__law_at : Stmt := topS 37
abbrev s__law_with : Stmt := topS 38
abbrev s__law_all : Stmt := topS 39
abbrev s__law_agree : Stmt := topS 40
abbrev s__law_joined : Stmt := topS 41
abbrev s__law_call : Stmt := topS 42
abbrev s__law_asked : Stmt := topS 43
abbrev s__law_is : Stmt := topS 44
abbrev s__law_one : Stmt := topS 45
abbrev s__law_two : Stmt := topS 46
abbrev s__law_from : Stmt := topS 47
abbrev s__law_bad : Stmt := topS 48
abbrev s__law_refused : Stmt := topS 49
abbrev s__law_words : Stmt := topS 50
abbrev s_law : Stmt := topS 51
/-! ### the head: facts by names -/
def d_BadNumber_init : He.DefD := ⟨("BadNumber", some "__init__"), "__init__", "BadNumber.__init__", defArgs s_BadNumber_init, defBody s_BadNumber_init, defScope s_BadNumber_init, [], []⟩
def d_is_int : He.DefD := ⟨("is_int", none), "is_int", "is_int", defArgs s_is_int, defBody s_is_int, defScope s_is_int, [], []⟩
def d_is_row : He.DefD := ⟨("is_row", none), "is_row", "is_row", defArgs s_is_row, defBody s_is_row, defScope s_is_row, [], []⟩
def d_check_number : He.DefD := ⟨("check_number", none), "check_number", "check_number", defArgs s_check_number, defBody s_check_number, defScope s_check_number, [], []⟩
def d_is_word : He.DefD := ⟨("is_word", none), "is_word", "is_word", defArgs s_is_word, defBody s_is_word, defScope s_is_word, [], []⟩
def d_is_stacks : He.DefD := ⟨("is_stacks", none), "is_stacks", "is_stacks", defArgs s_is_stacks, defBody s_is_stacks, defScope s_is_stacks, [], []⟩
def d_check_stacks : He.DefD := ⟨("check_stacks", none), "check_stacks", "check_stacks", defArgs s_check_stacks, defBody s_check_stacks, defScope s_check_stacks, [], []⟩
def d__words_check_letter : He.DefD := ⟨("_words_check_letter", none), "_words_check_letter", "_words_check_letter", defArgs s__words_check_letter, defBody s__words_check_letter, defScope s__words_check_letter, [], []⟩
def d__words_at : He.DefD := ⟨("_words_at", none), "_words_at", "_words_at", defArgs s__words_at, defBody s__words_at, defScope s__words_at, [], []⟩
def d__words_with : He.DefD := ⟨("_words_with", none), "_words_with", "_words_with", defArgs s__words_with, defBody s__words_with, defScope s__words_with, [], []⟩
def d__words_sorted : He.DefD := ⟨("_words_sorted", none), "_words_sorted", "_words_sorted", defArgs s__words_sorted, defBody s__words_sorted, defScope s__words_sorted, [], []⟩
def d__words_agree : He.DefD := ⟨("_words_agree", none), "_words_agree", "_words_agree", defArgs s__words_agree, defBody s__words_agree, defScope s__words_agree, [], []⟩
def d_stacks_from : He.DefD := ⟨("stacks_from", none), "stacks_from", "stacks_from", defArgs s_stacks_from, defBody s_stacks_from, defScope s_stacks_from, [], []⟩
def d_word_at : He.DefD := ⟨("word_at", none), "word_at", "word_at", defArgs s_word_at, defBody s_word_at, defScope s_word_at, [], []⟩
def d_put : He.DefD := ⟨("put", none), "put", "put", defArgs s_put, defBody s_put, defScope s_put, [], []⟩
def d_behind : He.DefD := ⟨("behind", none), "behind", "behind", defArgs s_behind, defBody s_behind, defScope s_behind, [], []⟩
def d_taken : He.DefD := ⟨("taken", none), "taken", "taken", defArgs s_taken, defBody s_taken, defScope s_taken, [], []⟩
def d_agree : He.DefD := ⟨("agree", none), "agree", "agree", defArgs s_agree, defBody s_agree, defScope s_agree, [], []⟩
def d_longer : He.DefD := ⟨("longer", none), "longer", "longer", defArgs s_longer, defBody s_longer, defScope s_longer, [], []⟩
def d_rest : He.DefD := ⟨("rest", none), "rest", "rest", defArgs s_rest, defBody s_rest, defScope s_rest, [], []⟩
def d_after : He.DefD := ⟨("after", none), "after", "after", defArgs s_after, defBody s_after, defScope s_after, [], []⟩
def d_letters : He.DefD := ⟨("letters", none), "letters", "letters", defArgs s_letters, defBody s_letters, defScope s_letters, [], []⟩
def d__law_draws : He.DefD := ⟨("_law_draws", none), "_law_draws", "_law_draws", defArgs s__law_draws, defBody s__law_draws, defScope s__law_draws, [], []⟩
def d__law_take : He.DefD := ⟨("_law_take", none), "_law_take", "_law_take", defArgs s__law_take, defBody s__law_take, defScope s__law_take, [], []⟩
def d__law_pick : He.DefD := ⟨("_law_pick", none), "_law_pick", "_law_pick", defArgs s__law_pick, defBody s__law_pick, defScope s__law_pick, [], []⟩
def d__law_letters : He.DefD := ⟨("_law_letters", none), "_law_letters", "_law_letters", defArgs s__law_letters, defBody s__law_letters, defScope s__law_letters, [], []⟩
def d__law_first : He.DefD := ⟨("_law_first", none), "_law_first", "_law_first", defArgs s__law_first, defBody s__law_first, defScope s__law_first, [], []⟩
def d__law_turned : He.DefD := ⟨("_law_turned", none), "_law_turned", "_law_turned", defArgs s__law_turned, defBody s__law_turned, defScope s__law_turned, [], []⟩
def d__law_second : He.DefD := ⟨("_law_second", none), "_law_second", "_law_second", defArgs s__law_second, defBody s__law_second, defScope s__law_second, [], []⟩
def d__law_at : He.DefD := ⟨("_law_at", none), "_law_at", "_law_at", defArgs s__law_at, defBody s__law_at, defScope s__law_at, [], []⟩
def d__law_with : He.DefD := ⟨("_law_with", none), "_law_with", "_law_with", defArgs s__law_with, defBody s__law_with, defScope s__law_with, [], []⟩
def d__law_all : He.DefD := ⟨("_law_all", none), "_law_all", "_law_all", defArgs s__law_all, defBody s__law_all, defScope s__law_all, [], []⟩
def d__law_agree : He.DefD := ⟨("_law_agree", none), "_law_agree", "_law_agree", defArgs s__law_agree, defBody s__law_agree, defScope s__law_agree, [], []⟩
def d__law_joined : He.DefD := ⟨("_law_joined", none), "_law_joined", "_law_joined", defArgs s__law_joined, defBody s__law_joined, defScope s__law_joined, [], []⟩
def d__law_call : He.DefD := ⟨("_law_call", none), "_law_call", "_law_call", defArgs s__law_call, defBody s__law_call, defScope s__law_call, [], []⟩
def d__law_asked : He.DefD := ⟨("_law_asked", none), "_law_asked", "_law_asked", defArgs s__law_asked, defBody s__law_asked, defScope s__law_asked, [], []⟩
def d__law_is : He.DefD := ⟨("_law_is", none), "_law_is", "_law_is", defArgs s__law_is, defBody s__law_is, defScope s__law_is, [], []⟩
def d__law_one : He.DefD := ⟨("_law_one", none), "_law_one", "_law_one", defArgs s__law_one, defBody s__law_one, defScope s__law_one, [], []⟩
def d__law_two : He.DefD := ⟨("_law_two", none), "_law_two", "_law_two", defArgs s__law_two, defBody s__law_two, defScope s__law_two, [], []⟩
def d__law_from : He.DefD := ⟨("_law_from", none), "_law_from", "_law_from", defArgs s__law_from, defBody s__law_from, defScope s__law_from, [], []⟩
def d__law_bad : He.DefD := ⟨("_law_bad", none), "_law_bad", "_law_bad", defArgs s__law_bad, defBody s__law_bad, defScope s__law_bad, [], []⟩
def d__law_refused : He.DefD := ⟨("_law_refused", none), "_law_refused", "_law_refused", defArgs s__law_refused, defBody s__law_refused, defScope s__law_refused, [], []⟩
def d__law_words : He.DefD := ⟨("_law_words", none), "_law_words", "_law_words", defArgs s__law_words, defBody s__law_words, defScope s__law_words, [], []⟩
def d_law : He.DefD := ⟨("law", none), "law", "law", defArgs s_law, defBody s_law, defScope s_law, [], []⟩
def fn : List He.DefD := [d_BadNumber_init, d_is_int, d_is_row, d_check_number, d_is_word, d_is_stacks, d_check_stacks, d__words_check_letter, d__words_at, d__words_with, d__words_sorted, d__words_agree, d_stacks_from, d_word_at, d_put, d_behind, d_taken, d_agree, d_longer, d_rest, d_after, d_letters, d__law_draws, d__law_take, d__law_pick, d__law_letters, d__law_first, d__law_turned, d__law_second, d__law_at, d__law_with, d__law_all, d__law_agree, d__law_joined, d__law_call, d__law_asked, d__law_is, d__law_one, d__law_two, d__law_from, d__law_bad, d__law_refused, d__law_words, d_law]
def fa : List He.Fa := [.glo "is_int", .glo "is_row", .glo "check_number", .glo "is_word", .glo "is_stacks", .glo "check_stacks", .glo "_words_check_letter", .glo "_words_at", .glo "_words_with", .glo "_words_sorted", .glo "_words_agree", .glo "stacks_from", .glo "word_at", .glo "put", .glo "behind", .glo "taken", .glo "agree", .glo "longer", .glo "rest", .glo "after", .glo "letters", .glo "_law_draws", .glo "_law_take", .glo "_law_pick", .glo "_law_letters", .glo "_law_first", .glo "_law_turned", .glo "_law_second", .glo "_law_at", .glo "_law_with", .glo "_law_all", .glo "_law_agree", .glo "_law_joined", .glo "_law_call", .glo "_law_asked", .glo "_law_is", .glo "_law_one", .glo "_law_two", .glo "_law_from", .glo "_law_bad", .glo "_law_refused", .glo "_law_words", .glo "law", .glo "CellsError", .glo "BadStacks", .glo "BadNumber", .glo "Unlike", .glo "LETTERS", .free "abs", .free "all", .free "bool", .free "dict", .free "int", .free "isinstance", .free "len", .free "list", .free "min", .free "range", .free "sorted", .free "str", .free "sum", .free "tuple", .exm "CellsError" "BadStacks" false, .exm "CellsError" "Unlike" false, .exm "CellsError" "BadNumber" false, .exm "BadStacks" "BadStacks" true, .exm "BadStacks" "Unlike" false, .exm "BadStacks" "BadNumber" false, .exm "BadNumber" "BadStacks" false, .exm "BadNumber" "Unlike" false, .exm "BadNumber" "BadNumber" true, .exm "Unlike" "BadStacks" false, .exm "Unlike" "Unlike" true, .exm "Unlike" "BadNumber" false]
def exB (K : PySem.W.Frag) : Bool := MeH.excB K "CellsError" && (MeH.excB K "BadStacks" && (MeH.initB K "BadNumber" ["name"] && (MeH.excB K "Unlike" && (He.tupB K "LETTERS" [.str "1", .str "2"]))))
def names0 : List PySem.Str := ["CellsError", "BadStacks", "BadNumber", "Unlike", "is_int", "is_row", "check_number", "LETTERS", "is_word", "is_stacks", "check_stacks", "_words_check_letter", "_words_at", "_words_with", "_words_sorted", "_words_agree", "stacks_from", "word_at", "put", "behind", "taken", "agree", "longer", "rest", "after", "letters", "_law_draws", "_law_take", "_law_pick", "_law_letters"]
def names1 : List PySem.Str := ["_law_first", "_law_turned", "_law_second", "_law_at", "_law_with", "_law_all", "_law_agree", "_law_joined", "_law_call", "_law_asked", "_law_is", "_law_one", "_law_two", "_law_from", "_law_bad", "_law_refused", "_law_words"]
def names : List PySem.Str := names0 ++ names1
abbrev R : PySem.W.OpenRow := PySem.W.OpenLaw.row PySem.Challenge.rw_cellsmeet_k19_words_and_stacks
abbrev lawAt : Nat := 51
abbrev steps : Nat := 4000
/-- what the defs lean on -/
structure Txt (K : PySem.W.Frag) (mg : Str → Option Value) : Prop where
  f_abs : mg "abs" = none
  f_all : mg "all" = none
  f_bool : mg "bool" = none
  f_dict : mg "dict" = none
  f_int : mg "int" = none
  f_isinstance : mg "isinstance" = none
  f_len : mg "len" = none
  f_list : mg "list" = none
  f_min : mg "min" = none
  f_range : mg "range" = none
  f_sorted : mg "sorted" = none
  f_str : mg "str" = none
  f_sum : mg "sum" = none
  f_tuple : mg "tuple" = none
  d_BadNumber_init : ∃ fd, FunD K "__init__" "BadNumber.__init__" (defArgs s_BadNumber_init) (defBody s_BadNumber_init) (defScope s_BadNumber_init) [] [] (He.ma K (He.ga K "BadNumber") "__init__") fd
  g_is_int : mg "is_int" = some (.ref (He.ga K "is_int"))
  d_is_int : ∃ fd, FunD K "is_int" "is_int" (defArgs s_is_int) (defBody s_is_int) (defScope s_is_int) [] [] (He.ga K "is_int") fd
  g_is_row : mg "is_row" = some (.ref (He.ga K "is_row"))
  d_is_row : ∃ fd, FunD K "is_row" "is_row" (defArgs s_is_row) (defBody s_is_row) (defScope s_is_row) [] [] (He.ga K "is_row") fd
  g_check_number : mg "check_number" = some (.ref (He.ga K "check_number"))
  d_check_number : ∃ fd, FunD K "check_number" "check_number" (defArgs s_check_number) (defBody s_check_number) (defScope s_check_number) [] [] (He.ga K "check_number") fd
  g_is_word : mg "is_word" = some (.ref (He.ga K "is_word"))
  d_is_word : ∃ fd, FunD K "is_word" "is_word" (defArgs s_is_word) (defBody s_is_word) (defScope s_is_word) [] [] (He.ga K "is_word") fd
  g_is_stacks : mg "is_stacks" = some (.ref (He.ga K "is_stacks"))
  d_is_stacks : ∃ fd, FunD K "is_stacks" "is_stacks" (defArgs s_is_stacks) (defBody s_is_stacks) (defScope s_is_stacks) [] [] (He.ga K "is_stacks") fd
  g_check_stacks : mg "check_stacks" = some (.ref (He.ga K "check_stacks"))
  d_check_stacks : ∃ fd, FunD K "check_stacks" "check_stacks" (defArgs s_check_stacks) (defBody s_check_stacks) (defScope s_check_stacks) [] [] (He.ga K "check_stacks") fd
  g__words_check_letter : mg "_words_check_letter" = some (.ref (He.ga K "_words_check_letter"))
  d__words_check_letter : ∃ fd, FunD K "_words_check_letter" "_words_check_letter" (defArgs s__words_check_letter) (defBody s__words_check_letter) (defScope s__words_check_letter) [] [] (He.ga K "_words_check_letter") fd
  g__words_at : mg "_words_at" = some (.ref (He.ga K "_words_at"))
  d__words_at : ∃ fd, FunD K "_words_at" "_words_at" (defArgs s__words_at) (defBody s__words_at) (defScope s__words_at) [] [] (He.ga K "_words_at") fd
  g__words_with : mg "_words_with" = some (.ref (He.ga K "_words_with"))
  d__words_with : ∃ fd, FunD K "_words_with" "_words_with" (defArgs s__words_with) (defBody s__words_with) (defScope s__words_with) [] [] (He.ga K "_words_with") fd
  g__words_sorted : mg "_words_sorted" = some (.ref (He.ga K "_words_sorted"))
  d__words_sorted : ∃ fd, FunD K "_words_sorted" "_words_sorted" (defArgs s__words_sorted) (defBody s__words_sorted) (defScope s__words_sorted) [] [] (He.ga K "_words_sorted") fd
  g__words_agree : mg "_words_agree" = some (.ref (He.ga K "_words_agree"))
  d__words_agree : ∃ fd, FunD K "_words_agree" "_words_agree" (defArgs s__words_agree) (defBody s__words_agree) (defScope s__words_agree) [] [] (He.ga K "_words_agree") fd
  g_stacks_from : mg "stacks_from" = some (.ref (He.ga K "stacks_from"))
  d_stacks_from : ∃ fd, FunD K "stacks_from" "stacks_from" (defArgs s_stacks_from) (defBody s_stacks_from) (defScope s_stacks_from) [] [] (He.ga K "stacks_from") fd
  g_word_at : mg "word_at" = some (.ref (He.ga K "word_at"))
  d_word_at : ∃ fd, FunD K "word_at" "word_at" (defArgs s_word_at) (defBody s_word_at) (defScope s_word_at) [] [] (He.ga K "word_at") fd
  g_put : mg "put" = some (.ref (He.ga K "put"))
  d_put : ∃ fd, FunD K "put" "put" (defArgs s_put) (defBody s_put) (defScope s_put) [] [] (He.ga K "put") fd
  g_behind : mg "behind" = some (.ref (He.ga K "behind"))
  d_behind : ∃ fd, FunD K "behind" "behind" (defArgs s_behind) (defBody s_behind) (defScope s_behind) [] [] (He.ga K "behind") fd
  g_taken : mg "taken" = some (.ref (He.ga K "taken"))
  d_taken : ∃ fd, FunD K "taken" "taken" (defArgs s_taken) (defBody s_taken) (defScope s_taken) [] [] (He.ga K "taken") fd
  g_agree : mg "agree" = some (.ref (He.ga K "agree"))
  d_agree : ∃ fd, FunD K "agree" "agree" (defArgs s_agree) (defBody s_agree) (defScope s_agree) [] [] (He.ga K "agree") fd
  g_longer : mg "longer" = some (.ref (He.ga K "longer"))
  d_longer : ∃ fd, FunD K "longer" "longer" (defArgs s_longer) (defBody s_longer) (defScope s_longer) [] [] (He.ga K "longer") fd
  g_rest : mg "rest" = some (.ref (He.ga K "rest"))
  d_rest : ∃ fd, FunD K "rest" "rest" (defArgs s_rest) (defBody s_rest) (defScope s_rest) [] [] (He.ga K "rest") fd
  g_after : mg "after" = some (.ref (He.ga K "after"))
  d_after : ∃ fd, FunD K "after" "after" (defArgs s_after) (defBody s_after) (defScope s_after) [] [] (He.ga K "after") fd
  g_letters : mg "letters" = some (.ref (He.ga K "letters"))
  d_letters : ∃ fd, FunD K "letters" "letters" (defArgs s_letters) (defBody s_letters) (defScope s_letters) [] [] (He.ga K "letters") fd
  g__law_draws : mg "_law_draws" = some (.ref (He.ga K "_law_draws"))
  d__law_draws : ∃ fd, FunD K "_law_draws" "_law_draws" (defArgs s__law_draws) (defBody s__law_draws) (defScope s__law_draws) [] [] (He.ga K "_law_draws") fd
  g__law_take : mg "_law_take" = some (.ref (He.ga K "_law_take"))
  d__law_take : ∃ fd, FunD K "_law_take" "_law_take" (defArgs s__law_take) (defBody s__law_take) (defScope s__law_take) [] [] (He.ga K "_law_take") fd
  g__law_pick : mg "_law_pick" = some (.ref (He.ga K "_law_pick"))
  d__law_pick : ∃ fd, FunD K "_law_pick" "_law_pick" (defArgs s__law_pick) (defBody s__law_pick) (defScope s__law_pick) [] [] (He.ga K "_law_pick") fd
  g__law_letters : mg "_law_letters" = some (.ref (He.ga K "_law_letters"))
  d__law_letters : ∃ fd, FunD K "_law_letters" "_law_letters" (defArgs s__law_letters) (defBody s__law_letters) (defScope s__law_letters) [] [] (He.ga K "_law_letters") fd
  g__law_first : mg "_law_first" = some (.ref (He.ga K "_law_first"))
  d__law_first : ∃ fd, FunD K "_law_first" "_law_first" (defArgs s__law_first) (defBody s__law_first) (defScope s__law_first) [] [] (He.ga K "_law_first") fd
  g__law_turned : mg "_law_turned" = some (.ref (He.ga K "_law_turned"))
  d__law_turned : ∃ fd, FunD K "_law_turned" "_law_turned" (defArgs s__law_turned) (defBody s__law_turned) (defScope s__law_turned) [] [] (He.ga K "_law_turned") fd
  g__law_second : mg "_law_second" = some (.ref (He.ga K "_law_second"))
  d__law_second : ∃ fd, FunD K "_law_second" "_law_second" (defArgs s__law_second) (defBody s__law_second) (defScope s__law_second) [] [] (He.ga K "_law_second") fd
  g__law_at : mg "_law_at" = some (.ref (He.ga K "_law_at"))
  d__law_at : ∃ fd, FunD K "_law_at" "_law_at" (defArgs s__law_at) (defBody s__law_at) (defScope s__law_at) [] [] (He.ga K "_law_at") fd
  g__law_with : mg "_law_with" = some (.ref (He.ga K "_law_with"))
  d__law_with : ∃ fd, FunD K "_law_with" "_law_with" (defArgs s__law_with) (defBody s__law_with) (defScope s__law_with) [] [] (He.ga K "_law_with") fd
  g__law_all : mg "_law_all" = some (.ref (He.ga K "_law_all"))
  d__law_all : ∃ fd, FunD K "_law_all" "_law_all" (defArgs s__law_all) (defBody s__law_all) (defScope s__law_all) [] [] (He.ga K "_law_all") fd
  g__law_agree : mg "_law_agree" = some (.ref (He.ga K "_law_agree"))
  d__law_agree : ∃ fd, FunD K "_law_agree" "_law_agree" (defArgs s__law_agree) (defBody s__law_agree) (defScope s__law_agree) [] [] (He.ga K "_law_agree") fd
  g__law_joined : mg "_law_joined" = some (.ref (He.ga K "_law_joined"))
  d__law_joined : ∃ fd, FunD K "_law_joined" "_law_joined" (defArgs s__law_joined) (defBody s__law_joined) (defScope s__law_joined) [] [] (He.ga K "_law_joined") fd
  g__law_call : mg "_law_call" = some (.ref (He.ga K "_law_call"))
  d__law_call : ∃ fd, FunD K "_law_call" "_law_call" (defArgs s__law_call) (defBody s__law_call) (defScope s__law_call) [] [] (He.ga K "_law_call") fd
  g__law_asked : mg "_law_asked" = some (.ref (He.ga K "_law_asked"))
  d__law_asked : ∃ fd, FunD K "_law_asked" "_law_asked" (defArgs s__law_asked) (defBody s__law_asked) (defScope s__law_asked) [] [] (He.ga K "_law_asked") fd
  g__law_is : mg "_law_is" = some (.ref (He.ga K "_law_is"))
  d__law_is : ∃ fd, FunD K "_law_is" "_law_is" (defArgs s__law_is) (defBody s__law_is) (defScope s__law_is) [] [] (He.ga K "_law_is") fd
  g__law_one : mg "_law_one" = some (.ref (He.ga K "_law_one"))
  d__law_one : ∃ fd, FunD K "_law_one" "_law_one" (defArgs s__law_one) (defBody s__law_one) (defScope s__law_one) [] [] (He.ga K "_law_one") fd
  g__law_two : mg "_law_two" = some (.ref (He.ga K "_law_two"))
  d__law_two : ∃ fd, FunD K "_law_two" "_law_two" (defArgs s__law_two) (defBody s__law_two) (defScope s__law_two) [] [] (He.ga K "_law_two") fd
  g__law_from : mg "_law_from" = some (.ref (He.ga K "_law_from"))
  d__law_from : ∃ fd, FunD K "_law_from" "_law_from" (defArgs s__law_from) (defBody s__law_from) (defScope s__law_from) [] [] (He.ga K "_law_from") fd
  g__law_bad : mg "_law_bad" = some (.ref (He.ga K "_law_bad"))
  d__law_bad : ∃ fd, FunD K "_law_bad" "_law_bad" (defArgs s__law_bad) (defBody s__law_bad) (defScope s__law_bad) [] [] (He.ga K "_law_bad") fd
  g__law_refused : mg "_law_refused" = some (.ref (He.ga K "_law_refused"))
  d__law_refused : ∃ fd, FunD K "_law_refused" "_law_refused" (defArgs s__law_refused) (defBody s__law_refused) (defScope s__law_refused) [] [] (He.ga K "_law_refused") fd
  g__law_words : mg "_law_words" = some (.ref (He.ga K "_law_words"))
  d__law_words : ∃ fd, FunD K "_law_words" "_law_words" (defArgs s__law_words) (defBody s__law_words) (defScope s__law_words) [] [] (He.ga K "_law_words") fd
  g_law : mg "law" = some (.ref (He.ga K "law"))
  d_law : ∃ fd, FunD K "law" "law" (defArgs s_law) (defBody s_law) (defScope s_law) [] [] (He.ga K "law") fd
  g_CellsError : mg "CellsError" = some (.ref (He.ga K "CellsError"))
  x_CellsError : MeH.ExcP K (He.ga K "CellsError")
  g_BadStacks : mg "BadStacks" = some (.ref (He.ga K "BadStacks"))
  x_BadStacks : MeH.ExcP K (He.ga K "BadStacks")
  g_BadNumber : mg "BadNumber" = some (.ref (He.ga K "BadNumber"))
  x_BadNumber : MeH.InitP K (He.ga K "BadNumber") (He.ma K (He.ga K "BadNumber") "__init__") ["name"]
  g_Unlike : mg "Unlike" = some (.ref (He.ga K "Unlike"))
  x_Unlike : MeH.ExcP K (He.ga K "Unlike")
  g_LETTERS : mg "LETTERS" = some (.ref (He.ga K "LETTERS"))
  c_LETTERS : ∀ H : Hp, SqT K H (He.ga K "LETTERS") [V.str "1", V.str "2"]
  m_CellsError_BadStacks : PySem.W.exmOne K (.ref (He.ga K "CellsError")) (.ref (He.ga K "BadStacks")) = some false
  m_CellsError_Unlike : PySem.W.exmOne K (.ref (He.ga K "CellsError")) (.ref (He.ga K "Unlike")) = some false
  m_CellsError_BadNumber : PySem.W.exmOne K (.ref (He.ga K "CellsError")) (.ref (He.ga K "BadNumber")) = some false
  m_BadStacks_BadStacks : PySem.W.exmOne K (.ref (He.ga K "BadStacks")) (.ref (He.ga K "BadStacks")) = some true
  m_BadStacks_Unlike : PySem.W.exmOne K (.ref (He.ga K "BadStacks")) (.ref (He.ga K "Unlike")) = some false
  m_BadStacks_BadNumber : PySem.W.exmOne K (.ref (He.ga K "BadStacks")) (.ref (He.ga K "BadNumber")) = some false
  m_BadNumber_BadStacks : PySem.W.exmOne K (.ref (He.ga K "BadNumber")) (.ref (He.ga K "BadStacks")) = some false
  m_BadNumber_Unlike : PySem.W.exmOne K (.ref (He.ga K "BadNumber")) (.ref (He.ga K "Unlike")) = some false
  m_BadNumber_BadNumber : PySem.W.exmOne K (.ref (He.ga K "BadNumber")) (.ref (He.ga K "BadNumber")) = some true
  m_Unlike_BadStacks : PySem.W.exmOne K (.ref (He.ga K "Unlike")) (.ref (He.ga K "BadStacks")) = some false
  m_Unlike_Unlike : PySem.W.exmOne K (.ref (He.ga K "Unlike")) (.ref (He.ga K "Unlike")) = some true
  m_Unlike_BadNumber : PySem.W.exmOne K (.ref (He.ga K "Unlike")) (.ref (He.ga K "BadNumber")) = some false
theorem txt_of {K : PySem.W.Frag} {mg : Str → Option Value} {h : Heap} (X : K.In h) (G : h.Ns mainGlobals mg) (c : MeH.SaysM fa fn exB K) : Txt K mg := by
  have e := c.more
  unfold exB at e
  obtain ⟨e0, e⟩ := He.ba e
  obtain ⟨e1, e⟩ := He.ba e
  obtain ⟨e2, e⟩ := He.ba e
  obtain ⟨e3, e⟩ := He.ba e
  constructor
  · exact He.free_ok X G (c.d.fact 48 (f := .free "abs") rfl)
  · exact He.free_ok X G (c.d.fact 49 (f := .free "all") rfl)
  · exact He.free_ok X G (c.d.fact 50 (f := .free "bool") rfl)
  · exact He.free_ok X G (c.d.fact 51 (f := .free "dict") rfl)
  · exact He.free_ok X G (c.d.fact 52 (f := .free "int") rfl)
  · exact He.free_ok X G (c.d.fact 53 (f := .free "isinstance") rfl)
  · exact He.free_ok X G (c.d.fact 54 (f := .free "len") rfl)
  · exact He.free_ok X G (c.d.fact 55 (f := .free "list") rfl)
  · exact He.free_ok X G (c.d.fact 56 (f := .free "min") rfl)
  · exact He.free_ok X G (c.d.fact 57 (f := .free "range") rfl)
  · exact He.free_ok X G (c.d.fact 58 (f := .free "sorted") rfl)
  · exact He.free_ok X G (c.d.fact 59 (f := .free "str") rfl)
  · exact He.free_ok X G (c.d.fact 60 (f := .free "sum") rfl)
  · exact He.free_ok X G (c.d.fact 61 (f := .free "tuple") rfl)
  · exact c.d.def_ 0 (d := d_BadNumber_init) rfl
  · exact He.glo_ok X G (c.d.fact 0 (f := .glo "is_int") rfl)
  · exact c.d.def_ 1 (d := d_is_int) rfl
  · exact He.glo_ok X G (c.d.fact 1 (f := .glo "is_row") rfl)
  · exact c.d.def_ 2 (d := d_is_row) rfl
  · exact He.glo_ok X G (c.d.fact 2 (f := .glo "check_number") rfl)
  · exact c.d.def_ 3 (d := d_check_number) rfl
  · exact He.glo_ok X G (c.d.fact 3 (f := .glo "is_word") rfl)
  · exact c.d.def_ 4 (d := d_is_word) rfl
  · exact He.glo_ok X G (c.d.fact 4 (f := .glo "is_stacks") rfl)
  · exact c.d.def_ 5 (d := d_is_stacks) rfl
  · exact He.glo_ok X G (c.d.fact 5 (f := .glo "check_stacks") rfl)
  · exact c.d.def_ 6 (d := d_check_stacks) rfl
  · exact He.glo_ok X G (c.d.fact 6 (f := .glo "_words_check_letter") rfl)
  · exact c.d.def_ 7 (d := d__words_check_letter) rfl
  · exact He.glo_ok X G (c.d.fact 7 (f := .glo "_words_at") rfl)
  · exact c.d.def_ 8 (d := d__words_at) rfl
  · exact He.glo_ok X G (c.d.fact 8 (f := .glo "_words_with") rfl)
  · exact c.d.def_ 9 (d := d__words_with) rfl
  · exact He.glo_ok X G (c.d.fact 9 (f := .glo "_words_sorted") rfl)
  · exact c.d.def_ 10 (d := d__words_sorted) rfl
  · exact He.glo_ok X G (c.d.fact 10 (f := .glo "_words_agree") rfl)
  · exact c.d.def_ 11 (d := d__words_agree) rfl
  · exact He.glo_ok X G (c.d.fact 11 (f := .glo "stacks_from") rfl)
  · exact c.d.def_ 12 (d := d_stacks_from) rfl
  · exact He.glo_ok X G (c.d.fact 12 (f := .glo "word_at") rfl)
  · exact c.d.def_ 13 (d := d_word_at) rfl
  · exact He.glo_ok X G (c.d.fact 13 (f := .glo "put") rfl)
  · exact c.d.def_ 14 (d := d_put) rfl
  · exact He.glo_ok X G (c.d.fact 14 (f := .glo "behind") rfl)
  · exact c.d.def_ 15 (d := d_behind) rfl
  · exact He.glo_ok X G (c.d.fact 15 (f := .glo "taken") rfl)
  · exact c.d.def_ 16 (d := d_taken) rfl
  · exact He.glo_ok X G (c.d.fact 16 (f := .glo "agree") rfl)
  · exact c.d.def_ 17 (d := d_agree) rfl
  · exact He.glo_ok X G (c.d.fact 17 (f := .glo "longer") rfl)
  · exact c.d.def_ 18 (d := d_longer) rfl
  · exact He.glo_ok X G (c.d.fact 18 (f := .glo "rest") rfl)
  · exact c.d.def_ 19 (d := d_rest) rfl
  · exact He.glo_ok X G (c.d.fact 19 (f := .glo "after") rfl)
  · exact c.d.def_ 20 (d := d_after) rfl
  · exact He.glo_ok X G (c.d.fact 20 (f := .glo "letters") rfl)
  · exact c.d.def_ 21 (d := d_letters) rfl
  · exact He.glo_ok X G (c.d.fact 21 (f := .glo "_law_draws") rfl)
  · exact c.d.def_ 22 (d := d__law_draws) rfl
  · exact He.glo_ok X G (c.d.fact 22 (f := .glo "_law_take") rfl)
  · exact c.d.def_ 23 (d := d__law_take) rfl
  · exact He.glo_ok X G (c.d.fact 23 (f := .glo "_law_pick") rfl)
  · exact c.d.def_ 24 (d := d__law_pick) rfl
  · exact He.glo_ok X G (c.d.fact 24 (f := .glo "_law_letters") rfl)
  · exact c.d.def_ 25 (d := d__law_letters) rfl
  · exact He.glo_ok X G (c.d.fact 25 (f := .glo "_law_first") rfl)
  · exact c.d.def_ 26 (d := d__law_first) rfl
  · exact He.glo_ok X G (c.d.fact 26 (f := .glo "_law_turned") rfl)
  · exact c.d.def_ 27 (d := d__law_turned) rfl
  · exact He.glo_ok X G (c.d.fact 27 (f := .glo "_law_second") rfl)
  · exact c.d.def_ 28 (d := d__law_second) rfl
  · exact He.glo_ok X G (c.d.fact 28 (f := .glo "_law_at") rfl)
  · exact c.d.def_ 29 (d := d__law_at) rfl
  · exact He.glo_ok X G (c.d.fact 29 (f := .glo "_law_with") rfl)
  · exact c.d.def_ 30 (d := d__law_with) rfl
  · exact He.glo_ok X G (c.d.fact 30 (f := .glo "_law_all") rfl)
  · exact c.d.def_ 31 (d := d__law_all) rfl
  · exact He.glo_ok X G (c.d.fact 31 (f := .glo "_law_agree") rfl)
  · exact c.d.def_ 32 (d := d__law_agree) rfl
  · exact He.glo_ok X G (c.d.fact 32 (f := .glo "_law_joined") rfl)
  · exact c.d.def_ 33 (d := d__law_joined) rfl
  · exact He.glo_ok X G (c.d.fact 33 (f := .glo "_law_call") rfl)
  · exact c.d.def_ 34 (d := d__law_call) rfl
  · exact He.glo_ok X G (c.d.fact 34 (f := .glo "_law_asked") rfl)
  · exact c.d.def_ 35 (d := d__law_asked) rfl
  · exact He.glo_ok X G (c.d.fact 35 (f := .glo "_law_is") rfl)
  · exact c.d.def_ 36 (d := d__law_is) rfl
  · exact He.glo_ok X G (c.d.fact 36 (f := .glo "_law_one") rfl)
  · exact c.d.def_ 37 (d := d__law_one) rfl
  · exact He.glo_ok X G (c.d.fact 37 (f := .glo "_law_two") rfl)
  · exact c.d.def_ 38 (d := d__law_two) rfl
  · exact He.glo_ok X G (c.d.fact 38 (f := .glo "_law_from") rfl)
  · exact c.d.def_ 39 (d := d__law_from) rfl
  · exact He.glo_ok X G (c.d.fact 39 (f := .glo "_law_bad") rfl)
  · exact c.d.def_ 40 (d := d__law_bad) rfl
  · exact He.glo_ok X G (c.d.fact 40 (f := .glo "_law_refused") rfl)
  · exact c.d.def_ 41 (d := d__law_refused) rfl
  · exact He.glo_ok X G (c.d.fact 41 (f := .glo "_law_words") rfl)
  · exact c.d.def_ 42 (d := d__law_words) rfl
  · exact He.glo_ok X G (c.d.fact 42 (f := .glo "law") rfl)
  · exact c.d.def_ 43 (d := d_law) rfl
  · exact He.glo_ok X G (c.d.fact 43 (f := .glo "CellsError") rfl)
  · exact MeH.excB_ok e0
  · exact He.glo_ok X G (c.d.fact 44 (f := .glo "BadStacks") rfl)
  · exact MeH.excB_ok e1
  · exact He.glo_ok X G (c.d.fact 45 (f := .glo "BadNumber") rfl)
  · exact MeH.initB_ok e2
  · exact He.glo_ok X G (c.d.fact 46 (f := .glo "Unlike") rfl)
  · exact MeH.excB_ok e3
  · exact He.glo_ok X G (c.d.fact 47 (f := .glo "LETTERS") rfl)
  · exact fun H => He.tupB_ok e H
  · exact He.exm_ok (c.d.fact 62 (f := .exm "CellsError" "BadStacks" false) rfl)
  · exact He.exm_ok (c.d.fact 63 (f := .exm "CellsError" "Unlike" false) rfl)
  · exact He.exm_ok (c.d.fact 64 (f := .exm "CellsError" "BadNumber" false) rfl)
  · exact He.exm_ok (c.d.fact 65 (f := .exm "BadStacks" "BadStacks" true) rfl)
  · exact He.exm_ok (c.d.fact 66 (f := .exm "BadStacks" "Unlike" false) rfl)
  · exact He.exm_ok (c.d.fact 67 (f := .exm "BadStacks" "BadNumber" false) rfl)
  · exact He.exm_ok (c.d.fact 68 (f := .exm "BadNumber" "BadStacks" false) rfl)
  · exact He.exm_ok (c.d.fact 69 (f := .exm "BadNumber" "Unlike" false) rfl)
  · exact He.exm_ok (c.d.fact 70 (f := .exm "BadNumber" "BadNumber" true) rfl)
  · exact He.exm_ok (c.d.fact 71 (f := .exm "Unlike" "BadStacks" false) rfl)
  · exact He.exm_ok (c.d.fact 72 (f := .exm "Unlike" "Unlike" true) rfl)
  · exact He.exm_ok (c.d.fact 73 (f := .exm "Unlike" "BadNumber" false) rfl)
end K19

namespace K19
open PySem PySem.Spec PyProof.Rows L2
abbrev hk : PySem.W.Hook := MeH.hookM 4 fa fn exB
def ob (s : PySem.W.SharedT) : MeH.AlM := MeH.obsM 4 fa fn exB (HandSHeadRun.getT s)
theorem ob_eq (s : PySem.W.SharedT) : ob s = hk.obs s.abs := MeH.obsM_eq (HandSHeadRun.getT_eq s)
theorem run (w : World) : HandSHeadRun.RunEq R (PySem.W.view R.prog [lawAt]) hk ob steps names w := by
  intro os
  kernel_rfl
end K19

namespace K19
open PySem PySem.Spec PyProof.Rows L2 MeD MeK MeL
local macro_rules | `(tactic| walk_at "rd") => `(tactic| (dsimp only [tVar, tC, tOp, tUn, tCons, tNil, tTup, tLst, tCB, tK, tKS, tTest, tB, tAnd, tOr, tNot, tAndV, tOrV, tNotV, tIf, tIfS, tSeq, tNext, tRet, tRetN, tDrop, tAsg, gName, gTup, gNil, gCons, wipe, tYes, tSl, tPart, tNoPart, tBM, tBM0,  tBreak, tCont, gLst, tDGet, tDIn, tDNotIn, sDPut, tDNewK, MeL.for_tup_eq, MeL.for_list_eq, MeL.for_str_eq, MeL.for_rng_eq, MeL.for_row_eq, MeL.lc_tup_eq, MeL.lc_list_eq, MeL.lc_str_eq, MeL.lc_rng_eq, rI0, rI, rU, tRs1, cxOf, Cx.tr, Cx.suite, L2.start, List.map, List.replicate, List.length, List.append, HAppend.hAppend, Append.append, Nat.reduceAdd, Nat.reduceSub]))
local macro_rules | `(tactic| walk_at "rs") => `(tactic| (try simp only [List.getElem?_cons_zero, List.getElem?_cons_succ, Option.some.injEq, exists_eq_left', exists_eq_left, V.bl.injEq, V.int.injEq, V.str.injEq, V.ref.injEq, List.cons.injEq, and_true, true_and, and_self, exists_and_left, exists_eq', exists_eq, ↓reduceIte, reduceCtorEq, Bool.false_eq_true, false_and, exists_const, exists_false, decide_true, decide_false, Bool.not_true, Bool.not_false, List.set_cons_zero, List.set_cons_succ, MeK.tyv_str, or_false, MeL.for_row_eq, MeK.req_int, MeK.rne_int, MeK.req_str, MeK.rne_str, MeK.req_bl, MeK.rne_bl, decide_eq_true_eq, Bool.not_eq_true', decide_eq_false_iff_not, Int.natCast_inj]))
/-! ### what the defs of the package compute -/
def isInt : PyData → Bool
  | .int _ => true
  | _ => false
theorem isInt_eq (d : PyData) : (isI d && !isB d) = isInt d := by cases d <;> rfl
def okNum : PyData → Bool
  | .int i => decide (0 ≤ i)
  | _ => false
def sign12 (c : Nat) : Bool := c == 49 || c == 50
/-- the words of letters 1 and 2 -/
def okW (s : Str) : Bool := s.cps.toList.all sign12
def isWord : PyData → Bool
  | .str s => okW s
  | _ => false
def isEmptyS : PyData → Bool
  | .str s => s == ""
  | _ => false
def okEntry (last : Int) : PyData → Option Int
  | .tuple [.int c, .str w] => if last < c ∧ okW w = true ∧ ¬ w = "" then some c else none
  | _ => none
def okEntries : Int → List PyData → Bool
  | _, [] => true
  | last, e :: es => match okEntry last e with
    | some c => okEntries c es
    | none => false
def isStacks : PyData → Bool
  | .tuple es => okEntries (-1) es
  | _ => false
inductive Out where
  | ok (d : PyData) | stacks | unlike | num (s : Str)
/-! ### promises -/
def spB1 (K : PySem.W.Frag) (f : PyData → Bool) : Sp := fun vs H Q _ => ∃ v d, vs = [v] ∧ Dp K H v d ∧ ∀ H', Same H H' → Q (.bl (f d)) H'
/-- what is raised -/
def rais (K : PySem.W.Frag) (H : Hp) (E : XK) : Out → Prop
  | .stacks => ∀ H', Same H H' → E (.ref (He.ga K "BadStacks")) none H'
  | .unlike => ∀ H', Same H H' → E (.ref (He.ga K "Unlike")) none H'
  | .num s => ∀ d H', Same H H' → H' d = some (.xd [("name", .str s)]) → E (.ref (He.ga K "BadNumber")) (some d) H'
  | .ok _ => True
/-- what a def answers or raises, by data -/
def ends (K : PySem.W.Frag) (H : Hp) (Q : VK) (E : XK) : Out → Prop
  | .ok d => ∀ v H', Same H H' → Dp K H' v d → Q v H'
  | o => rais K H E o
theorem ends_same {K : PySem.W.Frag} {H H1 : Hp} {Q : VK} {E : XK} (s : Same H H1) : ∀ {o : Out}, ends K H Q E o → ends K H1 Q E o
  | .ok d, h => fun v H' s' hd => h v H' (s.trans s') hd
  | .stacks, h => fun H' s' => h H' (s.trans s')
  | .unlike, h => fun H' s' => h H' (s.trans s')
  | .num n, h => fun d H' s' e => h d H' (s.trans s') e
section
variable {P : Program} {w : World} {K : PySem.W.Frag} {mg : Str → Option Value} {base : Heap}
abbrev N_is_int : List Str := ["value"]
abbrev P_is_int : List Str := ["value"]
theorem sc_is_int : FnScope N_is_int P_is_int (defScope s_is_int) := ⟨rfl, rfl, rfl, by decide +kernel, rfl, by decide +kernel, by decide +kernel⟩
theorem bn_is_int : ∀ (kV doc pm : Value) (an : Option Addr) (cdv ct : Value) (us : List Value), us.length = P_is_int.length → bindArgs (PySem.W.fnOf "is_int" "is_int" (defArgs s_is_int) (defBody s_is_int) (defScope s_is_int) .none kV doc pm an cdv ct) ⟨us, []⟩ = pure (P_is_int.zip us) := fun _ _ _ _ _ _ us hl => match us, hl with | [_], _ => rfl
theorem k_is_int (T : Txt K mg) : Knows P w K mg base CX0 1 "is_int" P_is_int (spB1 K isInt) := by
  refine knows_of T.g_is_int T.d_is_int bn_is_int fun fd F => F.ok sc_is_int (fun vs H Q E h => ?_) (fun cdv A outer s H vs Q E hr h => ?_)
  · obtain ⟨v, d, rfl, _⟩ := h
    rfl
  · obtain ⟨v, d, rfl, hd, q⟩ := h
    have nd := sc_is_int.nd
    refine ⟨_, (pss_one (ps_ret (pe_and (pe_callB (isiK (K := K)) rfl T.f_isinstance (by decide +kernel) (pa_cons (pv 0) (pa_cons (pe_bltn (v := .ty "int") rfl T.f_int (by decide +kernel) rfl) pa_nil))) (pe_one (pe_not (pe_callB (isiK (K := K)) rfl T.f_isinstance (by decide +kernel) (pa_cons (pv 0) (pa_cons (pe_bltn (v := .ty "bool") rfl T.f_bool (by decide +kernel) rfl) pa_nil)))))))), ?_⟩
    walk_at "rd"
    have z := isInt_eq d
    refine ⟨_, rfl, isi_int hd ⟨_, rfl, ite2 (fun e => ?_) (fun e => ?_)⟩⟩
    · refine ⟨_, rfl, isi_bool hd ⟨_, rfl, ?_⟩⟩
      rw [e, Bool.true_and] at z
      rw [z]
      exact q _ (Same.refl _)
    · rw [Bool.not_eq_true] at e
      rw [e, Bool.false_and] at z
      rw [z]
      exact q _ (Same.refl _)
abbrev N_is_row : List Str := ["value"]
abbrev P_is_row : List Str := ["value"]
theorem sc_is_row : FnScope N_is_row P_is_row (defScope s_is_row) := ⟨rfl, rfl, rfl, by decide +kernel, rfl, by decide +kernel, by decide +kernel⟩
theorem bn_is_row : ∀ (kV doc pm : Value) (an : Option Addr) (cdv ct : Value) (us : List Value), us.length = P_is_row.length → bindArgs (PySem.W.fnOf "is_row" "is_row" (defArgs s_is_row) (defBody s_is_row) (defScope s_is_row) .none kV doc pm an cdv ct) ⟨us, []⟩ = pure (P_is_row.zip us) := fun _ _ _ _ _ _ us hl => match us, hl with | [_], _ => rfl
theorem k_is_row (T : Txt K mg) : Knows P w K mg base CX0 1 "is_row" P_is_row (spB1 K fun d => isL d || isT d) := by
  refine knows_of T.g_is_row T.d_is_row bn_is_row fun fd F => F.ok sc_is_row (fun vs H Q E h => ?_) (fun cdv A outer s H vs Q E hr h => ?_)
  · obtain ⟨v, d, rfl, _⟩ := h
    rfl
  · obtain ⟨v, d, rfl, hd, q⟩ := h
    have nd := sc_is_row.nd
    refine ⟨_, (pss_one (ps_ret (pe_callB (isiTK (K := K)) rfl T.f_isinstance (by decide +kernel) (pa_cons (pv 0) (pa_cons (pe_tup (pa_cons (pe_bltn (v := .ty "list") rfl T.f_list (by decide +kernel) rfl) (pa_cons (pe_bltn (v := .ty "tuple") rfl T.f_tuple (by decide +kernel) rfl) pa_nil))) pa_nil))))), ?_⟩
    walk_at "rd"
    refine ⟨_, rfl, (by show 2 ≤ sizeLine; decide), fun p hp => ?_⟩
    exact isi_row (hd.same (same_new hp)) upd_same (q _ (same_new hp))
/-- BadNumber.__init__ -/
theorem sc_init : FnScope ["self", "name"] ["self", "name"] (defScope s_BadNumber_init) := ⟨rfl, rfl, rfl, by decide +kernel, rfl, by decide +kernel, by decide +kernel⟩
theorem i_init (T : Txt K mg) : ∃ fd, FnOk P w K mg base CX0 1 (He.ma K (He.ga K "BadNumber") "__init__") fd ["self", "name"] (spInit1 (He.ga K "BadNumber") "name") ∧ Binds K fd ["self", "name"] [] := by
  obtain ⟨fd, F⟩ := T.d_BadNumber_init
  refine ⟨fd, F.ok sc_init (fun vs H Q E h => ?_) (fun cdv A outer s H vs Q E hr h => ?_), F.bindsN fun _ _ _ _ _ _ us hl => match us, hl with | [_, _], _ => rfl⟩
  · obtain ⟨a, v, rfl, _⟩ := h
    rfl
  · obtain ⟨a, v, rfl, ha, q⟩ := h
    refine ⟨_, pss_one (MeX.ps_putE (pv 0) (pv 1)), ?_⟩
    exact ⟨_, rfl, _, rfl, a, _, rfl, T.x_BadNumber.o, T.x_BadNumber.no _ (by simp), .inl ⟨ha, fun dx n1 n2 => q dx n1 n2⟩⟩
abbrev N_check_number : List Str := ["value", "name", "low", "high"]
abbrev P_check_number : List Str := ["value", "name", "low", "high"]
theorem sc_check_number : FnScope N_check_number P_check_number (defScope s_check_number) := ⟨rfl, rfl, rfl, by decide +kernel, rfl, by decide +kernel, by decide +kernel⟩
theorem bn_check_number : ∀ (kV doc pm : Value) (an : Option Addr) (cdv ct : Value) (us : List Value), us.length = P_check_number.length → bindArgs (PySem.W.fnOf "check_number" "check_number" (defArgs s_check_number) (defBody s_check_number) (defScope s_check_number) .none kV doc pm an cdv ct) ⟨us, []⟩ = pure (P_check_number.zip us) := fun _ _ _ _ _ _ us hl => match us, hl with | [_, _, _, _], _ => rfl
def mNum (d : PyData) (s : Str) : Out := if okNum d = true then .ok .none else .num s
def spCheckNumber (K : PySem.W.Frag) : Sp := fun vs H Q E => ∃ v d s, vs = [v, .str s, .int 0, .non] ∧ Dp K H v d ∧ ends K H Q E (mNum d s)
theorem k_check_number (T : Txt K mg) : Knows P w K mg base (L2.CX P w) 3 "check_number" P_check_number (spCheckNumber K) := by
  have k_is_int : Knows P w K mg base CX0 1 "is_int" P_is_int (spB1 K isInt) := k_is_int T
  have i_BadNumber := i_init (P := P) (w := w) (base := base) T
  refine knows_of T.g_check_number T.d_check_number bn_check_number fun fd F => F.ok sc_check_number (fun vs H Q E h => ?_) (fun cdv A outer s H vs Q E hr h => ?_)
  · obtain ⟨v, d, s, rfl, _⟩ := h
    rfl
  · obtain ⟨v, d, nm, rfl, hd, q⟩ := h
    have nd := sc_check_number.nd
    refine ⟨_, (pss_cons (ps_if (PW.pt (pw_or (pt_not (pt_val (pe_k k_is_int (hr.mono (by decide)) pass0 (pa_cons (pv 0) pa_nil)))) (pw_or1 (pt_cmpR op_lt (pv 0) (pv 2) (nomark _))))) (pss_one (ps_raise rfl (takes_of rfl rfl rfl rfl) (pmk_one T.x_BadNumber.o T.x_BadNumber.i T.x_BadNumber.t i_BadNumber (hr.mono (by decide)) pass0 T.g_BadNumber (pa_cons (pv 1) pa_nil) mono_var))) pss_nil)
      (pss_one (ps_if (PW.pt (pw_and (pt_cmpR op_notN (pv 3) pe_non (nomark _)) (pw_and1 (pt_cmpR op_gt (pv 0) (pv 3) (nomark _))))) (pss_one (ps_raise rfl (takes_of rfl rfl rfl rfl) (pmk_one T.x_BadNumber.o T.x_BadNumber.i T.x_BadNumber.t i_BadNumber (hr.mono (by decide)) pass0 T.g_BadNumber (pa_cons (pv 1) pa_nil) mono_var))) pss_nil))), ?_⟩
    walk_at "rd"
    walk_at "rs"
    refine ⟨_, _, rfl, hd, fun H1 s1 => ?_⟩
    replace q := ends_same s1 q
    have bad : okNum d = false → ∀ (dd : Addr) (H' : Hp), Same H1 H' → H1 dd = none → H' dd = some (HO.xd [("name", V.str nm)]) → E (Value.ref (He.ga K "BadNumber")) (some dd) H' := fun e dd H' s' _ he => by
      unfold mNum at q
      rw [if_neg (by rw [e]; decide)] at q
      exact q dd H' s' he
    cases hd with
    | int i =>
      simp only [isInt]
      walk_at "rs"
      refine ite2 (fun e => ?_) (fun e => ?_)
      · exact bad (decide_eq_false (by omega))
      · have ok : okNum (.int i) = true := decide_eq_true (by omega)
        unfold mNum at q
        rw [if_pos ok] at q
        exact q _ _ (Same.refl _) .non
    | _ =>
      simp only [isInt]
      walk_at "rs"
      exact bad rfl
theorem s1 : ("1" : Str) = ⟨#[49]⟩ := by decide +kernel
theorem s2 : ("2" : Str) = ⟨#[50]⟩ := by decide +kernel
theorem str_beq (a b : Str) : (a == b) = decide (a = b) := by
  by_cases h : a = b
  · subst h
    simp
  · rw [decide_eq_false h]
    exact beq_eq_false_iff_ne.mpr h
theorem one_eq (a b : Nat) : decide ((⟨#[a]⟩ : Str) = ⟨#[b]⟩) = (b == a) := by
  by_cases h : b = a
  · subst h
    simp
  · have h2 : ¬ (⟨#[a]⟩ : Str) = ⟨#[b]⟩ := fun e => h (by
      have e1 : #[a] = #[b] := congrArg Str.cps e
      have e2 : [a] = [b] := congrArg Array.toList e1
      exact (List.cons.inj e2).1.symm)
    rw [decide_eq_false h2]
    exact (beq_eq_false_iff_ne.mpr h).symm
theorem in12 (c : Nat) : inV (.str ⟨#[c]⟩) [.str "1", .str "2"] = sign12 c := by
  show ((("1" : Str) == ⟨#[c]⟩) || ((("2" : Str) == ⟨#[c]⟩) || false)) = _
  rw [s1, s2, str_beq, str_beq, one_eq, one_eq, Bool.or_false]
  rfl
theorem bools_of {K : PySem.W.Frag} {H : Hp} {vs : List V} {bs : List Bool} (h : DpAll K H vs (bs.map PyData.bool)) : vs = bs.map V.bl := by
  induction bs generalizing vs with
  | nil => cases h; rfl
  | cons b bs ih =>
    cases h with
    | cons h1 h2 =>
      cases h1
      rw [ih h2]
      rfl
def fW : PyData → Option PyData
  | .str s => some (.bool (okW s))
  | _ => none
theorem fW_all (z : Str) : (signsD z).filterMap fW = (z.cps.toList.map sign12).map PyData.bool := by
  unfold signsD
  rw [List.filterMap_map, List.map_map]
  induction z.cps.toList with
  | nil => rfl
  | cons c cs ih =>
    rw [List.filterMap_cons, List.map_cons, ← ih]
    have e : okW ⟨#[c]⟩ = sign12 c := by simp [okW]
    show _ = PyData.bool (sign12 c) :: _
    rw [← e]
    rfl
abbrev N_is_word : List Str := ["value", "sign"]
abbrev P_is_word : List Str := ["value"]
theorem sc_is_word : FnScope N_is_word P_is_word (defScope s_is_word) := ⟨rfl, rfl, rfl, by decide +kernel, rfl, by decide +kernel, by decide +kernel⟩
theorem bn_is_word : ∀ (kV doc pm : Value) (an : Option Addr) (cdv ct : Value) (us : List Value), us.length = P_is_word.length → bindArgs (PySem.W.fnOf "is_word" "is_word" (defArgs s_is_word) (defBody s_is_word) (defScope s_is_word) .none kV doc pm an cdv ct) ⟨us, []⟩ = pure (P_is_word.zip us) := fun _ _ _ _ _ _ us hl => match us, hl with | [_], _ => rfl
def spWord (K : PySem.W.Frag) : Sp := fun vs H Q _ => ∃ v d, vs = [v] ∧ Dp K H v d ∧ (∀ s, d = .str s → s.length ≤ 100000) ∧ ∀ H', Same H H' → Q (.bl (isWord d)) H'
theorem k_is_word (T : Txt K mg) : Knows P w K mg base CX0 1 "is_word" P_is_word (spWord K) := by
  refine knows_of T.g_is_word T.d_is_word bn_is_word fun fd F => F.ok sc_is_word (fun vs H Q E h => ?_) (fun cdv A outer s H vs Q E hr h => ?_)
  · obtain ⟨v, d, rfl, _⟩ := h
    rfl
  · obtain ⟨v, d, rfl, hd, hz, q⟩ := h
    have nd := sc_is_word.nd
    refine ⟨_, (pss_one (ps_ret (pe_and (pe_callB (isiK (K := K)) rfl T.f_isinstance (by decide +kernel) (pa_cons (pv 0) (pa_cons (pe_bltn (v := .ty "str") rfl T.f_str (by decide +kernel) rfl) pa_nil))) (pe_one (pe_callB (allK (K := K) rfl) rfl T.f_all (by decide +kernel) (pa_cons (pe_lc (own := [("sign", 1)]) rfl nd (pi_str (pv 0)) (blkOk_by (N := N_is_word) (sc := defScope s_is_word) (by decide +kernel)) (fun _ _ _ _ _ => (pg_name (i := 1) nd rfl (Or.inl rfl))) (fun _ _ _ _ _ => pts_nil) (fun _ _ _ _ _ => (pe_cmpR (in_seqK (K := K)) (pv 1) (pe_glob (v := .ref _) rfl T.g_LETTERS rfl) (by with_unfolding_all rfl)))) pa_nil)))))), ?_⟩
    walk_at "rd"
    walk_at "rs"
    refine isi_str hd ?_
    walk_at "rs"
    cases hd with
    | str z =>
      simp only [isS]
      walk_at "rs"
      refine compS_of (K := K) fW (hz z rfl) (fun d hd e he => ?_) (fun d hd => ?_) fun p H' hp s1 acc ha hacc => ?_
      · obtain ⟨c, _, rfl⟩ := List.mem_map.mp hd
        cases he
        rfl
      · obtain ⟨c, _, rfl⟩ := List.mem_map.mp hd
        intro y H' N Y s1 hy hN hY
        cases hy
        walk_at "rd"
        walk_at "rs"
        refine ⟨_, _, rfl, .inr (T.c_LETTERS H'), rfl, rfl, ?_⟩
        have e : okW ⟨#[c]⟩ = sign12 c := by simp [okW]
        refine hY _ _ (.bool (sign12 c)) (Same.refl _) (by rw [← e]; rfl) ?_
        rw [← in12]
        exact .bl _
      · rw [fW_all] at hacc
        rw [bools_of hacc] at ha
        refine ⟨p, z.cps.toList.map sign12, rfl, SqL.of ha, ?_⟩
        have e : (z.cps.toList.map sign12).all id = isWord (.str z) := by simp [isWord, okW, List.all_map]
        rw [e]
        exact q H' s1
    | _ =>
      simp only [isS]
      walk_at "rs"
      exact q _ (Same.refl _)
/-- within bounds -/
def Fit (d : PyData) : Prop := ∀ es, d = .tuple es → es.length ≤ 30 ∧ ∀ c w, PyData.tuple [c, .str w] ∈ es → w.length ≤ 20000
def spFit (K : PySem.W.Frag) (f : PyData → Bool) : Sp := fun vs H Q _ => ∃ v d, vs = [v] ∧ Dp K H v d ∧ Fit d ∧ ∀ H', Same H H' → Q (.bl (f d)) H'
theorem ne2 {n : Nat} (h : ¬ decide (¬ ((n : Int) = 2)) = true) : n = 2 := by
  have h : ¬ ¬ ((n : Int) = 2) := fun z => h (decide_eq_true z)
  omega
theorem okEntry_len {l : Int} {ds : List PyData} (h : ds.length ≠ 2) : okEntry l (.tuple ds) = none := by
  unfold okEntry
  split
  · rename_i heq
    cases heq
    exact absurd rfl h
  · rfl
theorem okEntry_two (l i : Int) (z : Str) : okEntry l (.tuple [.int i, .str z]) = if l < i ∧ okW z = true ∧ ¬ z = "" then some i else none := rfl
theorem two_of {α : Type} {es : List α} (h : es.length = 2) : ∃ a b, es = [a, b] := by
  match es, h with
  | [a, b], _ => exact ⟨a, b, rfl⟩
abbrev N_is_stacks : List Str := ["value", "last", "entry", "colour", "word"]
abbrev P_is_stacks : List Str := ["value"]
theorem sc_is_stacks : FnScope N_is_stacks P_is_stacks (defScope s_is_stacks) := ⟨rfl, rfl, rfl, by decide +kernel, rfl, by decide +kernel, by decide +kernel⟩
theorem bn_is_stacks : ∀ (kV doc pm : Value) (an : Option Addr) (cdv ct : Value) (us : List Value), us.length = P_is_stacks.length → bindArgs (PySem.W.fnOf "is_stacks" "is_stacks" (defArgs s_is_stacks) (defBody s_is_stacks) (defScope s_is_stacks) .none kV doc pm an cdv ct) ⟨us, []⟩ = pure (P_is_stacks.zip us) := fun _ _ _ _ _ _ us hl => match us, hl with | [_], _ => rfl
theorem k_is_stacks (T : Txt K mg) : Knows P w K mg base CX0 2 "is_stacks" P_is_stacks (spFit K isStacks) := by
  have k_is_int : Knows P w K mg base CX0 1 "is_int" P_is_int (spB1 K isInt) := k_is_int T
  have k_is_word : Knows P w K mg base CX0 1 "is_word" P_is_word (spWord K) := k_is_word T
  refine knows_of T.g_is_stacks T.d_is_stacks bn_is_stacks fun fd F => F.ok sc_is_stacks (fun vs H Q E h => ?_) (fun cdv A outer s H vs Q E hr h => ?_)
  · obtain ⟨v, d, rfl, _⟩ := h
    rfl
  · obtain ⟨v, d, rfl, hd, fit, q⟩ := h
    have nd := sc_is_stacks.nd
    refine ⟨_, (pss_cons (ps_if (pt_not (pt_val (pe_callB (isiK (K := K)) rfl T.f_isinstance (by decide +kernel) (pa_cons (pv 0) (pa_cons (pe_bltn (v := .ty "tuple") rfl T.f_tuple (by decide +kernel) rfl) pa_nil))))) (pss_one (ps_ret pe_bl)) pss_nil)
      (pss_cons (ps_set (i := 1) nd rfl (Or.inl rfl) (pe_un un_neg pe_int))
      (pss_cons (ps_for (passes_of rfl) rfl (pi_tup (pv 0)) (pg_name (i := 2) nd rfl (Or.inl rfl)) (pss_cons (ps_if (PW.pt (pw_or (pt_not (pt_val (pe_callB (isiK (K := K)) rfl T.f_isinstance (by decide +kernel) (pa_cons (pv 2) (pa_cons (pe_bltn (v := .ty "tuple") rfl T.f_tuple (by decide +kernel) rfl) pa_nil))))) (pw_or1 (pt_cmpR op_ne (pe_callB (lenK (K := K)) rfl T.f_len (by decide +kernel) (pa_cons (pv 2) pa_nil)) pe_int (nomark _))))) (pss_one (ps_ret pe_bl)) pss_nil)
      (pss_cons (ps_asg (pv 2) (pg_tupK (K := K) (n := 2) rfl (pgs_cons (pg_name (i := 3) nd rfl (Or.inl rfl)) (pgs_cons (pg_name (i := 4) nd rfl (Or.inl rfl)) pgs_nil))))
      (pss_cons (ps_if (PW.pt (pw_or (pt_not (pt_val (pe_k k_is_int (hr.mono (by decide)) pass0 (pa_cons (pv 3) pa_nil)))) (pw_or (pt_cmpR op_le (pv 3) (pv 1) (nomark _)) (pw_or (pt_not (pt_val (pe_k k_is_word (hr.mono (by decide)) pass0 (pa_cons (pv 4) pa_nil)))) (pw_or1 (pt_cmpR op_eq (pv 4) pe_str (nomark _))))))) (pss_one (ps_ret pe_bl)) pss_nil)
      (pss_one (ps_set (i := 1) nd rfl (Or.inl rfl) (pv 3)))))))
      (pss_one (ps_ret pe_bl))))), ?_⟩
    walk_at "rd"
    walk_at "rs"
    refine isi_tuple hd ?_
    walk_at "rs"
    refine ite2 (fun e => ?_) (fun e => ?_)
    · have z : isStacks d = false := by cases d <;> first | rfl | simp [isT] at e
      rw [← z]
      exact q _ (Same.refl _)
    · cases d with
      | tuple es =>
        refine loopT_same hd (fun r σ H' => Same H H' ∧ ∃ (l : Int) (a b c : Option V), σ = [some v, some (.int l), a, b, c] ∧ okEntries l r = okEntries (-1) es) ⟨Same.refl _, _, _, _, _, rfl, rfl⟩ (fun _ _ _ h => h.1) (fun y d r σ H' hm h hy => ?_) (fun σ H' h => ?_)
        · obtain ⟨s1, l, a, b, c, rfl, el⟩ := h
          have stop : okEntry l d = none → ∀ H2, Same H' H2 → Q (.bl false) H2 := fun z H2 s2 => by
            have z : isStacks (.tuple es) = false := by
              show okEntries (-1) es = false
              rw [← el, okEntries, z]
            rw [← z]
            exact q _ (s1.trans s2)
          walk_at "rd"
          walk_at "rs"
          refine isi_tuple hy ?_
          walk_at "rs"
          refine ite2 (fun e => ?_) (fun e => ?_)
          · refine stop ?_ _ (Same.refl _)
            cases d <;> first | rfl | simp [isT] at e
          · cases d with
            | tuple ds =>
              obtain ⟨p, xs, rfl, hS, hds⟩ := hy.tupleAt
              refine ⟨p, xs, rfl, .inr hS, ?_⟩
              walk_at "rs"
              have hl := hds.len
              refine ite2 (fun e => ?_) (fun e => ?_)
              · refine stop (okEntry_len (by omega)) _ (Same.refl _)
              · have e : xs.length = 2 := by omega
                obtain ⟨x1, x2, rfl⟩ := two_of e
                obtain ⟨d1, d2, rfl⟩ := two_of (hl.symm.trans e)
                cases hds with
                | cons h1 h2 =>
                cases h2 with
                | cons h2 h3 =>
                cases h3
                refine ⟨_, hS, rfl, _, _, rfl, _, _, rfl, rfl, _, _, rfl, h1, fun H2 s2 => ⟨_, rfl, ?_⟩⟩
                cases h1 with
                | int i =>
                  simp only [isInt]
                  walk_at "rs"
                  refine ite2 (fun e => stop ?_ _ s2) (fun e => ?_)
                  · unfold okEntry
                    split
                    · rename_i heq
                      cases heq
                      rw [if_neg]
                      omega
                    · rfl
                  · refine ⟨_, _, rfl, h2.same s2, fun z hz => ?_, fun H3 s3 => ⟨_, rfl, ?_⟩⟩
                    · subst hz
                      exact Nat.le_trans ((fit _ rfl).2 _ _ hm) (by decide)
                    · cases h2 with
                      | str z =>
                        simp only [isWord]
                        walk_at "rs"
                        refine ite2 (fun e1 => stop ?_ _ (s2.trans s3)) (fun e1 => ite2 (fun e2 => stop ?_ _ (s2.trans s3)) (fun e2 => ⟨s1.trans (s2.trans s3), _, _, _, _, ⟨rfl, rfl, rfl, rfl⟩, ?_⟩))
                        · rw [okEntry_two, if_neg (by rw [e1]; simp)]
                        · rw [okEntry_two, if_neg (by simp [e2])]
                        · rw [← el, okEntries, okEntry_two, if_pos ⟨by omega, by simpa using e1, e2⟩]
                      | _ =>
                        simp only [isWord]
                        walk_at "rs"
                        exact stop rfl _ (s2.trans s3)
                | _ =>
                  simp only [isInt]
                  walk_at "rs"
                  exact stop rfl _ s2
            | _ => exact absurd rfl e
        · obtain ⟨s1, l, a, b, c, rfl, el⟩ := h
          walk_at "rd"
          walk_at "rs"
          have z : isStacks (.tuple es) = true := el.symm
          rw [← z]
          exact q _ s1
      | _ => exact absurd rfl e
end
end K19

namespace K19
open PySem PySem.Spec PyProof.Rows L2 MeD MeK MeL
local macro_rules | `(tactic| walk_at "rd") => `(tactic| (dsimp only [tVar, tC, tOp, tUn, tCons, tNil, tTup, tLst, tCB, tK, tKS, tTest, tB, tAnd, tOr, tNot, tAndV, tOrV, tNotV, tIf, tIfS, tSeq, tNext, tRet, tRetN, tDrop, tAsg, gName, gTup, gNil, gCons, wipe, tYes, tSl, tPart, tNoPart, tBM, tBM0,  tBreak, tCont, gLst, tDGet, tDIn, tDNotIn, sDPut, tDNewK, MeL.for_tup_eq, MeL.for_list_eq, MeL.for_str_eq, MeL.for_rng_eq, MeL.for_row_eq, MeL.lc_tup_eq, MeL.lc_list_eq, MeL.lc_str_eq, MeL.lc_rng_eq, rI0, rI, rU, tRs1, cxOf, Cx.tr, Cx.suite, L2.start, List.map, List.replicate, List.length, List.append, HAppend.hAppend, Append.append, Nat.reduceAdd, Nat.reduceSub]))
local macro_rules | `(tactic| walk_at "rs") => `(tactic| (try simp only [List.getElem?_cons_zero, List.getElem?_cons_succ, Option.some.injEq, exists_eq_left', exists_eq_left, V.bl.injEq, V.int.injEq, V.str.injEq, V.ref.injEq, List.cons.injEq, and_true, true_and, and_self, exists_and_left, exists_eq', exists_eq, ↓reduceIte, reduceCtorEq, Bool.false_eq_true, false_and, exists_const, exists_false, decide_true, decide_false, Bool.not_true, Bool.not_false, List.set_cons_zero, List.set_cons_succ, MeK.tyv_str, or_false, MeL.for_row_eq, MeK.req_int, MeK.rne_int, MeK.req_str, MeK.rne_str, MeK.req_bl, MeK.rne_bl, decide_eq_true_eq, Bool.not_eq_true', decide_eq_false_iff_not, Int.natCast_inj]))
/-! ### stacks as rows -/
def rowOf : PyData → Option (Int × Str)
  | .tuple [.int c, .str w] => some (c, w)
  | _ => none
def unstk : PyData → Option Row
  | .tuple es => if okEntries (-1) es = true then some (es.filterMap rowOf) else none
  | _ => none
def Good (l : Int) : Row → Prop
  | [] => True
  | (c, w) :: r => l < c ∧ okW w = true ∧ w ≠ "" ∧ Good c r
theorem good_mono {l m : Int} (h : l ≤ m) : ∀ {r : Row}, Good m r → Good l r
  | [], _ => trivial
  | (c, w) :: r, g => ⟨by have := g.1; omega, g.2⟩
theorem good_ok {l : Int} {r : Row} (g : Good l r) : okEntries l (rowD r) = true := by
  induction r generalizing l with
  | nil => rfl
  | cons p r ih =>
    obtain ⟨c, w⟩ := p
    obtain ⟨g1, g2, g3, g4⟩ := g
    rw [rowD, List.map_cons, okEntries, ent, okEntry_two, if_pos ⟨g1, g2, g3⟩]
    exact ih g4
theorem rowOf_D (r : Row) : (rowD r).filterMap rowOf = r := by
  induction r with
  | nil => rfl
  | cons p r ih =>
    rw [rowD, List.map_cons]
    show p :: (rowD r).filterMap rowOf = _
    rw [ih]
theorem okEntry_some {l c : Int} {d : PyData} (h : okEntry l d = some c) : ∃ w, d = ent (c, w) ∧ l < c ∧ okW w = true ∧ w ≠ "" := by
  unfold okEntry at h
  split at h
  · rename_i c' w'
    by_cases z : l < c' ∧ okW w' = true ∧ ¬ w' = ""
    · rw [if_pos z] at h
      cases h
      exact ⟨w', rfl, z⟩
    · rw [if_neg z] at h
      cases h
  · cases h
theorem ok_good {l : Int} {es : List PyData} (h : okEntries l es = true) : ∃ r, es = rowD r ∧ Good l r := by
  induction es generalizing l with
  | nil => exact ⟨[], rfl, trivial⟩
  | cons d es ih =>
    rw [okEntries] at h
    split at h
    · rename_i c e
      obtain ⟨r, rfl, g⟩ := ih h
      obtain ⟨w, rfl, z⟩ := okEntry_some e
      exact ⟨(c, w) :: r, rfl, z.1, z.2.1, z.2.2, g⟩
    · cases h
theorem unstk_good {r : Row} (g : Good (-1) r) : unstk (.tuple (rowD r)) = some r := by
  rw [unstk, if_pos (good_ok g), rowOf_D]
theorem unstk_some {d : PyData} {r : Row} (h : unstk d = some r) : d = .tuple (rowD r) ∧ Good (-1) r := by
  unfold unstk at h
  split at h
  · rename_i es
    by_cases z : okEntries (-1) es = true
    · rw [if_pos z] at h
      obtain ⟨r', rfl, g⟩ := ok_good z
      rw [rowOf_D] at h
      cases h
      exact ⟨rfl, g⟩
    · rw [if_neg z] at h
      cases h
  · cases h
theorem unstk_bad {d : PyData} : unstk d = none ↔ isStacks d = false := by
  unfold unstk isStacks
  split
  · rename_i es
    by_cases z : okEntries (-1) es = true
    · rw [if_pos z]
      show _ ↔ okEntries (-1) es = false
      rw [z]
      simp
    · rw [if_neg z]
      show _ ↔ okEntries (-1) es = false
      simpa using z
  · simp
theorem Good.gt {l : Int} {r : Row} (g : Good l r) : ∀ p ∈ r, l < p.1 := by
  induction r generalizing l with
  | nil => intro p hp; simp at hp
  | cons p r ih =>
    obtain ⟨c, w⟩ := p
    obtain ⟨g1, _, _, g4⟩ := g
    intro q hq
    rcases List.mem_cons.mp hq with rfl | hq
    · exact g1
    · exact Int.lt_trans g1 (ih g4 q hq)
theorem Good.mem {l : Int} {r : Row} (g : Good l r) : ∀ p ∈ r, okW p.2 = true ∧ p.2 ≠ "" := by
  induction r generalizing l with
  | nil => intro p hp; simp at hp
  | cons p r ih =>
    obtain ⟨c, w⟩ := p
    obtain ⟨_, g2, g3, g4⟩ := g
    intro q hq
    rcases List.mem_cons.mp hq with rfl | hq
    · exact ⟨g2, g3⟩
    · exact ih g4 q hq
theorem Good.srt {l : Int} {r : Row} (g : Good l r) : Srt r := by
  refine ⟨?_, fun p hp => (g.mem p hp).2⟩
  induction r generalizing l with
  | nil => exact .nil
  | cons p r ih =>
    obtain ⟨c, w⟩ := p
    obtain ⟨_, _, _, g4⟩ := g
    exact .cons (fun q hq => g4.gt q hq) (ih g4)
theorem good_of {l : Int} {r : Row} (s : Srt r) (h : ∀ p ∈ r, l < p.1 ∧ okW p.2 = true) : Good l r := by
  induction r generalizing l with
  | nil => trivial
  | cons p r ih =>
    obtain ⟨c, w⟩ := p
    have s1 := List.pairwise_cons.mp s.1
    exact ⟨(h _ List.mem_cons_self).1, (h _ List.mem_cons_self).2, s.2 _ List.mem_cons_self,
      ih ⟨s1.2, fun q hq => s.2 q (List.mem_cons_of_mem _ hq)⟩ fun q hq => ⟨s1.1 q hq, (h q (List.mem_cons_of_mem _ hq)).2⟩⟩
theorem noL_rowD (r : Row) : noLs (rowD r) = true := noLs_all fun d hd => by
  obtain ⟨p, _, rfl⟩ := List.mem_map.mp hd
  rfl
/-- what checked stacks lead to -/
def onR (d : PyData) (f : Row → Out) : Out := match unstk d with
  | none => .stacks
  | some r => f r
theorem onR_none {d : PyData} {f : Row → Out} (e : unstk d = none) : onR d f = .stacks := by rw [onR, e]
theorem onR_some {d : PyData} {r : Row} {f : Row → Out} (e : unstk d = some r) : onR d f = f r := by rw [onR, e]
def spChk (K : PySem.W.Frag) : Sp := fun vs H Q E => ∃ v d, vs = [v] ∧ Dp K H v d ∧ Fit d ∧ ends K H Q E (onR d fun _ => .ok .none)
theorem chk {K : PySem.W.Frag} {H : Hp} {v : V} {d : PyData} {Q : VK} {E : XK} (hd : Dp K H v d) (fit : Fit d) (h0 : unstk d = none → rais K H E .stacks)
    (h1 : ∀ r, unstk d = some r → ∀ H', Same H H' → Q .non H') : spChk K [v] H Q E := by
  refine ⟨v, d, rfl, hd, fit, ?_⟩
  cases e : unstk d with
  | none => rw [onR_none e]; exact h0 e
  | some r =>
    rw [onR_some e]
    intro v' H' s hv
    cases hv
    exact h1 r e H' s
theorem rais_ends {K : PySem.W.Frag} {H : Hp} {Q : VK} {E : XK} (h : ends K H Q E .stacks) : rais K H E .stacks := h
section
variable {P : Program} {w : World} {K : PySem.W.Frag} {mg : Str → Option Value} {base : Heap}
abbrev N_check_stacks : List Str := ["value"]
abbrev P_check_stacks : List Str := ["value"]
theorem sc_check_stacks : FnScope N_check_stacks P_check_stacks (defScope s_check_stacks) := ⟨rfl, rfl, rfl, by decide +kernel, rfl, by decide +kernel, by decide +kernel⟩
theorem bn_check_stacks : ∀ (kV doc pm : Value) (an : Option Addr) (cdv ct : Value) (us : List Value), us.length = P_check_stacks.length → bindArgs (PySem.W.fnOf "check_stacks" "check_stacks" (defArgs s_check_stacks) (defBody s_check_stacks) (defScope s_check_stacks) .none kV doc pm an cdv ct) ⟨us, []⟩ = pure (P_check_stacks.zip us) := fun _ _ _ _ _ _ us hl => match us, hl with | [_], _ => rfl
theorem k_check_stacks (T : Txt K mg) : Knows P w K mg base (L2.CX P w) 3 "check_stacks" P_check_stacks (spChk K) := by
  have k_is_stacks := k_is_stacks (P := P) (w := w) (base := base) T
  refine knows_of T.g_check_stacks T.d_check_stacks bn_check_stacks fun fd F => F.ok sc_check_stacks (fun vs H Q E h => ?_) (fun cdv A outer s H vs Q E hr h => ?_)
  · obtain ⟨v, d, rfl, hd, fit, q⟩ := h
    rfl
  · obtain ⟨v, d, rfl, hd, fit, q⟩ := h
    have nd := sc_check_stacks.nd
    refine ⟨_, (pss_one (ps_if (pt_not (pt_val (pe_k k_is_stacks (hr.mono (by decide)) pass0 (pa_cons (pv 0) pa_nil)))) (pss_one (ps_raise rfl (takes_of rfl rfl rfl rfl) (MeX.pmk_none PySem.F.excBase_Exception T.x_BadStacks.x T.g_BadStacks T.x_BadStacks.kp T.x_BadStacks.raises rfl))) pss_nil)), ?_⟩
    walk_at "rd"
    walk_at "rs"
    refine ⟨_, _, rfl, hd, fit, fun H1 s1 => ⟨_, rfl, ?_⟩⟩
    walk_at "rs"
    refine ite2 (fun e => ?_) (fun e => ?_)
    · rw [onR_none (unstk_bad.mpr e)] at q
      exact q _ s1
    · cases z : unstk d with
      | none => exact absurd (unstk_bad.mp z) e
      | some r =>
        rw [onR_some z] at q
        exact q _ _ s1 .non
abbrev N__words_check_letter : List Str := ["letter"]
abbrev P__words_check_letter : List Str := ["letter"]
theorem sc__words_check_letter : FnScope N__words_check_letter P__words_check_letter (defScope s__words_check_letter) := ⟨rfl, rfl, rfl, by decide +kernel, rfl, by decide +kernel, by decide +kernel⟩
theorem bn__words_check_letter : ∀ (kV doc pm : Value) (an : Option Addr) (cdv ct : Value) (us : List Value), us.length = P__words_check_letter.length → bindArgs (PySem.W.fnOf "_words_check_letter" "_words_check_letter" (defArgs s__words_check_letter) (defBody s__words_check_letter) (defScope s__words_check_letter) .none kV doc pm an cdv ct) ⟨us, []⟩ = pure (P__words_check_letter.zip us) := fun _ _ _ _ _ _ us hl => match us, hl with | [_], _ => rfl
/-- a letter -/
def okLet : PyData → Bool
  | .str s => s == "1" || s == "2"
  | _ => false
def mLet (d : PyData) : Out := if okLet d = true then .ok .none else .num "letter"
def spLet (K : PySem.W.Frag) : Sp := fun vs H Q E => ∃ v d, vs = [v] ∧ Dp K H v d ∧ ends K H Q E (mLet d)
theorem inLet (z : Str) : inV (.str z) [.str "1", .str "2"] = okLet (.str z) := by
  show ((("1" : Str) == z) || ((("2" : Str) == z) || false)) = (z == "1" || z == "2")
  rw [Bool.or_false, BEq.comm (a := ("1" : Str)), BEq.comm (a := ("2" : Str))]
theorem k__words_check_letter (T : Txt K mg) : Knows P w K mg base (L2.CX P w) 3 "_words_check_letter" P__words_check_letter (spLet K) := by
  have i_BadNumber := i_init (P := P) (w := w) (base := base) T
  refine knows_of T.g__words_check_letter T.d__words_check_letter bn__words_check_letter fun fd F => F.ok sc__words_check_letter (fun vs H Q E h => ?_) (fun cdv A outer s H vs Q E hr h => ?_)
  · obtain ⟨v, d, rfl, hd, q⟩ := h
    rfl
  · obtain ⟨v, d, rfl, hd, q⟩ := h
    have nd := sc__words_check_letter.nd
    refine ⟨_, (pss_one (ps_if (PW.pt (pw_or (pt_not (pt_val (pe_callB (isiK (K := K)) rfl T.f_isinstance (by decide +kernel) (pa_cons (pv 0) (pa_cons (pe_bltn (v := .ty "str") rfl T.f_str (by decide +kernel) rfl) pa_nil))))) (pw_or1 (pt_cmpR (notIn_seqK (K := K)) (pv 0) (pe_glob (v := .ref _) rfl T.g_LETTERS rfl) (by with_unfolding_all rfl))))) (pss_one (ps_raise rfl (takes_of rfl rfl rfl rfl) (pmk_one T.x_BadNumber.o T.x_BadNumber.i T.x_BadNumber.t i_BadNumber (hr.mono (by decide)) pass0 T.g_BadNumber (pa_cons pe_str pa_nil) mono_c))) pss_nil)), ?_⟩
    walk_at "rd"
    walk_at "rs"
    have bad : ∀ H1, Same H H1 → okLet d = false → ∀ (dd : Addr) (H' : Hp), Same H1 H' → H1 dd = none → H' dd = some (HO.xd [("name", V.str "letter")]) → E (Value.ref (He.ga K "BadNumber")) (some dd) H' := fun H1 s1 e dd H' s' _ he => by
      unfold mLet at q
      rw [if_neg (by rw [e]; decide)] at q
      exact q dd H' (s1.trans s') he
    refine isi_str hd ⟨_, rfl, ?_⟩
    cases hd with
    | str z =>
      simp only [isS]
      walk_at "rs"
      refine ⟨_, _, rfl, .inr (T.c_LETTERS H), rfl, rfl, ?_⟩
      rw [inLet]
      walk_at "rs"
      refine ite2 (fun e => bad _ (Same.refl _) (by simpa using e)) (fun e => ?_)
      have e : okLet (.str z) = true := by simpa using e
      unfold mLet at q
      rw [if_pos e] at q
      exact q _ _ (Same.refl _) .non
    | _ =>
      simp only [isS]
      walk_at "rs"
      exact bad _ (Same.refl _) rfl
abbrev N__words_at : List Str := ["stacks", "colour", "held", "word"]
abbrev P__words_at : List Str := ["stacks", "colour"]
theorem sc__words_at : FnScope N__words_at P__words_at (defScope s__words_at) := ⟨rfl, rfl, rfl, by decide +kernel, rfl, by decide +kernel, by decide +kernel⟩
theorem bn__words_at : ∀ (kV doc pm : Value) (an : Option Addr) (cdv ct : Value) (us : List Value), us.length = P__words_at.length → bindArgs (PySem.W.fnOf "_words_at" "_words_at" (defArgs s__words_at) (defBody s__words_at) (defScope s__words_at) .none kV doc pm an cdv ct) ⟨us, []⟩ = pure (P__words_at.zip us) := fun _ _ _ _ _ _ us hl => match us, hl with | [_, _], _ => rfl
def spAt (K : PySem.W.Frag) : Sp := fun vs H Q _ => ∃ v r c, vs = [v, .int c] ∧ Dp K H v (.tuple (rowD r)) ∧ ∀ H', Same H H' → Q (.str (atR r c)) H'
/-- a pair of a row, taken apart -/
theorem ent_at {K : PySem.W.Frag} {H : Hp} {y : V} {p : Int × Str} (h : Dp K H y (ent p)) : ∃ a, y = .ref a ∧ SqT K H a [.int p.1, .str p.2] := by
  obtain ⟨a, xs, rfl, hS, hx⟩ := Dp.tupleAt h
  cases hx with
  | cons h1 h2 =>
  cases h2 with
  | cons h2 h3 =>
  cases h3
  cases h1
  cases h2
  exact ⟨a, rfl, hS⟩
theorem k__words_at (T : Txt K mg) : Knows P w K mg base CX0 1 "_words_at" P__words_at (spAt K) := by
  refine knows_of T.g__words_at T.d__words_at bn__words_at fun fd F => F.ok sc__words_at (fun vs H Q E h => ?_) (fun cdv A outer s H vs Q E hr h => ?_)
  · obtain ⟨v, r, c, rfl, hd, q⟩ := h
    rfl
  · obtain ⟨v, r, c, rfl, hd, q⟩ := h
    have nd := sc__words_at.nd
    refine ⟨_, (pss_cons (ps_for (passes_of rfl) rfl (pi_tup (pv 0)) (pg_tupK (K := K) (n := 2) rfl (pgs_cons (pg_name (i := 2) nd rfl (Or.inl rfl)) (pgs_cons (pg_name (i := 3) nd rfl (Or.inl rfl)) pgs_nil))) (pss_one (ps_if (pt_cmpR op_eq (pv 2) (pv 1) (nomark _)) (pss_one (ps_ret (pv 3))) pss_nil)))
      (pss_one (ps_ret pe_str))), ?_⟩
    walk_at "rd"
    walk_at "rs"
    refine loopT_map ent hd (fun l σ H' => Same H H' ∧ ∃ a b, σ = [some v, some (.int c), a, b] ∧ atR l c = atR r c) ⟨Same.refl _, _, _, rfl, rfl⟩ (fun _ _ _ h => h.1) (fun y d l σ H' hm h hy N hN => ?_) (fun σ H' h => ?_)
    · obtain ⟨s1, a, b, rfl, e⟩ := h
      obtain ⟨p, rfl, hS⟩ := ent_at hy
      obtain ⟨k, u⟩ := d
      walk_at "rd"
      walk_at "rs"
      refine ⟨_, hS, rfl, _, _, rfl, _, _, rfl, rfl, ?_⟩
      walk_at "rs"
      refine ite2 (fun z => ?_) (fun z => hN _ _ ⟨s1, _, _, rfl, ?_⟩)
      · rw [← e, atR, if_pos z] at q
        exact q _ s1
      · rw [← e, atR, if_neg z]
    · obtain ⟨s1, a, b, rfl, e⟩ := h
      walk_at "rd"
      walk_at "rs"
      rw [← e] at q
      exact q _ s1
abbrev N__words_with : List Str := ["stacks", "colour", "word", "low", "high", "middle", "entry"]
abbrev P__words_with : List Str := ["stacks", "colour", "word"]
theorem sc__words_with : FnScope N__words_with P__words_with (defScope s__words_with) := ⟨rfl, rfl, rfl, by decide +kernel, rfl, by decide +kernel, by decide +kernel⟩
theorem bn__words_with : ∀ (kV doc pm : Value) (an : Option Addr) (cdv ct : Value) (us : List Value), us.length = P__words_with.length → bindArgs (PySem.W.fnOf "_words_with" "_words_with" (defArgs s__words_with) (defBody s__words_with) (defScope s__words_with) .none kV doc pm an cdv ct) ⟨us, []⟩ = pure (P__words_with.zip us) := fun _ _ _ _ _ _ us hl => match us, hl with | [_, _, _], _ => rfl
def spWith (K : PySem.W.Frag) : Sp := fun vs H Q _ => ∃ v r c w, vs = [v, .int c, .str w] ∧ Dp K H v (.tuple (rowD r)) ∧ r.length ≤ 30 ∧ ∀ v' H', Same H H' → Dp K H' v' (.tuple (rowD (withR r c w))) → Q v' H'
theorem fm_row (r : Row) (f : Int × Str → Bool) : (r.filterMap fun p => if f p = true then some (ent p) else none) = rowD (r.filter f) := by
  induction r with
  | nil => rfl
  | cons p r ih =>
    rw [List.filterMap_cons, List.filter_cons]
    by_cases e : f p = true
    · rw [if_pos e, if_pos e, ih]
      rfl
    · rw [if_neg e, if_neg e, ih]
theorem k__words_with (T : Txt K mg) : Knows P w K mg base CX0 1 "_words_with" P__words_with (spWith K) := by
  refine knows_of T.g__words_with T.d__words_with bn__words_with fun fd F => F.ok sc__words_with (fun vs H Q E h => ?_) (fun cdv A outer s H vs Q E hr h => ?_)
  · obtain ⟨v, r, c, u, rfl, hd, hl, q⟩ := h
    rfl
  · obtain ⟨v, r, c, u, rfl, hd, hl, q⟩ := h
    have nd := sc__words_with.nd
    refine ⟨_, (pss_cons (ps_setLc (i := 3) (own := [("entry", 6)]) rfl nd rfl rfl (sw_true rfl rfl rfl (by decide +kernel)) (pi_tup (pv 0)) (blkOk_by (N := N__words_with) (sc := defScope s__words_with) (by decide +kernel)) (fun _ _ _ _ _ => (pg_name (i := 6) nd rfl (Or.inl rfl))) (fun _ _ _ _ _ => (pts_one (pt_cmpR op_lt (pe_ix (ix_tupK (K := K)) (pv 6) pe_int (fun _ _ => rfl)) (pv 1) (nomark _)))) (fun _ _ _ _ _ => (pv 6)))
      (pss_cons (ps_setLc (i := 4) (own := [("entry", 6)]) rfl nd rfl rfl (sw_true rfl rfl rfl (by decide +kernel)) (pi_tup (pv 0)) (blkOk_by (N := N__words_with) (sc := defScope s__words_with) (by decide +kernel)) (fun _ _ _ _ _ => (pg_name (i := 6) nd rfl (Or.inl rfl))) (fun _ _ _ _ _ => (pts_one (pt_cmpR op_gt (pe_ix (ix_tupK (K := K)) (pv 6) pe_int (fun _ _ => rfl)) (pv 1) (nomark _)))) (fun _ _ _ _ _ => (pv 6)))
      (pss_cons (ps_set (i := 5) nd rfl (Or.inl rfl) (pe_ifExp (pt_cmpR op_ne (pv 2) pe_str (nomark _)) (pe_lst (pa_cons (pe_tup (pa_cons (pv 1) (pa_cons (pv 2) pa_nil))) pa_nil)) (pe_lst pa_nil)))
      (pss_one (ps_ret (pe_callTy (tupleK (K := K)) rfl T.f_tuple (by decide +kernel) (pa_cons (pe_op op_cat (pe_op op_cat (pv 3) (pv 5)) (pv 4)) pa_nil))))))), ?_⟩
    walk_at "rd"
    walk_at "rs"
    refine compT_map ent hd (fun p => if decide (p.1 < c) = true then some (ent p) else none) (by omega) (fun p _ e he => ?_) (fun p _ => ?_) fun p1 H1 _ s1 l1 e1 d1 => ?_
    · split at he <;> cases he
      rfl
    · intro y H' N Y s1 hy hN hY
      obtain ⟨a, rfl, hS⟩ := ent_at hy
      walk_at "rd"
      walk_at "rs"
      refine ixT0 hS ⟨_, rfl, ?_⟩
      walk_at "rs"
      refine ite2 (fun e => hY _ _ _ (Same.refl _) (if_pos (decide_eq_true e)) hy) (fun e => hN _ (Same.refl _) (if_neg (by simpa using e)))
    refine compT_map ent (hd.same s1) (fun p => if decide (p.1 > c) = true then some (ent p) else none) (by omega) (fun p _ e he => ?_) (fun p _ => ?_) fun p2 H2 _ s2 l2 e2 d2 => ?_
    · split at he <;> cases he
      rfl
    · intro y H' N Y s1 hy hN hY
      obtain ⟨a, rfl, hS⟩ := ent_at hy
      walk_at "rd"
      walk_at "rs"
      refine ixT0 hS ⟨_, rfl, ?_⟩
      walk_at "rs"
      refine ite2 (fun e => hY _ _ _ (Same.refl _) (if_pos (decide_eq_true e)) hy) (fun e => hN _ (Same.refl _) (if_neg (by simpa using e)))
    rw [fm_row r (fun p => decide (p.1 < c))] at d1
    rw [fm_row r (fun p => decide (p.1 > c))] at d2
    have z1 : l1.length ≤ 30 := by rw [d1.len, rowD, List.length_map]; exact Nat.le_trans (List.length_filter_le ..) hl
    have z2 : l2.length ≤ 30 := by rw [d2.len, rowD, List.length_map]; exact Nat.le_trans (List.length_filter_le ..) hl
    have fin : ∀ H3 (m : Addr) (ms : List V), Same H2 H3 → H3 m = some (.lst ms) → ms.length ≤ 1 → DpAll K H3 ms (rowD (if u = "" then [] else [(c, u)])) →
        rCat (.ref p1) (.ref m) H3 fun x H1 => rCat x (.ref p2) H1 fun x H1 => rTupQ K [x] H1 Q := fun H3 m ms s3 em zm dm => by
      refine cat_of (s3 _ _ (s2 _ _ e1)) em (by omega) fun p4 H4 s4 e4 => ?_
      refine cat_of e4 (s4 _ _ (s3 _ _ e2)) (by rw [List.length_append]; omega) fun p5 H5 s5 e5 => ?_
      refine tup_of e5 ((((d1.same s2).same s3).same (s4.trans s5)).append ((dm.same (s4.trans s5))) |>.append ((d2.same s3).same (s4.trans s5))) fun v' H6 s6 h6 => q v' H6 (s1.trans (s2.trans (s3.trans (s4.trans (s5.trans s6))))) ?_
      rw [withR, rowD, List.map_append, List.map_append, ← List.append_assoc]
      exact h6
    refine ite2 (fun e => ?_) (fun e => ?_)
    · refine ⟨by decide, fun t ht => ⟨by decide, fun m hm => ?_⟩⟩
      refine fin _ m _ ((same_new ht).trans (same_new hm)) upd_same (Nat.le_refl _) ?_
      rw [if_neg e]
      exact .one (.tup (SqT.of (by rw [upd_ne (fun z => by rw [z] at hm; rw [upd_same] at hm; cases hm)]; exact upd_same)) (.cons (.int c) (.cons (.str u) .nil)))
    · refine ⟨by decide, fun m hm => ?_⟩
      refine fin _ m _ (same_new hm) upd_same (by decide) ?_
      rw [if_pos (by simpa using e)]
      exact .nil
abbrev N__words_sorted : List Str := ["told", "colour"]
abbrev P__words_sorted : List Str := ["told"]
theorem sc__words_sorted : FnScope N__words_sorted P__words_sorted (defScope s__words_sorted) := ⟨rfl, rfl, rfl, by decide +kernel, rfl, by decide +kernel, by decide +kernel⟩
theorem bn__words_sorted : ∀ (kV doc pm : Value) (an : Option Addr) (cdv ct : Value) (us : List Value), us.length = P__words_sorted.length → bindArgs (PySem.W.fnOf "_words_sorted" "_words_sorted" (defArgs s__words_sorted) (defBody s__words_sorted) (defScope s__words_sorted) .none kV doc pm an cdv ct) ⟨us, []⟩ = pure (P__words_sorted.zip us) := fun _ _ _ _ _ _ us hl => match us, hl with | [_], _ => rfl
def spSorted (K : PySem.W.Frag) : Sp := fun vs H Q _ => ∃ a r, vs = [.ref a] ∧ H a = some (.dK (dk r)) ∧ (keys r).Nodup ∧ r.length ≤ 63 ∧
  ∀ v' H', Same H H' → Dp K H' v' (.tuple (rowD (sorR r))) → Q v' H'
theorem k__words_sorted (T : Txt K mg) : Knows P w K mg base CX0 1 "_words_sorted" P__words_sorted (spSorted K) := by
  refine knows_of T.g__words_sorted T.d__words_sorted bn__words_sorted fun fd F => F.ok sc__words_sorted (fun vs H Q E h => ?_) (fun cdv A outer s H vs Q E hr h => ?_)
  · obtain ⟨a, r, rfl, ha, nk, hl, q⟩ := h
    rfl
  · obtain ⟨a, r, rfl, ha, nk, hl, q⟩ := h
    have nd := sc__words_sorted.nd
    refine ⟨_, (pss_one (ps_ret (pe_callTy (tupleK (K := K)) rfl T.f_tuple (by decide +kernel) (pa_cons (pe_lc (own := [("colour", 1)]) rfl nd (pi_list (pe_callB (sortDI rfl) rfl T.f_sorted (by decide +kernel) (pa_cons (pv 0) pa_nil))) (blkOk_by (N := N__words_sorted) (sc := defScope s__words_sorted) (by decide +kernel)) (fun _ _ _ _ _ => (pg_name (i := 1) nd rfl (Or.inl rfl))) (fun _ _ _ _ _ => (pts_one (pt_cmpR op_ne (pe_dget (hu_of hr) (pv 0) (pv 1) (fun _ _ => rfl)) pe_str (nomark _)))) (fun _ _ _ _ _ => (pe_tup (pa_cons (pv 1) (pa_cons (pe_dget (hu_of hr) (pv 0) (pv 1) (fun _ _ => rfl)) pa_nil))))) pa_nil)))), ?_⟩
    walk_at "rd"
    walk_at "rs"
    refine ⟨a, dk r, keys r, rfl, .of ha, by simp [dk, keys], by simp [keys]; omega, fun ys p hp1 hp2 hp => ?_⟩
    have ly : ys.length ≤ 63 := by rw [hp1.length_eq, keys, List.length_map]; exact hl
    refine compL_map PyData.int (as := ys) (.lst (SqL.of upd_same) (DpAll.ints ys)) (fun c => if atR r c = "" then none else some (ent (c, atR r c))) (by omega) (fun c _ e he => ?_) (fun c hc => ?_) fun p1 H1 _ s1 l1 e1 d1 => ?_
    · split at he <;> cases he
      rfl
    · intro y H' N Y s1 hy hN hY
      cases hy
      have ha' : H' a = some (.dK (dk r)) := s1 _ _ (same_new hp _ _ ha)
      have hv : DGet H' a (.int c) (some (.str (atR r c))) := .inl ⟨dk r, .inl c, .of ha', rfl, (valV_dk (hp1.mem_iff.mp hc)).symm⟩
      walk_at "rd"
      walk_at "rs"
      refine ⟨_, hv, ?_⟩
      walk_at "rs"
      refine ite2 (fun e => ?_) (fun e => hN _ (Same.refl _) (if_pos (by simpa using e)))
      refine ⟨_, hv, by decide, fun t ht => hY _ _ _ (same_new ht) (if_neg e) (.tup (SqT.of upd_same) (.cons (.int c) (.cons (.str _) .nil)))⟩
    refine tup_of e1 d1 fun v' H2 s2 h2 => q v' H2 ((same_new hp).trans (s1.trans s2)) ?_
    have e : (ys.filterMap fun c => if atR r c = "" then none else some (ent (c, atR r c))) = rowD (outR ys (atR r)) := by
      rw [rowD, outR, List.map_filterMap]
      refine congrArg (fun f => ys.filterMap f) (funext fun c => ?_)
      show _ = Option.map ent _
      split <;> rfl
    rw [e, out_sor nk (lt_of_le hp2 (hp1.symm.nodup nk)) (fun x hx => atR_none fun z => hx (hp1.mem_iff.mpr z))] at h2
    exact h2
abbrev N__words_agree : List Str := ["first", "second", "colour", "word", "mate"]
abbrev P__words_agree : List Str := ["first", "second"]
theorem sc__words_agree : FnScope N__words_agree P__words_agree (defScope s__words_agree) := ⟨rfl, rfl, rfl, by decide +kernel, rfl, by decide +kernel, by decide +kernel⟩
theorem bn__words_agree : ∀ (kV doc pm : Value) (an : Option Addr) (cdv ct : Value) (us : List Value), us.length = P__words_agree.length → bindArgs (PySem.W.fnOf "_words_agree" "_words_agree" (defArgs s__words_agree) (defBody s__words_agree) (defScope s__words_agree) .none kV doc pm an cdv ct) ⟨us, []⟩ = pure (P__words_agree.zip us) := fun _ _ _ _ _ _ us hl => match us, hl with | [_, _], _ => rfl
/-- one the beginning of the other -/
def alike (a b : Str) : Bool := Txt.startswith a b || Txt.startswith b a
def agR (r s : Row) : Bool := r.all fun p => alike p.2 (atR s p.1)
def spAg (K : PySem.W.Frag) : Sp := fun vs H Q _ => ∃ v u r s, vs = [v, u] ∧ Dp K H v (.tuple (rowD r)) ∧ Dp K H u (.tuple (rowD s)) ∧ ∀ H', Same H H' → Q (.bl (agR r s)) H'
theorem k__words_agree (T : Txt K mg) : Knows P w K mg base CX0 2 "_words_agree" P__words_agree (spAg K) := by
  have k__words_at := k__words_at (P := P) (w := w) (base := base) T
  refine knows_of T.g__words_agree T.d__words_agree bn__words_agree fun fd F => F.ok sc__words_agree (fun vs H Q E h => ?_) (fun cdv A outer s H vs Q E hr h => ?_)
  · obtain ⟨v, u, r, s, rfl, hd, hd2, q⟩ := h
    rfl
  · obtain ⟨v, u, r, s, rfl, hd, hd2, q⟩ := h
    have nd := sc__words_agree.nd
    refine ⟨_, (pss_cons (ps_for (passes_of rfl) rfl (pi_tup (pv 0)) (pg_tupK (K := K) (n := 2) rfl (pgs_cons (pg_name (i := 2) nd rfl (Or.inl rfl)) (pgs_cons (pg_name (i := 3) nd rfl (Or.inl rfl)) pgs_nil))) (pss_cons (ps_set (i := 4) nd rfl (Or.inl rfl) (pe_k k__words_at (hr.mono (by decide)) pass0 (pa_cons (pv 1) (pa_cons (pv 2) pa_nil))))
      (pss_one (ps_if (PW.pt (pw_and (pt_not (pt_val (pe_bm PySem.F.plainAttrs_str PySem.F.slot_str_startswith PySem.F.type_str_startswith mt_startswith (pv 3) (pa_cons (pv 4) pa_nil)))) (pw_and1 (pt_not (pt_val (pe_bm PySem.F.plainAttrs_str PySem.F.slot_str_startswith PySem.F.type_str_startswith mt_startswith (pv 4) (pa_cons (pv 3) pa_nil))))))) (pss_one (ps_ret pe_bl)) pss_nil))))
      (pss_one (ps_ret pe_bl))), ?_⟩
    walk_at "rd"
    walk_at "rs"
    refine loopT_map ent hd (fun l σ H' => Same H H' ∧ ∃ a b c, σ = [some v, some u, a, b, c] ∧ agR l s = agR r s) ⟨Same.refl _, _, _, _, rfl, rfl⟩ (fun _ _ _ h => h.1) (fun y d l σ H' hm h hy N hN => ?_) (fun σ H' h => ?_)
    · obtain ⟨s1, a, b, c, rfl, e⟩ := h
      obtain ⟨p, rfl, hS⟩ := ent_at hy
      obtain ⟨k, z⟩ := d
      walk_at "rd"
      walk_at "rs"
      refine ⟨_, hS, rfl, _, _, rfl, _, _, rfl, rfl, ?_⟩
      refine ⟨_, _, _, rfl, hd2.same s1, fun H2 s2 => ?_⟩
      walk_at "rs"
      have fin : alike z (atR s k) = true → N [some v, some u, some (V.int k), some (V.str z), some (V.str (atR s k))] H2 := fun g =>
        hN _ _ ⟨s1.trans s2, _, _, _, rfl, by rw [← e]; show _ = (alike z (atR s k) && agR l s); rw [g]; rfl⟩
      refine ite2 (fun e1 => ite2 (fun e2 => ?_) (fun e2 => ?_)) (fun e1 => ?_)
      · have g : agR r s = false := by rw [← e, agR, List.all_cons, alike, e1, e2]; rfl
        rw [← g]
        exact q _ (s1.trans s2)
      · exact fin (by rw [alike, e1]; simpa using e2)
      · exact fin (by rw [alike, Bool.or_eq_true]; exact .inl (by simpa using e1))
    · obtain ⟨s1, a, b, c, rfl, e⟩ := h
      walk_at "rd"
      walk_at "rs"
      rw [← e] at q
      exact q _ s1
end
end K19

namespace K19
open PySem PySem.Spec PyProof.Rows L2 MeD MeK MeL
local macro_rules | `(tactic| walk_at "rd") => `(tactic| (dsimp only [tVar, tC, tOp, tUn, tCons, tNil, tTup, tLst, tCB, tK, tKS, tTest, tB, tAnd, tOr, tNot, tAndV, tOrV, tNotV, tIf, tIfS, tSeq, tNext, tRet, tRetN, tDrop, tAsg, gName, gTup, gNil, gCons, wipe, tYes, tSl, tPart, tNoPart, tBM, tBM0,  tBreak, tCont, gLst, tDGet, tDIn, tDNotIn, sDPut, tDNewK, MeL.for_tup_eq, MeL.for_list_eq, MeL.for_str_eq, MeL.for_rng_eq, MeL.for_row_eq, MeL.lc_tup_eq, MeL.lc_list_eq, MeL.lc_str_eq, MeL.lc_rng_eq, rI0, rI, rU, tRs1, cxOf, Cx.tr, Cx.suite, L2.start, List.map, List.replicate, List.length, List.append, HAppend.hAppend, Append.append, Nat.reduceAdd, Nat.reduceSub]))
local macro_rules | `(tactic| walk_at "rs") => `(tactic| (try simp only [List.getElem?_cons_zero, List.getElem?_cons_succ, Option.some.injEq, exists_eq_left', exists_eq_left, V.bl.injEq, V.int.injEq, V.str.injEq, V.ref.injEq, List.cons.injEq, and_true, true_and, and_self, exists_and_left, exists_eq', exists_eq, ↓reduceIte, reduceCtorEq, Bool.false_eq_true, false_and, exists_const, exists_false, decide_true, decide_false, Bool.not_true, Bool.not_false, List.set_cons_zero, List.set_cons_succ, MeK.tyv_str, or_false, MeL.for_row_eq, MeK.req_int, MeK.rne_int, MeK.req_str, MeK.rne_str, MeK.req_bl, MeK.rne_bl, decide_eq_true_eq, Bool.not_eq_true', decide_eq_false_iff_not, Int.natCast_inj]))
/-! ### stacks_from -/
def pair2 : PyData → PyData → Option (Int × Str)
  | .int c, .str w => some (c, w)
  | _, _ => none
def pairOf (e : PyData) : Option (Int × Str) := match itemsD e with
  | some [a, b] => pair2 a b
  | _ => none
def fromR : Row → List PyData → Option Row
  | told, [] => some told
  | told, e :: es => match pairOf e with
    | some (c, w) => if 0 ≤ c ∧ c ∉ keys told ∧ okW w = true then fromR (told ++ [(c, w)]) es else none
    | none => none
def mFrom (d : PyData) : Out := match itemsD d with
  | some ds => match fromR [] ds with
    | some r => .ok (.tuple (rowD (sorR r)))
    | none => .stacks
  | none => .stacks
def FitP (d : PyData) : Prop := ∀ ds, itemsD d = some ds → ds.length ≤ 30 ∧ ∀ e ∈ ds, ∀ c w, itemsD e = some [c, .str w] → w.length ≤ 20000
def spFrom (K : PySem.W.Frag) : Sp := fun vs H Q E => ∃ v d, vs = [v] ∧ Dp K H v d ∧ FitP d ∧ ends K H Q E (mFrom d)
theorem from_none {told : Row} {e : PyData} {es : List PyData} (h : pairOf e = none) : fromR told (e :: es) = none := by rw [fromR, h]
theorem pair_len {e : PyData} {xs : List PyData} (h : itemsD e = some xs) (n : xs.length ≠ 2) : pairOf e = none := by
  unfold pairOf
  rw [h]
  split
  · rename_i heq
    cases heq
    exact absurd rfl n
  · rfl
theorem pair_two {e a b : PyData} (h : itemsD e = some [a, b]) : pairOf e = pair2 a b := by
  unfold pairOf
  rw [h]
theorem from_bad {told : Row} {e d2 : PyData} {es : List PyData} {i : Int} (pe : pairOf e = pair2 (.int i) d2) (h : i < 0 ∨ i ∈ keys told ∨ isWord d2 = false) : fromR told (e :: es) = none := by
  cases d2 with
  | str w =>
    rw [fromR, pe]
    show (if _ then _ else _) = none
    rw [if_neg]
    rintro ⟨a, b, c⟩
    rcases h with h | h | h
    · omega
    · exact b h
    · exact absurd ((show okW w = false from h).symm.trans c) (by decide)
  | _ => exact from_none pe
theorem from_ok {told : Row} {e : PyData} {es : List PyData} {i : Int} {w : Str} (pe : pairOf e = some (i, w)) (h : 0 ≤ i ∧ i ∉ keys told ∧ okW w = true) : fromR told (e :: es) = fromR (told ++ [(i, w)]) es := by
  rw [fromR, pe]
  show (if _ then _ else _) = _
  rw [if_pos h]
theorem len_dk (r : Row) : (dk r).length = r.length := List.length_map ..
section
variable {P : Program} {w : World} {K : PySem.W.Frag} {mg : Str → Option Value} {base : Heap}
abbrev N_stacks_from : List Str := ["pairs", "told", "entry", "colour", "word"]
abbrev P_stacks_from : List Str := ["pairs"]
theorem sc_stacks_from : FnScope N_stacks_from P_stacks_from (defScope s_stacks_from) := ⟨rfl, rfl, rfl, by decide +kernel, rfl, by decide +kernel, by decide +kernel⟩
theorem bn_stacks_from : ∀ (kV doc pm : Value) (an : Option Addr) (cdv ct : Value) (us : List Value), us.length = P_stacks_from.length → bindArgs (PySem.W.fnOf "stacks_from" "stacks_from" (defArgs s_stacks_from) (defBody s_stacks_from) (defScope s_stacks_from) .none kV doc pm an cdv ct) ⟨us, []⟩ = pure (P_stacks_from.zip us) := fun _ _ _ _ _ _ us hl => match us, hl with | [_], _ => rfl
theorem k_stacks_from (T : Txt K mg) : Knows P w K mg base (L2.CX P w) 3 "stacks_from" P_stacks_from (spFrom K) := by
  have k__words_sorted := k__words_sorted (P := P) (w := w) (base := base) T
  have k_is_row := k_is_row (P := P) (w := w) (base := base) T
  have k_is_int := k_is_int (P := P) (w := w) (base := base) T
  have k_is_word := k_is_word (P := P) (w := w) (base := base) T
  refine knows_of T.g_stacks_from T.d_stacks_from bn_stacks_from fun fd F => F.ok sc_stacks_from (fun vs H Q E h => ?_) (fun cdv A outer s H vs Q E hr h => ?_)
  · obtain ⟨v, d, rfl, hd, fit, q⟩ := h
    rfl
  · obtain ⟨v, d, rfl, hd, fit, q⟩ := h
    have nd := sc_stacks_from.nd
    refine ⟨_, (pss_cons (ps_if (pt_not (pt_val (pe_k k_is_row (hr.mono (by decide)) pass0 (pa_cons (pv 0) pa_nil)))) (pss_one (ps_raise rfl (takes_of rfl rfl rfl rfl) (MeX.pmk_none PySem.F.excBase_Exception T.x_BadStacks.x T.g_BadStacks T.x_BadStacks.kp T.x_BadStacks.raises rfl))) pss_nil)
      (pss_cons (ps_set (i := 1) nd rfl (Or.inl rfl) pe_dnewK)
      (pss_cons (ps_for (passes_of rfl) rfl (MeL.pi_row (pv 0)) (pg_name (i := 2) nd rfl (Or.inl rfl)) (pss_cons (ps_if (PW.pt (pw_or (pt_not (pt_val (pe_k k_is_row (hr.mono (by decide)) pass0 (pa_cons (pv 2) pa_nil)))) (pw_or1 (pt_cmpR op_ne (pe_callB (lenK (K := K)) rfl T.f_len (by decide +kernel) (pa_cons (pv 2) pa_nil)) pe_int (nomark _))))) (pss_one (ps_raise rfl (takes_of rfl rfl rfl rfl) (MeX.pmk_none PySem.F.excBase_Exception T.x_BadStacks.x T.g_BadStacks T.x_BadStacks.kp T.x_BadStacks.raises rfl))) pss_nil)
      (pss_cons (ps_asg (pv 2) (pg_or (pg_tupK (K := K) (n := 2) rfl (pgs_cons (pg_name (i := 3) nd rfl (Or.inl rfl)) (pgs_cons (pg_name (i := 4) nd rfl (Or.inl rfl)) pgs_nil))) (pg_lstK (K := K) (n := 2) rfl (pgs_cons (pg_name (i := 3) nd rfl (Or.inl rfl)) (pgs_cons (pg_name (i := 4) nd rfl (Or.inl rfl)) pgs_nil)))))
      (pss_cons (ps_if (PW.pt (pw_or (pt_not (pt_val (pe_k k_is_int (hr.mono (by decide)) pass0 (pa_cons (pv 3) pa_nil)))) (pw_or (pt_cmpR op_lt (pv 3) pe_int (nomark _)) (pw_or (pt_cmp (pc_din (hu_of hr) (pv 3) (pv 1))) (pw_or1 (pt_not (pt_val (pe_k k_is_word (hr.mono (by decide)) pass0 (pa_cons (pv 4) pa_nil))))))))) (pss_one (ps_raise rfl (takes_of rfl rfl rfl rfl) (MeX.pmk_none PySem.F.excBase_Exception T.x_BadStacks.x T.g_BadStacks T.x_BadStacks.kp T.x_BadStacks.raises rfl))) pss_nil)
      (pss_one (ps_dput (hu_of hr) (pv 1) (pv 3) (pv 4) rfl))))))
      (pss_one (ps_ret (pe_k k__words_sorted (hr.mono (by decide)) pass0 (pa_cons (pv 1) pa_nil))))))), ?_⟩
    walk_at "rd"
    walk_at "rs"
    refine ⟨_, _, rfl, hd, fun H1 s1 => ⟨_, rfl, ?_⟩⟩
    simp only [items_row]
    cases ed : itemsD d with
    | none =>
      walk_at "rs"
      rw [mFrom, ed] at q
      exact q _ s1
    | some ds =>
      rw [mFrom, ed] at q
      dsimp only at q
      obtain ⟨fit1, fit2⟩ := fit ds ed
      have q1 : fromR [] ds = none → ∀ H', Same H H' → E (.ref (He.ga K "BadStacks")) none H' := fun z => by
        rw [z] at q
        exact q
      have q2 : ∀ r, fromR [] ds = some r → ∀ v' H', Same H H' → Dp K H' v' (.tuple (rowD (sorR r))) → Q v' H' := fun r z => by
        rw [z] at q
        exact q
      clear q
      walk_at "rs"
      intro p hp
      have hp0 : H p = none := (kept_of (M := []) s1).free hp
      walk_at "rd"
      walk_at "rs"
      refine loopW_same hd ed (fun l σ H' => Same H H' ∧ ∃ told a b c, σ = [some v, some (.ref p), a, b, c] ∧ H' p = some (.dK (dk told)) ∧ (keys told).Nodup ∧ told.length + l.length = ds.length ∧ fromR told l = fromR [] ds)
        ⟨put_same s1 hp0, [], _, _, _, rfl, upd_same, .nil, by simp, rfl⟩ (fun _ _ _ h => h.1) (fun y e l σ H' hm h hy => ?_) (fun σ H' h => ?_)
      · obtain ⟨s2, told, a, b, c, rfl, e1, nt, hl, ef⟩ := h
        have stop : fromR told (e :: l) = none → ∀ H2, Same H' H2 → E (.ref (He.ga K "BadStacks")) none H2 := fun z H2 s3 => q1 (by rw [← ef, z]) H2 (s2.trans s3)
        walk_at "rd"
        walk_at "rs"
        refine ⟨_, _, rfl, hy, fun H2 s3 => ⟨_, rfl, ?_⟩⟩
        simp only [items_row]
        refine ite2 (fun g => ?_) (fun g => ?_)
        · refine stop (from_none ?_) _ s3
          rw [pairOf]
          cases ee : itemsD e with
          | none => rfl
          | some es => rw [ee] at g; cases g
        · cases ee : itemsD e with
          | none => rw [ee] at g; exact absurd rfl g
          | some es =>
          obtain ⟨t, vs, rfl, hS, hes⟩ := items_at (hy.same s3) ee
          refine ⟨t, vs, rfl, hS, ?_⟩
          walk_at "rs"
          have hle := hes.len
          refine ite2 (fun g => stop (from_none (pair_len ee (by omega))) _ s3) (fun g => ?_)
          have g : vs.length = 2 := by omega
          obtain ⟨x1, x2, rfl⟩ := two_of g
          obtain ⟨d1, d2, rfl⟩ := two_of (hle.symm.trans g)
          cases hes with
          | cons h1 h2 =>
          cases h2 with
          | cons h2 h3 =>
          cases h3
          have pe := pair_two ee
          refine hS.elim (fun hS => .inr ⟨_, hS, rfl, _, _, rfl, _, _, rfl, rfl, ?_⟩) (fun hS => .inl ⟨_, hS, rfl, _, _, rfl, _, _, rfl, rfl, ?_⟩)
          all_goals
            refine ⟨_, _, rfl, h1, fun H3 s4 => ⟨_, rfl, ?_⟩⟩
            cases h1 with
            | int i =>
              simp only [isInt]
              walk_at "rs"
              have e2 : H3 p = some (.dK (dk told)) := s4 _ _ (s3 _ _ e1)
              refine ite2 (fun g1 => stop (from_bad pe (.inl g1)) _ (s3.trans s4)) (fun g1 => ?_)
              refine ⟨_, .inl ⟨dk told, .inl i, .of e2, rfl, rfl⟩, ?_⟩
              rw [valV_dk_some]
              walk_at "rs"
              refine ite2 (fun g2 => stop (from_bad pe (.inr (.inl g2))) _ (s3.trans s4)) (fun g2 => ?_)
              refine ⟨_, _, rfl, h2.same s4, fun z hz => ?_, fun H4 s5 => ⟨_, rfl, ?_⟩⟩
              · subst hz
                exact Nat.le_trans (fit2 e hm _ _ ee) (by decide)
              · refine ite2 (fun g3 => stop (from_bad pe (.inr (.inr g3))) _ (s3.trans (s4.trans s5))) (fun g3 => ?_)
                cases h2 with
                | str z =>
                  have g4 : okW z = true := by
                    cases g5 : okW z with
                    | true => rfl
                    | false => exact absurd g5 g3
                  refine ⟨_, .inl ⟨dk told, .inl i, s5 _ _ e2, rfl, ?_, rfl⟩, put_same (s2.trans (s3.trans (s4.trans s5))) hp0, told ++ [(i, z)], _, _, _, ⟨rfl, rfl, rfl⟩, ?_, ?_, ?_, ?_⟩
                  · rw [len_dk]
                    simp at hl
                    exact Nat.lt_of_le_of_lt (show told.length ≤ 30 by omega) (by decide)
                  · rw [upd_same, putK_dk, put_new g2]
                  · rw [← put_new (w := z) g2]
                    exact put_nodup nt _ _
                  · rw [List.length_append]
                    simp at hl ⊢
                    omega
                  · rw [← ef]
                    exact (from_ok pe ⟨by omega, g2, g4⟩).symm
                | _ => exact absurd rfl g3
            | _ =>
              simp only [isInt]
              walk_at "rs"
              exact stop (from_none pe) _ (s3.trans s4)
      · obtain ⟨s2, told, a, b, c, rfl, e1, nt, hl, ef⟩ := h
        walk_at "rd"
        walk_at "rs"
        refine ⟨p, told, rfl, e1, nt, ?_, fun v' H2 s3 h2 => q2 told ef.symm v' H2 (s2.trans s3) h2⟩
        simp at hl
        omega
end
end K19

namespace K19
open PySem PySem.Spec PyProof.Rows L2 MeD MeK MeL
local macro_rules | `(tactic| walk_at "rd") => `(tactic| (dsimp only [tVar, tC, tOp, tUn, tCons, tNil, tTup, tLst, tCB, tK, tKS, tTest, tB, tAnd, tOr, tNot, tAndV, tOrV, tNotV, tIf, tIfS, tSeq, tNext, tRet, tRetN, tDrop, tAsg, gName, gTup, gNil, gCons, wipe, tYes, tSl, tPart, tNoPart, tBM, tBM0,  tBreak, tCont, gLst, tDGet, tDIn, tDNotIn, sDPut, tDNewK, MeL.for_tup_eq, MeL.for_list_eq, MeL.for_str_eq, MeL.for_rng_eq, MeL.for_row_eq, MeL.lc_tup_eq, MeL.lc_list_eq, MeL.lc_str_eq, MeL.lc_rng_eq, rI0, rI, rU, tRs1, cxOf, Cx.tr, Cx.suite, L2.start, List.map, List.replicate, List.length, List.append, HAppend.hAppend, Append.append, Nat.reduceAdd, Nat.reduceSub]))
local macro_rules | `(tactic| walk_at "rs") => `(tactic| (try simp only [List.getElem?_cons_zero, List.getElem?_cons_succ, Option.some.injEq, exists_eq_left', exists_eq_left, V.bl.injEq, V.int.injEq, V.str.injEq, V.ref.injEq, List.cons.injEq, and_true, true_and, and_self, exists_and_left, exists_eq', exists_eq, ↓reduceIte, reduceCtorEq, Bool.false_eq_true, false_and, exists_const, exists_false, decide_true, decide_false, Bool.not_true, Bool.not_false, List.set_cons_zero, List.set_cons_succ, MeK.tyv_str, or_false, MeL.for_row_eq, MeK.req_int, MeK.rne_int, MeK.req_str, MeK.rne_str, MeK.req_bl, MeK.rne_bl, decide_eq_true_eq, Bool.not_eq_true', decide_eq_false_iff_not, Int.natCast_inj]))
def onN (d : PyData) (f : Int → Out) : Out := match d with
  | .int c => if 0 ≤ c then f c else .num "colour"
  | _ => .num "colour"
def onL (d : PyData) (f : Str → Out) : Out := match d with
  | .str s => if okLet (.str s) = true then f s else .num "letter"
  | _ => .num "letter"
theorem onN_int {c : Int} (h : 0 ≤ c) (f : Int → Out) : onN (.int c) f = f c := if_pos h
theorem onL_str {s : Str} (h : okLet (.str s) = true) (f : Str → Out) : onL (.str s) f = f s := if_pos h
theorem chkN {K : PySem.W.Frag} {H : Hp} {v : V} {d : PyData} {Q : VK} {E : XK} (hd : Dp K H v d) (h0 : (∀ f, onN d f = .num "colour") → rais K H E (.num "colour"))
    (h1 : ∀ c, d = .int c → 0 ≤ c → ∀ H', Same H H' → Q .non H') : spCheckNumber K [v, .str "colour", .int 0, .non] H Q E := by
  refine ⟨v, d, _, rfl, hd, ?_⟩
  unfold mNum
  by_cases e : okNum d = true
  · rw [if_pos e]
    cases d with
    | int c =>
      intro v' H' s hv
      cases hv
      exact h1 c rfl (of_decide_eq_true e) H' s
    | _ => exact absurd (show false = true from e) (by decide)
  · rw [if_neg e]
    refine h0 fun f => ?_
    cases d with
    | int c => exact if_neg fun z => e (decide_eq_true z)
    | _ => rfl
theorem chkL {K : PySem.W.Frag} {H : Hp} {v : V} {d : PyData} {Q : VK} {E : XK} (hd : Dp K H v d) (h0 : (∀ f, onL d f = .num "letter") → rais K H E (.num "letter"))
    (h1 : ∀ c, d = .str c → okLet (.str c) = true → ∀ H', Same H H' → Q .non H') : spLet K [v] H Q E := by
  refine ⟨v, d, rfl, hd, ?_⟩
  unfold mLet
  by_cases e : okLet d = true
  · rw [if_pos e]
    cases d with
    | str c =>
      intro v' H' s hv
      cases hv
      exact h1 c rfl e H' s
    | _ => exact absurd (show false = true from e) (by decide)
  · rw [if_neg e]
    refine h0 fun f => ?_
    cases d with
    | str c => exact if_neg e
    | _ => rfl
theorem fit_len {r : Row} (f : Fit (.tuple (rowD r))) : r.length ≤ 30 := by
  have := (f _ rfl).1
  rwa [rowD, List.length_map] at this
theorem fit_mem {r : Row} (f : Fit (.tuple (rowD r))) {p : Int × Str} (h : p ∈ r) : p.2.length ≤ 20000 :=
  (f _ rfl).2 (.int p.1) p.2 (List.mem_map_of_mem (f := ent) h)
theorem fit_at {r : Row} (f : Fit (.tuple (rowD r))) (c : Int) : (atR r c).length ≤ 20000 := by
  by_cases h : c ∈ keys r
  · exact fit_mem f (mem_atR h)
  · rw [atR_none h]
    decide
theorem let_len {s : Str} (h : okLet (.str s) = true) : s.length = 1 := by
  rw [okLet, Bool.or_eq_true, beq_iff_eq, beq_iff_eq] at h
  rcases h with rfl | rfl <;> decide +kernel
def mWordAt (d dc : PyData) : Out := onR d fun r => onN dc fun c => .ok (.str (atR r c))
def mPut (d dc dl : PyData) : Out := onR d fun r => onN dc fun c => onL dl fun s => .ok (.tuple (rowD (withR r c (s ++ atR r c))))
def mBehind (d dc dl : PyData) : Out := onR d fun r => onN dc fun c => onL dl fun s => .ok (.tuple (rowD (withR r c (atR r c ++ s))))
def headS (w : Str) : Str := ⟨#[w.cps.toList.headD 0]⟩
def tailS (w : Str) : Str := cutS w (some 1) none
theorem head_some {w : Str} (h : ¬ w = "") : ∃ c, w.cps.toList[0]? = some c := by
  cases e : w.cps.toList with
  | nil => exact absurd (TL.ext_tl (y := "") (by show w.cps.toList = _; rw [e]; decide +kernel)) h
  | cons c cs => exact ⟨c, rfl⟩
theorem head_eq {w : Str} {c : Nat} (h : w.cps.toList[0]? = some c) : headS w = ⟨#[c]⟩ := by
  unfold headS
  cases e : w.cps.toList with
  | nil => rw [e] at h; cases h
  | cons d cs =>
    rw [e] at h
    cases h
    rfl
def mTaken (d dc : PyData) : Out := onR d fun r => onN dc fun c => if atR r c = "" then .ok .none else .ok (.tuple [.str (headS (atR r c)), .tuple (rowD (withR r c (tailS (atR r c))))])
def mAgree (d e : PyData) : Out := onR d fun r => onR e fun s => .ok (.bool (agR r s))
def lonS (f t : Row) (p : Int × Str) : Row := if p.2.length > (atR f p.1).length then putR t p.1 p.2 else t
def lonR (r s : Row) : Row := sorR (s.foldl (lonS r) r)
def mLonger (d e : PyData) : Out := onR d fun r => onR e fun s => if agR r s = true then .ok (.tuple (rowD (lonR r s))) else .unlike
def aftS (f t : Row) (p : Int × Str) : Row := putR t p.1 (atR f p.1 ++ p.2)
def aftR (r s : Row) : Row := sorR (s.foldl (aftS r) r)
def mAfter (d e : PyData) : Out := onR d fun r => onR e fun s => .ok (.tuple (rowD (aftR r s)))
def resS (s t : Row) (p : Int × Str) : Row := putR t p.1 (cutS p.2 (some (atR s p.1).length) none)
def resR (r s : Row) : Row := sorR (r.foldl (resS s) [])
def leads (r s : Row) : Bool := s.all fun p => Txt.startswith (atR r p.1) p.2
def mRest (d e : PyData) : Out := onR d fun r => onR e fun s => if leads r s = true then .ok (.tuple (rowD (resR r s))) else .unlike
def sumR (r : Row) : Int := (r.map fun p => (p.2.length : Int)).sum
def mLetters (d : PyData) : Out := onR d fun r => .ok (.int (sumR r))
def sp2 (K : PySem.W.Frag) (m : PyData → PyData → Out) : Sp := fun vs H Q E => ∃ v u d e, vs = [v, u] ∧ Dp K H v d ∧ Fit d ∧ Dp K H u e ∧ ends K H Q E (m d e)
def sp3 (K : PySem.W.Frag) (m : PyData → PyData → PyData → Out) : Sp := fun vs H Q E => ∃ v u x d e f, vs = [v, u, x] ∧ Dp K H v d ∧ Fit d ∧ Dp K H u e ∧ Dp K H x f ∧ ends K H Q E (m d e f)
section
variable {P : Program} {w : World} {K : PySem.W.Frag} {mg : Str → Option Value} {base : Heap}
abbrev N_word_at : List Str := ["stacks", "colour"]
abbrev P_word_at : List Str := ["stacks", "colour"]
theorem sc_word_at : FnScope N_word_at P_word_at (defScope s_word_at) := ⟨rfl, rfl, rfl, by decide +kernel, rfl, by decide +kernel, by decide +kernel⟩
theorem bn_word_at : ∀ (kV doc pm : Value) (an : Option Addr) (cdv ct : Value) (us : List Value), us.length = P_word_at.length → bindArgs (PySem.W.fnOf "word_at" "word_at" (defArgs s_word_at) (defBody s_word_at) (defScope s_word_at) .none kV doc pm an cdv ct) ⟨us, []⟩ = pure (P_word_at.zip us) := fun _ _ _ _ _ _ us hl => match us, hl with | [_, _], _ => rfl
theorem k_word_at (T : Txt K mg) : Knows P w K mg base (L2.CX P w) 4 "word_at" P_word_at (sp2 K mWordAt) := by
  have k_check_stacks := k_check_stacks (P := P) (w := w) (base := base) T
  have k_check_number := k_check_number (P := P) (w := w) (base := base) T
  have k__words_at := k__words_at (P := P) (w := w) (base := base) T
  refine knows_of T.g_word_at T.d_word_at bn_word_at fun fd F => F.ok sc_word_at (fun vs H Q E h => ?_) (fun cdv A outer s H vs Q E hr h => ?_)
  · obtain ⟨v, u, d, e, rfl, hd, fit, hu, q⟩ := h
    rfl
  · obtain ⟨v, u, d, e, rfl, hd, fit, hu, q⟩ := h
    have nd := sc_word_at.nd
    refine ⟨_, (pss_cons (ps_expr (pe_k k_check_stacks (hr.mono (by decide)) (passO (takes_of rfl rfl rfl rfl)) (pa_cons (pv 0) pa_nil)))
      (pss_cons (ps_expr (pe_k k_check_number (hr.mono (by decide)) (passO (takes_of rfl rfl rfl rfl)) (pa_cons (pv 1) (pa_cons pe_str (pa_cons pe_int (pa_cons pe_non pa_nil))))))
      (pss_one (ps_ret (pe_k k__words_at (hr.mono (by decide)) pass0 (pa_cons (pv 0) (pa_cons (pv 1) pa_nil))))))), ?_⟩
    walk_at "rd"
    walk_at "rs"
    refine chk hd fit (fun z => by rw [mWordAt, onR_none z] at q; exact q) (fun r z H1 s1 => ?_)
    rw [mWordAt, onR_some z] at q
    obtain ⟨rfl, g⟩ := unstk_some z
    refine chkN (hu.same s1) (fun z => by rw [z] at q; exact ends_same s1 q) (fun c z z2 H2 s2 => ?_)
    subst z
    rw [onN_int z2] at q
    cases hu
    exact ⟨_, _, _, rfl, hd.same (s1.trans s2), fun H3 s3 => q _ _ (s1.trans (s2.trans s3)) (.str _)⟩
abbrev N_put : List Str := ["stacks", "colour", "letter"]
abbrev P_put : List Str := ["stacks", "colour", "letter"]
theorem sc_put : FnScope N_put P_put (defScope s_put) := ⟨rfl, rfl, rfl, by decide +kernel, rfl, by decide +kernel, by decide +kernel⟩
theorem bn_put : ∀ (kV doc pm : Value) (an : Option Addr) (cdv ct : Value) (us : List Value), us.length = P_put.length → bindArgs (PySem.W.fnOf "put" "put" (defArgs s_put) (defBody s_put) (defScope s_put) .none kV doc pm an cdv ct) ⟨us, []⟩ = pure (P_put.zip us) := fun _ _ _ _ _ _ us hl => match us, hl with | [_, _, _], _ => rfl
theorem k_put (T : Txt K mg) : Knows P w K mg base (L2.CX P w) 4 "put" P_put (sp3 K mPut) := by
  have k_check_stacks := k_check_stacks (P := P) (w := w) (base := base) T
  have k_check_number := k_check_number (P := P) (w := w) (base := base) T
  have k__words_check_letter := k__words_check_letter (P := P) (w := w) (base := base) T
  have k__words_with := k__words_with (P := P) (w := w) (base := base) T
  have k__words_at := k__words_at (P := P) (w := w) (base := base) T
  refine knows_of T.g_put T.d_put bn_put fun fd F => F.ok sc_put (fun vs H Q E h => ?_) (fun cdv A outer s H vs Q E hr h => ?_)
  · obtain ⟨v, u, x, d, e, f, rfl, hd, fit, hu, hx, q⟩ := h
    rfl
  · obtain ⟨v, u, x, d, e, f, rfl, hd, fit, hu, hx, q⟩ := h
    have nd := sc_put.nd
    refine ⟨_, (pss_cons (ps_expr (pe_k k_check_stacks (hr.mono (by decide)) (passO (takes_of rfl rfl rfl rfl)) (pa_cons (pv 0) pa_nil)))
      (pss_cons (ps_expr (pe_k k_check_number (hr.mono (by decide)) (passO (takes_of rfl rfl rfl rfl)) (pa_cons (pv 1) (pa_cons pe_str (pa_cons pe_int (pa_cons pe_non pa_nil))))))
      (pss_cons (ps_expr (pe_k k__words_check_letter (hr.mono (by decide)) (passO (takes_of rfl rfl rfl rfl)) (pa_cons (pv 2) pa_nil)))
      (pss_one (ps_ret (pe_k k__words_with (hr.mono (by decide)) pass0 (pa_cons (pv 0) (pa_cons (pv 1) (pa_cons (pe_op op_add_str (pv 2) (pe_k k__words_at (hr.mono (by decide)) pass0 (pa_cons (pv 0) (pa_cons (pv 1) pa_nil)))) pa_nil))))))))), ?_⟩
    walk_at "rd"
    walk_at "rs"
    refine chk hd fit (fun z => by rw [mPut, onR_none z] at q; exact q) (fun r z H1 s1 => ?_)
    rw [mPut, onR_some z] at q
    obtain ⟨rfl, g⟩ := unstk_some z
    refine chkN (hu.same s1) (fun z => by rw [z] at q; exact ends_same s1 q) (fun c z z2 H2 s2 => ?_)
    subst z
    rw [onN_int z2] at q
    cases hu
    refine chkL (hx.same (s1.trans s2)) (fun z => by rw [z] at q; exact ends_same (s1.trans s2) q) (fun c2 z z3 H3 s3 => ?_)
    subst z
    rw [onL_str z3] at q
    cases hx
    walk_at "rs"
    refine ⟨_, _, _, rfl, hd.same (s1.trans (s2.trans s3)), fun H4 s4 => ⟨_, rfl, ?_, ?_⟩⟩
    · have := fit_at fit c
      have := let_len z3
      exact Nat.le_trans (show _ ≤ 30000 by omega) (by decide)
    · exact ⟨_, _, _, _, rfl, hd.same (s1.trans (s2.trans (s3.trans s4))), fit_len fit, fun v' H5 s5 h5 => q _ _ (s1.trans (s2.trans (s3.trans (s4.trans s5)))) h5⟩
abbrev N_behind : List Str := ["stacks", "colour", "letter"]
abbrev P_behind : List Str := ["stacks", "colour", "letter"]
theorem sc_behind : FnScope N_behind P_behind (defScope s_behind) := ⟨rfl, rfl, rfl, by decide +kernel, rfl, by decide +kernel, by decide +kernel⟩
theorem bn_behind : ∀ (kV doc pm : Value) (an : Option Addr) (cdv ct : Value) (us : List Value), us.length = P_behind.length → bindArgs (PySem.W.fnOf "behind" "behind" (defArgs s_behind) (defBody s_behind) (defScope s_behind) .none kV doc pm an cdv ct) ⟨us, []⟩ = pure (P_behind.zip us) := fun _ _ _ _ _ _ us hl => match us, hl with | [_, _, _], _ => rfl
theorem k_behind (T : Txt K mg) : Knows P w K mg base (L2.CX P w) 4 "behind" P_behind (sp3 K mBehind) := by
  have k_check_stacks := k_check_stacks (P := P) (w := w) (base := base) T
  have k_check_number := k_check_number (P := P) (w := w) (base := base) T
  have k__words_check_letter := k__words_check_letter (P := P) (w := w) (base := base) T
  have k__words_with := k__words_with (P := P) (w := w) (base := base) T
  have k__words_at := k__words_at (P := P) (w := w) (base := base) T
  refine knows_of T.g_behind T.d_behind bn_behind fun fd F => F.ok sc_behind (fun vs H Q E h => ?_) (fun cdv A outer s H vs Q E hr h => ?_)
  · obtain ⟨v, u, x, d, e, f, rfl, hd, fit, hu, hx, q⟩ := h
    rfl
  · obtain ⟨v, u, x, d, e, f, rfl, hd, fit, hu, hx, q⟩ := h
    have nd := sc_behind.nd
    refine ⟨_, (pss_cons (ps_expr (pe_k k_check_stacks (hr.mono (by decide)) (passO (takes_of rfl rfl rfl rfl)) (pa_cons (pv 0) pa_nil)))
      (pss_cons (ps_expr (pe_k k_check_number (hr.mono (by decide)) (passO (takes_of rfl rfl rfl rfl)) (pa_cons (pv 1) (pa_cons pe_str (pa_cons pe_int (pa_cons pe_non pa_nil))))))
      (pss_cons (ps_expr (pe_k k__words_check_letter (hr.mono (by decide)) (passO (takes_of rfl rfl rfl rfl)) (pa_cons (pv 2) pa_nil)))
      (pss_one (ps_ret (pe_k k__words_with (hr.mono (by decide)) pass0 (pa_cons (pv 0) (pa_cons (pv 1) (pa_cons (pe_op op_add_str (pe_k k__words_at (hr.mono (by decide)) pass0 (pa_cons (pv 0) (pa_cons (pv 1) pa_nil))) (pv 2)) pa_nil))))))))), ?_⟩
    walk_at "rd"
    walk_at "rs"
    refine chk hd fit (fun z => by rw [mBehind, onR_none z] at q; exact q) (fun r z H1 s1 => ?_)
    rw [mBehind, onR_some z] at q
    obtain ⟨rfl, g⟩ := unstk_some z
    refine chkN (hu.same s1) (fun z => by rw [z] at q; exact ends_same s1 q) (fun c z z2 H2 s2 => ?_)
    subst z
    rw [onN_int z2] at q
    cases hu
    refine chkL (hx.same (s1.trans s2)) (fun z => by rw [z] at q; exact ends_same (s1.trans s2) q) (fun c2 z z3 H3 s3 => ?_)
    subst z
    rw [onL_str z3] at q
    cases hx
    walk_at "rs"
    refine ⟨_, _, _, rfl, hd.same (s1.trans (s2.trans s3)), fun H4 s4 => ⟨_, rfl, ?_, ?_⟩⟩
    · have := fit_at fit c
      have := let_len z3
      exact Nat.le_trans (show _ ≤ 30000 by omega) (by decide)
    · exact ⟨_, _, _, _, rfl, hd.same (s1.trans (s2.trans (s3.trans s4))), fit_len fit, fun v' H5 s5 h5 => q _ _ (s1.trans (s2.trans (s3.trans (s4.trans s5)))) h5⟩
abbrev N_taken : List Str := ["stacks", "colour", "word"]
abbrev P_taken : List Str := ["stacks", "colour"]
theorem sc_taken : FnScope N_taken P_taken (defScope s_taken) := ⟨rfl, rfl, rfl, by decide +kernel, rfl, by decide +kernel, by decide +kernel⟩
theorem bn_taken : ∀ (kV doc pm : Value) (an : Option Addr) (cdv ct : Value) (us : List Value), us.length = P_taken.length → bindArgs (PySem.W.fnOf "taken" "taken" (defArgs s_taken) (defBody s_taken) (defScope s_taken) .none kV doc pm an cdv ct) ⟨us, []⟩ = pure (P_taken.zip us) := fun _ _ _ _ _ _ us hl => match us, hl with | [_, _], _ => rfl
theorem k_taken (T : Txt K mg) : Knows P w K mg base (L2.CX P w) 4 "taken" P_taken (sp2 K mTaken) := by
  have k_check_stacks := k_check_stacks (P := P) (w := w) (base := base) T
  have k_check_number := k_check_number (P := P) (w := w) (base := base) T
  have k__words_at := k__words_at (P := P) (w := w) (base := base) T
  have k__words_with := k__words_with (P := P) (w := w) (base := base) T
  refine knows_of T.g_taken T.d_taken bn_taken fun fd F => F.ok sc_taken (fun vs H Q E h => ?_) (fun cdv A outer s H vs Q E hr h => ?_)
  · obtain ⟨v, u, d, e, rfl, hd, fit, hu, q⟩ := h
    rfl
  · obtain ⟨v, u, d, e, rfl, hd, fit, hu, q⟩ := h
    have nd := sc_taken.nd
    refine ⟨_, (pss_cons (ps_expr (pe_k k_check_stacks (hr.mono (by decide)) (passO (takes_of rfl rfl rfl rfl)) (pa_cons (pv 0) pa_nil)))
      (pss_cons (ps_expr (pe_k k_check_number (hr.mono (by decide)) (passO (takes_of rfl rfl rfl rfl)) (pa_cons (pv 1) (pa_cons pe_str (pa_cons pe_int (pa_cons pe_non pa_nil))))))
      (pss_cons (ps_set (i := 2) nd rfl (Or.inl rfl) (pe_k k__words_at (hr.mono (by decide)) pass0 (pa_cons (pv 0) (pa_cons (pv 1) pa_nil))))
      (pss_cons (ps_if (pt_cmpR op_eq (pv 2) pe_str (nomark _)) (pss_one (ps_ret pe_non)) pss_nil)
      (pss_one (ps_ret (pe_tup (pa_cons (pe_ix ix_str (pv 2) pe_int (fun _ _ => rfl)) (pa_cons (pe_k k__words_with (hr.mono (by decide)) pass0 (pa_cons (pv 0) (pa_cons (pv 1) (pa_cons (pe_slice sl_str (pv 2) (po_some pe_int) po_none) pa_nil)))) pa_nil))))))))), ?_⟩
    walk_at "rd"
    walk_at "rs"
    refine chk hd fit (fun z => by rw [mTaken, onR_none z] at q; exact q) (fun r z H1 s1 => ?_)
    rw [mTaken, onR_some z] at q
    obtain ⟨rfl, g⟩ := unstk_some z
    refine chkN (hu.same s1) (fun z => by rw [z] at q; exact ends_same s1 q) (fun c z z2 H2 s2 => ?_)
    subst z
    rw [onN_int z2] at q
    cases hu
    refine ⟨_, _, _, rfl, hd.same (s1.trans s2), fun H3 s3 => ?_⟩
    walk_at "rs"
    refine ite2 (fun e => ?_) (fun e => ?_)
    · rw [if_pos e] at q
      exact q _ _ (s1.trans (s2.trans s3)) .non
    · rw [if_neg e] at q
      obtain ⟨c0, h0⟩ := head_some e
      have le := Nat.le_trans (fit_at fit c) (show 20000 ≤ sizeLine by decide)
      refine ⟨_, _, c0, rfl, rfl, le, atI_nat (j := 0) h0, _, rfl, le, ?_⟩
      refine ⟨_, _, _, _, rfl, hd.same (s1.trans (s2.trans s3)), fit_len fit, fun v' H4 s4 h4 => ⟨by decide, fun p hp => q _ _ (s1.trans (s2.trans (s3.trans (s4.trans (same_new hp))))) ?_⟩⟩
      refine .tup (SqT.of upd_same) (.cons ?_ (.cons (h4.same (same_new hp)) .nil))
      rw [head_eq h0]
      exact .str _
abbrev N_agree : List Str := ["first", "second"]
abbrev P_agree : List Str := ["first", "second"]
theorem sc_agree : FnScope N_agree P_agree (defScope s_agree) := ⟨rfl, rfl, rfl, by decide +kernel, rfl, by decide +kernel, by decide +kernel⟩
theorem bn_agree : ∀ (kV doc pm : Value) (an : Option Addr) (cdv ct : Value) (us : List Value), us.length = P_agree.length → bindArgs (PySem.W.fnOf "agree" "agree" (defArgs s_agree) (defBody s_agree) (defScope s_agree) .none kV doc pm an cdv ct) ⟨us, []⟩ = pure (P_agree.zip us) := fun _ _ _ _ _ _ us hl => match us, hl with | [_, _], _ => rfl
def sp2F (K : PySem.W.Frag) (m : PyData → PyData → Out) : Sp := fun vs H Q E => ∃ v u d e, vs = [v, u] ∧ Dp K H v d ∧ Fit d ∧ Dp K H u e ∧ Fit e ∧ ends K H Q E (m d e)
theorem k_agree (T : Txt K mg) : Knows P w K mg base (L2.CX P w) 4 "agree" P_agree (sp2F K mAgree) := by
  have k_check_stacks := k_check_stacks (P := P) (w := w) (base := base) T
  have k__words_agree := k__words_agree (P := P) (w := w) (base := base) T
  refine knows_of T.g_agree T.d_agree bn_agree fun fd F => F.ok sc_agree (fun vs H Q E h => ?_) (fun cdv A outer s H vs Q E hr h => ?_)
  · obtain ⟨v, u, d, e, rfl, hd, fit, hu, fit2, q⟩ := h
    rfl
  · obtain ⟨v, u, d, e, rfl, hd, fit, hu, fit2, q⟩ := h
    have nd := sc_agree.nd
    refine ⟨_, (pss_cons (ps_expr (pe_k k_check_stacks (hr.mono (by decide)) (passO (takes_of rfl rfl rfl rfl)) (pa_cons (pv 0) pa_nil)))
      (pss_cons (ps_expr (pe_k k_check_stacks (hr.mono (by decide)) (passO (takes_of rfl rfl rfl rfl)) (pa_cons (pv 1) pa_nil)))
      (pss_one (ps_ret (pe_k k__words_agree (hr.mono (by decide)) pass0 (pa_cons (pv 0) (pa_cons (pv 1) pa_nil))))))), ?_⟩
    walk_at "rd"
    walk_at "rs"
    refine chk hd fit (fun z => by rw [mAgree, onR_none z] at q; exact q) (fun r z H1 s1 => ?_)
    rw [mAgree, onR_some z] at q
    obtain ⟨rfl, g⟩ := unstk_some z
    refine chk (hu.same s1) fit2 (fun z => by rw [onR_none z] at q; exact ends_same s1 q) (fun s z H2 s2 => ?_)
    rw [onR_some z] at q
    obtain ⟨rfl, g2⟩ := unstk_some z
    exact ⟨_, _, _, _, rfl, hd.same (s1.trans s2), hu.same (s1.trans s2), fun H3 s3 => q _ _ (s1.trans (s2.trans s3)) (.bl _)⟩
/-- data whose tuple no attribute was laid on -/
def PDp (K : PySem.W.Frag) (H : Hp) (v : V) (d : PyData) : Prop := Dp K H v d ∧ ∀ ds, d = .tuple ds → ∃ a xs, v = .ref a ∧ PTup H a xs ∧ DpAll K H xs ds
theorem PDp.same {K : PySem.W.Frag} {H H' : Hp} {v : V} {d : PyData} (h : PDp K H v d) (s : Same H H') : PDp K H' v d :=
  ⟨h.1.same s, fun ds e => by
    obtain ⟨a, xs, e1, e2, e3⟩ := h.2 ds e
    exact ⟨a, xs, e1, e2.same s, e3.same s⟩⟩
def sp2P (K : PySem.W.Frag) (m : PyData → PyData → Out) : Sp := fun vs H Q E => ∃ v u d e, vs = [v, u] ∧ PDp K H v d ∧ Fit d ∧ Dp K H u e ∧ Fit e ∧ ends K H Q E (m d e)
theorem pairs_row {K : PySem.W.Frag} {H : Hp} {xs : List V} {r : Row} (h : DpAll K H xs (rowD r)) : ∃ ps : List Addr, xs = ps.map V.ref ∧ Paired (fun p (kv : Key × V) => SqT K H p [kV kv.1, kv.2]) ps (dk r) := by
  induction r generalizing xs with
  | nil => cases h; exact ⟨[], rfl, .nil⟩
  | cons p r ih =>
    cases h with
    | cons h1 h2 =>
      obtain ⟨ps, rfl, hp⟩ := ih h2
      obtain ⟨a, rfl, hS⟩ := ent_at h1
      exact ⟨a :: ps, rfl, .cons hS hp⟩
theorem dict_row {K : PySem.W.Frag} {H : Hp} {v : V} {r : Row} {Q : VK} (h : PDp K H v (.tuple (rowD r))) (n : (keys r).Nodup) (q : ∀ p, H p = none → Q (.ref p) (upd H p (.dK (dk r)))) : rDictQ K [v] H Q := by
  obtain ⟨a, xs, rfl, hp, hx⟩ := h.2 _ rfl
  obtain ⟨ps, rfl, pr⟩ := pairs_row hx
  refine ⟨a, ps, dk r, rfl, hp, pr, fun p h0 => ?_⟩
  have e : mergeK [] (dk r) = dk r := merge_dk r [] n
  rw [e]
  exact q p h0
theorem put_len (r : Row) (c : Int) (w : Str) : (putR r c w).length ≤ r.length + 1 := by
  unfold putR
  split
  · rw [List.length_map]; omega
  · rw [List.length_append]; exact Nat.le_refl _
abbrev N_longer : List Str := ["first", "second", "told", "colour", "word"]
abbrev P_longer : List Str := ["first", "second"]
theorem sc_longer : FnScope N_longer P_longer (defScope s_longer) := ⟨rfl, rfl, rfl, by decide +kernel, rfl, by decide +kernel, by decide +kernel⟩
theorem bn_longer : ∀ (kV doc pm : Value) (an : Option Addr) (cdv ct : Value) (us : List Value), us.length = P_longer.length → bindArgs (PySem.W.fnOf "longer" "longer" (defArgs s_longer) (defBody s_longer) (defScope s_longer) .none kV doc pm an cdv ct) ⟨us, []⟩ = pure (P_longer.zip us) := fun _ _ _ _ _ _ us hl => match us, hl with | [_, _], _ => rfl
theorem k_longer (T : Txt K mg) : Knows P w K mg base (L2.CX P w) 4 "longer" P_longer (sp2P K mLonger) := by
  have k_check_stacks := k_check_stacks (P := P) (w := w) (base := base) T
  have k__words_sorted := k__words_sorted (P := P) (w := w) (base := base) T
  have k__words_agree := k__words_agree (P := P) (w := w) (base := base) T
  have k__words_at := k__words_at (P := P) (w := w) (base := base) T
  refine knows_of T.g_longer T.d_longer bn_longer fun fd F => F.ok sc_longer (fun vs H Q E h => ?_) (fun cdv A outer s H vs Q E hr h => ?_)
  · obtain ⟨v, u, d, e, rfl, hd, fit, hu, fit2, q⟩ := h
    rfl
  · obtain ⟨v, u, d, e, rfl, hd, fit, hu, fit2, q⟩ := h
    have nd := sc_longer.nd
    refine ⟨_, (pss_cons (ps_expr (pe_k k_check_stacks (hr.mono (by decide)) (passO (takes_of rfl rfl rfl rfl)) (pa_cons (pv 0) pa_nil)))
      (pss_cons (ps_expr (pe_k k_check_stacks (hr.mono (by decide)) (passO (takes_of rfl rfl rfl rfl)) (pa_cons (pv 1) pa_nil)))
      (pss_cons (ps_if (pt_not (pt_val (pe_k k__words_agree (hr.mono (by decide)) pass0 (pa_cons (pv 0) (pa_cons (pv 1) pa_nil))))) (pss_one (ps_raise rfl (takes_of rfl rfl rfl rfl) (MeX.pmk_none PySem.F.excBase_Exception T.x_Unlike.x T.g_Unlike T.x_Unlike.kp T.x_Unlike.raises rfl))) pss_nil)
      (pss_cons (ps_set (i := 2) nd rfl (Or.inl rfl) (pe_callTy (dictTK (K := K) rfl) rfl T.f_dict (by decide +kernel) (pa_cons (pv 0) pa_nil)))
      (pss_cons (ps_for (passes_of rfl) rfl (pi_tup (pv 1)) (pg_tupK (K := K) (n := 2) rfl (pgs_cons (pg_name (i := 3) nd rfl (Or.inl rfl)) (pgs_cons (pg_name (i := 4) nd rfl (Or.inl rfl)) pgs_nil))) (pss_one (ps_if (pt_cmpR op_gt (pe_callB call_len_str rfl T.f_len (by decide +kernel) (pa_cons (pv 4) pa_nil)) (pe_callB call_len_str rfl T.f_len (by decide +kernel) (pa_cons (pe_k k__words_at (hr.mono (by decide)) pass0 (pa_cons (pv 0) (pa_cons (pv 3) pa_nil))) pa_nil)) (nomark _)) (pss_one (ps_dput (hu_of hr) (pv 2) (pv 3) (pv 4) rfl)) pss_nil)))
      (pss_one (ps_ret (pe_k k__words_sorted (hr.mono (by decide)) pass0 (pa_cons (pv 2) pa_nil))))))))), ?_⟩
    walk_at "rd"
    walk_at "rs"
    refine chk hd.1 fit (fun z => by rw [mLonger, onR_none z] at q; exact q) (fun r z H1 s1 => ?_)
    rw [mLonger, onR_some z] at q
    obtain ⟨rfl, g⟩ := unstk_some z
    refine chk (hu.same s1) fit2 (fun z => by rw [onR_none z] at q; exact ends_same s1 q) (fun s z H2 s2 => ?_)
    rw [onR_some z] at q
    obtain ⟨rfl, g2⟩ := unstk_some z
    refine ⟨_, _, _, _, rfl, hd.1.same (s1.trans s2), hu.same (s1.trans s2), fun H3 s3 => ⟨_, rfl, ?_⟩⟩
    walk_at "rs"
    have s03 := s1.trans (s2.trans s3)
    refine ite2 (fun a => ?_) (fun a => ?_)
    · rw [if_neg (by rw [a]; decide)] at q
      exact q _ s03
    rw [if_pos (by simpa using a)] at q
    refine dict_row (hd.same s03) g.srt.nodup fun p hp => ?_
    have hp0 : H p = none := (kept_of (M := []) s03).free hp
    refine loopT_map ent hu (fun l σ H' => Same H H' ∧ ∃ told a b, σ = [some v, some u, some (.ref p), a, b] ∧ H' p = some (.dK (dk told)) ∧ (keys told).Nodup ∧ told.length + l.length ≤ 60 ∧ l.foldl (lonS r) told = s.foldl (lonS r) r)
      ⟨put_same s03 hp0, r, _, _, rfl, upd_same, g.srt.nodup, by have := fit_len fit; have := fit_len fit2; omega, rfl⟩ (fun _ _ _ h => h.1) (fun y d l σ H' hm h hy N hN => ?_) (fun σ H' h => ?_)
    · obtain ⟨s4, told, a, b, rfl, e1, nt, hl, ef⟩ := h
      obtain ⟨t, rfl, hS⟩ := ent_at hy
      obtain ⟨k, z⟩ := d
      walk_at "rd"
      walk_at "rs"
      refine ⟨_, hS, rfl, _, _, rfl, _, _, rfl, rfl, ?_⟩
      refine ⟨_, rfl, Nat.le_trans (fit_mem fit2 hm) (by decide), ?_⟩
      refine ⟨_, _, _, rfl, hd.1.same s4, fun H5 s5 => ?_⟩
      walk_at "rs"
      refine ⟨Nat.le_trans (fit_at fit k) (by decide), ?_⟩
      rw [List.foldl_cons] at ef
      refine ite2 (fun e => ?_) (fun e => ?_)
      · refine ⟨_, .inl ⟨dk told, .inl k, s5 _ _ e1, rfl, ?_, rfl⟩, ?_⟩
        · rw [len_dk]
          simp at hl
          exact Nat.lt_of_le_of_lt (show told.length ≤ 60 by omega) (by decide)
        · refine hN _ _ ⟨put_same (s4.trans s5) hp0, putR told k z, _, _, rfl, by rw [upd_same, putK_dk], put_nodup nt _ _, ?_, ?_⟩
          · have := put_len told k z
            simp at hl
            omega
          · rw [← ef, lonS, if_pos (show z.length > (atR r k).length by omega)]
      · refine hN _ _ ⟨s4.trans s5, told, _, _, rfl, s5 _ _ e1, nt, ?_, ?_⟩
        · simp at hl
          omega
        · rw [← ef, lonS, if_neg (show ¬ z.length > (atR r k).length by omega)]
    · obtain ⟨s4, told, a, b, rfl, e1, nt, hl, ef⟩ := h
      walk_at "rd"
      walk_at "rs"
      refine ⟨p, told, rfl, e1, nt, by simp at hl; omega, fun v' H5 s5 h5 => q v' H5 (s4.trans s5) ?_⟩
      rw [lonR, ← ef]
      exact h5
abbrev N_rest : List Str := ["long", "short", "colour", "word", "told"]
abbrev P_rest : List Str := ["long", "short"]
theorem sc_rest : FnScope N_rest P_rest (defScope s_rest) := ⟨rfl, rfl, rfl, by decide +kernel, rfl, by decide +kernel, by decide +kernel⟩
theorem bn_rest : ∀ (kV doc pm : Value) (an : Option Addr) (cdv ct : Value) (us : List Value), us.length = P_rest.length → bindArgs (PySem.W.fnOf "rest" "rest" (defArgs s_rest) (defBody s_rest) (defScope s_rest) .none kV doc pm an cdv ct) ⟨us, []⟩ = pure (P_rest.zip us) := fun _ _ _ _ _ _ us hl => match us, hl with | [_, _], _ => rfl
theorem k_rest (T : Txt K mg) : Knows P w K mg base (L2.CX P w) 4 "rest" P_rest (sp2F K mRest) := by
  have k_check_stacks := k_check_stacks (P := P) (w := w) (base := base) T
  have k__words_sorted := k__words_sorted (P := P) (w := w) (base := base) T
  have k__words_at := k__words_at (P := P) (w := w) (base := base) T
  refine knows_of T.g_rest T.d_rest bn_rest fun fd F => F.ok sc_rest (fun vs H Q E h => ?_) (fun cdv A outer s H vs Q E hr h => ?_)
  · obtain ⟨v, u, d, e, rfl, hd, fit, hu, fit2, q⟩ := h
    rfl
  · obtain ⟨v, u, d, e, rfl, hd, fit, hu, fit2, q⟩ := h
    have nd := sc_rest.nd
    refine ⟨_, (pss_cons (ps_expr (pe_k k_check_stacks (hr.mono (by decide)) (passO (takes_of rfl rfl rfl rfl)) (pa_cons (pv 0) pa_nil)))
      (pss_cons (ps_expr (pe_k k_check_stacks (hr.mono (by decide)) (passO (takes_of rfl rfl rfl rfl)) (pa_cons (pv 1) pa_nil)))
      (pss_cons (ps_for (passes_of rfl) rfl (pi_tup (pv 1)) (pg_tupK (K := K) (n := 2) rfl (pgs_cons (pg_name (i := 2) nd rfl (Or.inl rfl)) (pgs_cons (pg_name (i := 3) nd rfl (Or.inl rfl)) pgs_nil))) (pss_one (ps_if (pt_not (pt_val (pe_bm PySem.F.plainAttrs_str PySem.F.slot_str_startswith PySem.F.type_str_startswith mt_startswith (pe_k k__words_at (hr.mono (by decide)) pass0 (pa_cons (pv 0) (pa_cons (pv 2) pa_nil))) (pa_cons (pv 3) pa_nil)))) (pss_one (ps_raise rfl (takes_of rfl rfl rfl rfl) (MeX.pmk_none PySem.F.excBase_Exception T.x_Unlike.x T.g_Unlike T.x_Unlike.kp T.x_Unlike.raises rfl))) pss_nil)))
      (pss_cons (ps_set (i := 4) nd rfl (Or.inl rfl) pe_dnewK)
      (pss_cons (ps_for (passes_of rfl) rfl (pi_tup (pv 0)) (pg_tupK (K := K) (n := 2) rfl (pgs_cons (pg_name (i := 2) nd rfl (Or.inl rfl)) (pgs_cons (pg_name (i := 3) nd rfl (Or.inl rfl)) pgs_nil))) (pss_one (ps_dput (hu_of hr) (pv 4) (pv 2) (pe_slice sl_str (pv 3) (po_some (pe_callB call_len_str rfl T.f_len (by decide +kernel) (pa_cons (pe_k k__words_at (hr.mono (by decide)) pass0 (pa_cons (pv 1) (pa_cons (pv 2) pa_nil))) pa_nil))) po_none) rfl)))
      (pss_one (ps_ret (pe_k k__words_sorted (hr.mono (by decide)) pass0 (pa_cons (pv 4) pa_nil))))))))), ?_⟩
    walk_at "rd"
    walk_at "rs"
    refine chk hd fit (fun z => by rw [mRest, onR_none z] at q; exact q) (fun r z H1 s1 => ?_)
    rw [mRest, onR_some z] at q
    obtain ⟨rfl, g⟩ := unstk_some z
    refine chk (hu.same s1) fit2 (fun z => by rw [onR_none z] at q; exact ends_same s1 q) (fun s z H2 s2 => ?_)
    rw [onR_some z] at q
    obtain ⟨rfl, g2⟩ := unstk_some z
    have s02 := s1.trans s2
    refine loopT_map ent hu (fun l σ H' => Same H H' ∧ ∃ a b c, σ = [some v, some u, a, b, c] ∧ leads r l = leads r s)
      ⟨s02, _, _, _, rfl, rfl⟩ (fun _ _ _ h => h.1) (fun y d l σ H' hm h hy N hN => ?_) (fun σ H' h => ?_)
    · obtain ⟨s4, a, b, c, rfl, ef⟩ := h
      obtain ⟨t, rfl, hS⟩ := ent_at hy
      obtain ⟨k, z⟩ := d
      walk_at "rd"
      walk_at "rs"
      refine ⟨_, hS, rfl, _, _, rfl, _, _, rfl, rfl, ?_⟩
      refine ⟨_, _, _, rfl, hd.same s4, fun H5 s5 => ?_⟩
      walk_at "rs"
      have el : leads r ((k, z) :: l) = (Txt.startswith (atR r k) z && leads r l) := rfl
      refine ite2 (fun e => ?_) (fun e => ?_)
      · rw [if_neg (by rw [← ef, el, e]; simp)] at q
        exact q _ (s4.trans s5)
      · refine hN _ _ ⟨s4.trans s5, _, _, _, rfl, ?_⟩
        rw [← ef, el, eq_true_of_ne_false e]
        rfl
    · obtain ⟨s4, a, b, c, rfl, ef⟩ := h
      rw [if_pos (by rw [← ef]; rfl)] at q
      walk_at "rd"
      walk_at "rs"
      intro p hp
      have hp0 : H p = none := (kept_of (M := []) s4).free hp
      refine loopT_map ent hd (fun l σ H' => Same H H' ∧ ∃ told a b, σ = [some v, some u, a, b, some (.ref p)] ∧ H' p = some (.dK (dk told)) ∧ (keys told).Nodup ∧ told.length + l.length ≤ 60 ∧ l.foldl (resS s) told = r.foldl (resS s) [])
        ⟨put_same s4 hp0, [], _, _, rfl, upd_same, .nil, by have := fit_len fit; simp; omega, rfl⟩ (fun _ _ _ h => h.1) (fun y d l σ H' hm h hy N hN => ?_) (fun σ H' h => ?_)
      · obtain ⟨s4, told, a, b, rfl, e1, nt, hl, ef⟩ := h
        obtain ⟨t, rfl, hS⟩ := ent_at hy
        obtain ⟨k, z⟩ := d
        walk_at "rd"
        walk_at "rs"
        refine ⟨_, hS, rfl, _, _, rfl, _, _, rfl, rfl, ?_⟩
        refine ⟨_, _, _, rfl, hu.same s4, fun H5 s5 => ?_⟩
        walk_at "rs"
        rw [List.foldl_cons] at ef
        refine ⟨Nat.le_trans (fit_at fit2 k) (by decide), z, rfl, Nat.le_trans (fit_mem fit hm) (by decide), ?_⟩
        refine ⟨_, .inl ⟨dk told, .inl k, s5 _ _ e1, rfl, ?_, rfl⟩, ?_⟩
        · rw [len_dk]
          simp at hl
          exact Nat.lt_of_le_of_lt (show told.length ≤ 60 by omega) (by decide)
        · refine hN _ _ ⟨put_same (s4.trans s5) hp0, putR told k (cutS z (some (atR s k).length) none), _, _, rfl, by rw [upd_same, putK_dk], put_nodup nt _ _, ?_, ?_⟩
          · have := put_len told k (cutS z (some (atR s k).length) none)
            simp at hl
            omega
          · rw [← ef, resS]
      · obtain ⟨s4, told, a, b, rfl, e1, nt, hl, ef⟩ := h
        walk_at "rd"
        walk_at "rs"
        refine ⟨p, told, rfl, e1, nt, by simp at hl; omega, fun v' H5 s5 h5 => q v' H5 (s4.trans s5) ?_⟩
        rw [resR, ← ef]
        exact h5
abbrev N_after : List Str := ["first", "second", "told", "colour", "word"]
abbrev P_after : List Str := ["first", "second"]
theorem sc_after : FnScope N_after P_after (defScope s_after) := ⟨rfl, rfl, rfl, by decide +kernel, rfl, by decide +kernel, by decide +kernel⟩
theorem bn_after : ∀ (kV doc pm : Value) (an : Option Addr) (cdv ct : Value) (us : List Value), us.length = P_after.length → bindArgs (PySem.W.fnOf "after" "after" (defArgs s_after) (defBody s_after) (defScope s_after) .none kV doc pm an cdv ct) ⟨us, []⟩ = pure (P_after.zip us) := fun _ _ _ _ _ _ us hl => match us, hl with | [_, _], _ => rfl
theorem k_after (T : Txt K mg) : Knows P w K mg base (L2.CX P w) 4 "after" P_after (sp2P K mAfter) := by
  have k_check_stacks := k_check_stacks (P := P) (w := w) (base := base) T
  have k__words_sorted := k__words_sorted (P := P) (w := w) (base := base) T
  have k__words_at := k__words_at (P := P) (w := w) (base := base) T
  refine knows_of T.g_after T.d_after bn_after fun fd F => F.ok sc_after (fun vs H Q E h => ?_) (fun cdv A outer s H vs Q E hr h => ?_)
  · obtain ⟨v, u, d, e, rfl, hd, fit, hu, fit2, q⟩ := h
    rfl
  · obtain ⟨v, u, d, e, rfl, hd, fit, hu, fit2, q⟩ := h
    have nd := sc_after.nd
    refine ⟨_, (pss_cons (ps_expr (pe_k k_check_stacks (hr.mono (by decide)) (passO (takes_of rfl rfl rfl rfl)) (pa_cons (pv 0) pa_nil)))
      (pss_cons (ps_expr (pe_k k_check_stacks (hr.mono (by decide)) (passO (takes_of rfl rfl rfl rfl)) (pa_cons (pv 1) pa_nil)))
      (pss_cons (ps_set (i := 2) nd rfl (Or.inl rfl) (pe_callTy (dictTK (K := K) rfl) rfl T.f_dict (by decide +kernel) (pa_cons (pv 0) pa_nil)))
      (pss_cons (ps_for (passes_of rfl) rfl (pi_tup (pv 1)) (pg_tupK (K := K) (n := 2) rfl (pgs_cons (pg_name (i := 3) nd rfl (Or.inl rfl)) (pgs_cons (pg_name (i := 4) nd rfl (Or.inl rfl)) pgs_nil))) (pss_one (ps_dput (hu_of hr) (pv 2) (pv 3) (pe_op op_add_str (pe_k k__words_at (hr.mono (by decide)) pass0 (pa_cons (pv 0) (pa_cons (pv 3) pa_nil))) (pv 4)) rfl)))
      (pss_one (ps_ret (pe_k k__words_sorted (hr.mono (by decide)) pass0 (pa_cons (pv 2) pa_nil)))))))), ?_⟩
    walk_at "rd"
    walk_at "rs"
    refine chk hd.1 fit (fun z => by rw [mAfter, onR_none z] at q; exact q) (fun r z H1 s1 => ?_)
    rw [mAfter, onR_some z] at q
    obtain ⟨rfl, g⟩ := unstk_some z
    refine chk (hu.same s1) fit2 (fun z => by rw [onR_none z] at q; exact ends_same s1 q) (fun s z H2 s2 => ?_)
    rw [onR_some z] at q
    obtain ⟨rfl, g2⟩ := unstk_some z
    have s03 := s1.trans s2
    refine dict_row (hd.same s03) g.srt.nodup fun p hp => ?_
    have hp0 : H p = none := (kept_of (M := []) s03).free hp
    refine loopT_map ent hu (fun l σ H' => Same H H' ∧ ∃ told a b, σ = [some v, some u, some (.ref p), a, b] ∧ H' p = some (.dK (dk told)) ∧ (keys told).Nodup ∧ told.length + l.length ≤ 60 ∧ l.foldl (aftS r) told = s.foldl (aftS r) r)
      ⟨put_same s03 hp0, r, _, _, rfl, upd_same, g.srt.nodup, by have := fit_len fit; have := fit_len fit2; omega, rfl⟩ (fun _ _ _ h => h.1) (fun y d l σ H' hm h hy N hN => ?_) (fun σ H' h => ?_)
    · obtain ⟨s4, told, a, b, rfl, e1, nt, hl, ef⟩ := h
      obtain ⟨t, rfl, hS⟩ := ent_at hy
      obtain ⟨k, z⟩ := d
      walk_at "rd"
      walk_at "rs"
      refine ⟨_, hS, rfl, _, _, rfl, _, _, rfl, rfl, ?_⟩
      refine ⟨_, _, _, rfl, hd.1.same s4, fun H5 s5 => ?_⟩
      walk_at "rs"
      rw [List.foldl_cons] at ef
      have f1 := fit_at fit k
      have f2 : z.length ≤ 20000 := fit_mem fit2 hm
      refine ⟨Nat.le_trans (show _ ≤ 40000 by omega) (by decide), ?_⟩
      refine ⟨_, .inl ⟨dk told, .inl k, s5 _ _ e1, rfl, ?_, rfl⟩, ?_⟩
      · rw [len_dk]
        simp at hl
        exact Nat.lt_of_le_of_lt (show told.length ≤ 60 by omega) (by decide)
      · refine hN _ _ ⟨put_same (s4.trans s5) hp0, putR told k (atR r k ++ z), _, _, rfl, ?_, put_nodup nt _ _, ?_, ?_⟩
        · rw [upd_same, ← putK_dk]
          rfl
        · have := put_len told k (atR r k ++ z)
          simp at hl
          omega
        · rw [← ef, aftS]
    · obtain ⟨s4, told, a, b, rfl, e1, nt, hl, ef⟩ := h
      walk_at "rd"
      walk_at "rs"
      refine ⟨p, told, rfl, e1, nt, by simp at hl; omega, fun v' H5 s5 h5 => q v' H5 (s4.trans s5) ?_⟩
      rw [aftR, ← ef]
      exact h5
abbrev N_letters : List Str := ["stacks", "colour", "word"]
abbrev P_letters : List Str := ["stacks"]
theorem sc_letters : FnScope N_letters P_letters (defScope s_letters) := ⟨rfl, rfl, rfl, by decide +kernel, rfl, by decide +kernel, by decide +kernel⟩
theorem bn_letters : ∀ (kV doc pm : Value) (an : Option Addr) (cdv ct : Value) (us : List Value), us.length = P_letters.length → bindArgs (PySem.W.fnOf "letters" "letters" (defArgs s_letters) (defBody s_letters) (defScope s_letters) .none kV doc pm an cdv ct) ⟨us, []⟩ = pure (P_letters.zip us) := fun _ _ _ _ _ _ us hl => match us, hl with | [_], _ => rfl
def sp1F (K : PySem.W.Frag) (m : PyData → Out) : Sp := fun vs H Q E => ∃ v d, vs = [v] ∧ Dp K H v d ∧ Fit d ∧ ends K H Q E (m d)
theorem ints_of {K : PySem.W.Frag} {H : Hp} {vs : List V} {ns : List Int} (h : DpAll K H vs (ns.map PyData.int)) : vs = ns.map V.int := by
  induction ns generalizing vs with
  | nil => cases h; rfl
  | cons n ns ih =>
    cases h with
    | cons h1 h2 =>
      cases h1
      rw [ih h2]
      rfl
theorem k_letters (T : Txt K mg) : Knows P w K mg base (L2.CX P w) 4 "letters" P_letters (sp1F K mLetters) := by
  have k_check_stacks := k_check_stacks (P := P) (w := w) (base := base) T
  refine knows_of T.g_letters T.d_letters bn_letters fun fd F => F.ok sc_letters (fun vs H Q E h => ?_) (fun cdv A outer s H vs Q E hr h => ?_)
  · obtain ⟨v, d, rfl, hd, fit, q⟩ := h
    rfl
  · obtain ⟨v, d, rfl, hd, fit, q⟩ := h
    have nd := sc_letters.nd
    refine ⟨_, (pss_cons (ps_expr (pe_k k_check_stacks (hr.mono (by decide)) (passO (takes_of rfl rfl rfl rfl)) (pa_cons (pv 0) pa_nil)))
      (pss_one (ps_ret (pe_callB (sumK (K := K) rfl) rfl T.f_sum (by decide +kernel) (pa_cons (pe_lc (own := [("colour", 1), ("word", 2)]) rfl nd (pi_tup (pv 0)) (blkOk_by (N := N_letters) (sc := defScope s_letters) (by decide +kernel)) (fun _ _ _ _ _ => (pg_tupK (K := K) (n := 2) rfl (pgs_cons (pg_name (i := 1) nd rfl (Or.inl rfl)) (pgs_cons (pg_name (i := 2) nd rfl (Or.inl rfl)) pgs_nil)))) (fun _ _ _ _ _ => pts_nil) (fun _ _ _ _ _ => (pe_callB call_len_str rfl T.f_len (by decide +kernel) (pa_cons (pv 2) pa_nil)))) pa_nil))))), ?_⟩
    walk_at "rd"
    walk_at "rs"
    refine chk hd fit (fun z => by rw [mLetters, onR_none z] at q; exact q) (fun r z H1 s1 => ?_)
    rw [mLetters, onR_some z] at q
    obtain ⟨rfl, g⟩ := unstk_some z
    refine compT_map ent (hd.same s1) (fun p => some (.int p.2.length)) (Nat.le_trans (fit_len fit) (by decide)) (fun p _ e he => by cases he; rfl) (fun p hm => ?_) fun p1 H2 _ s2 l1 e1 d1 => ?_
    · intro y H' N Y s1 hy hN hY
      obtain ⟨a, rfl, hS⟩ := ent_at hy
      walk_at "rd"
      walk_at "rs"
      refine ⟨_, hS, rfl, _, _, rfl, _, _, rfl, rfl, ?_⟩
      exact ⟨_, rfl, Nat.le_trans (fit_mem fit hm) (by decide), hY _ _ _ (Same.refl _) rfl (.int _)⟩
    · have e : (r.filterMap fun p => some (PyData.int p.2.length)) = (r.map fun p => (p.2.length : Int)).map PyData.int := by
        rw [List.filterMap_eq_map', List.map_map]
        rfl
      rw [e] at d1
      obtain rfl := ints_of d1
      exact ⟨p1, _, rfl, SqL.of e1, q _ _ (s1.trans s2) (.int _)⟩
end
end K19

namespace K19
open PySem PySem.Spec PyProof.Rows L2 MeD MeK MeL
local macro_rules | `(tactic| walk_at "rd") => `(tactic| (dsimp only [tVar, tC, tOp, tUn, tCons, tNil, tTup, tLst, tCB, tK, tKS, tTest, tB, tAnd, tOr, tNot, tAndV, tOrV, tNotV, tIf, tIfS, tSeq, tNext, tRet, tRetN, tDrop, tAsg, gName, gTup, gNil, gCons, wipe, tYes, tSl, tPart, tNoPart, tBM, tBM0,  tBreak, tCont, gLst, tDGet, tDIn, tDNotIn, sDPut, tDNewK, MeL.for_tup_eq, MeL.for_list_eq, MeL.for_str_eq, MeL.for_rng_eq, MeL.for_row_eq, MeL.lc_tup_eq, MeL.lc_list_eq, MeL.lc_str_eq, MeL.lc_rng_eq, rI0, rI, rU, tRs1, cxOf, Cx.tr, Cx.suite, L2.start, List.map, List.replicate, List.length, List.append, HAppend.hAppend, Append.append, Nat.reduceAdd, Nat.reduceSub]))
local macro_rules | `(tactic| walk_at "rs") => `(tactic| (try simp only [List.getElem?_cons_zero, List.getElem?_cons_succ, Option.some.injEq, exists_eq_left', exists_eq_left, V.bl.injEq, V.int.injEq, V.str.injEq, V.ref.injEq, List.cons.injEq, and_true, true_and, and_self, exists_and_left, exists_eq', exists_eq, ↓reduceIte, reduceCtorEq, Bool.false_eq_true, false_and, exists_const, exists_false, decide_true, decide_false, Bool.not_true, Bool.not_false, List.set_cons_zero, List.set_cons_succ, MeK.tyv_str, or_false, MeL.for_row_eq, MeK.req_int, MeK.rne_int, MeK.req_str, MeK.rne_str, MeK.req_bl, MeK.rne_bl, decide_eq_true_eq, Bool.not_eq_true', decide_eq_false_iff_not, Int.natCast_inj]))
def spTake : Sp := fun vs H Q _ => ∃ d m, vs = [.ref d, .int m] ∧ 0 < m ∧ DrawsAt d H ∧ ∀ i H', 0 ≤ i → i < m → Dk d H H' → Q (.int i) H'
/-- a word to come out -/
def Wd (n : Nat) (w : Str) : Prop := okW w = true ∧ w ≠ "" ∧ w.length ≤ n
def spLetters : Sp := fun vs H Q _ => ∃ d, vs = [.ref d] ∧ DrawsAt d H ∧ ∀ w H', Wd 780 w → Dk d H H' → Q (.str w) H'
def spDraws (K : PySem.W.Frag) : Sp := fun vs H Q _ => ∃ (a : Addr) (ns : List Int), vs = [.ref a] ∧ SqL K H a (ns.map V.int) ∧ ∀ d H', H d = none → Same H H' → DrawsAt d H' → Q (.ref d) H'
theorem chr0 : atI ("12" : Str).cps.toList 0 = some 49 := by decide +kernel
theorem chr1 : atI ("12" : Str).cps.toList 1 = some 50 := by decide +kernel
theorem Wd12 {y : Str} (h : y = "1" ∨ y = "2") : Wd 1 y := by
  rcases h with rfl | rfl
  · exact ⟨by decide +kernel, by decide +kernel, by decide +kernel⟩
  · exact ⟨by decide +kernel, by decide +kernel, by decide +kernel⟩
theorem strs_12 {vs : List V} (h : ∀ v ∈ vs, v = .str "1" ∨ v = .str "2") : ∃ ys : List Str, vs = ys.map V.str ∧ ∀ y ∈ ys, Wd 1 y := by
  induction vs with
  | nil => exact ⟨[], rfl, by simp⟩
  | cons v vs ih =>
    obtain ⟨ys, rfl, hy⟩ := ih fun u hu => h u (by simp [hu])
    rcases h v (by simp) with rfl | rfl
    · exact ⟨"1" :: ys, rfl, fun y hm => (List.mem_cons.mp hm).elim (fun e => Wd12 (.inl e)) (hy y)⟩
    · exact ⟨"2" :: ys, rfl, fun y hm => (List.mem_cons.mp hm).elim (fun e => Wd12 (.inr e)) (hy y)⟩
theorem okW_app (a b : Str) : okW (a ++ b) = (okW a && okW b) := by
  rw [okW, show (a ++ b).cps.toList = a.cps.toList ++ b.cps.toList from TL.tl_append a b, List.all_append]
  rfl
theorem len_app (a b : Str) : (a ++ b).length = a.length + b.length := by
  rw [TL.len_tl, TL.tl_append, List.length_append, ← TL.len_tl, ← TL.len_tl]
theorem len_ne {a : Str} (h : 0 < a.length) : a ≠ "" := fun e => by
  rw [e] at h
  exact absurd h (by decide +kernel)
theorem ne_len {a : Str} (h : a ≠ "") : 0 < a.length := by
  obtain ⟨c, hc⟩ := head_some h
  have := (List.getElem?_eq_some_iff.mp hc).1
  rw [TL.len_tl]
  exact this
/-- words joined -/
theorem join_Wd {n : Nat} : ∀ {ys : List Str}, (∀ y ∈ ys, Wd n y) → ys ≠ [] → Wd (n * ys.length) (Txt.join "" ys) := by
  intro ys h ne
  rw [TL.join_eq]
  induction ys with
  | nil => exact absurd rfl ne
  | cons y ys ih =>
    have h1 := h y (by simp)
    cases ys with
    | nil =>
      show Wd (n * 1) y
      rw [Nat.mul_one]
      exact h1
    | cons z zs =>
      have h2 := ih (fun u hu => h u (by simp [hu])) (by simp)
      show Wd _ (y ++ "" ++ Str.join "" (z :: zs))
      have e0 : okW ("" : Str) = true := by decide +kernel
      have l0 : ("" : Str).length = 0 := by decide +kernel
      refine ⟨by rw [okW_app, okW_app, h1.1, h2.1, e0]; rfl, len_ne ?_, ?_⟩
      · rw [len_app, len_app]
        have := ne_len h1.2.1
        omega
      · rw [len_app, len_app, l0]
        have a1 := h1.2.2
        have a2 := h2.2.2
        rw [List.length_cons, Nat.mul_succ]
        omega
theorem sum_Wd {n : Nat} {ys : List Str} (h : ∀ y ∈ ys, Wd n y) : (ys.map (·.length)).sum ≤ n * ys.length := by
  induction ys with
  | nil => simp
  | cons y ys ih =>
    rw [List.map_cons, List.sum_cons, List.length_cons, Nat.mul_succ]
    have := ih fun u hu => h u (by simp [hu])
    have := (h y (by simp)).2.2
    omega
theorem l0 : ("" : Str).length = 0 := by decide +kernel
section
variable {P : Program} {w : World} {K : PySem.W.Frag} {mg : Str → Option Value} {base : Heap}
abbrev N__law_draws : List Str := ["script", "draws", "at", "number", "k"]
abbrev P__law_draws : List Str := ["script"]
theorem sc__law_draws : FnScope N__law_draws P__law_draws (defScope s__law_draws) := ⟨rfl, rfl, rfl, by decide +kernel, rfl, by decide +kernel, by decide +kernel⟩
theorem bn__law_draws : ∀ (kV doc pm : Value) (an : Option Addr) (cdv ct : Value) (us : List Value), us.length = P__law_draws.length → bindArgs (PySem.W.fnOf "_law_draws" "_law_draws" (defArgs s__law_draws) (defBody s__law_draws) (defScope s__law_draws) .none kV doc pm an cdv ct) ⟨us, []⟩ = pure (P__law_draws.zip us) := fun _ _ _ _ _ _ us hl => match us, hl with | [_], _ => rfl
theorem k__law_draws (T : Txt K mg) : Knows P w K mg base CX0 1 "_law_draws" P__law_draws (spDraws K) := by
  refine knows_of T.g__law_draws T.d__law_draws bn__law_draws fun fd F => F.ok sc__law_draws (fun vs H Q E h => ?_) (fun cdv A outer s H vs Q E hr h => ?_)
  · obtain ⟨a, ns, rfl, ha, q⟩ := h
    rfl
  · obtain ⟨a, ns, rfl, ha, q⟩ := h
    have nd := sc__law_draws.nd
    refine ⟨_, (pss_cons (ps_set (i := 1) nd rfl (Or.inl rfl) (pe_lst pa_nil))
      (pss_cons (ps_for (passes_of rfl) rfl (pi_range1 rfl T.f_range (pa_cons (pe_callB (call_min2 rfl) rfl T.f_min (by decide +kernel) (pa_cons (pe_callB (lenK (K := K)) rfl T.f_len (by decide +kernel) (pa_cons (pv 0) pa_nil)) (pa_cons pe_int pa_nil))) pa_nil)) (pg_name (i := 2) nd rfl (Or.inl rfl)) (pss_cons (ps_set (i := 3) nd rfl (Or.inl rfl) (pe_callB call_abs rfl T.f_abs (by decide +kernel) (pa_cons (pe_callTy call_int1 rfl T.f_int (by decide +kernel) (pa_cons (pe_ix (ix_listK (K := K)) (pv 0) (pv 2) (fun _ _ => rfl)) pa_nil)) pa_nil)))
      (pss_cons (ps_expr (pe_bm PySem.F.plainAttrs_list PySem.F.slot_list_append PySem.F.type_list_append mt_append (pv 1) (pa_cons (pe_op op_mod (pe_callTy call_int1 rfl T.f_int (by decide +kernel) (pa_cons (pv 3) pa_nil)) pe_int) pa_nil)))
      (pss_cons (ps_set (i := 3) nd rfl (Or.inl rfl) (pe_op op_fdivW (pv 3) pe_int))
      (pss_one (ps_for (passes_of rfl) rfl (pi_range1 rfl T.f_range (pa_cons pe_int pa_nil)) (pg_name (i := 4) nd rfl (Or.inl rfl)) (pss_one (ps_if (pt_cmpR op_gt (pv 3) pe_int (nomark _)) (pss_cons (ps_expr (pe_bm PySem.F.plainAttrs_list PySem.F.slot_list_append PySem.F.type_list_append mt_append (pv 1) (pa_cons (pe_op op_mod (pe_callTy call_int1 rfl T.f_int (by decide +kernel) (pa_cons (pv 3) pa_nil)) pe_int) pa_nil)))
      (pss_one (ps_set (i := 3) nd rfl (Or.inl rfl) (pe_op op_fdivW (pv 3) pe_int)))) pss_nil))))))))
      (pss_cons (ps_expr (pe_bm0 PySem.F.plainAttrs_list PySem.F.slot_list_reverse PySem.F.type_list_reverse mt_reverse (pv 1)))
      (pss_one (ps_ret (pv 1)))))), ?_⟩
    walk_at "rd"
    walk_at "rs"
    refine ⟨by decide, fun p hp => ⟨a, _, rfl, .inl (same_seq (same_new hp) ha), ?_⟩⟩
    rw [List.length_map]
    refine ⟨_, _, ⟨rfl, rfl⟩, ?_, ?_, ?_⟩
    · split <;> omega
    · split <;> omega
    have hN : ∃ N : Nat, (if (63 : Int) < (ns.length : Int) then (63 : Int) else (ns.length : Int)).toNat = N ∧ N ≤ 63 ∧ N ≤ ns.length := ⟨_, rfl, by split <;> omega, by split <;> omega⟩
    obtain ⟨N, hN, hN1, hN2⟩ := hN
    rw [hN]
    refine loopR_of (fun i σ H' => Same H H' ∧ ∃ (ms : List Int) (x y z : Option V), σ = [some (.ref a), some (.ref p), x, y, z] ∧ H' p = some (.lst (ms.map V.int)) ∧ ms.length ≤ 25 * i ∧ ∀ m ∈ ms, 0 ≤ m)
      ⟨same_new hp, [], _, _, _, rfl, upd_same, by simp, by simp⟩ (fun i σ H' hi h => ?_) (fun σ H' h => ?_)
    · obtain ⟨s1, ms, x, y, z, rfl, e, hl, hm⟩ := h
      have big : ∀ k : Nat, k ≤ 5000 → k < sizeLine := fun k hk => Nat.lt_of_le_of_lt hk (by decide)
      have z0 : (0 : Int) + (i : Int) = (i : Int) := by omega
      rw [z0]
      walk_at "rd"
      walk_at "rs"
      obtain ⟨v, hv⟩ : ∃ v, ns[i]? = some v := ⟨ns[i]'(by omega), List.getElem?_eq_getElem (by omega)⟩
      refine ⟨a, _, i, .int v, rfl, rfl, same_seq s1 ha, atI_nat (by rw [List.getElem?_map, hv]; rfl), .inl ⟨_, rfl, ?_⟩⟩
      walk_at "rs"
      have nn : 0 ≤ (if v < 0 then -v else v) := by split <;> omega
      generalize (if v < 0 then -v else v) = n at nn
      refine ⟨tyv_list (SqL.of e), ?_⟩
      refine ⟨by decide, p, _, _, rfl, rfl, e, big _ (by rw [List.length_map]; omega), ?_⟩
      refine ⟨⟨by decide, by decide +kernel⟩, by decide, by decide, ?_⟩
      refine loopR_of (fun j σ H' => Same H H' ∧ ∃ (ms : List Int) (n : Int) (z : Option V), σ = [some (.ref a), some (.ref p), some (.int i), some (.int n), z] ∧ 0 ≤ n ∧ H' p = some (.lst (ms.map V.int)) ∧ ms.length ≤ 25 * i + 1 + j ∧ ∀ m ∈ ms, 0 ≤ m)
        ⟨put_same s1 hp, ms ++ [n % 16], _, _, rfl, by omega, by rw [upd_same, List.map_append]; rfl, by rw [List.length_append]; simp; omega, ?_⟩ (fun j σ H' hj h => ?_) (fun σ H' h => ?_)
      · intro m h
        rcases List.mem_append.mp h with h | h
        · exact hm m h
        · rw [List.mem_singleton.mp h]
          omega
      · obtain ⟨s1, ms, n, z, rfl, n0, e, hl, hm⟩ := h
        have j24 : j < 24 := hj
        walk_at "rd"
        walk_at "rs"
        refine ite2 (fun g => ?_) (fun g => ⟨s1, ms, n, _, ⟨rfl, rfl⟩, n0, e, by omega, hm⟩)
        refine ⟨tyv_list (SqL.of e), by decide, p, _, _, rfl, rfl, e, big _ (by rw [List.length_map]; omega), ?_⟩
        refine ⟨⟨by decide, by decide +kernel⟩, put_same s1 hp, ms ++ [n % 16], _, _, ⟨rfl, rfl⟩, by omega, by rw [upd_same, List.map_append]; rfl, by rw [List.length_append]; simp; omega, ?_⟩
        intro m h
        rcases List.mem_append.mp h with h | h
        · exact hm m h
        · rw [List.mem_singleton.mp h]
          omega
      · obtain ⟨s1, ms, n, z, rfl, n0, e, hl, hm⟩ := h
        have hl : ms.length ≤ 25 * i + 1 + 24 := hl
        exact ⟨s1, ms, _, _, _, rfl, e, by omega, hm⟩
    · obtain ⟨s1, ms, x, y, z, rfl, e, hl, hm⟩ := h
      walk_at "rd"
      walk_at "rs"
      refine ⟨tyv_list (SqL.of e), p, _, rfl, rfl, e, ?_⟩
      refine q p _ hp (put_same s1 hp) ⟨ms.reverse, ?_, ?_, ?_⟩
      · rw [upd_same, List.map_reverse]
      · rw [List.length_reverse]
        omega
      · intro n hn
        exact hm n (List.mem_reverse.mp hn)
abbrev N__law_take : List Str := ["draws", "many"]
abbrev P__law_take : List Str := ["draws", "many"]
theorem sc__law_take : FnScope N__law_take P__law_take (defScope s__law_take) := ⟨rfl, rfl, rfl, by decide +kernel, rfl, by decide +kernel, by decide +kernel⟩
theorem bn__law_take : ∀ (kV doc pm : Value) (an : Option Addr) (cdv ct : Value) (us : List Value), us.length = P__law_take.length → bindArgs (PySem.W.fnOf "_law_take" "_law_take" (defArgs s__law_take) (defBody s__law_take) (defScope s__law_take) .none kV doc pm an cdv ct) ⟨us, []⟩ = pure (P__law_take.zip us) := fun _ _ _ _ _ _ us hl => match us, hl with | [_, _], _ => rfl
theorem k__law_take (T : Txt K mg) : Knows P w K mg base CX0 1 "_law_take" P__law_take (spTake) := by
  refine knows_of T.g__law_take T.d__law_take bn__law_take fun fd F => F.ok sc__law_take (fun vs H Q E h => ?_) (fun cdv A outer s H vs Q E hr h => ?_)
  · obtain ⟨d, m, rfl, hm, hd, q⟩ := h
    rfl
  · obtain ⟨d, m, rfl, hm, hd, q⟩ := h
    have nd := sc__law_take.nd
    refine ⟨_, (pss_cons (ps_if (pt_cmpR op_eq (pe_callB (lenK (K := K)) rfl T.f_len (by decide +kernel) (pa_cons (pv 0) pa_nil)) pe_int (nomark _)) (pss_one (ps_ret pe_int)) pss_nil)
      (pss_one (ps_ret (pe_op op_mod (pe_callTy call_int1 rfl T.f_int (by decide +kernel) (pa_cons (pe_bm0 PySem.F.plainAttrs_list PySem.F.slot_list_pop PySem.F.type_list_pop mt_pop (pv 0)) pa_nil)) (pv 1))))), ?_⟩
    walk_at "rd"
    walk_at "rs"
    obtain ⟨ns, e, hl, hn⟩ := hd
    refine ⟨d, _, rfl, .inl (SqL.of e), ?_⟩
    walk_at "rs"
    refine ite2 (fun z => q 0 H (Int.le_refl _) hm (.refl ⟨ns, e, hl, hn⟩)) (fun z => ?_)
    rw [List.length_map] at z
    have hlt : ns.length - 1 < ns.length := by omega
    refine ⟨tyv_list (SqL.of e), d, _, .int (ns[ns.length - 1]'hlt), rfl, rfl, e, ?_, .inl ⟨_, rfl, hm, ?_⟩⟩
    · rw [List.getElem?_map, List.length_map, List.getElem?_eq_getElem hlt]
      rfl
    · refine q _ _ (Int.emod_nonneg _ (by omega)) (Int.emod_lt_of_pos _ hm) ⟨kept_put (by simp), ns.dropLast, ?_, ?_, fun n h => hn n ((List.dropLast_sublist ns).subset h)⟩
      · rw [upd_same, List.map_dropLast]
      · rw [List.length_dropLast]
        omega
abbrev N__law_pick : List Str := ["draws", "many", "high"]
abbrev P__law_pick : List Str := ["draws", "many"]
theorem sc__law_pick : FnScope N__law_pick P__law_pick (defScope s__law_pick) := ⟨rfl, rfl, rfl, by decide +kernel, rfl, by decide +kernel, by decide +kernel⟩
theorem bn__law_pick : ∀ (kV doc pm : Value) (an : Option Addr) (cdv ct : Value) (us : List Value), us.length = P__law_pick.length → bindArgs (PySem.W.fnOf "_law_pick" "_law_pick" (defArgs s__law_pick) (defBody s__law_pick) (defScope s__law_pick) .none kV doc pm an cdv ct) ⟨us, []⟩ = pure (P__law_pick.zip us) := fun _ _ _ _ _ _ us hl => match us, hl with | [_, _], _ => rfl
theorem k__law_pick (T : Txt K mg) : Knows P w K mg base CX0 2 "_law_pick" P__law_pick (spTake) := by
  have k__law_take := k__law_take (P := P) (w := w) (base := base) T
  refine knows_of T.g__law_pick T.d__law_pick bn__law_pick fun fd F => F.ok sc__law_pick (fun vs H Q E h => ?_) (fun cdv A outer s H vs Q E hr h => ?_)
  · obtain ⟨d, m, rfl, hm, hd, q⟩ := h
    rfl
  · obtain ⟨d, m, rfl, hm, hd, q⟩ := h
    have nd := sc__law_pick.nd
    refine ⟨_, (pss_cons (ps_set (i := 2) nd rfl (Or.inl rfl) (pe_k k__law_take (hr.mono (by decide)) pass0 (pa_cons (pv 0) (pa_cons pe_int pa_nil))))
      (pss_one (ps_ret (pe_op op_mod (pe_callTy call_int1 rfl T.f_int (by decide +kernel) (pa_cons (pe_op op_add (pe_op op_mul pe_int (pv 2)) (pe_k k__law_take (hr.mono (by decide)) pass0 (pa_cons (pv 0) (pa_cons pe_int pa_nil)))) pa_nil)) (pv 1))))), ?_⟩
    walk_at "rd"
    walk_at "rs"
    refine ⟨d, 16, rfl, by decide, hd, fun i H1 i0 i1 k1 => ⟨i, rfl, .inl ⟨by decide, by decide⟩, ?_⟩⟩
    refine ⟨d, 16, rfl, by decide, k1.2, fun j H2 j0 j1 k2 => ⟨j, rfl, hm, ?_⟩⟩
    exact q _ _ (Int.emod_nonneg _ (by omega)) (Int.emod_lt_of_pos _ hm) (k1.trans k2)
abbrev N__law_letters : List Str := ["draws", "word", "k"]
abbrev P__law_letters : List Str := ["draws"]
theorem sc__law_letters : FnScope N__law_letters P__law_letters (defScope s__law_letters) := ⟨rfl, rfl, rfl, by decide +kernel, rfl, by decide +kernel, by decide +kernel⟩
theorem bn__law_letters : ∀ (kV doc pm : Value) (an : Option Addr) (cdv ct : Value) (us : List Value), us.length = P__law_letters.length → bindArgs (PySem.W.fnOf "_law_letters" "_law_letters" (defArgs s__law_letters) (defBody s__law_letters) (defScope s__law_letters) .none kV doc pm an cdv ct) ⟨us, []⟩ = pure (P__law_letters.zip us) := fun _ _ _ _ _ _ us hl => match us, hl with | [_], _ => rfl
theorem k__law_letters (T : Txt K mg) : Knows P w K mg base CX0 3 "_law_letters" P__law_letters (spLetters) := by
  have k__law_take := k__law_take (P := P) (w := w) (base := base) T
  have k__law_pick := k__law_pick (P := P) (w := w) (base := base) T
  refine knows_of T.g__law_letters T.d__law_letters bn__law_letters fun fd F => F.ok sc__law_letters (fun vs H Q E h => ?_) (fun cdv A outer s H vs Q E hr h => ?_)
  · obtain ⟨d, rfl, hd, q⟩ := h
    rfl
  · obtain ⟨d, rfl, hd, q⟩ := h
    have nd := sc__law_letters.nd
    refine ⟨_, (pss_cons (ps_set (i := 1) nd rfl (Or.inr rfl) (pe_bm PySem.F.plainAttrs_str PySem.F.slot_str_join PySem.F.type_str_join (joinK (K := K)) pe_str (pa_cons (pe_lc (own := [("k", 2)]) rfl nd (pi_range1 rfl T.f_range (pa_cons (pe_op op_add pe_int (pe_k k__law_take (hr.mono (by decide)) pass0 (pa_cons (pv 0) (pa_cons pe_int pa_nil)))) pa_nil)) (blkOk_by (N := N__law_letters) (sc := defScope s__law_letters) (by decide +kernel)) (fun _ _ _ _ _ => (pg_name (i := 2) nd rfl (Or.inl rfl))) (fun _ _ _ _ _ => pts_nil) (fun _ _ _ _ _ => (pe_ix ix_str pe_str (pe_k k__law_take (hr.mono (by decide)) pass0 (pa_cons (pv 0) (pa_cons pe_int pa_nil))) (fun _ _ => rfl)))) pa_nil)))
      (pss_cons (ps_if (pt_cmpR op_eq (pe_k k__law_take (hr.mono (by decide)) pass0 (pa_cons (pv 0) (pa_cons pe_int pa_nil))) pe_int (nomark _)) (pss_one (ps_set (i := 1) nd rfl (Or.inr rfl) (pe_bm PySem.F.plainAttrs_str PySem.F.slot_str_join PySem.F.type_str_join (joinK (K := K)) pe_str (pa_cons (pe_lc (own := [("k", 2)]) rfl nd (pi_range1 rfl T.f_range (pa_cons (pe_op op_add pe_int (pe_k k__law_pick (hr.mono (by decide)) pass0 (pa_cons (pv 0) (pa_cons pe_int pa_nil)))) pa_nil)) (blkOk_by (N := N__law_letters) (sc := defScope s__law_letters) (by decide +kernel)) (fun _ _ _ _ _ => (pg_name (i := 2) nd rfl (Or.inl rfl))) (fun _ _ _ _ _ => pts_nil) (fun _ _ _ _ _ => (pv 1))) pa_nil)))) pss_nil)
      (pss_one (ps_ret (pv 1))))), ?_⟩
    walk_at "rd"
    walk_at "rs"
    refine ⟨d, 6, rfl, by decide, hd, fun i H1 i0 i1 k1 => ⟨i, rfl, by omega, by omega, ?_⟩⟩
    refine compR_draws k1.2 (fun v => v = .str "1" ∨ v = .str "2") (by omega) (fun j H' Y hj k hY => ?_) (fun p H2 acc hp k2 ea hl hr => ?_)
    · walk_at "rd"
      walk_at "rs"
      refine ⟨d, 2, rfl, by decide, k.2, fun i H1 i0 i1 k1 => ?_⟩
      have i2 : i = 0 ∨ i = 1 := by omega
      rcases i2 with rfl | rfl
      · exact ⟨_, _, _, rfl, rfl, by decide +kernel, chr0, hY _ _ k1 (.inl (by rw [s1]))⟩
      · exact ⟨_, _, _, rfl, rfl, by decide +kernel, chr1, hY _ _ k1 (.inr (by rw [s2]))⟩
    · obtain ⟨ys, rfl, hy⟩ := strs_12 hr
      rw [List.length_map] at hl
      refine ⟨_, p, ys, rfl, rfl, .inl (SqL.of ea), ?_, ?_⟩
      · rw [l0]
        have := sum_Wd hy
        omega
      · have hw := join_Wd hy fun z => by rw [z] at hl; simp at hl; omega
        generalize Txt.join "" ys = u at hw
        have hu : Wd 6 u := ⟨hw.1, hw.2.1, by have := hw.2.2; omega⟩
        refine ⟨d, 16, rfl, by decide, k2.2, fun b H3 b0 b1 k3 => ?_⟩
        walk_at "rs"
        refine ite2 (fun z => ?_) (fun z => q u H3 ⟨hu.1, hu.2.1, by have := hu.2.2; omega⟩ (k1.trans (k2.trans k3)))
        refine ⟨d, 130, rfl, by decide, k3.2, fun c H4 c0 c1 k4 => ⟨c, rfl, by omega, by omega, ?_⟩⟩
        refine compR_draws k4.2 (fun v => v = .str u) (by omega) (fun j H' Y hj k hY => ?_) (fun p H5 acc hp k5 ea hl hr => ?_)
        · walk_at "rd"
          walk_at "rs"
          exact hY _ _ (.refl k.2) rfl
        · have ea2 : acc = (List.replicate acc.length u).map V.str := by
            rw [List.map_replicate]
            exact List.eq_replicate_of_mem hr
          have hy : ∀ y ∈ List.replicate acc.length u, Wd 6 y := fun y hy => by
            rw [List.eq_of_mem_replicate hy]
            exact hu
          have hs := sum_Wd hy
          have hw := join_Wd hy fun z => by
            have := congrArg List.length z
            rw [List.length_replicate] at this
            simp at this
            rw [this] at hl
            simp at hl
            omega
          refine ⟨_, p, _, rfl, rfl, .inl (SqL.of (by rw [ea, ← ea2])), ?_, ?_⟩
          · rw [l0]
            rw [List.length_replicate] at hs ⊢
            omega
          · refine q _ _ ⟨hw.1, hw.2.1, ?_⟩ (k1.trans (k2.trans (k3.trans (k4.trans k5))))
            have := hw.2.2
            rw [List.length_replicate] at this
            omega
end
end K19

namespace K19
open PySem PySem.Spec PyProof.Rows L2 MeD MeK MeL
local macro_rules | `(tactic| walk_at "rd") => `(tactic| (dsimp only [tVar, tC, tOp, tUn, tCons, tNil, tTup, tLst, tCB, tK, tKS, tTest, tB, tAnd, tOr, tNot, tAndV, tOrV, tNotV, tIf, tIfS, tSeq, tNext, tRet, tRetN, tDrop, tAsg, gName, gTup, gNil, gCons, wipe, tYes, tSl, tPart, tNoPart, tBM, tBM0,  tBreak, tCont, gLst, tDGet, tDIn, tDNotIn, sDPut, tDNewK, MeL.for_tup_eq, MeL.for_list_eq, MeL.for_str_eq, MeL.for_rng_eq, MeL.for_row_eq, MeL.lc_tup_eq, MeL.lc_list_eq, MeL.lc_str_eq, MeL.lc_rng_eq, rI0, rI, rU, tRs1, cxOf, Cx.tr, Cx.suite, L2.start, List.map, List.replicate, List.length, List.append, HAppend.hAppend, Append.append, Nat.reduceAdd, Nat.reduceSub]))
local macro_rules | `(tactic| walk_at "rs") => `(tactic| (try simp only [List.getElem?_cons_zero, List.getElem?_cons_succ, Option.some.injEq, exists_eq_left', exists_eq_left, V.bl.injEq, V.int.injEq, V.str.injEq, V.ref.injEq, List.cons.injEq, and_true, true_and, and_self, exists_and_left, exists_eq', exists_eq, ↓reduceIte, reduceCtorEq, Bool.false_eq_true, false_and, exists_const, exists_false, decide_true, decide_false, Bool.not_true, Bool.not_false, List.set_cons_zero, List.set_cons_succ, MeK.tyv_str, or_false, MeL.for_row_eq, MeK.req_int, MeK.rne_int, MeK.req_str, MeK.rne_str, MeK.req_bl, MeK.rne_bl, decide_eq_true_eq, Bool.not_eq_true', decide_eq_false_iff_not, Int.natCast_inj]))
/-- a list at p that holds a row -/
def RowAt (K : PySem.W.Frag) (d p : Addr) (r : Row) (H : Hp) : Prop := p ≠ d ∧ ∃ xs, H p = some (.lst xs) ∧ DpAll K H xs (rowD r)
section
variable {K : PySem.W.Frag} {d p : Addr} {r : Row} {H H' : Hp}
theorem RowAt.dk (h : RowAt K d p r H) (k : Dk d H H') (hd : DrawsAt d H) : RowAt K d p r H' := by
  obtain ⟨n, xs, e, hx⟩ := h
  exact ⟨n, xs, k.at_ n e, hx.kept k.1 hd.lists (noL_rowD r)⟩
theorem RowAt.same (h : RowAt K d p r H) (s : Same H H') : RowAt K d p r H' := by
  obtain ⟨n, xs, e, hx⟩ := h
  exact ⟨n, xs, s _ _ e, hx.same s⟩
theorem RowAt.dp (h : RowAt K d p r H) : Dp K H (.ref p) (.list (rowD r)) := by
  obtain ⟨n, xs, e, hx⟩ := h
  exact .lst (SqL.of e) hx
end
/-- a for over a row's list, what is drawn changing -/
theorem loop_row {K : PySem.W.Frag} {d a : Addr} {r : Row} {H0 H : Hp} {g : TG} {tb : TS} {D : Ends} {σ : L2.St} (hd : DrawsAt d H0) (h : RowAt K d a r H0) (Inv : Row → L2.St → Hp → Prop) (h0 : Inv r σ H) (hk : ∀ l σ' H', Inv l σ' H' → Dk d H0 H')
    (hs : ∀ y p l σ' H', p ∈ r → Inv (p :: l) σ' H' → Dp K H' y (ent p) → ∀ N : L2.St → Hp → Prop, (∀ σ2 H2, Inv l σ2 H2 → N σ2 H2) → g y σ' H' fun σ2 H2 => tb (turnE D N) σ2 H2)
    (he : ∀ σ' H', Inv [] σ' H' → D.nx σ' H') : loopL K g tb D σ (.ref a) H := by
  have at_ : ∀ H', Dk d H0 H' → ∃ xs, H0 a = some (.lst xs) ∧ H' a = some (.lst xs) ∧ DpAll K H' xs (rowD r) := fun H' k => by
    obtain ⟨n, xs, e, hx⟩ := h
    exact ⟨xs, e, k.at_ n e, hx.kept k.1 hd.lists (noL_rowD r)⟩
  obtain ⟨xs, e0, e, hx⟩ := at_ H (hk _ _ _ h0)
  refine loopL_core (SqL.of e) hx (fun ds σ' H' => ∃ l, l <:+ r ∧ ds = l.map ent ∧ Inv l σ' H') ⟨r, List.suffix_refl _, rfl, h0⟩ (fun _ σ' H' ⟨_, _, _, q⟩ => ?_) (fun y dd ds σ' H' _ q hy => ?_) (fun σ' H' q => he _ _ (done_map q))
  · obtain ⟨ys, e1, e2, e3⟩ := at_ H' (hk _ _ _ q)
    rw [e0] at e1
    cases e1
    exact ⟨SqL.of e2, e3⟩
  · obtain ⟨p, l, h1, rfl, h2, rfl, h3⟩ := step_map q
    exact hs y p l σ' H' h1 h3 hy _ fun σ2 H2 q => ⟨l, h2, rfl, q⟩
/-- the first's rows -/
structure Fst (m : Int) (r : Row) : Prop where
  good : Good (-1) r
  len : r.length ≤ 6
  wl : ∀ p ∈ r, p.2.length ≤ 780
  lt : ∀ p ∈ r, p.1 ≤ m
  no4 : ∀ p ∈ r, p.1 ≠ 4
def spFirst (K : PySem.W.Frag) : Sp := fun vs H Q _ => ∃ d, vs = [.ref d] ∧ DrawsAt d H ∧ ∀ p r H', Fst (10 ^ 30 + 98) r → Dk d H H' → RowAt K d p r H' → H p = none → Q (.ref p) H'
theorem _root_.MeL.DrawsAt.dk_new {d p : Addr} {H : Hp} {o : HO} (h : DrawsAt d H) (hp : H p = none) : Dk d H (upd H p o) := Dk.same h (same_new hp)
theorem _root_.MeL.Dk.new {d p : Addr} {H H1 : Hp} {o : HO} (h : Dk d H H1) (hp : H1 p = none) : Dk d H (upd H1 p o) := h.trans (h.2.dk_new hp)
theorem good_snoc {l c : Int} {w : Str} {r : Row} (g : Good l r) (h : ∀ q ∈ r, q.1 < c) (hl : l < c) (hw : okW w = true) (hn : w ≠ "") : Good l (r ++ [(c, w)]) := by
  induction r generalizing l with
  | nil => exact ⟨hl, hw, hn, trivial⟩
  | cons p r ih =>
    obtain ⟨k, u⟩ := p
    obtain ⟨g1, g2, g3, g4⟩ := g
    exact ⟨g1, g2, g3, ih g4 (fun q hq => h q (by simp [hq])) (h (k, u) (by simp))⟩
/-- a pair put at the row's end -/
theorem RowAt.snoc {K : PySem.W.Frag} {d p t : Addr} {r : Row} {H : Hp} {xs : List V} {c : Int} {w : Str} (h : p ≠ d) (e : H p = some (.lst xs)) (hx : DpAll K H xs (rowD r)) (ht : SqT K H t [.int c, .str w]) :
    RowAt K d p (r ++ [(c, w)]) (upd H p (.lst (xs ++ [.ref t]))) := by
  refine ⟨h, _, upd_same, ?_⟩
  rw [rowD, List.map_append]
  exact (dps_put e (noL_rowD r) hx).snoc (dp_put e rfl (.tup ht (.cons (.int c) (.cons (.str w) .nil))))
/-- a new pair appended to a row's list -/
theorem app_row {K : PySem.W.Frag} {d p a : Addr} {t : Row} {H H3 : Hp} {c : Int} {u : Str} {Q : VK} (hd : DrawsAt d H) (hp : H p = none) (k : Dk d H H3) (ht : RowAt K d p t H3) (hl : t.length ≤ 100) (ha : H3 a = none)
    (q : ∀ H', Dk d H H' → (∀ b o, b ≠ p → H3 b = some o → H' b = some o) → RowAt K d p (t ++ [(c, u)]) H' → Q .non H') : rAppend (.ref p) [.ref a] (upd H3 a (.tup [.int c, .str u])) Q := by
  obtain ⟨pd, xs, e, hx⟩ := ht
  have e' := same_new (o := .tup [.int c, .str u]) ha _ _ e
  have lx := hx.len
  rw [rowD, List.length_map] at lx
  refine ⟨p, xs, _, rfl, rfl, e', Nat.lt_of_le_of_lt (show xs.length ≤ 100 by omega) (by decide), ?_⟩
  refine q _ (Dk.put hd (k.new ha) hp) (fun b o hb eb => ?_) (RowAt.snoc pd e' (hx.same (same_new ha)) (SqT.of upd_same))
  rw [upd_ne hb]
  exact same_new ha _ _ eb
theorem Dk_tup {K : PySem.W.Frag} {d a : Addr} {H H' : Hp} {xs : List V} (hd : DrawsAt d H) (k : Dk d H H') (h : SqT K H a xs) : SqT K H' a xs := k.1.tup hd.lists h
section
variable {P : Program} {w : World} {K : PySem.W.Frag} {mg : Str → Option Value} {base : Heap}
abbrev N__law_first : List Str := ["draws", "row", "colour"]
abbrev P__law_first : List Str := ["draws"]
theorem sc__law_first : FnScope N__law_first P__law_first (defScope s__law_first) := ⟨rfl, rfl, rfl, by decide +kernel, rfl, by decide +kernel, by decide +kernel⟩
theorem bn__law_first : ∀ (kV doc pm : Value) (an : Option Addr) (cdv ct : Value) (us : List Value), us.length = P__law_first.length → bindArgs (PySem.W.fnOf "_law_first" "_law_first" (defArgs s__law_first) (defBody s__law_first) (defScope s__law_first) .none kV doc pm an cdv ct) ⟨us, []⟩ = pure (P__law_first.zip us) := fun _ _ _ _ _ _ us hl => match us, hl with | [_], _ => rfl
theorem k__law_first (T : Txt K mg) : Knows P w K mg base CX0 4 "_law_first" P__law_first (spFirst K) := by
  have k__law_take := k__law_take (P := P) (w := w) (base := base) T
  have k__law_pick := k__law_pick (P := P) (w := w) (base := base) T
  have k__law_letters := k__law_letters (P := P) (w := w) (base := base) T
  refine knows_of T.g__law_first T.d__law_first bn__law_first fun fd F => F.ok sc__law_first (fun vs H Q E h => ?_) (fun cdv A outer s H vs Q E hr h => ?_)
  · obtain ⟨d, rfl, hd, q⟩ := h
    rfl
  · obtain ⟨d, rfl, hd, q⟩ := h
    have nd := sc__law_first.nd
    refine ⟨_, (pss_cons (ps_set (i := 1) nd rfl (Or.inl rfl) (pe_lst pa_nil))
      (pss_cons (ps_for (passes_of rfl) rfl (pi_list (pe_lst (pa_cons pe_int (pa_cons pe_int (pa_cons pe_int (pa_cons pe_int (pa_cons (pe_op op_add (pe_op op_pow pe_int pe_int) (pe_k k__law_take (hr.mono (by decide)) pass0 (pa_cons (pv 0) (pa_cons pe_int pa_nil)))) (pa_cons (pe_op op_add (pe_op op_pow pe_int pe_int) (pe_k k__law_pick (hr.mono (by decide)) pass0 (pa_cons (pv 0) (pa_cons pe_int pa_nil)))) pa_nil)))))))) (pg_name (i := 2) nd rfl (Or.inl rfl)) (pss_one (ps_if (pt_cmpR op_lt (pe_k k__law_take (hr.mono (by decide)) pass0 (pa_cons (pv 0) (pa_cons pe_int pa_nil))) pe_int (nomark _)) (pss_one (ps_expr (pe_bm PySem.F.plainAttrs_list PySem.F.slot_list_append PySem.F.type_list_append mt_append (pv 1) (pa_cons (pe_tup (pa_cons (pv 2) (pa_cons (pe_k k__law_letters (hr.mono (by decide)) pass0 (pa_cons (pv 0) pa_nil)) pa_nil))) pa_nil)))) pss_nil)))
      (pss_one (ps_ret (pv 1))))), ?_⟩
    walk_at "rd"
    walk_at "rs"
    refine ⟨by decide, fun p hp => ⟨⟨by decide, by decide, by decide⟩, ?_⟩⟩
    have k0 : Dk d H (upd H p (.lst [])) := hd.dk_new hp
    refine ⟨d, 9, rfl, by decide, k0.2, fun x H1 x0 x1 k1 => ⟨x, rfl, ⟨by decide, by decide, by decide⟩, ?_⟩⟩
    refine ⟨d, 99, rfl, by decide, k1.2, fun y H2 y0 y1 k2 => ⟨y, rfl, by decide, fun p1 hp1 => ?_⟩⟩
    have e9 : (10 : Int) ^ (Int.toNat 9) = 1000000000 := by decide
    have e30 : (10 : Int) ^ (Int.toNat 30) = 1000000000000000000000000000000 := by decide
    rw [e9, e30]
    have pd : p ≠ d := hd.ne hp
    have ep : H2 p = some (.lst []) := k2.at_ pd (k1.at_ pd upd_same)
    have p1p : p ≠ p1 := ne_of_none ep hp1
    have hpd1 : p1 ≠ d := k2.2.ne hp1
    have k02 := k0.trans (k1.trans k2)
    have hcs : ∃ cs : List Int, cs = [0, 1, 2, 7, 1000000000 + x, 1000000000000000000000000000000 + y] := ⟨_, rfl⟩
    obtain ⟨cs, hcs⟩ := hcs
    have c1 : cs.Pairwise (· < ·) := by
      rw [hcs]
      simp only [List.pairwise_cons, List.mem_cons, List.not_mem_nil, or_false, forall_eq_or_imp, forall_eq, List.Pairwise.nil, and_true, false_imp_iff, implies_true]
      omega
    have c2 : ∀ c ∈ cs, 0 ≤ c ∧ c ≤ 10 ^ 30 + 98 ∧ c ≠ 4 := by
      rw [hcs]
      simp only [List.mem_cons, List.not_mem_nil, or_false, forall_eq_or_imp, forall_eq]
      omega
    have c3 : cs.length = 6 := by rw [hcs]; rfl
    have ecs : [V.int 0, V.int 1, V.int 2, V.int 7, V.int (1000000000 + x), V.int (1000000000000000000000000000000 + y)] = cs.map V.int := by rw [hcs]; rfl
    rw [ecs]
    refine loopL_core (SqL.of upd_same) (DpAll.ints cs) (fun l σ H' => ∃ (is : List Int) (r : Row) (z : Option V), l = is.map PyData.int ∧ σ = [some (.ref d), some (.ref p), z] ∧ Dk d H H' ∧ H' p1 = some (.lst (cs.map V.int)) ∧ RowAt K d p r H' ∧
        Good (-1) r ∧ r.length + is.length ≤ 6 ∧ (∀ q ∈ r, q.2.length ≤ 780) ∧ (∀ q ∈ r, ∀ c ∈ is, q.1 < c) ∧ is.Pairwise (· < ·) ∧ (∀ c ∈ is, 0 ≤ c ∧ c ≤ 10 ^ 30 + 98 ∧ c ≠ 4) ∧ (∀ q ∈ r, q.1 ≤ 10 ^ 30 + 98) ∧ ∀ q ∈ r, q.1 ≠ 4)
      ⟨cs, [], none, rfl, rfl, k02.new hp1, upd_same, ⟨pd, [], by rw [upd_ne p1p]; exact ep, .nil⟩, trivial, by simp [c3], by simp, by simp, c1, c2, by simp, by simp⟩ (fun l σ' H' h => ?_) (fun v dd l σ' H' hm h hv => ?_) (fun σ' H' h => ?_)
    · obtain ⟨_, _, _, _, _, _, e, _⟩ := h
      exact ⟨SqL.of e, DpAll.ints cs⟩
    · obtain ⟨is, r, z, el, rfl, k, e1, hr, g1, g2, g3, g4, g5, g6, g7, g8⟩ := h
      cases is with
      | nil => cases el
      | cons c is =>
      cases el
      cases hv
      walk_at "rd"
      walk_at "rs"
      have n1 := List.pairwise_cons.mp g5
      have cc := g6 c (by simp)
      have small : ∀ c' ∈ is, 0 ≤ c' ∧ c' ≤ 10 ^ 30 + 98 ∧ c' ≠ 4 := fun c' hc => g6 c' (by simp [hc])
      refine ⟨d, 4, rfl, by decide, k.2, fun i H4 i0 i1 k4 => ⟨i, rfl, ite2 (fun _ => ?_) (fun _ => ?_)⟩⟩
      · obtain ⟨_, xs, exs, hx⟩ := hr.dk k4 k.2
        refine ⟨tyv_list (SqL.of exs), d, rfl, k4.2, fun u H5 hu k5 => ⟨by decide, fun t ht => ?_⟩⟩
        obtain ⟨_, xs, exs, hx⟩ := hr.dk (k4.trans k5) k.2
        have exs' := same_new (o := .tup [.int c, .str u]) ht _ _ exs
        have lx := hx.len
        rw [rowD, List.length_map] at lx
        rw [List.length_cons] at g2
        refine ⟨p, xs, _, rfl, rfl, exs', Nat.lt_of_le_of_lt (show xs.length ≤ 6 by omega) (by decide), is, rfl, Dk.put hd ((k.trans (k4.trans k5)).new ht) hp, ?_, r ++ [(c, u)],
          RowAt.snoc pd exs' (hx.same (same_new ht)) (SqT.of upd_same), good_snoc g1 (fun q hq => g4 q hq c (by simp)) (by omega) hu.1 hu.2.1, ?_, ?_, ?_, n1.2, small, ?_, ?_⟩
        · rw [upd_ne p1p.symm]
          exact same_new ht _ _ ((k4.trans k5).at_ hpd1 e1)
        · rw [List.length_append, List.length_singleton]
          omega
        · intro q hq
          rcases List.mem_append.mp hq with hq | hq
          · exact g3 q hq
          · rw [List.mem_singleton.mp hq]
            exact hu.2.2
        · intro q hq c' hc'
          rcases List.mem_append.mp hq with hq | hq
          · exact g4 q hq c' (by simp [hc'])
          · rw [List.mem_singleton.mp hq]
            exact n1.1 c' hc'
        · intro q hq
          rcases List.mem_append.mp hq with hq | hq
          · exact g7 q hq
          · rw [List.mem_singleton.mp hq]
            exact cc.2.1
        · intro q hq
          rcases List.mem_append.mp hq with hq | hq
          · exact g8 q hq
          · rw [List.mem_singleton.mp hq]
            exact cc.2.2
      · rw [List.length_cons] at g2
        exact ⟨is, rfl, k.trans k4, k4.at_ hpd1 e1, r, hr.dk k4 k.2, g1, by omega, g3, fun q hq c' hc' => g4 q hq c' (by simp [hc']), n1.2, small, g7, g8⟩
    · obtain ⟨is, r, z, el, rfl, k, e1, hr, g1, g2, g3, g4, g5, g6, g7, g8⟩ := h
      walk_at "rd"
      walk_at "rs"
      exact q p r H' ⟨g1, by omega, g3, g7, g8⟩ k hr hp
abbrev N__law_turned : List Str := ["word", "draws", "way", "at", "other"]
abbrev P__law_turned : List Str := ["word", "draws"]
theorem sc__law_turned : FnScope N__law_turned P__law_turned (defScope s__law_turned) := ⟨rfl, rfl, rfl, by decide +kernel, rfl, by decide +kernel, by decide +kernel⟩
theorem bn__law_turned : ∀ (kV doc pm : Value) (an : Option Addr) (cdv ct : Value) (us : List Value), us.length = P__law_turned.length → bindArgs (PySem.W.fnOf "_law_turned" "_law_turned" (defArgs s__law_turned) (defBody s__law_turned) (defScope s__law_turned) .none kV doc pm an cdv ct) ⟨us, []⟩ = pure (P__law_turned.zip us) := fun _ _ _ _ _ _ us hl => match us, hl with | [_, _], _ => rfl
def spTurned : Sp := fun vs H Q _ => ∃ d w, vs = [.str w, .ref d] ∧ Wd 780 w ∧ DrawsAt d H ∧ ∀ u H', okW u = true → u.length ≤ 1600 → Dk d H H' → Q (.str u) H'
theorem okW_cut {w : Str} (h : okW w = true) (lo hi : Option Int) : okW (cutS w lo hi) = true := by
  rw [okW, List.all_eq_true] at h ⊢
  intro c hc
  exact h c (List.mem_of_mem_drop (List.mem_of_mem_take hc))
theorem occ1 : Builtin.Str.occurrences "21" ⟨#[49]⟩ 0 ("21" : Str).length 1 = [1] := by decide +kernel
theorem occ0 : Builtin.Str.occurrences "21" ⟨#[50]⟩ 0 ("21" : Str).length 1 = [0] := by decide +kernel
theorem k__law_turned (T : Txt K mg) : Knows P w K mg base CX0 4 "_law_turned" P__law_turned (spTurned) := by
  have k__law_take := k__law_take (P := P) (w := w) (base := base) T
  have k__law_pick := k__law_pick (P := P) (w := w) (base := base) T
  have k__law_letters := k__law_letters (P := P) (w := w) (base := base) T
  refine knows_of T.g__law_turned T.d__law_turned bn__law_turned fun fd F => F.ok sc__law_turned (fun vs H Q E h => ?_) (fun cdv A outer s H vs Q E hr h => ?_)
  · obtain ⟨d, w, rfl, hw, hd, q⟩ := h
    rfl
  · obtain ⟨d, w, rfl, hw, hd, q⟩ := h
    have nd := sc__law_turned.nd
    refine ⟨_, (pss_cons (ps_set (i := 2) nd rfl (Or.inl rfl) (pe_k k__law_take (hr.mono (by decide)) pass0 (pa_cons (pv 1) (pa_cons pe_int pa_nil))))
      (pss_cons (ps_if (pt_cmpR op_eq (pv 2) pe_int (nomark _)) (pss_one (ps_ret (pe_slice sl_str (pv 0) po_none (po_some (pe_k k__law_pick (hr.mono (by decide)) pass0 (pa_cons (pv 1) (pa_cons (pe_op op_add (pe_callB call_len_str rfl T.f_len (by decide +kernel) (pa_cons (pv 0) pa_nil)) pe_int) pa_nil))))))) pss_nil)
      (pss_cons (ps_if (pt_cmpR op_eq (pv 2) pe_int (nomark _)) (pss_one (ps_ret (pe_op op_add_str (pv 0) (pe_k k__law_letters (hr.mono (by decide)) pass0 (pa_cons (pv 1) pa_nil))))) pss_nil)
      (pss_cons (ps_if (pt_cmpR op_eq (pv 2) pe_int (nomark _)) (pss_cons (ps_set (i := 3) nd rfl (Or.inl rfl) (pe_k k__law_pick (hr.mono (by decide)) pass0 (pa_cons (pv 1) (pa_cons (pe_callB call_len_str rfl T.f_len (by decide +kernel) (pa_cons (pv 0) pa_nil)) pa_nil))))
      (pss_cons (ps_set (i := 4) nd rfl (Or.inl rfl) (pe_ix ix_str pe_str (pe_bm PySem.F.plainAttrs_str PySem.F.slot_str_index PySem.F.type_str_index mt_sindex pe_str (pa_cons (pe_ix ix_str (pv 0) (pv 3) (fun _ _ => rfl)) pa_nil)) (fun _ _ => rfl)))
      (pss_one (ps_ret (pe_op op_add_str (pe_op op_add_str (pe_slice sl_str (pv 0) po_none (po_some (pv 3))) (pv 4)) (pe_slice sl_str (pv 0) (po_some (pe_op op_add (pv 3) pe_int)) po_none)))))) pss_nil)
      (pss_cons (ps_if (pt_cmpR op_eq (pv 2) pe_int (nomark _)) (pss_one (ps_ret (pe_k k__law_letters (hr.mono (by decide)) pass0 (pa_cons (pv 1) pa_nil)))) pss_nil)
      (pss_one (ps_ret (pv 0)))))))), ?_⟩
    walk_at "rd"
    walk_at "rs"
    have sz : ∀ {n : Nat}, n ≤ 5000 → n ≤ sizeLine := fun h => Nat.le_trans h (by decide)
    have wl := hw.2.2
    have w0 := ne_len hw.2.1
    refine ⟨d, 6, rfl, by decide, hd, fun way H1 _ _ k1 => ?_⟩
    walk_at "rs"
    refine ite2 (fun _ => ?_) (fun _ => ite2 (fun _ => ?_) (fun _ => ite2 (fun _ => ?_) (fun _ => ite2 (fun _ => ?_) (fun _ => ?_))))
    · refine ⟨sz (by omega), d, _, rfl, by omega, k1.2, fun i H2 i0 i1 k2 => ⟨i, rfl, w, rfl, sz (by omega), ?_⟩⟩
      exact q _ _ (okW_cut hw.1 _ _) (Nat.le_trans (cutS_length ..) (by omega)) (k1.trans k2)
    · refine ⟨d, rfl, k1.2, fun u H2 hu k2 => ⟨u, rfl, sz (by have := hu.2.2; omega), ?_⟩⟩
      refine q (w ++ u) _ (by rw [okW_app, hw.1, hu.1]; rfl) (by rw [len_app]; have := hu.2.2; omega) (k1.trans k2)
    · refine ⟨sz (by omega), d, _, rfl, by omega, k1.2, fun i H2 i0 i1 k2 => ?_⟩
      obtain ⟨j, rfl⟩ : ∃ j : Nat, i = j := ⟨i.toNat, by omega⟩
      have hj : j < w.cps.toList.length := by rw [← TL.len_tl]; omega
      have hc : sign12 (w.cps.toList[j]) = true := List.all_eq_true.mp hw.1 _ (List.getElem_mem hj)
      obtain ⟨c, ec⟩ : ∃ c, w.cps.toList[j] = c := ⟨_, rfl⟩
      rw [ec] at hc
      have ej : w.cps.toList[j]? = some c := by rw [← ec]; exact List.getElem?_eq_getElem hj
      refine ⟨w, j, c, rfl, rfl, sz (by omega), atI_nat ej, ?_⟩
      walk_at "rs"
      have cc : c = 49 ∨ c = 50 := by simpa [sign12] using hc
      have a1 := cutS_length w none (some (j : Int))
      have a2 := cutS_length w (some ((j : Int) + 1)) none
      have b1 := okW_cut hw.1 none (some (j : Int))
      have b2 := okW_cut hw.1 (some ((j : Int) + 1)) none
      have fin : ∀ o : Nat, sign12 o = true → rSlS (V.str w) none (some (j : Int)) H2 fun x_2 H1 => ∃ i, x_2 = V.str i ∧ ∃ x_3, V.str ⟨#[o]⟩ = V.str x_3 ∧ i.length + x_3.length ≤ sizeLine ∧
          rSlS (V.str w) (some ((j : Int) + 1)) none H1 fun y H2 => ∃ x, y = V.str x ∧ (i.append x_3).length + x.length ≤ sizeLine ∧ Q (V.str ((i.append x_3).append x)) H2 := fun o ho => by
        have l1 : (⟨#[o]⟩ : Str).length = 1 := rfl
        have w1 : okW ⟨#[o]⟩ = true := by simp [okW, ho]
        have l2 : ((cutS w none (some (j : Int))).append ⟨#[o]⟩).length = (cutS w none (some (j : Int))).length + 1 := len_app _ _
        refine ⟨w, rfl, sz (by omega), _, rfl, _, rfl, sz (by omega), w, rfl, sz (by omega), _, rfl, sz (by omega), ?_⟩
        refine q (cutS w none (some (j : Int)) ++ ⟨#[o]⟩ ++ cutS w (some ((j : Int) + 1)) none) _ (by rw [okW_app, okW_app, b1, b2, w1]; rfl) ?_ (k1.trans k2)
        rw [len_app, len_app]
        omega
      rcases cc with rfl | rfl
      · exact ⟨_, _, occ1, _, 1, _, rfl, rfl, by decide +kernel, chr1, fin 50 rfl⟩
      · exact ⟨_, _, occ0, _, 0, _, rfl, rfl, by decide +kernel, chr0, fin 49 rfl⟩
    · exact ⟨d, rfl, k1.2, fun u H2 hu k2 => q u _ hu.1 (by have := hu.2.2; omega) (k1.trans k2)⟩
    · exact q w _ hw.1 (by omega) k1
abbrev N__law_second : List Str := ["row", "draws", "told", "entry", "word"]
abbrev P__law_second : List Str := ["row", "draws"]
theorem sc__law_second : FnScope N__law_second P__law_second (defScope s__law_second) := ⟨rfl, rfl, rfl, by decide +kernel, rfl, by decide +kernel, by decide +kernel⟩
theorem bn__law_second : ∀ (kV doc pm : Value) (an : Option Addr) (cdv ct : Value) (us : List Value), us.length = P__law_second.length → bindArgs (PySem.W.fnOf "_law_second" "_law_second" (defArgs s__law_second) (defBody s__law_second) (defScope s__law_second) .none kV doc pm an cdv ct) ⟨us, []⟩ = pure (P__law_second.zip us) := fun _ _ _ _ _ _ us hl => match us, hl with | [_, _], _ => rfl
/-- a row that may be asked about -/
structure Rw (r : Row) : Prop where
  good : Good (-1) r
  len : r.length ≤ 7
  wl : ∀ p ∈ r, p.2.length ≤ 1600
  no4 : ∀ p ∈ r, p.1 ≠ 4
def spSecond (K : PySem.W.Frag) : Sp := fun vs H Q _ => ∃ d l r, vs = [.ref l, .ref d] ∧ DrawsAt d H ∧ RowAt K d l r H ∧ Fst (10 ^ 30 + 98) r ∧ ∀ p s H', Rw s → Dk d H H' → RowAt K d p s H' → H p = none → Q (.ref p) H'
theorem k__law_second (T : Txt K mg) : Knows P w K mg base CX0 5 "_law_second" P__law_second (spSecond K) := by
  have k__law_turned := k__law_turned (P := P) (w := w) (base := base) T
  have k__law_take := k__law_take (P := P) (w := w) (base := base) T
  have k__law_letters := k__law_letters (P := P) (w := w) (base := base) T
  refine knows_of T.g__law_second T.d__law_second bn__law_second fun fd F => F.ok sc__law_second (fun vs H Q E h => ?_) (fun cdv A outer s H vs Q E hr h => ?_)
  · obtain ⟨d, l, r, rfl, hd, hrow, hf, q⟩ := h
    rfl
  · obtain ⟨d, l, r, rfl, hd, hrow, hf, q⟩ := h
    have nd := sc__law_second.nd
    refine ⟨_, (pss_cons (ps_set (i := 2) nd rfl (Or.inl rfl) (pe_lst pa_nil))
      (pss_cons (ps_for (passes_of rfl) rfl (pi_list (pv 0)) (pg_name (i := 3) nd rfl (Or.inl rfl)) (pss_cons (ps_set (i := 4) nd rfl (Or.inl rfl) (pe_k k__law_turned (hr.mono (by decide)) pass0 (pa_cons (pe_ix (ix_tupK (K := K)) (pv 3) pe_int (fun _ _ => rfl)) (pa_cons (pv 1) pa_nil))))
      (pss_one (ps_if (PW.pt (pw_and (pt_cmpR op_ne (pv 4) pe_str (nomark _)) (pw_and1 (pt_cmpR op_ne (pe_k k__law_take (hr.mono (by decide)) pass0 (pa_cons (pv 1) (pa_cons pe_int pa_nil))) pe_int (nomark _))))) (pss_one (ps_expr (pe_bm PySem.F.plainAttrs_list PySem.F.slot_list_append PySem.F.type_list_append mt_append (pv 2) (pa_cons (pe_tup (pa_cons (pe_ix (ix_tupK (K := K)) (pv 3) pe_int (fun _ _ => rfl)) (pa_cons (pv 4) pa_nil))) pa_nil)))) pss_nil))))
      (pss_cons (ps_if (pt_cmpR op_eq (pe_k k__law_take (hr.mono (by decide)) pass0 (pa_cons (pv 1) (pa_cons pe_int pa_nil))) pe_int (nomark _)) (pss_one (ps_expr (pe_bm PySem.F.plainAttrs_list PySem.F.slot_list_append PySem.F.type_list_append mt_append (pv 2) (pa_cons (pe_tup (pa_cons (pe_op op_pow pe_int pe_int) (pa_cons (pe_k k__law_letters (hr.mono (by decide)) pass0 (pa_cons (pv 1) pa_nil)) pa_nil))) pa_nil)))) pss_nil)
      (pss_one (ps_ret (pv 2)))))), ?_⟩
    walk_at "rd"
    walk_at "rs"
    refine ⟨by decide, fun p hp => ?_⟩
    have pd : p ≠ d := hd.ne hp
    refine loop_row hd hrow (fun m σ H' => Dk d H H' ∧ ∃ (t : Row) (x y : Option V), σ = [some (.ref l), some (.ref d), some (.ref p), x, y] ∧ RowAt K d p t H' ∧ Good (-1) t ∧ t.length + m.length ≤ 6 ∧ (∀ q ∈ t, q.2.length ≤ 1600) ∧ (∀ q ∈ t, ∀ c ∈ m, q.1 < c.1) ∧ (∀ q ∈ t, q.1 ≤ 10 ^ 30 + 98) ∧ (∀ q ∈ t, q.1 ≠ 4) ∧ m.Pairwise (fun a b => a.1 < b.1))
      ⟨hd.dk_new hp, [], _, _, rfl, ⟨pd, [], upd_same, .nil⟩, trivial, by have := hf.len; simp; omega, by simp, by simp, by simp, by simp, hf.good.srt.1⟩ (fun _ _ _ h => h.1) (fun y e m σ H1 hm h hy N hN => ?_) (fun σ H1 h => ?_)
    · obtain ⟨k, t, x, x', rfl, ht, g1, g2, g3, g4, g5, g6, g7⟩ := h
      obtain ⟨a, rfl, hS⟩ := ent_at hy
      obtain ⟨c, u⟩ := e
      have n1 := List.pairwise_cons.mp g7
      rw [List.length_cons] at g2
      walk_at "rd"
      walk_at "rs"
      refine ixT1 hS ⟨d, u, rfl, ⟨(hf.good.mem _ hm).1, (hf.good.mem _ hm).2, hf.wl _ hm⟩, k.2, fun v H2 hv hl k2 => ?_⟩
      walk_at "rs"
      have keep : ∀ H3 (z z' : Option V), Dk d H H3 → Dk d H1 H3 → N [some (.ref l), some (.ref d), some (.ref p), z, z'] H3 := fun H3 z z' k4 k3 =>
        hN _ _ ⟨k4, t, _, _, rfl, ht.dk k3 k.2, g1, by omega, g3, fun q hq c' hc => g4 q hq c' (by simp [hc]), g5, g6, n1.2⟩
      refine ite2 (fun ne => ?_) (fun _ => keep H2 _ _ (k.trans k2) k2)
      refine ⟨d, 8, rfl, by decide, k2.2, fun i H3 i0 i1 k3 => ?_⟩
      walk_at "rs"
      have k13 := k2.trans k3
      refine ite2 (fun _ => ?_) (fun _ => keep H3 _ _ (k.trans k13) k13)
      have ht3 := ht.dk k13 k.2
      obtain ⟨_, xs, exs, _⟩ := id ht3
      refine ⟨tyv_list (SqL.of exs), ixT0 (Dk_tup k.2 k13 hS) ⟨by decide, fun b hb => ?_⟩⟩
      refine app_row hd hp (k.trans k13) ht3 (by omega) hb fun H4 k4 _ ht4 => hN _ _ ⟨k4, t ++ [(c, v)], _, _, rfl, ht4, good_snoc g1 (fun q hq => g4 q hq (c, u) List.mem_cons_self) (hf.good.gt (c, u) hm) hv ne, ?_, ?_, ?_, ?_, ?_, n1.2⟩
      · rw [List.length_append, List.length_singleton]
        omega
      · intro q hq
        rcases List.mem_append.mp hq with hq | hq
        · exact g3 q hq
        · rw [List.mem_singleton.mp hq]
          exact hl
      · intro q hq c' hc'
        rcases List.mem_append.mp hq with hq | hq
        · exact g4 q hq c' (by simp [hc'])
        · rw [List.mem_singleton.mp hq]
          exact n1.1 c' hc'
      · intro q hq
        rcases List.mem_append.mp hq with hq | hq
        · exact g5 q hq
        · rw [List.mem_singleton.mp hq]
          exact hf.lt (c, u) hm
      · intro q hq
        rcases List.mem_append.mp hq with hq | hq
        · exact g6 q hq
        · rw [List.mem_singleton.mp hq]
          exact hf.no4 (c, u) hm
    · obtain ⟨k, t, x, x', rfl, ht, g1, g2, g3, g4, g5, g6, g7⟩ := h
      walk_at "rd"
      walk_at "rs"
      rw [List.length_nil] at g2
      have e31 : (10 : Int) ^ (Int.toNat 31) = 10000000000000000000000000000000 := by decide
      rw [e31]
      refine ⟨d, 2, rfl, by decide, k.2, fun i H3 i0 i1 k3 => ?_⟩
      walk_at "rs"
      have ht3 := ht.dk k3 k.2
      refine ite2 (fun _ => ?_) (fun _ => q p t H3 ⟨g1, by omega, g3, g6⟩ (k.trans k3) ht3 hp)
      obtain ⟨_, xs, exs, _⟩ := id ht3
      refine ⟨tyv_list (SqL.of exs), ⟨by decide, by decide, by decide⟩, d, rfl, k3.2, fun u H4 hu k4 => ⟨by decide, fun b hb => ?_⟩⟩
      refine app_row hd hp (k.trans (k3.trans k4)) (ht3.dk k4 k3.2) (by omega) hb fun H5 k5 _ ht5 => q p _ H5 ⟨good_snoc g1 (fun q hq => ?_) (by decide) hu.1 hu.2.1, ?_, ?_, ?_⟩ k5 ht5 hp
      · have := g5 q hq
        omega
      · rw [List.length_append, List.length_singleton]
        omega
      · intro q hq
        rcases List.mem_append.mp hq with hq | hq
        · exact g3 q hq
        · rw [List.mem_singleton.mp hq]
          exact Nat.le_trans hu.2.2 (by decide)
      · intro q hq
        rcases List.mem_append.mp hq with hq | hq
        · exact g6 q hq
        · rw [List.mem_singleton.mp hq]
          show (10000000000000000000000000000000 : Int) ≠ 4
          decide
end
end K19

namespace K19
open PySem PySem.Spec PyProof.Rows L2 MeD MeK MeL
local macro_rules | `(tactic| walk_at "rd") => `(tactic| (dsimp only [tVar, tC, tOp, tUn, tCons, tNil, tTup, tLst, tCB, tK, tKS, tTest, tB, tAnd, tOr, tNot, tAndV, tOrV, tNotV, tIf, tIfS, tSeq, tNext, tRet, tRetN, tDrop, tAsg, gName, gTup, gNil, gCons, wipe, tYes, tSl, tPart, tNoPart, tBM, tBM0,  tBreak, tCont, gLst, tDGet, tDIn, tDNotIn, sDPut, tDNewK, MeL.for_tup_eq, MeL.for_list_eq, MeL.for_str_eq, MeL.for_rng_eq, MeL.for_row_eq, MeL.lc_tup_eq, MeL.lc_list_eq, MeL.lc_str_eq, MeL.lc_rng_eq, rI0, rI, rU, tRs1, cxOf, Cx.tr, Cx.suite, L2.start, List.map, List.replicate, List.length, List.append, HAppend.hAppend, Append.append, Nat.reduceAdd, Nat.reduceSub]))
local macro_rules | `(tactic| walk_at "rs") => `(tactic| (try simp only [List.getElem?_cons_zero, List.getElem?_cons_succ, Option.some.injEq, exists_eq_left', exists_eq_left, V.bl.injEq, V.int.injEq, V.str.injEq, V.ref.injEq, List.cons.injEq, and_true, true_and, and_self, exists_and_left, exists_eq', exists_eq, ↓reduceIte, reduceCtorEq, Bool.false_eq_true, false_and, exists_const, exists_false, decide_true, decide_false, Bool.not_true, Bool.not_false, List.set_cons_zero, List.set_cons_succ, MeK.tyv_str, or_false, MeL.for_row_eq, MeK.req_int, MeK.rne_int, MeK.req_str, MeK.rne_str, MeK.req_bl, MeK.rne_bl, decide_eq_true_eq, Bool.not_eq_true', decide_eq_false_iff_not, Int.natCast_inj]))
theorem le_ent {p q : Int × Str} (h : PySem.W.dataLe false id (ent p) (ent q) = true) : p.1 ≤ q.1 := by
  obtain ⟨c, u⟩ := p
  obtain ⟨k, v⟩ := q
  have h : (!PyProof.Rows.lexLt PyProof.Rows.itemOrd [.inl 1, .inl k, .inl 1, .inr v.cps.toList, .inl 0] [.inl 1, .inl c, .inl 1, .inr u.cps.toList, .inl 0]) = true := h
  rw [PyProof.Rows.lex_self, PyProof.Rows.lex_cons] at h
  have e : PyProof.Rows.itemOrd.blt (.inl k) (.inl c) = decide (k < c) := rfl
  rw [e] at h
  show c ≤ k
  by_cases z : k < c
  · rw [decide_eq_true z] at h
    simp at h
  · omega
theorem of_rows {ds : List PyData} (h : ∀ d ∈ ds, ∃ p, d = ent p) : ds = rowD (ds.filterMap rowOf) := by
  induction ds with
  | nil => rfl
  | cons d ds ih =>
    obtain ⟨p, rfl⟩ := h d (by simp)
    have e : rowOf (ent p) = some p := rfl
    rw [List.filterMap_cons, e]
    show _ = ent p :: rowD _
    rw [← ih fun d hd => h d (by simp [hd])]
/-- a row's data sorted -/
theorem sort_rows {s r : Row} (n : (keys s).Nodup) (hr : Srt r) (e : ∀ x, atR s x = atR r x) (ne : ∀ p ∈ s, p.2 ≠ "") : (rowD s).mergeSort (PySem.W.dataLe false id) = rowD r := by
  have pm : ((rowD s).mergeSort (PySem.W.dataLe false id)).Perm (rowD s) := List.mergeSort_perm _ _
  have pw := PySem.W.sort_pairwise (PySem.W.sortLe_total (PyProof.Rows.listOrd PyProof.Rows.itemOrd) false fun b : PyData => PySem.W.keyToks (id b)) (rowD s)
  have hm : ∀ d ∈ (rowD s).mergeSort (PySem.W.dataLe false id), ∃ p, d = ent p := fun d hd => by
    obtain ⟨p, _, e⟩ := List.mem_map.mp (pm.mem_iff.mp hd)
    exact ⟨p, e.symm⟩
  have eq := of_rows hm
  have pt : (((rowD s).mergeSort (PySem.W.dataLe false id)).filterMap rowOf).Perm s := by
    have := pm.filterMap rowOf
    rwa [rowOf_D] at this
  rw [eq]
  refine congrArg rowD ?_
  generalize ((rowD s).mergeSort (PySem.W.dataLe false id)).filterMap rowOf = t at eq pt
  have nt : (keys t).Nodup := (List.Perm.symm (show (keys t).Perm (keys s) from pt.map _)).nodup n
  have pw' : (rowD t).Pairwise (fun a b => PySem.W.dataLe false id a b = true) := by rw [← eq]; exact pw
  have st : Srt t := by
    refine ⟨?_, fun p hp => ne p (pt.mem_iff.mp hp)⟩
    rw [rowD, List.pairwise_map] at pw'
    have := List.pairwise_map.mp nt
    refine (pw'.and this).imp fun {a b} h => ?_
    have h1 := le_ent h.1
    have h2 : a.1 ≠ b.1 := h.2
    show a.1 < b.1
    omega
  exact st.ext hr fun x => by rw [← e, atR_perm nt pt]
theorem atR_cons (k : Int) (u : Str) (r : Row) (x : Int) : atR ((k, u) :: r) x = if k = x then u else atR r x := rfl
theorem atR_filter (r : Row) (c x : Int) : atR (r.filter fun p => decide (p.1 ≠ c)) x = if x = c then ("" : Str) else atR r x := by
  induction r with
  | nil => simp [atR]
  | cons p r ih =>
    obtain ⟨k, u⟩ := p
    rw [List.filter_cons]
    by_cases e : k = c
    · rw [if_neg (by simp [e]), ih, atR_cons]
      by_cases f : x = c
      · rw [if_pos f, if_pos f]
      · rw [if_neg f, if_neg f, if_neg (by rw [e]; exact fun z => f z.symm)]
    · rw [if_pos (by simp [e]), atR_cons, ih, atR_cons]
      by_cases f : k = x
      · rw [if_pos f, if_pos f, if_neg (by rw [← f]; exact e)]
      · rw [if_neg f, if_neg f]
theorem flat_ints (cs : List Int) : (cs.map V.int).all flatV = true := by
  induction cs with
  | nil => rfl
  | cons c cs ih => rw [List.map_cons, List.all_cons, ih]; rfl
theorem in_ints (k : Int) (cs : List Int) : inV (.int k) (cs.map V.int) = decide (k ∈ cs) := by
  induction cs with
  | nil => simp [inV]
  | cons c cs ih =>
    have e : inV (.int k) ((c :: cs).map V.int) = (eqV (.int c) (.int k) || inV (.int k) (cs.map V.int)) := rfl
    rw [e, ih, show eqV (.int c) (.int k) = (c == k) from rfl]
    by_cases z : k = c
    · subst z
      simp
    · have z2 : ¬ c = k := fun y => z y.symm
      simp [z, z2]
section
variable {P : Program} {w : World} {K : PySem.W.Frag} {mg : Str → Option Value} {base : Heap}
abbrev N__law_at : List Str := ["row", "colour", "entry"]
abbrev P__law_at : List Str := ["row", "colour"]
theorem sc__law_at : FnScope N__law_at P__law_at (defScope s__law_at) := ⟨rfl, rfl, rfl, by decide +kernel, rfl, by decide +kernel, by decide +kernel⟩
theorem bn__law_at : ∀ (kV doc pm : Value) (an : Option Addr) (cdv ct : Value) (us : List Value), us.length = P__law_at.length → bindArgs (PySem.W.fnOf "_law_at" "_law_at" (defArgs s__law_at) (defBody s__law_at) (defScope s__law_at) .none kV doc pm an cdv ct) ⟨us, []⟩ = pure (P__law_at.zip us) := fun _ _ _ _ _ _ us hl => match us, hl with | [_, _], _ => rfl
def spLAt (K : PySem.W.Frag) : Sp := fun vs H Q _ => ∃ v r c, vs = [v, .int c] ∧ Dp K H v (.list (rowD r)) ∧ ∀ H', Same H H' → Q (.str (atR r c)) H'
theorem k__law_at (T : Txt K mg) : Knows P w K mg base CX0 1 "_law_at" P__law_at (spLAt K) := by
  refine knows_of T.g__law_at T.d__law_at bn__law_at fun fd F => F.ok sc__law_at (fun vs H Q E h => ?_) (fun cdv A outer s H vs Q E hr h => ?_)
  · obtain ⟨v, r, c, rfl, hd, q⟩ := h
    rfl
  · obtain ⟨v, r, c, rfl, hd, q⟩ := h
    have nd := sc__law_at.nd
    refine ⟨_, (pss_cons (ps_for (passes_of rfl) rfl (pi_list (pv 0)) (pg_name (i := 2) nd rfl (Or.inl rfl)) (pss_one (ps_if (pt_cmpR op_eq (pe_ix (ix_tupK (K := K)) (pv 2) pe_int (fun _ _ => rfl)) (pv 1) (nomark _)) (pss_one (ps_ret (pe_ix (ix_tupK (K := K)) (pv 2) pe_int (fun _ _ => rfl)))) pss_nil)))
      (pss_one (ps_ret pe_str))), ?_⟩
    walk_at "rd"
    walk_at "rs"
    refine loopL_map ent hd (fun l σ H' => Same H H' ∧ ∃ a, σ = [some v, some (.int c), a] ∧ atR l c = atR r c) ⟨Same.refl _, _, rfl, rfl⟩ (fun _ _ _ h => h.1) (fun y d l σ H' hm h hy N hN => ?_) (fun σ H' h => ?_)
    · obtain ⟨s1, a, rfl, e⟩ := h
      obtain ⟨p, rfl, hS⟩ := ent_at hy
      obtain ⟨k, u⟩ := d
      walk_at "rd"
      walk_at "rs"
      refine ixT0 hS ?_
      walk_at "rs"
      refine ite2 (fun z => ?_) (fun z => hN _ _ ⟨s1, _, rfl, ?_⟩)
      · refine ixT1 hS ?_
        rw [← e, atR, if_pos z] at q
        exact q _ s1
      · rw [← e, atR, if_neg z]
    · obtain ⟨s1, a, rfl, e⟩ := h
      walk_at "rd"
      walk_at "rs"
      rw [← e] at q
      exact q _ s1
abbrev N__law_with : List Str := ["row", "colour", "word", "told", "entry"]
abbrev P__law_with : List Str := ["row", "colour", "word"]
theorem sc__law_with : FnScope N__law_with P__law_with (defScope s__law_with) := ⟨rfl, rfl, rfl, by decide +kernel, rfl, by decide +kernel, by decide +kernel⟩
theorem bn__law_with : ∀ (kV doc pm : Value) (an : Option Addr) (cdv ct : Value) (us : List Value), us.length = P__law_with.length → bindArgs (PySem.W.fnOf "_law_with" "_law_with" (defArgs s__law_with) (defBody s__law_with) (defScope s__law_with) .none kV doc pm an cdv ct) ⟨us, []⟩ = pure (P__law_with.zip us) := fun _ _ _ _ _ _ us hl => match us, hl with | [_, _, _], _ => rfl
def spLWith (K : PySem.W.Frag) : Sp := fun vs H Q _ => ∃ v r c w, vs = [v, .int c, .str w] ∧ Dp K H v (.list (rowD r)) ∧ Srt r ∧ r.length ≤ 30 ∧ ∀ v' H', Same H H' → Dp K H' v' (.tuple (rowD (withR r c w))) → Q v' H'
theorem k__law_with (T : Txt K mg) : Knows P w K mg base CX0 1 "_law_with" P__law_with (spLWith K) := by
  refine knows_of T.g__law_with T.d__law_with bn__law_with fun fd F => F.ok sc__law_with (fun vs H Q E h => ?_) (fun cdv A outer s H vs Q E hr h => ?_)
  · obtain ⟨v, r, c, u, rfl, hd, hsr, hl, q⟩ := h
    rfl
  · obtain ⟨v, r, c, u, rfl, hd, hsr, hl, q⟩ := h
    have nd := sc__law_with.nd
    refine ⟨_, (pss_cons (ps_setLc (i := 3) (own := [("entry", 4)]) rfl nd rfl rfl (sw_true rfl rfl rfl (by decide +kernel)) (pi_list (pv 0)) (blkOk_by (N := N__law_with) (sc := defScope s__law_with) (by decide +kernel)) (fun _ _ _ _ _ => (pg_name (i := 4) nd rfl (Or.inl rfl))) (fun _ _ _ _ _ => (pts_one (pt_cmpR op_ne (pe_ix (ix_tupK (K := K)) (pv 4) pe_int (fun _ _ => rfl)) (pv 1) (nomark _)))) (fun _ _ _ _ _ => (pv 4)))
      (pss_cons (ps_if (pt_cmpR op_ne (pv 2) pe_str (nomark _)) (pss_one (ps_expr (pe_bm PySem.F.plainAttrs_list PySem.F.slot_list_append PySem.F.type_list_append mt_append (pv 3) (pa_cons (pe_tup (pa_cons (pv 1) (pa_cons (pv 2) pa_nil))) pa_nil)))) pss_nil)
      (pss_one (ps_ret (pe_callTy (tupleK (K := K)) rfl T.f_tuple (by decide +kernel) (pa_cons (pe_callB (sortedK (K := K) hr.units) rfl T.f_sorted (by decide +kernel) (pa_cons (pv 3) pa_nil)) pa_nil)))))), ?_⟩
    walk_at "rd"
    walk_at "rs"
    refine compL_map ent hd (fun p => if decide (p.1 ≠ c) = true then some (ent p) else none) (by omega) (fun p _ e he => ?_) (fun p _ => ?_) fun p1 H1 hp1 s1 l1 e1 d1 => ?_
    · split at he <;> cases he
      rfl
    · intro y H' N Y s1 hy hN hY
      obtain ⟨a, rfl, hS⟩ := ent_at hy
      walk_at "rd"
      walk_at "rs"
      refine ixT0 hS ?_
      walk_at "rs"
      refine ite2 (fun e => hY _ _ _ (Same.refl _) (if_pos (decide_eq_true e)) hy) (fun e => hN _ (Same.refl _) (if_neg (by simpa using e)))
    rw [fm_row r (fun p => decide (p.1 ≠ c))] at d1
    have nf : (keys (r.filter fun p => decide (p.1 ≠ c))).Nodup := List.Nodup.sublist (List.Sublist.map _ List.filter_sublist) hsr.nodup
    have lf : (r.filter fun p => decide (p.1 ≠ c)).length ≤ 30 := Nat.le_trans (List.length_filter_le ..) hl
    have cf : c ∉ keys (r.filter fun p => decide (p.1 ≠ c)) := fun z => by
      obtain ⟨p, hp, e⟩ := List.mem_map.mp z
      exact (of_decide_eq_true (List.mem_filter.mp hp).2) e
    have fin : ∀ (H2 : Hp) (l : List V) (s : Row), Same H H2 → H2 p1 = some (.lst l) → DpAll K H2 l (rowD s) → (keys s).Nodup → (∀ x, atR s x = atR (withR r c u) x) → (∀ p ∈ s, p.2 ≠ "") →
        MeD.rSortedP K [.ref p1] H2 fun x H1 => rTupQ K [x] H1 Q := fun H2 l s s2 e2 d2 n2 a2 ne2 => by
      refine ⟨p1, rowD s, rfl, .lst (SqL.of e2) d2, fun d hd d' hd' => ?_, .inl fun d hd => ?_, fun d hd => ?_, fun p2 ys hp2 hys => ?_⟩
      · obtain ⟨p, _, rfl⟩ := List.mem_map.mp hd
        obtain ⟨q, _, rfl⟩ := List.mem_map.mp hd'
        rfl
      · obtain ⟨p, _, rfl⟩ := List.mem_map.mp hd
        exact ⟨_, _, rfl⟩
      · obtain ⟨p, _, rfl⟩ := List.mem_map.mp hd
        show PyData.depth (.tuple [.int p.1, .str p.2]) ≤ 60
        simp [PyData.depth, PyData.depthAll]
      · rw [sort_rows n2 (withR_srt hsr c u) a2 ne2] at hys
        exact tup_of upd_same (hys.same (same_new hp2)) fun v' H3 s3 h3 => q v' H3 (s2.trans ((same_new hp2).trans s3)) h3
    refine ite2 (fun e => ?_) (fun e => ?_)
    · refine ⟨tyv_list (SqL.of e1), by decide, fun t ht => ?_⟩
      have e1' := same_new (o := .tup [.int c, .str u]) ht _ _ e1
      have z1 := d1.len
      rw [rowD, List.length_map] at z1
      refine ⟨p1, l1, _, rfl, rfl, e1', Nat.lt_of_le_of_lt (show l1.length ≤ 30 by omega) (by decide), ?_⟩
      refine fin _ _ (r.filter (fun p => decide (p.1 ≠ c)) ++ [(c, u)]) (put_same (s1.trans (same_new ht)) hp1) upd_same ?_ ?_ ?_ ?_
      · rw [rowD, List.map_append]
        exact (dps_put e1' (noL_rowD _) (d1.same (same_new ht))).snoc (dp_put e1' rfl (.tup (SqT.of upd_same) (.cons (.int c) (.cons (.str u) .nil))))
      · rw [← put_new (w := u) cf]
        exact put_nodup nf _ _
      · intro x
        rw [← put_new (w := u) cf, atR_put, atR_filter, atR_with hsr]
        by_cases z : x = c
        · rw [if_pos z, if_pos z]
        · rw [if_neg z, if_neg z, if_neg z]
      · intro p hp
        rcases List.mem_append.mp hp with hp | hp
        · exact hsr.2 p (List.mem_filter.mp hp).1
        · rw [List.mem_singleton.mp hp]
          exact e
    · refine fin _ _ _ s1 e1 d1 nf (fun x => ?_) fun p hp => hsr.2 p (List.mem_filter.mp hp).1
      rw [atR_filter, atR_with hsr, show u = "" by simpa using e]
abbrev N__law_all : List Str := ["row", "other", "colours", "entry"]
abbrev P__law_all : List Str := ["row", "other"]
theorem sc__law_all : FnScope N__law_all P__law_all (defScope s__law_all) := ⟨rfl, rfl, rfl, by decide +kernel, rfl, by decide +kernel, by decide +kernel⟩
theorem bn__law_all : ∀ (kV doc pm : Value) (an : Option Addr) (cdv ct : Value) (us : List Value), us.length = P__law_all.length → bindArgs (PySem.W.fnOf "_law_all" "_law_all" (defArgs s__law_all) (defBody s__law_all) (defScope s__law_all) .none kV doc pm an cdv ct) ⟨us, []⟩ = pure (P__law_all.zip us) := fun _ _ _ _ _ _ us hl => match us, hl with | [_, _], _ => rfl
def spLAll (K : PySem.W.Frag) : Sp := fun vs H Q _ => ∃ v u r s, vs = [v, u] ∧ Dp K H v (.list (rowD r)) ∧ Dp K H u (.list (rowD s)) ∧ Srt r ∧ r.length ≤ 30 ∧ s.length ≤ 30 ∧
  ∀ a (ys : List Int) H', H a = none → Same H H' → H' a = some (.lst (ys.map V.int)) → ys.Pairwise (· < ·) → (∀ c, c ∈ ys ↔ c ∈ keys r ∨ c ∈ keys s) → ys.length ≤ 60 → Q (.ref a) H'
theorem k__law_all (T : Txt K mg) : Knows P w K mg base CX0 1 "_law_all" P__law_all (spLAll K) := by
  refine knows_of T.g__law_all T.d__law_all bn__law_all fun fd F => F.ok sc__law_all (fun vs H Q E h => ?_) (fun cdv A outer s H vs Q E hr h => ?_)
  · obtain ⟨v, u, r, s, rfl, hd, hu, hsr, hl, hl2, q⟩ := h
    rfl
  · obtain ⟨v, u, r, s, rfl, hd, hu, hsr, hl, hl2, q⟩ := h
    have nd := sc__law_all.nd
    refine ⟨_, (pss_cons (ps_setLc (i := 2) (own := [("entry", 3)]) rfl nd rfl rfl (sw_true rfl rfl rfl (by decide +kernel)) (pi_list (pv 0)) (blkOk_by (N := N__law_all) (sc := defScope s__law_all) (by decide +kernel)) (fun _ _ _ _ _ => (pg_name (i := 3) nd rfl (Or.inl rfl))) (fun _ _ _ _ _ => pts_nil) (fun _ _ _ _ _ => (pe_ix (ix_tupK (K := K)) (pv 3) pe_int (fun _ _ => rfl))))
      (pss_cons (ps_for (passes_of rfl) rfl (pi_list (pv 1)) (pg_name (i := 3) nd rfl (Or.inl rfl)) (pss_one (ps_if (pt_cmpR (notIn_seqK (K := K)) (pe_ix (ix_tupK (K := K)) (pv 3) pe_int (fun _ _ => rfl)) (pv 2) (by with_unfolding_all rfl)) (pss_one (ps_expr (pe_bm PySem.F.plainAttrs_list PySem.F.slot_list_append PySem.F.type_list_append mt_append (pv 2) (pa_cons (pe_ix (ix_tupK (K := K)) (pv 3) pe_int (fun _ _ => rfl)) pa_nil)))) pss_nil)))
      (pss_one (ps_ret (pe_callB cr_sortedI rfl T.f_sorted (by decide +kernel) (pa_cons (pv 2) pa_nil)))))), ?_⟩
    walk_at "rd"
    walk_at "rs"
    refine compL_map ent hd (fun p => some (.int p.1)) (by omega) (fun p _ e he => by cases he; rfl) (fun p _ => ?_) fun p1 H1 hp1 s1 l1 e1 d1 => ?_
    · intro y H' N Y s1 hy hN hY
      obtain ⟨a, rfl, hS⟩ := ent_at hy
      walk_at "rd"
      walk_at "rs"
      exact ixT0 hS (hY _ _ _ (Same.refl _) rfl (.int _))
    have ek : (r.filterMap fun p => some (PyData.int p.1)) = (keys r).map PyData.int := by
      rw [List.filterMap_eq_map', keys, List.map_map]
      rfl
    rw [ek] at d1
    obtain rfl := ints_of d1
    refine loopL_map ent hu (fun l σ H' => Same H H' ∧ ∃ (cs : List Int) (a : Option V), σ = [some v, some u, some (.ref p1), a] ∧ H' p1 = some (.lst (cs.map V.int)) ∧ cs.Nodup ∧ cs.length + l.length ≤ 60 ∧ ∀ c, (c ∈ cs ∨ c ∈ keys l) ↔ (c ∈ keys r ∨ c ∈ keys s))
      ⟨s1, keys r, _, rfl, e1, hsr.nodup, by simp [keys]; omega, fun c => Iff.rfl⟩ (fun _ _ _ h => h.1) (fun y p l σ H' hm h hy N hN => ?_) (fun σ H' h => ?_)
    · obtain ⟨s2, cs, a, rfl, e2, nc, hlc, hc⟩ := h
      obtain ⟨t, rfl, hS⟩ := ent_at hy
      obtain ⟨k, z⟩ := p
      rw [List.length_cons] at hlc
      walk_at "rd"
      walk_at "rs"
      refine ixT0 hS ⟨p1, _, rfl, .inl (SqL.of e2), rfl, flat_ints cs, ?_⟩
      rw [in_ints]
      walk_at "rs"
      have mm : ∀ c, c ∈ keys ((k, z) :: l) ↔ c = k ∨ c ∈ keys l := fun c => by
        rw [keys, List.map_cons, List.mem_cons]
        rfl
      refine ite2 (fun e => ?_) (fun e => ?_)
      · refine ⟨tyv_list (SqL.of e2), ixT0 hS ⟨p1, _, _, rfl, rfl, e2, Nat.lt_of_le_of_lt (show _ ≤ 60 by rw [List.length_map]; omega) (by decide), ?_⟩⟩
        refine hN _ _ ⟨put_same s2 hp1, cs ++ [k], _, rfl, by rw [upd_same, List.map_append]; rfl, ?_, ?_, fun c => ?_⟩
        · rw [List.nodup_append]
          exact ⟨nc, by simp, fun a ha b hb => by rw [List.mem_singleton.mp hb]; exact fun y => e (by rw [← y]; exact ha)⟩
        · rw [List.length_append, List.length_singleton]
          omega
        · rw [← hc, mm, List.mem_append, List.mem_singleton, or_assoc]
      · refine hN _ _ ⟨s2, cs, _, rfl, e2, nc, by omega, fun c => ?_⟩
        have e : k ∈ cs := Classical.byContradiction e
        rw [← hc, mm]
        constructor
        · rintro (y | y)
          · exact .inl y
          · exact .inr (.inr y)
        · rintro (y | rfl | y)
          · exact .inl y
          · exact .inl e
          · exact .inr y
    · obtain ⟨s2, cs, a, rfl, e2, nc, hlc, hc⟩ := h
      walk_at "rd"
      walk_at "rs"
      refine ⟨p1, cs, rfl, SqL.of e2, fun ys p2 pm pw hp2 => ?_⟩
      refine q _ ys _ ((kept_of (M := []) s2).free hp2) (s2.trans (same_new hp2)) upd_same (lt_of_le pw (pm.symm.nodup nc)) (fun c => ?_) (by rw [pm.length_eq]; omega)
      rw [pm.mem_iff, ← hc]
      simp [keys]
end
end K19

/-! What the rows' joins answer, in plain Lean. -/
namespace K19
open PySem PySem.Spec PyProof.Rows L2 MeD
theorem starts_iff (x y : Str) : Txt.startswith x y = true ↔ TL.tl y <+: TL.tl x := by
  unfold Txt.startswith
  rw [PySem.StrLaws.subAt_eq, Bool.and_eq_true, decide_eq_true_eq, beq_iff_eq, List.drop_zero, Nat.zero_add, List.prefix_iff_eq_take, TL.len_tl, TL.len_tl]
  constructor
  · rintro ⟨_, h⟩
    exact h.symm
  · intro h
    refine ⟨?_, h.symm⟩
    have := congrArg List.length h
    rw [List.length_take] at this
    omega
theorem tl_upto (z : Str) (n : Nat) : TL.tl (cutS z none (some (n : Int))) = (TL.tl z).take n := by
  show List.take (HT.sIx z.length z.length (some (n : Int)) - 0) (List.drop 0 (TL.tl z)) = _
  rw [HT.sIx_nat, List.drop_zero, Nat.sub_zero, TL.len_tl]
  by_cases h : n ≤ (TL.tl z).length
  · rw [Nat.min_eq_left h]
  · rw [Nat.min_eq_right (by omega), List.take_of_length_le (by omega), List.take_of_length_le (by omega)]
theorem tl_from (z : Str) (n : Nat) : TL.tl (cutS z (some (n : Int)) none) = (TL.tl z).drop n := by
  show List.take (HT.sIx z.length z.length none - HT.sIx z.length 0 (some (n : Int))) (List.drop (HT.sIx z.length 0 (some (n : Int))) (TL.tl z)) = _
  rw [HT.sIx_nat, HT.sIx_none, TL.len_tl]
  by_cases h : n ≤ (TL.tl z).length
  · rw [Nat.min_eq_left h, List.take_of_length_le (by rw [List.length_drop]; omega)]
  · rw [Nat.min_eq_right (by omega), List.drop_of_length_le (by omega), List.drop_of_length_le (by omega)]
    simp
theorem eq_tl {a b : Str} : a = b ↔ TL.tl a = TL.tl b := ⟨fun h => by rw [h], TL.ext_tl⟩
/-- one[:len(two)] == two -/
theorem upto_iff (a b : Str) : cutS a none (some (b.length : Int)) = b ↔ Txt.startswith a b = true := by
  rw [eq_tl, tl_upto, starts_iff, List.prefix_iff_eq_take, TL.len_tl]
  exact eq_comm
/-- one[:least] == two[:least] -/
theorem alike_iff (a b : Str) : cutS a none (some (if (b.length : Int) < a.length then (b.length : Int) else a.length)) = cutS b none (some (if (b.length : Int) < a.length then (b.length : Int) else a.length)) ↔ alike a b = true := by
  unfold alike
  rw [Bool.or_eq_true, starts_iff, starts_iff, eq_tl]
  have la := TL.len_tl a
  have lb := TL.len_tl b
  by_cases h : (b.length : Int) < a.length
  · rw [if_pos h, tl_upto, tl_upto, List.take_of_length_le (l := TL.tl b) (by omega)]
    constructor
    · intro e
      exact .inl (by rw [← e]; exact List.take_prefix _ _)
    · rintro (e | e)
      · rw [lb]
        exact (List.prefix_iff_eq_take.mp e).symm
      · have := e.length_le
        omega
  · rw [if_neg h, tl_upto, tl_upto, List.take_of_length_le (l := TL.tl a) (by omega)]
    constructor
    · intro e
      exact .inr (by rw [e]; exact List.take_prefix _ _)
    · rintro (e | e)
      · have le := e.length_le
        have e2 := e.eq_of_length (by omega)
        rw [la, ← e2]
        exact (List.take_of_length_le (Nat.le_refl _)).symm
      · rw [la]
        exact List.prefix_iff_eq_take.mp e
theorem nil_starts (x : Str) : Txt.startswith x "" = true := (starts_iff _ _).mpr (by rw [show TL.tl ("" : Str) = [] by decide +kernel]; exact List.nil_prefix)
theorem alike_nil_left (x : Str) : alike "" x = true := by rw [alike, nil_starts, Bool.or_true]
theorem alike_nil_right (x : Str) : alike x "" = true := by rw [alike, nil_starts, Bool.true_or]
theorem agR_iff {r s : Row} (n : (keys r).Nodup) : agR r s = true ↔ ∀ c, alike (atR r c) (atR s c) = true := by
  unfold agR
  rw [List.all_eq_true]
  constructor
  · intro h c
    by_cases m : c ∈ keys r
    · exact h _ (mem_atR m)
    · rw [atR_none m]
      exact alike_nil_left _
  · intro h p hp
    have := h p.1
    rwa [atR_mem n (c := p.1) (w := p.2) hp] at this
theorem leads_iff {r s : Row} (n : (keys s).Nodup) : leads r s = true ↔ ∀ c, Txt.startswith (atR r c) (atR s c) = true := by
  unfold leads
  rw [List.all_eq_true]
  constructor
  · intro h c
    by_cases m : c ∈ keys s
    · exact h _ (mem_atR m)
    · rw [atR_none m]
      exact nil_starts _
  · intro h p hp
    have := h p.1
    rwa [atR_mem n (c := p.1) (w := p.2) hp] at this
/-! ### the dicts that are filled -/
theorem fold_at (P : Int × Str → Bool) (g : Int × Str → Str) (x : Int) : ∀ (s t : Row), (keys s).Nodup →
    atR (s.foldl (fun t p => if P p = true then putR t p.1 (g p) else t) t) x = if x ∈ keys s ∧ P (x, atR s x) = true then g (x, atR s x) else atR t x
  | [], t, _ => by simp [keys]
  | (k, u) :: s, t, n => by
    have n1 : k ∉ keys s ∧ (keys s).Nodup := by
      rw [keys, List.map_cons, List.nodup_cons] at n
      exact n
    have mm : x ∈ keys ((k, u) :: s) ↔ x = k ∨ x ∈ keys s := by
      rw [keys, List.map_cons, List.mem_cons]
      rfl
    rw [List.foldl_cons, fold_at P g x s _ n1.2, atR_cons]
    by_cases e : k = x
    · subst e
      have h1 : ¬ (k ∈ keys s ∧ P (k, atR s k) = true) := fun z => n1.1 z.1
      rw [if_neg h1, if_pos rfl]
      by_cases z : P (k, u) = true
      · rw [if_pos z, atR_put, if_pos rfl, if_pos ⟨mm.mpr (.inl rfl), z⟩]
      · rw [if_neg z, if_neg fun y => z y.2]
    · have e' : ¬ x = k := fun z => e z.symm
      rw [if_neg e]
      have t1 : atR (if P (k, u) = true then putR t (k, u).1 (g (k, u)) else t) x = atR t x := by
        split
        · rw [atR_put, if_neg e']
        · rfl
      rw [t1]
      by_cases z : x ∈ keys s ∧ P (x, atR s x) = true
      · rw [if_pos z, if_pos ⟨mm.mpr (.inr z.1), z.2⟩]
      · rw [if_neg z, if_neg]
        rintro ⟨y1, y2⟩
        rcases mm.mp y1 with y1 | y1
        · exact e' y1
        · exact z ⟨y1, y2⟩
theorem fold_nodup (P : Int × Str → Bool) (g : Int × Str → Str) : ∀ (s t : Row), (keys t).Nodup → (keys (s.foldl (fun t p => if P p = true then putR t p.1 (g p) else t) t)).Nodup
  | [], t, n => n
  | p :: s, t, n => by
    rw [List.foldl_cons]
    refine fold_nodup P g s _ ?_
    split
    · exact put_nodup n _ _
    · exact n
theorem nodup_nil : (keys []).Nodup := List.Pairwise.nil
theorem lon_fold (r s t : Row) : s.foldl (lonS r) t = s.foldl (fun t p => if decide (p.2.length > (atR r p.1).length) = true then putR t p.1 p.2 else t) t := by
  refine congrArg (fun f => s.foldl f t) (funext fun t => funext fun p => ?_)
  rw [lonS]
  simp only [decide_eq_true_eq]
theorem aft_fold (r s t : Row) : s.foldl (aftS r) t = s.foldl (fun t p => if (fun _ => true) p = true then putR t p.1 (atR r p.1 ++ p.2) else t) t := rfl
theorem res_fold (s r t : Row) : r.foldl (resS s) t = r.foldl (fun t p => if (fun _ => true) p = true then putR t p.1 (cutS p.2 (some (atR s p.1).length) none) else t) t := rfl
section
variable {r s : Row} (hr : Srt r) (hs : Srt s)
include hr hs
theorem lon_srt : Srt (lonR r s) := by
  rw [lonR, lon_fold]
  exact sor_srt (fold_nodup _ _ _ _ hr.nodup)
theorem at_lon (x : Int) : atR (lonR r s) x = if (atR s x).length > (atR r x).length then atR s x else atR r x := by
  rw [lonR, lon_fold, at_sor (fold_nodup _ _ _ _ hr.nodup), fold_at _ _ x s r hs.nodup]
  by_cases m : x ∈ keys s
  · simp [m]
  · rw [if_neg fun z => m z.1, atR_none m, if_neg]
    rw [l0]
    omega
theorem aft_srt : Srt (aftR r s) := by
  rw [aftR, aft_fold]
  exact sor_srt (fold_nodup _ _ _ _ hr.nodup)
theorem app_nil (a : Str) : a ++ ("" : Str) = a := TL.ext_tl (by rw [TL.tl_append, show TL.tl ("" : Str) = [] by decide +kernel, List.append_nil])
theorem at_aft (x : Int) : atR (aftR r s) x = atR r x ++ atR s x := by
  rw [aftR, aft_fold, at_sor (fold_nodup _ _ _ _ hr.nodup), fold_at _ _ x s r hs.nodup]
  by_cases m : x ∈ keys s
  · rw [if_pos ⟨m, rfl⟩]
  · rw [if_neg fun z => m z.1, atR_none m, app_nil hr hs]
theorem res_srt : Srt (resR r s) := by
  rw [resR, res_fold]
  exact sor_srt (fold_nodup _ _ r [] nodup_nil)
theorem at_res (x : Int) : atR (resR r s) x = cutS (atR r x) (some (atR s x).length) none := by
  rw [resR, res_fold, at_sor (fold_nodup _ _ r [] nodup_nil), fold_at _ _ x r [] hr.nodup]
  by_cases m : x ∈ keys r
  · rw [if_pos ⟨m, rfl⟩]
  · rw [if_neg fun z => m z.1, atR_none m]
    refine TL.ext_tl ?_
    rw [tl_from]
    show TL.tl ("" : Str) = _
    rw [show TL.tl ("" : Str) = [] by decide +kernel, List.drop_nil]
end
end K19

namespace K19
open PySem PySem.Spec PyProof.Rows L2 MeD MeK MeL
local macro_rules | `(tactic| walk_at "rd") => `(tactic| (dsimp only [tVar, tC, tOp, tUn, tCons, tNil, tTup, tLst, tCB, tK, tKS, tTest, tB, tAnd, tOr, tNot, tAndV, tOrV, tNotV, tIf, tIfS, tSeq, tNext, tRet, tRetN, tDrop, tAsg, gName, gTup, gNil, gCons, wipe, tYes, tSl, tPart, tNoPart, tBM, tBM0,  tBreak, tCont, gLst, tDGet, tDIn, tDNotIn, sDPut, tDNewK, MeL.for_tup_eq, MeL.for_list_eq, MeL.for_str_eq, MeL.for_rng_eq, MeL.for_row_eq, MeL.lc_tup_eq, MeL.lc_list_eq, MeL.lc_str_eq, MeL.lc_rng_eq, rI0, rI, rU, tRs1, cxOf, Cx.tr, Cx.suite, L2.start, List.map, List.replicate, List.length, List.append, HAppend.hAppend, Append.append, Nat.reduceAdd, Nat.reduceSub]))
local macro_rules | `(tactic| walk_at "rs") => `(tactic| (try simp only [List.getElem?_cons_zero, List.getElem?_cons_succ, Option.some.injEq, exists_eq_left', exists_eq_left, V.bl.injEq, V.int.injEq, V.str.injEq, V.ref.injEq, List.cons.injEq, and_true, true_and, and_self, exists_and_left, exists_eq', exists_eq, ↓reduceIte, reduceCtorEq, Bool.false_eq_true, false_and, exists_const, exists_false, decide_true, decide_false, Bool.not_true, Bool.not_false, List.set_cons_zero, List.set_cons_succ, MeK.tyv_str, or_false, MeL.for_row_eq, MeK.req_int, MeK.rne_int, MeK.req_str, MeK.rne_str, MeK.req_bl, MeK.rne_bl, decide_eq_true_eq, Bool.not_eq_true', decide_eq_false_iff_not, Int.natCast_inj]))
theorem rw_at {r : Row} (h : Rw r) (c : Int) : (atR r c).length ≤ 1600 := by
  by_cases m : c ∈ keys r
  · exact h.wl _ (mem_atR m)
  · rw [atR_none m]
    decide
theorem szl {n : Nat} (h : n ≤ 50000) : n ≤ sizeLine := Nat.le_trans h (by decide)
theorem outR_cons (f : Int → Str) (c : Int) (l : List Int) : outR (c :: l) f = (if f c = "" then [] else [(c, f c)]) ++ outR l f := by
  unfold outR
  rw [List.filterMap_cons]
  by_cases e : f c = ""
  · rw [if_pos e, if_pos e]
    rfl
  · rw [if_neg e, if_neg e]
    rfl
section
variable {P : Program} {w : World} {K : PySem.W.Frag} {mg : Str → Option Value} {base : Heap}
abbrev N__law_agree : List Str := ["row", "other", "colour", "one", "two", "least"]
abbrev P__law_agree : List Str := ["row", "other"]
theorem sc__law_agree : FnScope N__law_agree P__law_agree (defScope s__law_agree) := ⟨rfl, rfl, rfl, by decide +kernel, rfl, by decide +kernel, by decide +kernel⟩
theorem bn__law_agree : ∀ (kV doc pm : Value) (an : Option Addr) (cdv ct : Value) (us : List Value), us.length = P__law_agree.length → bindArgs (PySem.W.fnOf "_law_agree" "_law_agree" (defArgs s__law_agree) (defBody s__law_agree) (defScope s__law_agree) .none kV doc pm an cdv ct) ⟨us, []⟩ = pure (P__law_agree.zip us) := fun _ _ _ _ _ _ us hl => match us, hl with | [_, _], _ => rfl
def spLAg (K : PySem.W.Frag) : Sp := fun vs H Q _ => ∃ v u r s, vs = [v, u] ∧ Dp K H v (.list (rowD r)) ∧ Dp K H u (.list (rowD s)) ∧ Rw r ∧ Rw s ∧ ∀ H', Same H H' → Q (.bl (agR r s)) H'
theorem k__law_agree (T : Txt K mg) : Knows P w K mg base CX0 2 "_law_agree" P__law_agree (spLAg K) := by
  have k__law_all := k__law_all (P := P) (w := w) (base := base) T
  have k__law_at := k__law_at (P := P) (w := w) (base := base) T
  refine knows_of T.g__law_agree T.d__law_agree bn__law_agree fun fd F => F.ok sc__law_agree (fun vs H Q E h => ?_) (fun cdv A outer s H vs Q E hr h => ?_)
  · obtain ⟨v, u, r, s, rfl, hd, hu, hsr, hss, q⟩ := h
    rfl
  · obtain ⟨v, u, r, s, rfl, hd, hu, hsr, hss, q⟩ := h
    have nd := sc__law_agree.nd
    refine ⟨_, (pss_cons (ps_for (passes_of rfl) rfl (pi_list (pe_k k__law_all (hr.mono (by decide)) pass0 (pa_cons (pv 0) (pa_cons (pv 1) pa_nil)))) (pg_name (i := 2) nd rfl (Or.inl rfl)) (pss_cons (ps_set (i := 3) nd rfl (Or.inl rfl) (pe_k k__law_at (hr.mono (by decide)) pass0 (pa_cons (pv 0) (pa_cons (pv 2) pa_nil))))
      (pss_cons (ps_set (i := 4) nd rfl (Or.inl rfl) (pe_k k__law_at (hr.mono (by decide)) pass0 (pa_cons (pv 1) (pa_cons (pv 2) pa_nil))))
      (pss_cons (ps_set (i := 5) nd rfl (Or.inl rfl) (pe_callB (call_min2 rfl) rfl T.f_min (by decide +kernel) (pa_cons (pe_callB call_len_str rfl T.f_len (by decide +kernel) (pa_cons (pv 3) pa_nil)) (pa_cons (pe_callB call_len_str rfl T.f_len (by decide +kernel) (pa_cons (pv 4) pa_nil)) pa_nil))))
      (pss_one (ps_if (pt_cmpR op_ne (pe_slice sl_str (pv 3) po_none (po_some (pv 5))) (pe_slice sl_str (pv 4) po_none (po_some (pv 5))) (nomark _)) (pss_one (ps_ret pe_bl)) pss_nil))))))
      (pss_one (ps_ret pe_bl))), ?_⟩
    walk_at "rd"
    walk_at "rs"
    refine ⟨_, _, _, _, rfl, hd, hu, hsr.good.srt, by have := hsr.len; omega, by have := hss.len; omega, fun a ys H1 _ s1 h1 pw mem hl => ?_⟩
    have ag : agR r s = ys.all fun c => alike (atR r c) (atR s c) := by
      rw [Bool.eq_iff_iff, agR_iff hsr.good.srt.nodup, List.all_eq_true]
      refine ⟨fun h c _ => h c, fun h c => ?_⟩
      by_cases m : c ∈ ys
      · exact h c m
      · rw [atR_none fun z => m ((mem c).mpr (.inl z))]
        exact alike_nil_left _
    rw [ag] at q
    refine loopL_map (H0 := H1) PyData.int (.lst (SqL.of h1) (DpAll.ints ys)) (fun l σ H' => Same H1 H' ∧ ∃ a b c d, σ = [some v, some u, a, b, c, d] ∧ (l.all fun c => alike (atR r c) (atR s c)) = ys.all fun c => alike (atR r c) (atR s c)) ⟨Same.refl _, _, _, _, _, rfl, rfl⟩ (fun _ _ _ h => h.1) (fun y k l σ H' hm h hy N hN => ?_) (fun σ H' h => ?_)
    · obtain ⟨s2, a, b, c, d, rfl, e⟩ := h
      cases hy
      have s12 := s1.trans s2
      walk_at "rd"
      walk_at "rs"
      refine ⟨_, _, _, rfl, hd.same s12, fun H3 s3 => ?_⟩
      refine ⟨_, _, _, rfl, hu.same (s12.trans s3), fun H4 s4 => ?_⟩
      walk_at "rs"
      have b1 := rw_at hsr k
      have b2 := rw_at hss k
      refine ⟨szl (by omega), szl (by omega), _, _, ⟨rfl, rfl⟩, ?_⟩
      refine ⟨_, rfl, szl (by omega), _, rfl, szl (by omega), ?_⟩
      walk_at "rs"
      have al := alike_iff (atR r k) (atR s k)
      rw [List.all_cons] at e
      refine ite2 (fun z => ?_) (fun z => ?_)
      · have z2 : alike (atR r k) (atR s k) = false := by
          cases g : alike (atR r k) (atR s k) with
          | true => exact absurd (al.mpr g) z
          | false => rfl
        rw [← e, z2] at q
        exact q _ (s12.trans (s3.trans s4))
      · have z2 := al.mp (Classical.byContradiction z)
        refine hN _ _ ⟨s2.trans (s3.trans s4), _, _, _, _, rfl, ?_⟩
        rw [← e, z2]
        rfl
    · obtain ⟨s2, a, b, c, d, rfl, e⟩ := h
      walk_at "rd"
      walk_at "rs"
      rw [← e] at q
      exact q _ (s1.trans s2)
abbrev N__law_joined : List Str := ["word", "row", "other", "told", "colour", "one", "two", "due"]
abbrev P__law_joined : List Str := ["word", "row", "other"]
theorem sc__law_joined : FnScope N__law_joined P__law_joined (defScope s__law_joined) := ⟨rfl, rfl, rfl, by decide +kernel, rfl, by decide +kernel, by decide +kernel⟩
theorem bn__law_joined : ∀ (kV doc pm : Value) (an : Option Addr) (cdv ct : Value) (us : List Value), us.length = P__law_joined.length → bindArgs (PySem.W.fnOf "_law_joined" "_law_joined" (defArgs s__law_joined) (defBody s__law_joined) (defScope s__law_joined) .none kV doc pm an cdv ct) ⟨us, []⟩ = pure (P__law_joined.zip us) := fun _ _ _ _ _ _ us hl => match us, hl with | [_, _, _], _ => rfl
inductive JWord where
  | longer | rest | after
def jName : JWord → Str
  | .longer => "longer"
  | .rest => "rest"
  | .after => "after"
def joinD (j : JWord) (r s : Row) : PyData := match j with
  | .longer => if agR r s = true then .tuple (rowD (lonR r s)) else .str "Unlike"
  | .rest => if leads r s = true then .tuple (rowD (resR r s)) else .str "Unlike"
  | .after => .tuple (rowD (aftR r s))
def fJ (j : JWord) (r s : Row) (c : Int) : Str := match j with
  | .longer => if (atR s c).length > (atR r c).length then atR s c else atR r c
  | .rest => cutS (atR r c) (some (atR s c).length) none
  | .after => atR r c ++ atR s c
theorem joinD_out {j : JWord} {r s : Row} (hr : Srt r) (hs : Srt s) {ys : List Int} (pw : ys.Pairwise (· < ·)) (mem : ∀ c, c ∈ ys ↔ c ∈ keys r ∨ c ∈ keys s) :
    match j with | .longer => outR ys (fJ j r s) = lonR r s | .rest => outR ys (fJ j r s) = resR r s | .after => outR ys (fJ j r s) = aftR r s := by
  have out : ∀ c, c ∉ ys → atR r c = "" ∧ atR s c = "" := fun c h => ⟨atR_none fun z => h ((mem c).mpr (.inl z)), atR_none fun z => h ((mem c).mpr (.inr z))⟩
  cases j with
  | longer =>
    refine out_eq pw (lon_srt hr hs) (fun x h => ?_) fun x => at_lon hr hs x
    rw [fJ, (out x h).1, (out x h).2]
    rfl
  | rest =>
    refine out_eq pw (res_srt hr hs) (fun x h => ?_) fun x => at_res hr hs x
    rw [fJ, (out x h).1, (out x h).2]
    decide +kernel
  | after =>
    refine out_eq pw (aft_srt hr hs) (fun x h => ?_) fun x => at_aft hr hs x
    rw [fJ, (out x h).1, (out x h).2]
    decide +kernel
def spLJ (K : PySem.W.Frag) : Sp := fun vs H Q _ => ∃ j v u r s, vs = [.str (jName j), v, u] ∧ Dp K H v (.list (rowD r)) ∧ Dp K H u (.list (rowD s)) ∧ Rw r ∧ Rw s ∧ ∀ v' H', Same H H' → Dp K H' v' (joinD j r s) → Q v' H'
theorem k__law_joined (T : Txt K mg) : Knows P w K mg base CX0 3 "_law_joined" P__law_joined (spLJ K) := by
  have k__law_all := k__law_all (P := P) (w := w) (base := base) T
  have k__law_at := k__law_at (P := P) (w := w) (base := base) T
  have k__law_agree := k__law_agree (P := P) (w := w) (base := base) T
  refine knows_of T.g__law_joined T.d__law_joined bn__law_joined fun fd F => F.ok sc__law_joined (fun vs H Q E h => ?_) (fun cdv A outer s H vs Q E hr h => ?_)
  · obtain ⟨j, v, u, r, s, rfl, hd, hu, hsr, hss, q⟩ := h
    rfl
  · obtain ⟨j, v, u, r, s, rfl, hd, hu, hsr, hss, q⟩ := h
    have nd := sc__law_joined.nd
    refine ⟨_, (pss_cons (ps_set (i := 3) nd rfl (Or.inl rfl) (pe_lst pa_nil))
      (pss_cons (ps_for (passes_of rfl) rfl (pi_list (pe_k k__law_all (hr.mono (by decide)) pass0 (pa_cons (pv 1) (pa_cons (pv 2) pa_nil)))) (pg_name (i := 4) nd rfl (Or.inl rfl)) (pss_cons (ps_set (i := 5) nd rfl (Or.inl rfl) (pe_k k__law_at (hr.mono (by decide)) pass0 (pa_cons (pv 1) (pa_cons (pv 4) pa_nil))))
      (pss_cons (ps_set (i := 6) nd rfl (Or.inl rfl) (pe_k k__law_at (hr.mono (by decide)) pass0 (pa_cons (pv 2) (pa_cons (pv 4) pa_nil))))
      (pss_cons (ps_set (i := 7) nd rfl (Or.inl rfl) (pe_op op_add_str (pv 5) (pv 6)))
      (pss_cons (ps_if (pt_cmpR op_eq (pv 0) pe_str (nomark _)) (pss_cons (ps_set (i := 7) nd rfl (Or.inl rfl) (pv 5))
      (pss_one (ps_if (pt_cmpR op_gt (pe_callB call_len_str rfl T.f_len (by decide +kernel) (pa_cons (pv 6) pa_nil)) (pe_callB call_len_str rfl T.f_len (by decide +kernel) (pa_cons (pv 5) pa_nil)) (nomark _)) (pss_one (ps_set (i := 7) nd rfl (Or.inl rfl) (pv 6))) pss_nil))) pss_nil)
      (pss_cons (ps_if (pt_cmpR op_eq (pv 0) pe_str (nomark _)) (pss_cons (ps_if (pt_cmpR op_ne (pe_slice sl_str (pv 5) po_none (po_some (pe_callB call_len_str rfl T.f_len (by decide +kernel) (pa_cons (pv 6) pa_nil)))) (pv 6) (nomark _)) (pss_one (ps_ret pe_str)) pss_nil)
      (pss_one (ps_set (i := 7) nd rfl (Or.inl rfl) (pe_slice sl_str (pv 5) (po_some (pe_callB call_len_str rfl T.f_len (by decide +kernel) (pa_cons (pv 6) pa_nil))) po_none)))) pss_nil)
      (pss_one (ps_if (pt_cmpR op_ne (pv 7) pe_str (nomark _)) (pss_one (ps_expr (pe_bm PySem.F.plainAttrs_list PySem.F.slot_list_append PySem.F.type_list_append mt_append (pv 3) (pa_cons (pe_tup (pa_cons (pv 4) (pa_cons (pv 7) pa_nil))) pa_nil)))) pss_nil))))))))
      (pss_cons (ps_if (PW.pt (pw_and (pt_cmpR op_eq (pv 0) pe_str (nomark _)) (pw_and1 (pt_not (pt_val (pe_k k__law_agree (hr.mono (by decide)) pass0 (pa_cons (pv 1) (pa_cons (pv 2) pa_nil)))))))) (pss_one (ps_ret pe_str)) pss_nil)
      (pss_one (ps_ret (pe_callTy (tupleK (K := K)) rfl T.f_tuple (by decide +kernel) (pa_cons (pv 3) pa_nil))))))), ?_⟩
    walk_at "rd"
    walk_at "rs"
    refine ⟨by decide, fun p hp => ?_⟩
    have s0 := same_new (o := .lst []) hp
    refine ⟨_, _, _, _, rfl, hd.same s0, hu.same s0, hsr.good.srt, by have := hsr.len; omega, by have := hss.len; omega, fun ay ys H1 ha s1 h1 pw mem hl => ?_⟩
    have ap : ay ≠ p := fun z => by rw [z, upd_same] at ha; cases ha
    have s01 := s0.trans s1
    have hout := joinD_out (j := j) hsr.good.srt hss.good.srt pw mem
    refine loopL_mapE PyData.int (SqL.of h1) (DpAll.ints ys) (fun l σ H' => Same H H' ∧ H' ay = some (.lst (ys.map V.int)) ∧ ∃ (t : Row) (xs : List V) (a b c d : Option V), σ = [some (.str (jName j)), some v, some u, some (.ref p), a, b, c, d] ∧ H' p = some (.lst xs) ∧ DpAll K H' xs (rowD t) ∧ t ++ outR l (fJ j r s) = outR ys (fJ j r s) ∧ t.length + l.length ≤ 60 ∧
        (j = .rest → (l.all fun c => Txt.startswith (atR r c) (atR s c)) = ys.all fun c => Txt.startswith (atR r c) (atR s c)))
      ⟨s01, h1, [], [], _, _, _, _, rfl, s1 _ _ upd_same, .nil, rfl, by simpa using hl, fun _ => rfl⟩ (fun _ _ _ h => ⟨SqL.of h.2.1, DpAll.ints ys⟩) (fun y k l σ H' hm h hy N hN => ?_) (fun σ H' h => ?_)
    · obtain ⟨s2, s2', t, xs, a, b, c, d, rfl, e1, hx, e2, hl2, e3⟩ := h
      cases hy
      walk_at "rd"
      walk_at "rs"
      have b1 := rw_at hsr k
      have b2 := rw_at hss k
      rw [List.length_cons] at hl2
      rw [outR_cons] at e2
      have lx := hx.len
      rw [rowD, List.length_map] at lx
      refine ⟨_, _, _, rfl, hd.same s2, fun H3 s3 => ?_⟩
      refine ⟨_, _, _, rfl, hu.same (s2.trans s3), fun H4 s4 => ?_⟩
      have s34 := s3.trans s4
      walk_at "rs"
      have put_ : ∀ z : Str, z = fJ j r s k → (j = .rest → Txt.startswith (atR r k) (atR s k) = true) → (if ¬ z = "" then tyV K "list" (V.ref p) H4 ∧ 2 ≤ sizeLine ∧ ∀ q : Addr, H4 q = none → rAppend (V.ref p) [V.ref q] (upd H4 q (HO.tup [V.int k, V.str z])) fun _ H5 =>
          N [some (.str (jName j)), some v, some u, some (.ref p), some (.int k), some (.str (atR r k)), some (.str (atR s k)), some (.str z)] H5
        else N [some (.str (jName j)), some v, some u, some (.ref p), some (.int k), some (.str (atR r k)), some (.str (atR s k)), some (.str z)] H4) := fun z ez hlead => by
        have e3' : j = .rest → (l.all fun c => Txt.startswith (atR r c) (atR s c)) = ys.all fun c => Txt.startswith (atR r c) (atR s c) := fun hj => by rw [← e3 hj, List.all_cons, hlead hj]; rfl
        refine ite2 (fun ne => ?_) (fun ne => ?_)
        · have e1' := s34 _ _ e1
          refine ⟨tyv_list (SqL.of e1'), by decide, fun q hq => ?_⟩
          have e1'' := same_new (o := .tup [.int k, .str z]) hq _ _ e1'
          refine ⟨p, xs, _, rfl, rfl, e1'', Nat.lt_of_le_of_lt (show xs.length ≤ 60 by omega) (by decide), ?_⟩
          refine hN _ _ ⟨put_same (s2.trans (s34.trans (same_new hq))) hp, by rw [upd_ne ap]; exact same_new hq _ _ (s34 _ _ s2'), t ++ [(k, z)], _, _, _, _, _, rfl, upd_same, ?_, ?_, ?_, ?_⟩
          · rw [rowD, List.map_append]
            exact (dps_put e1'' (noL_rowD t) ((hx.same s34).same (same_new hq))).snoc (dp_put e1'' rfl (.tup (SqT.of upd_same) (.cons (.int k) (.cons (.str z) .nil))))
          · rw [← e2, ← ez, if_neg ne, List.append_assoc]
          · rw [List.length_append, List.length_singleton]
            omega
          · exact e3' 
        · refine hN _ _ ⟨s2.trans s34, s34 _ _ s2', t, xs, _, _, _, _, rfl, s34 _ _ e1, hx.same s34, ?_, by omega, e3'⟩
          rw [← e2, ← ez, if_pos (Classical.byContradiction ne), List.nil_append]
      refine ⟨szl (by omega), ?_⟩
      cases j with
      | longer =>
        refine ite2 (fun _ => ?_) (fun z => absurd rfl z)
        refine ⟨szl (by omega), szl (by omega), ?_⟩
        refine ite2 (fun z => ite2 (fun y => absurd y (by decide +kernel)) fun _ => put_ _ ?_ (fun y => nomatch y)) (fun z => ite2 (fun y => absurd y (by decide +kernel)) fun _ => put_ _ ?_ (fun y => nomatch y))
        · exact (if_pos (show (atR s k).length > (atR r k).length by omega)).symm
        · exact (if_neg (show ¬ (atR s k).length > (atR r k).length by omega)).symm
      | rest =>
        refine ite2 (fun y => absurd y (by decide +kernel)) (fun _ => ?_)
        refine ite2 (fun _ => ?_) (fun z => absurd rfl z)
        refine ⟨szl (by omega), _, rfl, szl (by omega), ?_⟩
        walk_at "rs"
        have up := upto_iff (atR r k) (atR s k)
        refine ite2 (fun z => ?_) (fun z => ?_)
        · refine q _ _ (s2.trans s34) ?_
          have z2 : leads r s = false := by
            cases g : leads r s with
            | false => rfl
            | true => exact absurd (up.mpr ((leads_iff hss.good.srt.nodup).mp g k)) z
          rw [joinD, z2]
          exact .str _
        · refine ⟨szl (by omega), _, rfl, szl (by omega), ?_⟩
          walk_at "rs"
          exact put_ _ rfl fun _ => up.mp (Classical.byContradiction z)
      | after =>
        refine ite2 (fun y => absurd y (by decide +kernel)) (fun _ => ite2 (fun y => absurd y (by decide +kernel)) (fun _ => put_ _ rfl (fun y => nomatch y)))
    · obtain ⟨s2, s2', t, xs, a, b, c, d, rfl, e1, hx, e2, hl2, e3⟩ := h
      walk_at "rd"
      walk_at "rs"
      rw [show outR [] (fJ j r s) = [] from rfl, List.append_nil] at e2
      subst e2
      cases j with
      | longer =>
        refine ite2 (fun _ => ?_) (fun z => absurd rfl z)
        refine ⟨_, _, _, _, rfl, hd.same s2, hu.same s2, hsr, hss, fun H3 s3 => ⟨_, rfl, ite2 (fun z => ?_) (fun z => ?_)⟩⟩
        · refine q _ _ (s2.trans s3) ?_
          rw [joinD, z]
          exact .str _
        · refine tup_of (s3 _ _ e1) (hx.same s3) fun v' H4 s4 h4 => q v' H4 (s2.trans (s3.trans s4)) ?_
          rw [joinD, if_pos (by simpa using z), ← hout]
          exact h4
      | rest =>
        refine ite2 (fun y => absurd y (by decide +kernel)) (fun _ => ?_)
        refine tup_of e1 hx fun v' H4 s4 h4 => q v' H4 (s2.trans s4) ?_
        have ld : leads r s = true := by
          rw [leads_iff hss.good.srt.nodup]
          intro c
          by_cases m : c ∈ keys s
          · exact List.all_eq_true.mp (e3 rfl).symm c ((mem c).mpr (.inr m))
          · rw [atR_none m]
            exact nil_starts _
        rw [joinD, if_pos ld, ← hout]
        exact h4
      | after =>
        refine ite2 (fun y => absurd y (by decide +kernel)) (fun _ => ?_)
        refine tup_of e1 hx fun v' H4 s4 h4 => q v' H4 (s2.trans s4) ?_
        rw [joinD, ← hout]
        exact h4
end
end K19

namespace K19
open PySem PySem.Spec PyProof.Rows L2 MeD MeK MeL
local macro_rules | `(tactic| walk_at "rd") => `(tactic| (dsimp only [tVar, tC, tOp, tUn, tCons, tNil, tTup, tLst, tCB, tK, tKS, tTest, tB, tAnd, tOr, tNot, tAndV, tOrV, tNotV, tIf, tIfS, tSeq, tNext, tRet, tRetN, tDrop, tAsg, gName, gTup, gNil, gCons, wipe, tYes, tSl, tPart, tNoPart, tBM, tBM0,  tBreak, tCont, gLst, tDGet, tDIn, tDNotIn, sDPut, tDNewK, MeL.for_tup_eq, MeL.for_list_eq, MeL.for_str_eq, MeL.for_rng_eq, MeL.for_row_eq, MeL.lc_tup_eq, MeL.lc_list_eq, MeL.lc_str_eq, MeL.lc_rng_eq, rI0, rI, rU, tRs1, cxOf, Cx.tr, Cx.suite, L2.start, List.map, List.replicate, List.length, List.append, HAppend.hAppend, Append.append, Nat.reduceAdd, Nat.reduceSub]))
local macro_rules | `(tactic| walk_at "rs") => `(tactic| (try simp only [List.getElem?_cons_zero, List.getElem?_cons_succ, Option.some.injEq, exists_eq_left', exists_eq_left, V.bl.injEq, V.int.injEq, V.str.injEq, V.ref.injEq, List.cons.injEq, and_true, true_and, and_self, exists_and_left, exists_eq', exists_eq, ↓reduceIte, reduceCtorEq, Bool.false_eq_true, false_and, exists_const, exists_false, decide_true, decide_false, Bool.not_true, Bool.not_false, List.set_cons_zero, List.set_cons_succ, MeK.tyv_str, or_false, MeL.for_row_eq, MeK.req_int, MeK.rne_int, MeK.req_str, MeK.rne_str, MeK.req_bl, MeK.rne_bl, decide_eq_true_eq, Bool.not_eq_true', decide_eq_false_iff_not, Int.natCast_inj]))
theorem depth_rows (r : Row) : PyData.depthAll (rowD r) ≤ 2 := by
  induction r with
  | nil => simp [rowD, PyData.depthAll]
  | cons p r ih =>
    have e : PyData.depthAll (rowD (p :: r)) = max (PyData.depth (ent p)) (PyData.depthAll (rowD r)) := rfl
    have e2 : PyData.depth (ent p) ≤ 2 := by simp [ent, PyData.depth, PyData.depthAll]
    omega
theorem depth_row (r : Row) : PyData.depth (.tuple (rowD r)) ≤ 3 := by
  have e : PyData.depth (.tuple (rowD r)) = PyData.depthAll (rowD r) + 1 ∨ PyData.depth (.tuple (rowD r)) = 1 + PyData.depthAll (rowD r) := by
    first | exact .inl rfl | exact .inr rfl
  have := depth_rows r
  omega
inductive Asks (K : PySem.W.Frag) (H : Hp) : Str → List V → Out → Prop
  | sfrom {v d} : Dp K H v d → FitP d → Asks K H "stacks_from" [v] (mFrom d)
  | wordAt {v u d e} : Dp K H v d → Fit d → Dp K H u e → Asks K H "word_at" [v, u] (mWordAt d e)
  | put {v u x d e f} : Dp K H v d → Fit d → Dp K H u e → Dp K H x f → Asks K H "put" [v, u, x] (mPut d e f)
  | behind {v u x d e f} : Dp K H v d → Fit d → Dp K H u e → Dp K H x f → Asks K H "behind" [v, u, x] (mBehind d e f)
  | taken {v u r d e} : Dp K H v d → Fit d → Dp K H u e → Asks K H "taken" (v :: u :: r) (mTaken d e)
  | wordAtR {v u r d e} : Dp K H v d → Fit d → Dp K H u e → Asks K H "word_at" (v :: u :: r) (mWordAt d e)
  | agree {v u d e} : Dp K H v d → Fit d → Dp K H u e → Fit e → Asks K H "agree" [v, u] (mAgree d e)
  | longer {v u d e} : PDp K H v d → Fit d → Dp K H u e → Fit e → Asks K H "longer" [v, u] (mLonger d e)
  | rest {v u d e} : Dp K H v d → Fit d → Dp K H u e → Fit e → Asks K H "rest" [v, u] (mRest d e)
  | after {v u d e} : PDp K H v d → Fit d → Dp K H u e → Fit e → Asks K H "after" [v, u] (mAfter d e)
  | letters {v d} : Dp K H v d → Fit d → Asks K H "letters" [v] (mLetters d)
  | check {v d} : Dp K H v d → Fit d → Asks K H "check_stacks" [v] (onR d fun _ => .ok .none)
theorem Asks.same {K : PySem.W.Frag} {H H' : Hp} {w : Str} {vs : List V} {o : Out} (h : Asks K H w vs o) (s : Same H H') : Asks K H' w vs o := by
  cases h with
  | sfrom a b => exact .sfrom (a.same s) b
  | wordAt a b c => exact .wordAt (a.same s) b (c.same s)
  | put a b c d => exact .put (a.same s) b (c.same s) (d.same s)
  | behind a b c d => exact .behind (a.same s) b (c.same s) (d.same s)
  | taken a b c => exact .taken (a.same s) b (c.same s)
  | wordAtR a b c => exact .wordAtR (a.same s) b (c.same s)
  | agree a b c d => exact .agree (a.same s) b (c.same s) d
  | longer a b c d => exact .longer (a.same s) b (c.same s) d
  | rest a b c d => exact .rest (a.same s) b (c.same s) d
  | after a b c d => exact .after (a.same s) b (c.same s) d
  | letters a b => exact .letters (a.same s) b
  | check a b => exact .check (a.same s) b
def spCall (K : PySem.W.Frag) : Sp := fun vs H Q E => ∃ w a xs o, vs = [.str w, .ref a] ∧ SqL K H a xs ∧ Asks K H w xs o ∧ ends K H Q E o
def outD : Out → PyData
  | .ok d => .list [.str "told", d]
  | .stacks => .list [.str "BadStacks"]
  | .unlike => .list [.str "Unlike"]
  | .num s => .list [.str "BadNumber", .str s]
def spAsked (K : PySem.W.Frag) : Sp := fun vs H Q _ => ∃ w a xs o, vs = [.str w, .ref a] ∧ SqL K H a xs ∧ Asks K H w xs o ∧ ∀ v H', Same H H' → Dp K H' v (outD o) → Q v H'
local macro_rules | `(tactic| walk_at "word") => `(tactic| ((repeat (refine ite2 (fun e => absurd e (by decide +kernel)) (fun _ => ?_))); try (refine ite2 (fun _ => ?_) (fun z => absurd rfl z))))
section
variable {P : Program} {w : World} {K : PySem.W.Frag} {mg : Str → Option Value} {base : Heap}
abbrev N__law_call : List Str := ["word", "args"]
abbrev P__law_call : List Str := ["word", "args"]
theorem sc__law_call : FnScope N__law_call P__law_call (defScope s__law_call) := ⟨rfl, rfl, rfl, by decide +kernel, rfl, by decide +kernel, by decide +kernel⟩
theorem bn__law_call : ∀ (kV doc pm : Value) (an : Option Addr) (cdv ct : Value) (us : List Value), us.length = P__law_call.length → bindArgs (PySem.W.fnOf "_law_call" "_law_call" (defArgs s__law_call) (defBody s__law_call) (defScope s__law_call) .none kV doc pm an cdv ct) ⟨us, []⟩ = pure (P__law_call.zip us) := fun _ _ _ _ _ _ us hl => match us, hl with | [_, _], _ => rfl
theorem k__law_call (T : Txt K mg) : Knows P w K mg base (L2.CX P w) 5 "_law_call" P__law_call (spCall K) := by
  have k_check_stacks := k_check_stacks (P := P) (w := w) (base := base) T
  have k_stacks_from := k_stacks_from (P := P) (w := w) (base := base) T
  have k_word_at := k_word_at (P := P) (w := w) (base := base) T
  have k_put := k_put (P := P) (w := w) (base := base) T
  have k_behind := k_behind (P := P) (w := w) (base := base) T
  have k_taken := k_taken (P := P) (w := w) (base := base) T
  have k_agree := k_agree (P := P) (w := w) (base := base) T
  have k_longer := k_longer (P := P) (w := w) (base := base) T
  have k_rest := k_rest (P := P) (w := w) (base := base) T
  have k_after := k_after (P := P) (w := w) (base := base) T
  have k_letters := k_letters (P := P) (w := w) (base := base) T
  refine knows_of T.g__law_call T.d__law_call bn__law_call fun fd F => F.ok sc__law_call (fun vs H Q E h => ?_) (fun cdv A outer s H vs Q E hr h => ?_)
  · obtain ⟨w, a, xs, o, rfl, hS, h, q⟩ := h
    rfl
  · obtain ⟨w, a, xs, o, rfl, hS, h, q⟩ := h
    have nd := sc__law_call.nd
    refine ⟨_, (pss_cons (ps_if (pt_cmpR op_eq (pv 0) pe_str (nomark _)) (pss_one (ps_ret (pe_k k_stacks_from (hr.mono (by decide)) (passO (takes_of rfl rfl rfl rfl)) (pa_cons (pe_ix (ix_listK (K := K)) (pv 1) pe_int (fun _ _ => rfl)) pa_nil)))) pss_nil)
      (pss_cons (ps_if (pt_cmpR op_eq (pv 0) pe_str (nomark _)) (pss_one (ps_ret (pe_k k_word_at (hr.mono (by decide)) (passO (takes_of rfl rfl rfl rfl)) (pa_cons (pe_ix (ix_listK (K := K)) (pv 1) pe_int (fun _ _ => rfl)) (pa_cons (pe_ix (ix_listK (K := K)) (pv 1) pe_int (fun _ _ => rfl)) pa_nil))))) pss_nil)
      (pss_cons (ps_if (pt_cmpR op_eq (pv 0) pe_str (nomark _)) (pss_one (ps_ret (pe_k k_put (hr.mono (by decide)) (passO (takes_of rfl rfl rfl rfl)) (pa_cons (pe_ix (ix_listK (K := K)) (pv 1) pe_int (fun _ _ => rfl)) (pa_cons (pe_ix (ix_listK (K := K)) (pv 1) pe_int (fun _ _ => rfl)) (pa_cons (pe_ix (ix_listK (K := K)) (pv 1) pe_int (fun _ _ => rfl)) pa_nil)))))) pss_nil)
      (pss_cons (ps_if (pt_cmpR op_eq (pv 0) pe_str (nomark _)) (pss_one (ps_ret (pe_k k_behind (hr.mono (by decide)) (passO (takes_of rfl rfl rfl rfl)) (pa_cons (pe_ix (ix_listK (K := K)) (pv 1) pe_int (fun _ _ => rfl)) (pa_cons (pe_ix (ix_listK (K := K)) (pv 1) pe_int (fun _ _ => rfl)) (pa_cons (pe_ix (ix_listK (K := K)) (pv 1) pe_int (fun _ _ => rfl)) pa_nil)))))) pss_nil)
      (pss_cons (ps_if (pt_cmpR op_eq (pv 0) pe_str (nomark _)) (pss_one (ps_ret (pe_k k_taken (hr.mono (by decide)) (passO (takes_of rfl rfl rfl rfl)) (pa_cons (pe_ix (ix_listK (K := K)) (pv 1) pe_int (fun _ _ => rfl)) (pa_cons (pe_ix (ix_listK (K := K)) (pv 1) pe_int (fun _ _ => rfl)) pa_nil))))) pss_nil)
      (pss_cons (ps_if (pt_cmpR op_eq (pv 0) pe_str (nomark _)) (pss_one (ps_ret (pe_k k_agree (hr.mono (by decide)) (passO (takes_of rfl rfl rfl rfl)) (pa_cons (pe_ix (ix_listK (K := K)) (pv 1) pe_int (fun _ _ => rfl)) (pa_cons (pe_ix (ix_listK (K := K)) (pv 1) pe_int (fun _ _ => rfl)) pa_nil))))) pss_nil)
      (pss_cons (ps_if (pt_cmpR op_eq (pv 0) pe_str (nomark _)) (pss_one (ps_ret (pe_k k_longer (hr.mono (by decide)) (passO (takes_of rfl rfl rfl rfl)) (pa_cons (pe_ix (ix_listK (K := K)) (pv 1) pe_int (fun _ _ => rfl)) (pa_cons (pe_ix (ix_listK (K := K)) (pv 1) pe_int (fun _ _ => rfl)) pa_nil))))) pss_nil)
      (pss_cons (ps_if (pt_cmpR op_eq (pv 0) pe_str (nomark _)) (pss_one (ps_ret (pe_k k_rest (hr.mono (by decide)) (passO (takes_of rfl rfl rfl rfl)) (pa_cons (pe_ix (ix_listK (K := K)) (pv 1) pe_int (fun _ _ => rfl)) (pa_cons (pe_ix (ix_listK (K := K)) (pv 1) pe_int (fun _ _ => rfl)) pa_nil))))) pss_nil)
      (pss_cons (ps_if (pt_cmpR op_eq (pv 0) pe_str (nomark _)) (pss_one (ps_ret (pe_k k_after (hr.mono (by decide)) (passO (takes_of rfl rfl rfl rfl)) (pa_cons (pe_ix (ix_listK (K := K)) (pv 1) pe_int (fun _ _ => rfl)) (pa_cons (pe_ix (ix_listK (K := K)) (pv 1) pe_int (fun _ _ => rfl)) pa_nil))))) pss_nil)
      (pss_cons (ps_if (pt_cmpR op_eq (pv 0) pe_str (nomark _)) (pss_one (ps_ret (pe_k k_letters (hr.mono (by decide)) (passO (takes_of rfl rfl rfl rfl)) (pa_cons (pe_ix (ix_listK (K := K)) (pv 1) pe_int (fun _ _ => rfl)) pa_nil)))) pss_nil)
      (pss_one (ps_ret (pe_k k_check_stacks (hr.mono (by decide)) (passO (takes_of rfl rfl rfl rfl)) (pa_cons (pe_ix (ix_listK (K := K)) (pv 1) pe_int (fun _ _ => rfl)) pa_nil)))))))))))))), ?_⟩
    walk_at "rd"
    walk_at "rs"
    cases h with
    | sfrom h1 h2 =>
      walk_at "word"
      exact ixL0 hS ⟨_, _, rfl, h1, h2, q⟩
    | wordAt h1 h2 h3 =>
      walk_at "word"
      exact ixL0 hS (ixL1 hS ⟨_, _, _, _, rfl, h1, h2, h3, q⟩)
    | put h1 h2 h3 h4 =>
      walk_at "word"
      exact ixL0 hS (ixL1 hS (ixL2 hS ⟨_, _, _, _, _, _, rfl, h1, h2, h3, h4, q⟩))
    | behind h1 h2 h3 h4 =>
      walk_at "word"
      exact ixL0 hS (ixL1 hS (ixL2 hS ⟨_, _, _, _, _, _, rfl, h1, h2, h3, h4, q⟩))
    | taken h1 h2 h3 =>
      walk_at "word"
      exact ixL0 hS (ixL1 hS ⟨_, _, _, _, rfl, h1, h2, h3, q⟩)
    | wordAtR h1 h2 h3 =>
      walk_at "word"
      exact ixL0 hS (ixL1 hS ⟨_, _, _, _, rfl, h1, h2, h3, q⟩)
    | agree h1 h2 h3 h4 =>
      walk_at "word"
      exact ixL0 hS (ixL1 hS ⟨_, _, _, _, rfl, h1, h2, h3, h4, q⟩)
    | longer h1 h2 h3 h4 =>
      walk_at "word"
      exact ixL0 hS (ixL1 hS ⟨_, _, _, _, rfl, h1, h2, h3, h4, q⟩)
    | rest h1 h2 h3 h4 =>
      walk_at "word"
      exact ixL0 hS (ixL1 hS ⟨_, _, _, _, rfl, h1, h2, h3, h4, q⟩)
    | after h1 h2 h3 h4 =>
      walk_at "word"
      exact ixL0 hS (ixL1 hS ⟨_, _, _, _, rfl, h1, h2, h3, h4, q⟩)
    | letters h1 h2 =>
      walk_at "word"
      exact ixL0 hS ⟨_, _, rfl, h1, h2, q⟩
    | check h1 h2 =>
      walk_at "word"
      exact ixL0 hS ⟨_, _, rfl, h1, h2, q⟩
abbrev N__law_asked : List Str := ["word", "args", "told", "error"]
abbrev P__law_asked : List Str := ["word", "args"]
theorem sc__law_asked : FnScope N__law_asked P__law_asked (defScope s__law_asked) := ⟨rfl, rfl, rfl, by decide +kernel, rfl, by decide +kernel, by decide +kernel⟩
theorem bn__law_asked : ∀ (kV doc pm : Value) (an : Option Addr) (cdv ct : Value) (us : List Value), us.length = P__law_asked.length → bindArgs (PySem.W.fnOf "_law_asked" "_law_asked" (defArgs s__law_asked) (defBody s__law_asked) (defScope s__law_asked) .none kV doc pm an cdv ct) ⟨us, []⟩ = pure (P__law_asked.zip us) := fun _ _ _ _ _ _ us hl => match us, hl with | [_, _], _ => rfl
theorem k__law_asked (T : Txt K mg) : Knows P w K mg base CX0 6 "_law_asked" P__law_asked (spAsked K) := by
  have k__law_call := k__law_call (P := P) (w := w) (base := base) T
  refine knows_of T.g__law_asked T.d__law_asked bn__law_asked fun fd F => F.ok sc__law_asked (fun vs H Q E h => ?_) (fun cdv A outer s H vs Q E hr h => ?_)
  · obtain ⟨w, a, xs, o, rfl, hS, h, q⟩ := h
    rfl
  · obtain ⟨w, a, xs, o, rfl, hS, h, q⟩ := h
    have nd := sc__law_asked.nd
    refine ⟨_, (pss_cons (ps_set (i := 2) nd rfl (Or.inl rfl) pe_non)
      (pss_cons (MeX.ps_try_mix rfl rfl MeX.tk_no (fun W pn xe tk hx => (pss_one (ps_set (i := 2) nd rfl (Or.inl rfl) (pe_lst (pa_cons pe_str (pa_cons (pe_kS k__law_call (hr.mono (by decide)) (fun σ => passAt tk σ) (pa_cons (pv 0) (pa_cons (pv 1) pa_nil))) pa_nil)))))) (MeX.HdsMix.cons ⟨rfl, by decide, .inl T.g_BadStacks⟩ (fun a oe cls d pn hz hf => (pss_one (ps_set (i := 2) nd rfl (Or.inl rfl) (pe_lst (pa_cons pe_str pa_nil))))) (MeX.HdsMix.cons ⟨rfl, by decide, .inl T.g_Unlike⟩ (fun a oe cls d pn hz hf => (pss_one (ps_set (i := 2) nd rfl (Or.inl rfl) (pe_lst (pa_cons pe_str pa_nil))))) (MeX.HdsMix.consAs (i := 3) ⟨rfl, by decide, .inl T.g_BadNumber⟩ nd rfl rfl (fun a oe cls d pn hz hf => (pss_one (ps_set (i := 2) nd rfl (Or.inl rfl) (pe_lst (pa_cons pe_str (pa_cons (pe_xf T.x_BadNumber.xf (T.x_BadNumber.no _ (by simp)) hz hf (pv 3)) pa_nil)))))) MeX.HdsMix.nil))))
      (pss_one (ps_ret (pv 2))))), ?_⟩
    walk_at "rd"
    walk_at "rs"
    refine ⟨w, a, xs, o, rfl, hS, h, ?_⟩
    have no : ∀ {p : Prop}, true = false → p := fun e => nomatch e
    have no' : ∀ {p : Prop}, false = true → p := fun e => nomatch e
    cases o with
    | ok d =>
      intro v H' s hv
      exact ⟨by decide, fun p hp => q (.ref p) _ (s.trans (same_new hp)) (.lst (SqL.of upd_same) (.cons (.str _) (.cons (hv.same (same_new hp)) .nil)))⟩
    | stacks =>
      intro H' s
      refine ⟨true, T.m_BadStacks_BadStacks, no, fun _ x hx => ?_⟩
      walk_at "rd"
      walk_at "rs"
      exact ⟨by decide, fun p hp => q (.ref p) _ (s.trans (same_new hp)) (.lst (SqL.of upd_same) (.cons (.str _) .nil))⟩
    | unlike =>
      intro H' s
      refine ⟨false, T.m_Unlike_BadStacks, fun _ => ⟨true, T.m_Unlike_Unlike, no, fun _ x hx => ?_⟩, no'⟩
      walk_at "rd"
      walk_at "rs"
      exact ⟨by decide, fun p hp => q (.ref p) _ (s.trans (same_new hp)) (.lst (SqL.of upd_same) (.cons (.str _) .nil))⟩
    | num n =>
      intro d H' s ed
      refine ⟨false, T.m_BadNumber_BadStacks, fun _ => ⟨false, T.m_BadNumber_Unlike, fun _ => ⟨true, T.m_BadNumber_BadNumber, no, fun _ x hx => ?_⟩, no'⟩, no'⟩
      walk_at "rd"
      dsimp only [tXf, MeX.dropped]
      walk_at "rd"
      walk_at "rs"
      refine ⟨_, ed, _, rfl, by decide, fun p hp => ?_⟩
      exact q (.ref p) _ (s.trans (same_new hp)) (.lst (SqL.of upd_same) (.cons (.str _) (.cons (.str _) .nil)))
abbrev N__law_is : List Str := ["told", "due", "entry"]
abbrev P__law_is : List Str := ["told", "due"]
theorem sc__law_is : FnScope N__law_is P__law_is (defScope s__law_is) := ⟨rfl, rfl, rfl, by decide +kernel, rfl, by decide +kernel, by decide +kernel⟩
theorem bn__law_is : ∀ (kV doc pm : Value) (an : Option Addr) (cdv ct : Value) (us : List Value), us.length = P__law_is.length → bindArgs (PySem.W.fnOf "_law_is" "_law_is" (defArgs s__law_is) (defBody s__law_is) (defScope s__law_is) .none kV doc pm an cdv ct) ⟨us, []⟩ = pure (P__law_is.zip us) := fun _ _ _ _ _ _ us hl => match us, hl with | [_, _], _ => rfl
def spLIs (K : PySem.W.Frag) : Sp := fun vs H Q _ => ∃ v u d, vs = [v, u] ∧ Dp K H u d ∧ ((∃ s, d = .str s ∧ Dp K H v (.list [.str s])) ∨ (∃ r, d = .tuple (rowD r) ∧ Dp K H v (.list [.str "told", .tuple (rowD r)]))) ∧ ∀ H', Same H H' → Q (.bl true) H'
theorem k__law_is (T : Txt K mg) : Knows P w K mg base CX0 1 "_law_is" P__law_is (spLIs K) := by
  refine knows_of T.g__law_is T.d__law_is bn__law_is fun fd F => F.ok sc__law_is (fun vs H Q E h => ?_) (fun cdv A outer s H vs Q E hr h => ?_)
  · obtain ⟨v, u, d, rfl, hd, h, q⟩ := h
    rfl
  · obtain ⟨v, u, d, rfl, hd, h, q⟩ := h
    have nd := sc__law_is.nd
    refine ⟨_, (pss_cons (ps_if (pt_val (pe_callB (isiK (K := K)) rfl T.f_isinstance (by decide +kernel) (pa_cons (pv 1) (pa_cons (pe_bltn (v := .ty "str") rfl T.f_str (by decide +kernel) rfl) pa_nil)))) (pss_one (ps_ret (pe_cmpR (eqPK (K := K) hr.units) (pv 0) (pe_lst (pa_cons (pv 1) pa_nil)) (nomark _)))) pss_nil)
      (pss_cons (ps_if (PW.pt (pw_or (pt_cmpR op_ne (pe_callB (lenK (K := K)) rfl T.f_len (by decide +kernel) (pa_cons (pv 0) pa_nil)) pe_int (nomark _)) (pw_or (pt_cmpR (nePK (K := K) hr.units) (pe_ix (ix_listK (K := K)) (pv 0) pe_int (fun _ _ => rfl)) pe_str (nomark _)) (pw_or1 (pt_not (pt_val (pe_callB (isiK (K := K)) rfl T.f_isinstance (by decide +kernel) (pa_cons (pe_ix (ix_listK (K := K)) (pv 0) pe_int (fun _ _ => rfl)) (pa_cons (pe_bltn (v := .ty "tuple") rfl T.f_tuple (by decide +kernel) rfl) pa_nil))))))))) (pss_one (ps_ret pe_bl)) pss_nil)
      (pss_cons (ps_for (passes_of rfl) rfl (pi_tup (pe_ix (ix_listK (K := K)) (pv 0) pe_int (fun _ _ => rfl))) (pg_name (i := 2) nd rfl (Or.inl rfl)) (pss_cons (ps_if (PW.pt (pw_or (pt_not (pt_val (pe_callB (isiK (K := K)) rfl T.f_isinstance (by decide +kernel) (pa_cons (pv 2) (pa_cons (pe_bltn (v := .ty "tuple") rfl T.f_tuple (by decide +kernel) rfl) pa_nil))))) (pw_or (pt_cmpR op_ne (pe_callB (lenK (K := K)) rfl T.f_len (by decide +kernel) (pa_cons (pv 2) pa_nil)) pe_int (nomark _)) (pw_or1 (pt_not (pt_val (pe_callB (isiK (K := K)) rfl T.f_isinstance (by decide +kernel) (pa_cons (pe_ix (ix_tupK (K := K)) (pv 2) pe_int (fun _ _ => rfl)) (pa_cons (pe_bltn (v := .ty "str") rfl T.f_str (by decide +kernel) rfl) pa_nil))))))))) (pss_one (ps_ret pe_bl)) pss_nil)
      (pss_one (ps_if (PW.pt (pw_or (pt_val (pe_callB (isiK (K := K)) rfl T.f_isinstance (by decide +kernel) (pa_cons (pe_ix (ix_tupK (K := K)) (pv 2) pe_int (fun _ _ => rfl)) (pa_cons (pe_bltn (v := .ty "bool") rfl T.f_bool (by decide +kernel) rfl) pa_nil)))) (pw_or1 (pt_not (pt_val (pe_callB (isiK (K := K)) rfl T.f_isinstance (by decide +kernel) (pa_cons (pe_ix (ix_tupK (K := K)) (pv 2) pe_int (fun _ _ => rfl)) (pa_cons (pe_bltn (v := .ty "int") rfl T.f_int (by decide +kernel) rfl) pa_nil)))))))) (pss_one (ps_ret pe_bl)) pss_nil))))
      (pss_one (ps_ret (pe_cmpR (eqPK (K := K) hr.units) (pe_ix (ix_listK (K := K)) (pv 0) pe_int (fun _ _ => rfl)) (pv 1) (nomark _))))))), ?_⟩
    walk_at "rd"
    walk_at "rs"
    refine isi_str hd ⟨_, rfl, ?_⟩
    rcases h with ⟨s, rfl, hv⟩ | ⟨r, rfl, hv⟩
    · simp only [isS]
      walk_at "rs"
      refine ⟨by decide, fun p hp => ?_⟩
      refine eq_same (hv.same (same_new hp)) (.lst (SqL.of upd_same) (.cons (hd.same (same_new hp)) .nil)) (by simp [PyData.depth, PyData.depthAll]) (q _ (same_new hp))
    · simp only [isS]
      walk_at "rs"
      obtain ⟨a, xs, rfl, hS, hx⟩ := hv.listAt
      have hl : xs.length = 2 := hx.len
      cases hx with
      | cons h1 h2 =>
      cases h2 with
      | cons h2 h3 =>
      cases h3
      refine ⟨a, _, rfl, .inl hS, ?_⟩
      walk_at "rs"
      refine ite2 (fun z => absurd rfl z) (fun _ => ?_)
      refine ixL0 hS (ne_same h1 (.str _) (by decide) ⟨_, rfl, ?_⟩)
      walk_at "rs"
      refine ixL1 hS (isi_tuple h2 ⟨_, rfl, ?_⟩)
      simp only [isT]
      walk_at "rs"
      refine ixL1 hS ?_
      refine loopT_map ent h2 (fun l σ H' => Same H H' ∧ ∃ x, σ = [some (.ref a), some u, x]) ⟨Same.refl _, _, rfl⟩ (fun _ _ _ h => h.1) (fun y p l σ H' hm h hy N hN => ?_) (fun σ H' h => ?_)
      · obtain ⟨s1, x, rfl⟩ := h
        obtain ⟨t, rfl, hT⟩ := ent_at hy
        walk_at "rd"
        walk_at "rs"
        refine isi_tuple hy ⟨_, rfl, ?_⟩
        simp only [isT, ent]
        walk_at "rs"
        refine ⟨t, _, rfl, .inr hT, ?_⟩
        walk_at "rs"
        refine ite2 (fun z => absurd rfl z) (fun _ => ?_)
        refine ixT1 hT (isi_str (.str _) ⟨_, rfl, ?_⟩)
        simp only [isS]
        walk_at "rs"
        refine ixT0 hT (isi_bool (.int _) ⟨_, rfl, ?_⟩)
        simp only [isB]
        walk_at "rs"
        refine ixT0 hT (isi_int (.int _) ⟨_, rfl, ?_⟩)
        simp only [isI]
        walk_at "rs"
        exact hN _ _ ⟨s1, _, rfl⟩
      · obtain ⟨s1, x, rfl⟩ := h
        walk_at "rd"
        walk_at "rs"
        exact ixL1 (same_seq s1 hS) (eq_same (h2.same s1) (hd.same s1) (Nat.le_trans (depth_row r) (by decide)) (q _ s1))
end
end K19

namespace K19
open PySem PySem.Spec PyProof.Rows L2 MeD MeK MeL
local macro_rules | `(tactic| walk_at "rd") => `(tactic| (dsimp only [tVar, tC, tOp, tUn, tCons, tNil, tTup, tLst, tCB, tK, tKS, tTest, tB, tAnd, tOr, tNot, tAndV, tOrV, tNotV, tIf, tIfS, tSeq, tNext, tRet, tRetN, tDrop, tAsg, gName, gTup, gNil, gCons, wipe, tYes, tSl, tPart, tNoPart, tBM, tBM0,  tBreak, tCont, gLst, tDGet, tDIn, tDNotIn, sDPut, tDNewK, MeL.for_tup_eq, MeL.for_list_eq, MeL.for_str_eq, MeL.for_rng_eq, MeL.for_row_eq, MeL.lc_tup_eq, MeL.lc_list_eq, MeL.lc_str_eq, MeL.lc_rng_eq, rI0, rI, rU, tRs1, cxOf, Cx.tr, Cx.suite, L2.start, List.map, List.replicate, List.length, List.append, HAppend.hAppend, Append.append, Nat.reduceAdd, Nat.reduceSub]))
local macro_rules | `(tactic| walk_at "rs") => `(tactic| (try simp only [List.getElem?_cons_zero, List.getElem?_cons_succ, Option.some.injEq, exists_eq_left', exists_eq_left, V.bl.injEq, V.int.injEq, V.str.injEq, V.ref.injEq, List.cons.injEq, and_true, true_and, and_self, exists_and_left, exists_eq', exists_eq, ↓reduceIte, reduceCtorEq, Bool.false_eq_true, false_and, exists_const, exists_false, decide_true, decide_false, Bool.not_true, Bool.not_false, List.set_cons_zero, List.set_cons_succ, MeK.tyv_str, or_false, MeL.for_row_eq, MeK.req_int, MeK.rne_int, MeK.req_str, MeK.rne_str, MeK.req_bl, MeK.rne_bl, decide_eq_true_eq, Bool.not_eq_true', decide_eq_false_iff_not, Int.natCast_inj]))
theorem rw_fit {r : Row} (h : Rw r) : Fit (.tuple (rowD r)) := by
  intro es e
  cases e
  refine ⟨by rw [rowD, List.length_map]; have := h.len; omega, fun c w hm => ?_⟩
  obtain ⟨p, hp, e⟩ := List.mem_map.mp hm
  cases e
  exact Nat.le_trans (h.wl p hp) (by decide)
theorem rw_un {r : Row} (h : Rw r) : unstk (.tuple (rowD r)) = some r := unstk_good h.good
theorem m_agree {r s : Row} (h : Rw r) (g : Rw s) : mAgree (.tuple (rowD r)) (.tuple (rowD s)) = .ok (.bool (agR r s)) := by
  rw [mAgree, onR_some (rw_un h), onR_some (rw_un g)]
theorem len_sub {l : List Int} (n : l.Nodup) : ∀ {m : List Int}, (∀ c ∈ l, c ∈ m) → l.length ≤ m.length := by
  induction l with
  | nil => intro m _; exact Nat.zero_le _
  | cons a l ih =>
    intro m h
    have n1 := List.nodup_cons.mp n
    have ha := h a List.mem_cons_self
    have q := ih n1.2 (m := m.erase a) fun c hc => (List.mem_erase_of_ne (fun e => n1.1 (by rw [← e]; exact hc))).mpr (h c (List.mem_cons_of_mem _ hc))
    rw [List.length_erase_of_mem ha] at q
    have := List.length_pos_of_mem ha
    rw [List.length_cons]
    omega
theorem dp_two {K : PySem.W.Frag} {H : Hp} {xs : List V} {d e : PyData} (h : DpAll K H xs [d, e]) : ∃ v u, xs = [v, u] ∧ Dp K H v d ∧ Dp K H u e := by
  cases h with
  | cons h1 h2 =>
  cases h2 with
  | cons h2 h3 =>
  cases h3
  exact ⟨_, _, rfl, h1, h2⟩
theorem dp_one {K : PySem.W.Frag} {H : Hp} {xs : List V} {d : PyData} (h : DpAll K H xs [d]) : ∃ v, xs = [v] ∧ Dp K H v d := by
  cases h with
  | cons h1 h2 =>
  cases h2
  exact ⟨_, rfl, h1⟩
/-- rows out of rows -/
theorem rw_sub {r t : Row} (h : Rw r) (st : Srt t) (m : ∀ p ∈ t, p.1 ∈ keys r ∧ okW p.2 = true ∧ p.2.length ≤ 1600) : Rw t := by
  have key : ∀ c, c ∈ keys r → -1 < c ∧ c ≠ 4 := fun c hc => by
    obtain ⟨p, hp, rfl⟩ := List.mem_map.mp hc
    exact ⟨h.good.gt p hp, h.no4 p hp⟩
  refine ⟨good_of st fun p hp => ⟨(key _ (m p hp).1).1, (m p hp).2.1⟩, ?_, fun p hp => (m p hp).2.2, fun p hp => (key _ (m p hp).1).2⟩
  have sub : keys t ⊆ keys r := fun c hc => by
    obtain ⟨p, hp, rfl⟩ := List.mem_map.mp hc
    exact (m p hp).1
  have le := len_sub st.nodup sub
  rw [keys, keys, List.length_map, List.length_map] at le
  exact Nat.le_trans le h.len
theorem res_rw {r s : Row} (h : Rw r) (g : Rw s) : Rw (resR r s) := by
  have st := res_srt h.good.srt g.good.srt
  refine rw_sub h st fun p hp => ?_
  have e : atR (resR r s) p.1 = p.2 := atR_mem st.nodup (c := p.1) (w := p.2) hp
  rw [at_res h.good.srt g.good.srt] at e
  have k : p.1 ∈ keys r := Classical.byContradiction fun z => st.2 p hp (by
    rw [← e, atR_none z]
    refine TL.ext_tl ?_
    rw [tl_from, show TL.tl ("" : Str) = [] by decide +kernel, List.drop_nil])
  refine ⟨k, ?_, ?_⟩
  · rw [← e]
    exact okW_cut (h.good.mem _ (mem_atR k)).1 _ _
  · rw [← e]
    exact Nat.le_trans (cutS_length ..) (rw_at h _)
theorem res_back {r s : Row} (h : Rw r) (g : Rw s) (l : leads r s = true) : aftR s (resR r s) = r := by
  have st := res_srt h.good.srt g.good.srt
  refine (aft_srt g.good.srt st).ext h.good.srt fun x => ?_
  rw [at_aft g.good.srt st, at_res h.good.srt g.good.srt]
  have p := (starts_iff _ _).mp ((leads_iff g.good.srt.nodup).mp l x)
  refine TL.ext_tl ?_
  rw [TL.tl_append, tl_from, TL.len_tl]
  conv => lhs; lhs; rw [List.prefix_iff_eq_take.mp p]
  exact List.take_append_drop _ _
theorem m_after {r s : Row} (h : Rw r) (g : Rw s) : mAfter (.tuple (rowD r)) (.tuple (rowD s)) = .ok (.tuple (rowD (aftR r s))) := by
  rw [mAfter, onR_some (rw_un h), onR_some (rw_un g)]
theorem m_rest {r s : Row} (h : Rw r) (g : Rw s) : mRest (.tuple (rowD r)) (.tuple (rowD s)) = if leads r s = true then .ok (.tuple (rowD (resR r s))) else .unlike := by
  rw [mRest, onR_some (rw_un h), onR_some (rw_un g)]
def jM : JWord → PyData → PyData → Out
  | .longer => mLonger
  | .rest => mRest
  | .after => mAfter
theorem m_join {r s : Row} (h : Rw r) (g : Rw s) (j : JWord) : (∃ t, joinD j r s = .tuple (rowD t) ∧ jM j (.tuple (rowD r)) (.tuple (rowD s)) = .ok (.tuple (rowD t))) ∨
    (joinD j r s = .str "Unlike" ∧ jM j (.tuple (rowD r)) (.tuple (rowD s)) = .unlike) := by
  cases j with
  | longer =>
    simp only [jM, joinD, mLonger, onR_some (rw_un h), onR_some (rw_un g)]
    by_cases e : agR r s = true
    · rw [if_pos e, if_pos e]; exact .inl ⟨_, rfl, rfl⟩
    · rw [if_neg e, if_neg e]; exact .inr ⟨rfl, rfl⟩
  | rest =>
    simp only [jM, joinD, mRest, onR_some (rw_un h), onR_some (rw_un g)]
    by_cases e : leads r s = true
    · rw [if_pos e, if_pos e]; exact .inl ⟨_, rfl, rfl⟩
    · rw [if_neg e, if_neg e]; exact .inr ⟨rfl, rfl⟩
  | after =>
    simp only [jM, joinD, mAfter, onR_some (rw_un h), onR_some (rw_un g)]
    exact .inl ⟨_, rfl, rfl⟩
/-- what stands for a row's list, taken apart -/
theorem list_at {K : PySem.W.Frag} {H : Hp} {v : V} {r : Row} (h : Dp K H v (.list (rowD r))) : ∃ a xs, v = .ref a ∧ SqL K H a xs ∧ DpAll K H xs (rowD r) := h.listAt
theorem pdp_of {K : PySem.W.Frag} {H : Hp} {a : Addr} {xs : List V} {ds : List PyData} (p : PTup H a xs) (d : DpAll K H xs ds) : PDp K H (.ref a) (.tuple ds) :=
  ⟨.tup p.sq d, fun es e => by cases e; exact ⟨a, xs, rfl, p, d⟩⟩
section
variable {P : Program} {w : World} {K : PySem.W.Frag} {mg : Str → Option Value} {base : Heap}
abbrev N__law_two : List Str := ["row", "other", "pair", "given", "told", "word"]
abbrev P__law_two : List Str := ["row", "other"]
theorem sc__law_two : FnScope N__law_two P__law_two (defScope s__law_two) := ⟨rfl, rfl, rfl, by decide +kernel, rfl, by decide +kernel, by decide +kernel⟩
theorem bn__law_two : ∀ (kV doc pm : Value) (an : Option Addr) (cdv ct : Value) (us : List Value), us.length = P__law_two.length → bindArgs (PySem.W.fnOf "_law_two" "_law_two" (defArgs s__law_two) (defBody s__law_two) (defScope s__law_two) .none kV doc pm an cdv ct) ⟨us, []⟩ = pure (P__law_two.zip us) := fun _ _ _ _ _ _ us hl => match us, hl with | [_, _], _ => rfl
def spTwo (K : PySem.W.Frag) : Sp := fun vs H Q _ => ∃ v u r s, vs = [v, u] ∧ Dp K H v (.list (rowD r)) ∧ Dp K H u (.list (rowD s)) ∧ Rw r ∧ Rw s ∧ ∀ H', Same H H' → Q (.bl true) H'
theorem k__law_two (T : Txt K mg) : Knows P w K mg base CX0 7 "_law_two" P__law_two (spTwo K) := by
  have k__law_asked := k__law_asked (P := P) (w := w) (base := base) T
  have k__law_agree := k__law_agree (P := P) (w := w) (base := base) T
  have k__law_is := k__law_is (P := P) (w := w) (base := base) T
  have k__law_joined := k__law_joined (P := P) (w := w) (base := base) T
  refine knows_of T.g__law_two T.d__law_two bn__law_two fun fd F => F.ok sc__law_two (fun vs H Q E h => ?_) (fun cdv A outer s H vs Q E hr h => ?_)
  · obtain ⟨v, u, r, s, rfl, hd, hu, hsr, hss, q⟩ := h
    rfl
  · obtain ⟨v, u, r, s, rfl, hd, hu, hsr, hss, q⟩ := h
    have nd := sc__law_two.nd
    refine ⟨_, (pss_cons (ps_for (passes_of rfl) rfl (pi_list (pe_lst (pa_cons (pe_tup (pa_cons (pv 0) (pa_cons (pv 1) pa_nil))) (pa_cons (pe_tup (pa_cons (pv 1) (pa_cons (pv 0) pa_nil))) (pa_cons (pe_tup (pa_cons (pv 0) (pa_cons (pv 0) pa_nil))) pa_nil))))) (pg_name (i := 2) nd rfl (Or.inl rfl)) (pss_cons (ps_set (i := 3) nd rfl (Or.inl rfl) (pe_lst (pa_cons (pe_callTy (tupleK (K := K)) rfl T.f_tuple (by decide +kernel) (pa_cons (pe_ix (ix_tupK (K := K)) (pv 2) pe_int (fun _ _ => rfl)) pa_nil)) (pa_cons (pe_callTy (tupleK (K := K)) rfl T.f_tuple (by decide +kernel) (pa_cons (pe_ix (ix_tupK (K := K)) (pv 2) pe_int (fun _ _ => rfl)) pa_nil)) pa_nil))))
      (pss_cons (ps_set (i := 4) nd rfl (Or.inl rfl) (pe_k k__law_asked (hr.mono (by decide)) pass0 (pa_cons pe_str (pa_cons (pv 3) pa_nil))))
      (pss_cons (ps_if (PW.pt (pw_or (pt_cmpR op_ne (pe_callB (lenK (K := K)) rfl T.f_len (by decide +kernel) (pa_cons (pv 4) pa_nil)) pe_int (nomark _)) (pw_or (pt_not (pt_val (pe_callB (isiK (K := K)) rfl T.f_isinstance (by decide +kernel) (pa_cons (pe_ix (ix_listK (K := K)) (pv 4) pe_int (fun _ _ => rfl)) (pa_cons (pe_bltn (v := .ty "bool") rfl T.f_bool (by decide +kernel) rfl) pa_nil))))) (pw_or1 (pt_cmpR (nePK (K := K) hr.units) (pe_ix (ix_listK (K := K)) (pv 4) pe_int (fun _ _ => rfl)) (pe_k k__law_agree (hr.mono (by decide)) pass0 (pa_cons (pe_ix (ix_tupK (K := K)) (pv 2) pe_int (fun _ _ => rfl)) (pa_cons (pe_ix (ix_tupK (K := K)) (pv 2) pe_int (fun _ _ => rfl)) pa_nil))) (nomark _)))))) (pss_one (ps_ret pe_bl)) pss_nil)
      (pss_cons (ps_for (passes_of rfl) rfl (pi_tup (pe_tup (pa_cons pe_str (pa_cons pe_str (pa_cons pe_str pa_nil))))) (pg_name (i := 5) nd rfl (Or.inl rfl)) (pss_one (ps_if (pt_not (pt_val (pe_k k__law_is (hr.mono (by decide)) pass0 (pa_cons (pe_k k__law_asked (hr.mono (by decide)) pass0 (pa_cons (pv 5) (pa_cons (pv 3) pa_nil))) (pa_cons (pe_k k__law_joined (hr.mono (by decide)) pass0 (pa_cons (pv 5) (pa_cons (pe_ix (ix_tupK (K := K)) (pv 2) pe_int (fun _ _ => rfl)) (pa_cons (pe_ix (ix_tupK (K := K)) (pv 2) pe_int (fun _ _ => rfl)) pa_nil)))) pa_nil))))) (pss_one (ps_ret pe_bl)) pss_nil)))
      (pss_cons (ps_set (i := 4) nd rfl (Or.inl rfl) (pe_k k__law_asked (hr.mono (by decide)) pass0 (pa_cons pe_str (pa_cons (pv 3) pa_nil))))
      (pss_one (ps_if (PW.pt (pw_and (pt_cmpR op_eq (pe_callB (lenK (K := K)) rfl T.f_len (by decide +kernel) (pa_cons (pv 4) pa_nil)) pe_int (nomark _)) (pw_and1 (pt_cmpR (eqPK (K := K) hr.units) (pe_ix (ix_listK (K := K)) (pv 4) pe_int (fun _ _ => rfl)) pe_str (nomark _))))) (pss_one (ps_if (pt_not (pt_val (pe_k k__law_is (hr.mono (by decide)) pass0 (pa_cons (pe_k k__law_asked (hr.mono (by decide)) pass0 (pa_cons pe_str (pa_cons (pe_lst (pa_cons (pe_ix (ix_listK (K := K)) (pv 3) pe_int (fun _ _ => rfl)) (pa_cons (pe_ix (ix_listK (K := K)) (pv 4) pe_int (fun _ _ => rfl)) pa_nil))) pa_nil))) (pa_cons (pe_ix (ix_listK (K := K)) (pv 3) pe_int (fun _ _ => rfl)) pa_nil))))) (pss_one (ps_ret pe_bl)) pss_nil)) pss_nil))))))))
      (pss_one (ps_ret pe_bl))), ?_⟩
    walk_at "rd"
    walk_at "rs"
    refine ⟨by decide, fun p1 hp1 => ⟨by decide, fun p2 hp2 => ⟨by decide, fun p3 hp3 => ⟨by decide, fun p4 hp4 => ?_⟩⟩⟩⟩
    have s1 := same_new (o := .tup [v, u]) hp1
    have s2 := same_new (o := .tup [u, v]) hp2
    have s3 := same_new (o := .tup [v, v]) hp3
    have s4 := same_new (o := .lst [V.ref p1, V.ref p2, V.ref p3]) hp4
    have sall := s1.trans (s2.trans (s3.trans s4))
    have hv := hd.same sall
    have hu' := hu.same sall
    have t1 := (s2.trans (s3.trans s4)) _ _ (upd_same (a := p1))
    have t2 := (s3.trans s4) _ _ (upd_same (a := p2))
    have t3 := s4 _ _ (upd_same (a := p3))
    have hl : Dp K _ (.ref p4) (.list ([(r, s), (s, r), (r, r)].map fun p : Row × Row => .tuple [.list (rowD p.1), .list (rowD p.2)])) := .lst (SqL.of (upd_same (H := upd (upd (upd H p1 (HO.tup [v, u])) p2 (HO.tup [u, v])) p3 (HO.tup [v, v])) (a := p4) (o := .lst [V.ref p1, V.ref p2, V.ref p3])))
      (.cons (.tup (SqT.of t1) (.cons hv (.cons hu' .nil))) (.cons (.tup (SqT.of t2) (.cons hu' (.cons hv .nil))) (.cons (.tup (SqT.of t3) (.cons hv (.cons hv .nil))) .nil)))
    clear hv hu' t1 t2 t3 s4
    generalize upd (upd (upd (upd H p1 (HO.tup [v, u])) p2 (HO.tup [u, v])) p3 (HO.tup [v, v])) p4 (HO.lst [V.ref p1, V.ref p2, V.ref p3]) = Hs at sall hl ⊢
    refine loopL_map (H0 := Hs) (as := [(r, s), (s, r), (r, r)]) (fun p : Row × Row => .tuple [.list (rowD p.1), .list (rowD p.2)]) hl
      (fun l σ H' => Same Hs H' ∧ ∃ a b c d, σ = [some v, some u, a, b, c, d]) ⟨.refl _, _, _, _, _, rfl⟩ (fun _ _ _ h => h.1) (fun y p l σ H' hm h hy N hN => ?_) (fun σ H' h => ?_)
    · obtain ⟨sx, a, b, c, d, rfl⟩ := h
      obtain ⟨r1, r2⟩ := p
      have w12 : Rw r1 ∧ Rw r2 := by
        simp only [List.mem_cons, Prod.mk.injEq, List.not_mem_nil, or_false] at hm
        rcases hm with ⟨rfl, rfl⟩ | ⟨rfl, rfl⟩ | ⟨rfl, rfl⟩
        · exact ⟨hsr, hss⟩
        · exact ⟨hss, hsr⟩
        · exact ⟨hsr, hsr⟩
      obtain ⟨w1, w2⟩ := w12
      obtain ⟨t, zs, rfl, hT, hz⟩ := hy.tupleAt
      cases hz with
      | cons h1 h2 =>
      cases h2 with
      | cons h2 h3 =>
      cases h3
      rename_i x1 x2
      obtain ⟨a1, xs1, rfl, hS1, hx1⟩ := list_at h1
      obtain ⟨a2, xs2, rfl, hS2, hx2⟩ := list_at h2
      walk_at "rd"
      walk_at "rs"
      refine ixT0 hT (ptup_of hS1 fun l1 H2 s2 e1 => ?_)
      refine ixT1 (same_tup s2 hT) (ptup_of (same_seq s2 hS2) fun l2 H3 s3 e2 => ⟨by decide, fun g hg => ?_⟩)
      have s4 := same_new (o := .lst [V.ref l1, V.ref l2]) hg
      have s34 := s3.trans s4
      have s24 := s2.trans s34
      have P1 := pdp_of (e1.same s34) (hx1.same s24)
      have P2 := pdp_of (e2.same s4) (hx2.same s24)
      have eg : SqL K _ g [V.ref l1, V.ref l2] := SqL.of (upd_same (H := H3) (a := g) (o := .lst [V.ref l1, V.ref l2]))
      generalize upd H3 g (.lst [V.ref l1, V.ref l2]) = H4 at s4 s34 s24 P1 P2 eg ⊢
      refine ⟨_, g, _, _, rfl, eg, .agree P1.1 (rw_fit w1) P2.1 (rw_fit w2), fun v4 H5 s5 h5 => ?_⟩
      rw [m_agree w1 w2] at h5
      obtain ⟨a4, xs4, rfl, hS4, hx4⟩ := Dp.listAt h5
      cases hx4 with
      | cons k1 k2 =>
      cases k2 with
      | cons k2 k3 =>
      cases k3
      refine ⟨a4, _, rfl, .inl hS4, ?_⟩
      walk_at "rs"
      refine ite2 (fun z => absurd rfl z) (fun _ => ?_)
      refine ixL1 hS4 (isi_bool k2 ⟨_, rfl, ?_⟩)
      simp only [isB]
      walk_at "rs"
      have s25 := s24.trans s5
      refine ixL1 hS4 (ixT0 (same_tup s25 hT) (ixT1 (same_tup s25 hT) ⟨_, _, _, _, rfl, h1.same s25, h2.same s25, w1, w2, fun H6 s6 => ?_⟩))
      refine ne_same (k2.same s6) (.bl _) (show (0 : Nat) ≤ 64 by decide) ⟨_, rfl, ?_⟩
      walk_at "rs"
      refine ⟨by decide, fun tw htw => ?_⟩
      have s7 := same_new (o := .tup [V.str "longer", V.str "rest", V.str "after"]) htw
      have hw : Dp K (upd H6 tw (.tup [V.str "longer", V.str "rest", V.str "after"])) (.ref tw) (.tuple ([JWord.longer, .rest, .after].map fun j => .str (jName j))) := .tup (SqT.of upd_same) (.cons (.str _) (.cons (.str _) (.cons (.str _) .nil)))
      generalize upd H6 tw (.tup [V.str "longer", V.str "rest", V.str "after"]) = H7 at s7 hw ⊢
      have s27 := s25.trans (s6.trans s7)
      have s47 := s5.trans (s6.trans s7)
      refine loopT_map (H0 := H7) (fun j => .str (jName j)) hw (fun l σ H' => Same H7 H' ∧ ∃ a, σ = [some v, some u, some (V.ref t), some (V.ref g), some (V.ref a4), a]) ⟨.refl _, _, rfl⟩ (fun _ _ _ h => h.1) (fun y j l σ H8 hm h hy N2 hN2 => ?_) (fun σ H8 h => ?_)
      · obtain ⟨s8, a, rfl⟩ := h
        cases hy
        walk_at "rd"
        walk_at "rs"
        have s48 := s47.trans s8
        have s28 := s27.trans s8
        have P1' := P1.same s48
        have P2' := P2.same s48
        have ask : Asks K H8 (jName j) [V.ref l1, V.ref l2] (jM j (.tuple (rowD r1)) (.tuple (rowD r2))) := by
          cases j with
          | longer => exact .longer P1' (rw_fit w1) P2'.1 (rw_fit w2)
          | rest => exact .rest P1'.1 (rw_fit w1) P2'.1 (rw_fit w2)
          | after => exact .after P1' (rw_fit w1) P2'.1 (rw_fit w2)
        refine ⟨_, g, _, _, rfl, same_seq s48 eg, ask, fun v9 H9 s9 h9 => ?_⟩
        have s29 := s28.trans s9
        refine ixT0 (same_tup s29 hT) (ixT1 (same_tup s29 hT) ⟨j, _, _, _, _, rfl, h1.same s29, h2.same s29, w1, w2, fun v10 H10 s10 h10 => ?_⟩)
        refine ⟨v9, v10, _, rfl, h10, ?_, fun H11 s11 => ⟨_, rfl, ?_⟩⟩
        · rcases m_join w1 w2 j with ⟨z, e1, e2⟩ | ⟨e1, e2⟩
          · rw [e2] at h9
            exact .inr ⟨z, e1, h9.same s10⟩
          · rw [e2] at h9
            exact .inl ⟨_, e1, h9.same s10⟩
        · walk_at "rs"
          exact hN2 _ _ ⟨s8.trans (s9.trans (s10.trans s11)), _, rfl⟩
      · obtain ⟨s8, a, rfl⟩ := h
        walk_at "rd"
        walk_at "rs"
        have s48 := s47.trans s8
        have s28 := s27.trans s8
        have P1' := P1.same s48
        have P2' := P2.same s48
        refine ⟨_, g, _, _, rfl, same_seq s48 eg, .rest P1'.1 (rw_fit w1) P2'.1 (rw_fit w2), fun v9 H9 s9 h9 => ?_⟩
        have fin : ∀ H' (σ' : Option V), Same H8 H' → N [some v, some u, some (V.ref t), some (V.ref g), some v9, σ'] H' := fun H' σ' s' => hN _ _ ⟨sx.trans (s28.trans s'), _, _, _, _, rfl⟩
        rw [m_rest w1 w2] at h9
        by_cases ld : leads r1 r2 = true
        · rw [if_pos ld] at h9
          obtain ⟨a9, xs9, rfl, hS9, hx9⟩ := Dp.listAt h9
          obtain ⟨z1, z2, rfl, y1, y2⟩ := dp_two hx9
          refine ⟨a9, _, rfl, .inl hS9, ?_⟩
          walk_at "rs"
          refine ite2 (fun _ => ?_) (fun z => absurd rfl z)
          refine ixL0 hS9 (eq_same y1 (.str _) (by decide) ⟨_, rfl, ?_⟩)
          walk_at "rs"
          have s49 := s48.trans s9
          refine ixL1 (same_seq s49 eg) (ixL1 hS9 ⟨by decide, fun q hq => ?_⟩)
          have s10 := same_new (o := .lst [V.ref l2, z2]) hq
          have s410 := s49.trans s10
          refine ⟨_, q, _, _, rfl, SqL.of upd_same, .after (P2.same s410) (rw_fit w2) (y2.same s10) (rw_fit (res_rw w1 w2)), fun v11 H11 s11 h11 => ?_⟩
          rw [m_after w2 (res_rw w1 w2), res_back w1 w2 ld] at h11
          have s411 := s410.trans s11
          refine ixL0 (same_seq s411 eg) ⟨v11, _, _, rfl, (P1.same s411).1, .inr ⟨r1, rfl, h11⟩, fun H12 s12 => ⟨_, rfl, ?_⟩⟩
          walk_at "rs"
          exact fin _ _ (s9.trans (s10.trans (s11.trans s12)))
        · rw [if_neg ld] at h9
          obtain ⟨a9, xs9, rfl, hS9, hx9⟩ := Dp.listAt h9
          cases hx9 with
          | cons y1 y2 =>
          cases y2
          refine ⟨a9, _, rfl, .inl hS9, ?_⟩
          walk_at "rs"
          refine ite2 (fun z => absurd (show ((1 : Nat) : Int) = 2 from z) (by decide)) (fun _ => fin _ _ s9)
    · obtain ⟨sx, a, b, c, d, rfl⟩ := h
      walk_at "rd"
      walk_at "rs"
      exact q _ (sall.trans sx)
end
end K19

namespace K19
open PySem PySem.Spec PyProof.Rows L2 MeD MeK MeL
local macro_rules | `(tactic| walk_at "rd") => `(tactic| (dsimp only [tVar, tC, tOp, tUn, tCons, tNil, tTup, tLst, tCB, tK, tKS, tTest, tB, tAnd, tOr, tNot, tAndV, tOrV, tNotV, tIf, tIfS, tSeq, tNext, tRet, tRetN, tDrop, tAsg, gName, gTup, gNil, gCons, wipe, tYes, tSl, tPart, tNoPart, tBM, tBM0,  tBreak, tCont, gLst, tDGet, tDIn, tDNotIn, sDPut, tDNewK, MeL.for_tup_eq, MeL.for_list_eq, MeL.for_str_eq, MeL.for_rng_eq, MeL.for_row_eq, MeL.lc_tup_eq, MeL.lc_list_eq, MeL.lc_str_eq, MeL.lc_rng_eq, rI0, rI, rU, tRs1, cxOf, Cx.tr, Cx.suite, L2.start, List.map, List.replicate, List.length, List.append, HAppend.hAppend, Append.append, Nat.reduceAdd, Nat.reduceSub]))
local macro_rules | `(tactic| walk_at "rs") => `(tactic| (try simp only [List.getElem?_cons_zero, List.getElem?_cons_succ, Option.some.injEq, exists_eq_left', exists_eq_left, V.bl.injEq, V.int.injEq, V.str.injEq, V.ref.injEq, List.cons.injEq, and_true, true_and, and_self, exists_and_left, exists_eq', exists_eq, ↓reduceIte, reduceCtorEq, Bool.false_eq_true, false_and, exists_const, exists_false, decide_true, decide_false, Bool.not_true, Bool.not_false, List.set_cons_zero, List.set_cons_succ, MeK.tyv_str, or_false, MeL.for_row_eq, MeK.req_int, MeK.rne_int, MeK.req_str, MeK.rne_str, MeK.req_bl, MeK.rne_bl, decide_eq_true_eq, Bool.not_eq_true', decide_eq_false_iff_not, Int.natCast_inj]))
theorem PDp.dk {K : PySem.W.Frag} {H H' : Hp} {v : V} {r : Row} {d : Addr} (h : PDp K H v (.tuple (rowD r))) (k : Dk d H H') (hd : DrawsAt d H) : PDp K H' v (.tuple (rowD r)) :=
  ⟨h.1.kept k.1 hd.lists (noL_rowD r), fun ds e => by
    cases e
    obtain ⟨a, xs, e1, e2, e3⟩ := h.2 _ rfl
    exact ⟨a, xs, e1, e2.kept k.1 hd.lists, e3.kept k.1 hd.lists (noL_rowD r)⟩⟩
theorem m_wordAt {r : Row} (h : Rw r) {c : Int} (hc : 0 ≤ c) : mWordAt (.tuple (rowD r)) (.int c) = .ok (.str (atR r c)) := by
  rw [mWordAt, onR_some (rw_un h), onN_int hc]
theorem m_put {r : Row} (h : Rw r) {c : Int} (hc : 0 ≤ c) {s : Str} (hs : okLet (.str s) = true) : mPut (.tuple (rowD r)) (.int c) (.str s) = .ok (.tuple (rowD (withR r c (s ++ atR r c)))) := by
  rw [mPut, onR_some (rw_un h), onN_int hc, onL_str hs]
theorem m_behind {r : Row} (h : Rw r) {c : Int} (hc : 0 ≤ c) {s : Str} (hs : okLet (.str s) = true) : mBehind (.tuple (rowD r)) (.int c) (.str s) = .ok (.tuple (rowD (withR r c (atR r c ++ s)))) := by
  rw [mBehind, onR_some (rw_un h), onN_int hc, onL_str hs]
theorem m_taken {r : Row} (h : Rw r) {c : Int} (hc : 0 ≤ c) : mTaken (.tuple (rowD r)) (.int c) = if atR r c = "" then .ok .none else .ok (.tuple [.str (headS (atR r c)), .tuple (rowD (withR r c (tailS (atR r c))))]) := by
  rw [mTaken, onR_some (rw_un h), onN_int hc]
section
variable {P : Program} {w : World} {K : PySem.W.Frag} {mg : Str → Option Value} {base : Heap}
abbrev N__law_one : List Str := ["row", "draws", "given", "colour", "word", "told", "letter", "count", "entry"]
abbrev P__law_one : List Str := ["row", "draws"]
theorem sc__law_one : FnScope N__law_one P__law_one (defScope s__law_one) := ⟨rfl, rfl, rfl, by decide +kernel, rfl, by decide +kernel, by decide +kernel⟩
theorem bn__law_one : ∀ (kV doc pm : Value) (an : Option Addr) (cdv ct : Value) (us : List Value), us.length = P__law_one.length → bindArgs (PySem.W.fnOf "_law_one" "_law_one" (defArgs s__law_one) (defBody s__law_one) (defScope s__law_one) .none kV doc pm an cdv ct) ⟨us, []⟩ = pure (P__law_one.zip us) := fun _ _ _ _ _ _ us hl => match us, hl with | [_, _], _ => rfl
def spOne (K : PySem.W.Frag) : Sp := fun vs H Q _ => ∃ d l r, vs = [.ref l, .ref d] ∧ DrawsAt d H ∧ RowAt K d l r H ∧ Rw r ∧ ∀ H', Dk d H H' → Q (.bl true) H'
theorem k__law_one (T : Txt K mg) : Knows P w K mg base CX0 7 "_law_one" P__law_one (spOne K) := by
  have k__law_asked := k__law_asked (P := P) (w := w) (base := base) T
  have k__law_at := k__law_at (P := P) (w := w) (base := base) T
  have k__law_take := k__law_take (P := P) (w := w) (base := base) T
  have k__law_is := k__law_is (P := P) (w := w) (base := base) T
  have k_is_stacks := k_is_stacks (P := P) (w := w) (base := base) T
  have k__law_with := k__law_with (P := P) (w := w) (base := base) T
  refine knows_of T.g__law_one T.d__law_one bn__law_one fun fd F => F.ok sc__law_one (fun vs H Q E h => ?_) (fun cdv A outer s H vs Q E hr h => ?_)
  · obtain ⟨d, l, r, rfl, hd, hrow, hw, q⟩ := h
    rfl
  · obtain ⟨d, l, r, rfl, hd, hrow, hw, q⟩ := h
    have nd := sc__law_one.nd
    refine ⟨_, (pss_cons (ps_set (i := 2) nd rfl (Or.inl rfl) (pe_callTy (tupleK (K := K)) rfl T.f_tuple (by decide +kernel) (pa_cons (pv 0) pa_nil)))
      (pss_cons (ps_for (passes_of rfl) rfl (pi_list (pe_op op_cat (pe_lc (own := [("entry", 8)]) rfl nd (pi_list (pv 0)) (blkOk_by (N := N__law_one) (sc := defScope s__law_one) (by decide +kernel)) (fun _ _ _ _ _ => (pg_name (i := 8) nd rfl (Or.inl rfl))) (fun _ _ _ _ _ => pts_nil) (fun _ _ _ _ _ => (pe_ix (ix_tupK (K := K)) (pv 8) pe_int (fun _ _ => rfl)))) (pe_lst (pa_cons pe_int pa_nil)))) (pg_name (i := 3) nd rfl (Or.inl rfl)) (pss_cons (ps_set (i := 4) nd rfl (Or.inl rfl) (pe_k k__law_at (hr.mono (by decide)) pass0 (pa_cons (pv 0) (pa_cons (pv 3) pa_nil))))
      (pss_cons (ps_set (i := 5) nd rfl (Or.inl rfl) (pe_k k__law_asked (hr.mono (by decide)) pass0 (pa_cons pe_str (pa_cons (pe_lst (pa_cons (pv 2) (pa_cons (pv 3) pa_nil))) pa_nil))))
      (pss_cons (ps_if (PW.pt (pw_or (pt_cmpR (nePK (K := K) hr.units) (pv 5) (pe_lst (pa_cons pe_str (pa_cons (pv 4) pa_nil))) (nomark _)) (pw_or1 (pt_not (pt_val (pe_callB (isiK (K := K)) rfl T.f_isinstance (by decide +kernel) (pa_cons (pe_ix (ix_listK (K := K)) (pv 5) pe_int (fun _ _ => rfl)) (pa_cons (pe_bltn (v := .ty "str") rfl T.f_str (by decide +kernel) rfl) pa_nil)))))))) (pss_one (ps_ret pe_bl)) pss_nil)
      (pss_cons (ps_set (i := 6) nd rfl (Or.inl rfl) (pe_ix ix_str pe_str (pe_k k__law_take (hr.mono (by decide)) pass0 (pa_cons (pv 1) (pa_cons pe_int pa_nil))) (fun _ _ => rfl)))
      (pss_cons (ps_if (pt_not (pt_val (pe_k k__law_is (hr.mono (by decide)) pass0 (pa_cons (pe_k k__law_asked (hr.mono (by decide)) pass0 (pa_cons pe_str (pa_cons (pe_lst (pa_cons (pv 2) (pa_cons (pv 3) (pa_cons (pv 6) pa_nil)))) pa_nil))) (pa_cons (pe_k k__law_with (hr.mono (by decide)) pass0 (pa_cons (pv 0) (pa_cons (pv 3) (pa_cons (pe_op op_add_str (pv 6) (pv 4)) pa_nil)))) pa_nil))))) (pss_one (ps_ret pe_bl)) pss_nil)
      (pss_cons (ps_if (pt_not (pt_val (pe_k k__law_is (hr.mono (by decide)) pass0 (pa_cons (pe_k k__law_asked (hr.mono (by decide)) pass0 (pa_cons pe_str (pa_cons (pe_lst (pa_cons (pv 2) (pa_cons (pv 3) (pa_cons (pv 6) pa_nil)))) pa_nil))) (pa_cons (pe_k k__law_with (hr.mono (by decide)) pass0 (pa_cons (pv 0) (pa_cons (pv 3) (pa_cons (pe_op op_add_str (pv 4) (pv 6)) pa_nil)))) pa_nil))))) (pss_one (ps_ret pe_bl)) pss_nil)
      (pss_cons (ps_set (i := 5) nd rfl (Or.inl rfl) (pe_k k__law_asked (hr.mono (by decide)) pass0 (pa_cons pe_str (pa_cons (pe_lst (pa_cons (pv 2) (pa_cons (pv 3) pa_nil))) pa_nil))))
      (pss_one (ps_if (pt_cmpR op_eq (pv 4) pe_str (nomark _)) (pss_one (ps_if (PW.pt (pw_or (pt_cmpR op_ne (pe_callB (lenK (K := K)) rfl T.f_len (by decide +kernel) (pa_cons (pv 5) pa_nil)) pe_int (nomark _)) (pw_or1 (pt_cmpR op_notN (pe_ix (ix_listK (K := K)) (pv 5) pe_int (fun _ _ => rfl)) pe_non (nomark _))))) (pss_one (ps_ret pe_bl)) pss_nil)) (pss_cons (ps_if (PW.pt (pw_or (pt_cmpR op_ne (pe_callB (lenK (K := K)) rfl T.f_len (by decide +kernel) (pa_cons (pv 5) pa_nil)) pe_int (nomark _)) (pw_or (pt_not (pt_val (pe_callB (isiK (K := K)) rfl T.f_isinstance (by decide +kernel) (pa_cons (pe_ix (ix_listK (K := K)) (pv 5) pe_int (fun _ _ => rfl)) (pa_cons (pe_bltn (v := .ty "tuple") rfl T.f_tuple (by decide +kernel) rfl) pa_nil))))) (pw_or1 (pt_cmpR op_ne (pe_callB (lenK (K := K)) rfl T.f_len (by decide +kernel) (pa_cons (pe_ix (ix_listK (K := K)) (pv 5) pe_int (fun _ _ => rfl)) pa_nil)) pe_int (nomark _)))))) (pss_one (ps_ret pe_bl)) pss_nil)
      (pss_cons (ps_if (PW.pt (pw_or (pt_not (pt_val (pe_callB (isiK (K := K)) rfl T.f_isinstance (by decide +kernel) (pa_cons (pe_ix (ix_tupK (K := K)) (pe_ix (ix_listK (K := K)) (pv 5) pe_int (fun _ _ => rfl)) pe_int (fun _ _ => rfl)) (pa_cons (pe_bltn (v := .ty "str") rfl T.f_str (by decide +kernel) rfl) pa_nil))))) (pw_or1 (pt_cmpR op_ne (pe_ix (ix_tupK (K := K)) (pe_ix (ix_listK (K := K)) (pv 5) pe_int (fun _ _ => rfl)) pe_int (fun _ _ => rfl)) (pe_ix ix_str (pv 4) pe_int (fun _ _ => rfl)) (nomark _))))) (pss_one (ps_ret pe_bl)) pss_nil)
      (pss_one (ps_if (pt_not (pt_val (pe_k k__law_is (hr.mono (by decide)) pass0 (pa_cons (pe_lst (pa_cons pe_str (pa_cons (pe_ix (ix_tupK (K := K)) (pe_ix (ix_listK (K := K)) (pv 5) pe_int (fun _ _ => rfl)) pe_int (fun _ _ => rfl)) pa_nil))) (pa_cons (pe_k k__law_with (hr.mono (by decide)) pass0 (pa_cons (pv 0) (pa_cons (pv 3) (pa_cons (pe_slice sl_str (pv 4) (po_some pe_int) po_none) pa_nil)))) pa_nil))))) (pss_one (ps_ret pe_bl)) pss_nil))))))))))))))
      (pss_cons (ps_set (i := 7) nd rfl (Or.inl rfl) (pe_callB (sumK (K := K) rfl) rfl T.f_sum (by decide +kernel) (pa_cons (pe_lc (own := [("entry", 8)]) rfl nd (pi_list (pv 0)) (blkOk_by (N := N__law_one) (sc := defScope s__law_one) (by decide +kernel)) (fun _ _ _ _ _ => (pg_name (i := 8) nd rfl (Or.inl rfl))) (fun _ _ _ _ _ => pts_nil) (fun _ _ _ _ _ => (pe_callB call_len_str rfl T.f_len (by decide +kernel) (pa_cons (pe_ix (ix_tupK (K := K)) (pv 8) pe_int (fun _ _ => rfl)) pa_nil)))) pa_nil)))
      (pss_cons (ps_set (i := 5) nd rfl (Or.inl rfl) (pe_k k__law_asked (hr.mono (by decide)) pass0 (pa_cons pe_str (pa_cons (pe_lst (pa_cons (pv 2) pa_nil)) pa_nil))))
      (pss_cons (ps_if (PW.pt (pw_or (pt_cmpR (nePK (K := K) hr.units) (pv 5) (pe_lst (pa_cons pe_str (pa_cons (pv 7) pa_nil))) (nomark _)) (pw_or (pt_val (pe_callB (isiK (K := K)) rfl T.f_isinstance (by decide +kernel) (pa_cons (pe_ix (ix_listK (K := K)) (pv 5) pe_int (fun _ _ => rfl)) (pa_cons (pe_bltn (v := .ty "bool") rfl T.f_bool (by decide +kernel) rfl) pa_nil)))) (pw_or1 (pt_not (pt_val (pe_callB (isiK (K := K)) rfl T.f_isinstance (by decide +kernel) (pa_cons (pe_ix (ix_listK (K := K)) (pv 5) pe_int (fun _ _ => rfl)) (pa_cons (pe_bltn (v := .ty "int") rfl T.f_int (by decide +kernel) rfl) pa_nil))))))))) (pss_one (ps_ret pe_bl)) pss_nil)
      (pss_cons (ps_set (i := 5) nd rfl (Or.inl rfl) (pe_k k__law_asked (hr.mono (by decide)) pass0 (pa_cons pe_str (pa_cons (pe_lst (pa_cons (pv 2) pa_nil)) pa_nil))))
      (pss_one (ps_ret (pe_and (pe_cmpR op_eq (pe_callB (lenK (K := K)) rfl T.f_len (by decide +kernel) (pa_cons (pv 5) pa_nil)) pe_int (nomark _)) (pe_and (pe_cmpR op_isN (pe_ix (ix_listK (K := K)) (pv 5) pe_int (fun _ _ => rfl)) pe_non (nomark _)) (pe_one (pe_cmpR op_is_bl (pe_k k_is_stacks (hr.mono (by decide)) pass0 (pa_cons (pv 2) pa_nil)) pe_bl (nomark _))))))))))))), ?_⟩
    walk_at "rd"
    walk_at "rs"
    obtain ⟨ld, xs, el, hx⟩ := id hrow
    refine ptup_of (SqL.of el) fun lt H1 s1 e1 => ?_
    have row1 := hrow.same s1
    refine compL_map ent row1.dp (fun p => some (.int p.1)) (by have := hw.len; omega) (fun p _ e he => by cases he; rfl) (fun p _ => ?_) fun p1 H2 hp1 s2 l1 e2 d2 => ?_
    · intro y H' N Y s1 hy hN hY
      obtain ⟨a, rfl, hS⟩ := ent_at hy
      walk_at "rd"
      walk_at "rs"
      exact ixT0 hS (hY _ _ _ (Same.refl _) rfl (.int _))
    have ek : (r.filterMap fun p => some (PyData.int p.1)) = (keys r).map PyData.int := by
      rw [List.filterMap_eq_map', keys, List.map_map]
      rfl
    rw [ek] at d2
    obtain rfl := ints_of d2
    refine ⟨by decide, fun p3 hp3 => ?_⟩
    have s3 := same_new (o := .lst [V.int 3]) hp3
    refine cat_new (s3 _ _ e2) upd_same (by rw [List.length_map, keys, List.length_map]; have := hw.len; simp; omega) fun px H4 hpx s4 e4 => ?_
    have s14 := s2.trans (s3.trans s4)
    have D0 := (pdp_of e1 (hx.same s1)).same s14
    have row4 := row1.same s14
    have hd4 := hd.same (s1.trans s14)
    have npx : px ≠ d := (hd.same (s1.trans (s2.trans s3))).ne hpx
    have ecs : (keys r).map V.int ++ [V.int 3] = (keys r ++ [3]).map V.int := by rw [List.map_append]; rfl
    rw [ecs] at e4
    have cpos : ∀ c ∈ keys r ++ [3], 0 ≤ c := fun c hc => by
      rcases List.mem_append.mp hc with hc | hc
      · obtain ⟨p, hp, rfl⟩ := List.mem_map.mp hc
        have := hw.good.gt p hp
        omega
      · rw [List.mem_singleton.mp hc]
        decide
    have hwl : r.length ≤ 30 := by have := hw.len; omega
    refine loopL_mapE (as := keys r ++ [3]) PyData.int (SqL.of e4) (DpAll.ints _) (fun m σ H' => Dk d H4 H' ∧ ∃ a b c e f g, σ = [some (.ref l), some (.ref d), some (.ref lt), a, b, c, e, f, g]) ⟨.refl hd4, _, _, _, _, _, _, rfl⟩ (fun _ _ _ h => ⟨SqL.of (h.1.at_ npx e4), DpAll.ints _⟩) (fun y c m σ H5 hm h hy N hN => ?_) (fun σ H5 h => ?_)
    · obtain ⟨k5, a, b, c', e, f, g, rfl⟩ := h
      cases hy
      have c0 := cpos c hm
      have hd5 := k5.2
      have row5 := row4.dk k5 hd4
      have D5 := D0.dk k5 hd4
      walk_at "rd"
      walk_at "rs"
      refine ⟨_, r, c, rfl, row5.dp, fun H6 s6 => ⟨by decide, fun q1 hq1 => ?_⟩⟩
      have s7 := same_new (o := .lst [V.ref lt, V.int c]) hq1
      have s57 := s6.trans s7
      refine ⟨_, q1, _, _, rfl, SqL.of upd_same, .wordAt (D5.same s57).1 (rw_fit hw) (.int c), fun v8 H8 s8 h8 => ⟨by decide, fun q2 hq2 => ?_⟩⟩
      rw [m_wordAt hw c0] at h8
      have s9 := same_new (o := .lst [V.str "told", V.str (atR r c)]) hq2
      refine ne_same (h8.same s9) (.lst (SqL.of upd_same) (.cons (.str _) (.cons (.str _) .nil))) (by simp [outD, PyData.depth, PyData.depthAll]) ⟨_, rfl, ?_⟩
      walk_at "rs"
      obtain ⟨a8, xs8, rfl, hS8, hx8⟩ := Dp.listAt h8
      obtain ⟨z1, z2, rfl, y1, y2⟩ := dp_two hx8
      refine ixL1 (same_seq s9 hS8) (isi_str (y2.same s9) ⟨_, rfl, ?_⟩)
      simp only [isS]
      walk_at "rs"
      have s59 := s57.trans (s8.trans s9)
      generalize upd H8 q2 _ = H9 at s9 s59 ⊢
      refine ⟨d, 2, rfl, by decide, hd5.same s59, fun i H10 i0 i1 k10 => ?_⟩
      have k510 := (Dk.same hd5 s59).trans k10
      have D10 := D5.dk k510 hd5
      have row10 := row5.dk k510 hd5
      have hlet : ∃ n s, atI ("12" : Str).cps.toList i = some n ∧ (⟨#[n]⟩ : Str) = s ∧ okLet (.str s) = true := by
        have i2 : i = 0 ∨ i = 1 := by omega
        rcases i2 with rfl | rfl
        · exact ⟨49, "1", chr0, K19.s1.symm, by decide +kernel⟩
        · exact ⟨50, "2", chr1, K19.s2.symm, by decide +kernel⟩
      obtain ⟨n, s, en, es, hs⟩ := hlet
      refine ⟨_, i, n, rfl, rfl, by decide +kernel, en, ?_⟩
      rw [es]
      have sl := let_len hs
      have wl := rw_at hw c
      refine ⟨by decide, fun q3 hq3 => ?_⟩
      have t3 := same_new (o := .lst [V.ref lt, V.int c, V.str s]) hq3
      refine ⟨_, q3, _, _, rfl, SqL.of upd_same, .put (D10.same t3).1 (rw_fit hw) (.int c) (.str s), fun v11 H11 s11 h11 => ⟨s, rfl, szl (by omega), ?_⟩⟩
      rw [m_put hw c0 hs] at h11
      have t11 := t3.trans s11
      refine ⟨_, r, c, _, rfl, (row10.same t11).dp, hw.good.srt, hwl, fun v12 H12 s12 h12 => ⟨v11, v12, _, rfl, h12, .inr ⟨_, rfl, h11.same s12⟩, fun H13 s13 => ⟨_, rfl, ?_⟩⟩⟩
      walk_at "rs"
      have t13 := t11.trans (s12.trans s13)
      refine ⟨by decide, fun q4 hq4 => ?_⟩
      have t4 := t13.trans (same_new (o := .lst [V.ref lt, V.int c, V.str s]) hq4)
      refine ⟨_, q4, _, _, rfl, SqL.of upd_same, .behind (D10.same t4).1 (rw_fit hw) (.int c) (.str s), fun v14 H14 s14 h14 => ⟨szl (by omega), ?_⟩⟩
      rw [m_behind hw c0 hs] at h14
      have t14 := t4.trans s14
      refine ⟨_, r, c, _, rfl, (row10.same t14).dp, hw.good.srt, hwl, fun v15 H15 s15 h15 => ⟨v14, v15, _, rfl, h15, .inr ⟨_, rfl, h14.same s15⟩, fun H16 s16 => ⟨_, rfl, ?_⟩⟩⟩
      walk_at "rs"
      have t16 := t14.trans (s15.trans s16)
      refine ⟨by decide, fun q5 hq5 => ?_⟩
      have t5 := t16.trans (same_new (o := .lst [V.ref lt, V.int c]) hq5)
      refine ⟨_, q5, _, _, rfl, SqL.of upd_same, .taken (D10.same t5).1 (rw_fit hw) (.int c), fun v17 H17 s17 h17 => ?_⟩
      have t17 := t5.trans s17
      rw [m_taken hw c0] at h17
      have fin : ∀ H18 z, Same H10 H18 → N [some (.ref l), some (.ref d), some (.ref lt), some (.int c), some (.str (atR r c)), z, some (.str s), f, g] H18 := fun H18 z s' =>
        hN _ _ ⟨k5.trans (k510.trans (Dk.same k510.2 s')), _, _, _, _, _, _, rfl⟩
      refine ite2 (fun e0 => ?_) (fun e0 => ?_)
      · rw [if_pos e0] at h17
        obtain ⟨a9, xs9, rfl, hS9, hx9⟩ := Dp.listAt h17
        obtain ⟨z1, z2, rfl, y1, y2⟩ := dp_two hx9
        cases y2
        refine ⟨a9, _, rfl, .inl hS9, ?_⟩
        walk_at "rs"
        refine ite2 (fun z => absurd rfl z) (fun _ => ?_)
        exact ixL1 hS9 (ite2 (fun z => absurd rfl z) (fun _ => fin _ _ t17))
      · rw [if_neg e0] at h17
        obtain ⟨a9, xs9, rfl, hS9, hx9⟩ := Dp.listAt h17
        obtain ⟨z1, z2, rfl, y1, y2⟩ := dp_two hx9
        obtain ⟨a8, xs8, rfl, hS8, hx8⟩ := Dp.tupleAt y2
        obtain ⟨w1, w2, rfl, u1, u2⟩ := dp_two hx8
        cases u1
        refine ⟨a9, _, rfl, .inl hS9, ?_⟩
        walk_at "rs"
        refine ite2 (fun z => absurd rfl z) (fun _ => ?_)
        refine ixL1 hS9 (isi_tuple y2 ⟨_, rfl, ?_⟩)
        simp only [isT]
        walk_at "rs"
        refine ixL1 hS9 ⟨a8, _, rfl, .inr hS8, ?_⟩
        walk_at "rs"
        refine ite2 (fun z => absurd rfl z) (fun _ => ?_)
        refine ixL1 hS9 (ixT0 hS8 (isi_str (.str _) ⟨_, rfl, ?_⟩))
        simp only [isS]
        walk_at "rs"
        obtain ⟨c1, hc1⟩ := head_some e0
        rw [head_eq hc1] at hS8
        refine ixL1 hS9 (ixT0 hS8 ⟨_, _, c1, rfl, rfl, szl (by omega), atI_nat (j := 0) hc1, ?_⟩)
        walk_at "rs"
        refine ixL1 hS9 (ixT1 hS8 ⟨by decide, fun q6 hq6 => ⟨_, rfl, szl (by omega), ?_⟩⟩)
        have s18 := same_new (o := .lst [V.str "told", w2]) hq6
        have t18 := t17.trans s18
        refine ⟨_, r, c, _, rfl, (row10.same t18).dp, hw.good.srt, hwl, fun v19 H19 s19 h19 => ⟨_, v19, _, rfl, h19, .inr ⟨_, rfl, ?_⟩, fun H20 s20 => ⟨_, rfl, ?_⟩⟩⟩
        · exact Dp.same s19 (.lst (SqL.of upd_same) (.cons (.str _) (.cons (u2.same s18) .nil)))
        · walk_at "rs"
          exact fin _ _ (t18.trans (s19.trans s20))
    · obtain ⟨k5, a, b, c', e, f, g, rfl⟩ := h
      have hd5 := k5.2
      have row5 := row4.dk k5 hd4
      have D5 := D0.dk k5 hd4
      walk_at "rd"
      walk_at "rs"
      refine compL_map ent row5.dp (fun p => some (.int p.2.length)) (by omega) (fun p _ e he => by cases he; rfl) (fun p hp => ?_) fun p6 H6 hp6 s6 l6 e6 d6 => ?_
      · intro y H' N Y s1 hy hN hY
        obtain ⟨a, rfl, hS⟩ := ent_at hy
        walk_at "rd"
        walk_at "rs"
        exact ixT1 hS ⟨_, rfl, szl (by have := hw.wl p hp; omega), hY _ _ _ (Same.refl _) rfl (.int _)⟩
      have ek2 : (r.filterMap fun p => some (PyData.int p.2.length)) = (r.map fun p => (p.2.length : Int)).map PyData.int := by
        rw [List.filterMap_eq_map', List.map_map]
        rfl
      rw [ek2] at d6
      obtain rfl := ints_of d6
      refine ⟨p6, _, rfl, SqL.of e6, ⟨by decide, fun q1 hq1 => ?_⟩⟩
      have t1 := s6.trans (same_new (o := .lst [V.ref lt]) hq1)
      refine ⟨_, q1, _, _, rfl, SqL.of upd_same, .letters (D5.same t1).1 (rw_fit hw), fun v7 H7 s7 h7 => ⟨by decide, fun q2 hq2 => ?_⟩⟩
      rw [mLetters, onR_some (rw_un hw)] at h7
      have s8 := same_new (o := .lst [V.str "told", V.int (r.map fun p => (p.2.length : Int)).sum]) hq2
      refine ne_same (h7.same s8) (.lst (SqL.of upd_same) (.cons (.str _) (.cons (.int _) .nil))) (by simp [outD, PyData.depth, PyData.depthAll]) ⟨_, rfl, ?_⟩
      walk_at "rs"
      obtain ⟨a8, xs8, rfl, hS8, hx8⟩ := Dp.listAt h7
      obtain ⟨z1, z2, rfl, y1, y2⟩ := dp_two hx8
      refine ixL1 (same_seq s8 hS8) (isi_bool (y2.same s8) ⟨_, rfl, ?_⟩)
      simp only [isB]
      walk_at "rs"
      refine ixL1 (same_seq s8 hS8) (isi_int (y2.same s8) ⟨_, rfl, ?_⟩)
      simp only [isI]
      walk_at "rs"
      have t8 := t1.trans (s7.trans s8)
      generalize upd H7 q2 _ = H8 at s8 t8 ⊢
      refine ⟨by decide, fun q3 hq3 => ?_⟩
      have t9 := t8.trans (same_new (o := .lst [V.ref lt]) hq3)
      refine ⟨_, q3, _, _, rfl, SqL.of upd_same, .check (D5.same t9).1 (rw_fit hw), fun v10 H10 s10 h10 => ?_⟩
      rw [onR_some (rw_un hw)] at h10
      have t10 := t9.trans s10
      obtain ⟨a9, xs9, rfl, hS9, hx9⟩ := Dp.listAt h10
      obtain ⟨z3, z4, rfl, y3, y4⟩ := dp_two hx9
      cases y4
      refine ⟨a9, _, rfl, .inl hS9, ?_⟩
      walk_at "rs"
      refine ite2 (fun _ => ?_) (fun z => absurd rfl z)
      refine ixL1 hS9 (ite2 (fun _ => ?_) (fun z => absurd rfl z))
      refine ⟨_, _, rfl, (D5.same t10).1, rw_fit hw, fun H11 s11 => ⟨_, rfl, ?_⟩⟩
      have st : isStacks (.tuple (rowD r)) = true := good_ok hw.good
      rw [st]
      have s14a := s1.trans s14
      exact q _ ((Dk.same hd s14a).trans (k5.trans (Dk.same hd5 (t10.trans s11))))
end
end K19

namespace K19
open PySem PySem.Spec PyProof.Rows L2 MeD MeK MeL
local macro_rules | `(tactic| walk_at "rd") => `(tactic| (dsimp only [gSub, tVar, tC, tOp, tUn, tCons, tNil, tTup, tLst, tCB, tK, tKS, tTest, tB, tAnd, tOr, tNot, tAndV, tOrV, tNotV, tIf, tIfS, tSeq, tNext, tRet, tRetN, tDrop, tAsg, gName, gTup, gNil, gCons, wipe, tYes, tSl, tPart, tNoPart, tBM, tBM0,  tBreak, tCont, gLst, tDGet, tDIn, tDNotIn, sDPut, tDNewK, MeL.for_tup_eq, MeL.for_list_eq, MeL.for_str_eq, MeL.for_rng_eq, MeL.for_row_eq, MeL.lc_tup_eq, MeL.lc_list_eq, MeL.lc_str_eq, MeL.lc_rng_eq, rI0, rI, rU, tRs1, cxOf, Cx.tr, Cx.suite, L2.start, List.map, List.replicate, List.length, List.append, HAppend.hAppend, Append.append, Nat.reduceAdd, Nat.reduceSub]))
local macro_rules | `(tactic| walk_at "rs") => `(tactic| (try simp only [List.getElem?_cons_zero, List.getElem?_cons_succ, Option.some.injEq, exists_eq_left', exists_eq_left, V.bl.injEq, V.int.injEq, V.str.injEq, V.ref.injEq, List.cons.injEq, and_true, true_and, and_self, exists_and_left, exists_eq', exists_eq, ↓reduceIte, reduceCtorEq, Bool.false_eq_true, false_and, exists_const, exists_false, decide_true, decide_false, Bool.not_true, Bool.not_false, List.set_cons_zero, List.set_cons_succ, MeK.tyv_str, or_false, MeL.for_row_eq, MeK.req_int, MeK.rne_int, MeK.req_str, MeK.rne_str, MeK.req_bl, MeK.rne_bl, decide_eq_true_eq, Bool.not_eq_true', decide_eq_false_iff_not, Int.natCast_inj]))
theorem strs_of {K : PySem.W.Frag} {H : Hp} {vs : List V} {ns : List Str} (h : DpAll K H vs (ns.map PyData.str)) : vs = ns.map V.str := by
  induction ns generalizing vs with
  | nil => cases h; rfl
  | cons n ns ih =>
    cases h with
    | cons h1 h2 =>
      cases h1
      rw [ih h2]
      rfl
theorem bad_mid {x : PyData} (hx : ∀ l, okEntry l x = none) (b : List PyData) : ∀ (a : List PyData) (l : Int), okEntries l (a ++ x :: b) = false
  | [], l => by rw [List.nil_append, okEntries, hx]
  | y :: a, l => by
    rw [List.cons_append, okEntries]
    split
    · exact bad_mid hx b a _
    · rfl
theorem bad_pair {c k : Int} {u v : Str} (h : ¬ c < k) (b : List PyData) : ∀ (a : List PyData) (l : Int), okEntries l (a ++ ent (c, u) :: ent (k, v) :: b) = false
  | [], l => by
    rw [List.nil_append, okEntries]
    split
    · rename_i c' e
      obtain ⟨w', e1, _⟩ := okEntry_some e
      cases e1
      have n : okEntry c (ent (k, v)) = none := by
        rw [ent, okEntry_two, if_neg]
        intro z
        exact h z.1
      rw [okEntries, n]
    · rfl
  | y :: a, l => by
    rw [List.cons_append, okEntries]
    split
    · exact bad_pair h b a _
    · rfl
theorem fit_mix {r : Row} (h : Rw r) {x : PyData} {ds : List PyData} (hl : ds.length ≤ 30) (hm : ∀ e ∈ ds, e ∈ rowD r ∨ e = x) (hx : ∀ c w, x = .tuple [c, .str w] → w.length ≤ 20000) : Fit (.tuple ds) := by
  intro es e
  cases e
  refine ⟨hl, fun c w he => ?_⟩
  rcases hm _ he with h1 | h1
  · exact (rw_fit h _ rfl).2 c w h1
  · exact hx c w h1.symm
section
variable {P : Program} {w : World} {K : PySem.W.Frag} {mg : Str → Option Value} {base : Heap}
abbrev N__law_words : List Str := ["row", "value", "entry"]
abbrev P__law_words : List Str := ["row"]
theorem sc__law_words : FnScope N__law_words P__law_words (defScope s__law_words) := ⟨rfl, rfl, rfl, by decide +kernel, rfl, by decide +kernel, by decide +kernel⟩
theorem bn__law_words : ∀ (kV doc pm : Value) (an : Option Addr) (cdv ct : Value) (us : List Value), us.length = P__law_words.length → bindArgs (PySem.W.fnOf "_law_words" "_law_words" (defArgs s__law_words) (defBody s__law_words) (defScope s__law_words) .none kV doc pm an cdv ct) ⟨us, []⟩ = pure (P__law_words.zip us) := fun _ _ _ _ _ _ us hl => match us, hl with | [_], _ => rfl
def spLW (K : PySem.W.Frag) : Sp := fun vs H Q _ => ∃ v r, vs = [v] ∧ Dp K H v (.list (rowD r)) ∧ Rw r ∧ ∀ H', Same H H' → Q (.bl true) H'
theorem k__law_words (T : Txt K mg) : Knows P w K mg base CX0 2 "_law_words" P__law_words (spLW K) := by
  have k_is_word := k_is_word (P := P) (w := w) (base := base) T
  refine knows_of T.g__law_words T.d__law_words bn__law_words fun fd F => F.ok sc__law_words (fun vs H Q E h => ?_) (fun cdv A outer s H vs Q E hr h => ?_)
  · obtain ⟨v, r, rfl, hd, hw, q⟩ := h
    rfl
  · obtain ⟨v, r, rfl, hd, hw, q⟩ := h
    have nd := sc__law_words.nd
    refine ⟨_, (pss_cons (ps_for (passes_of rfl) rfl (pi_list (pe_op op_cat (pe_lst (pa_cons pe_str (pa_cons pe_str (pa_cons pe_str pa_nil)))) (pe_lc (own := [("entry", 2)]) rfl nd (pi_list (pv 0)) (blkOk_by (N := N__law_words) (sc := defScope s__law_words) (by decide +kernel)) (fun _ _ _ _ _ => (pg_name (i := 2) nd rfl (Or.inl rfl))) (fun _ _ _ _ _ => pts_nil) (fun _ _ _ _ _ => (pe_ix (ix_tupK (K := K)) (pv 2) pe_int (fun _ _ => rfl)))))) (pg_name (i := 1) nd rfl (Or.inl rfl)) (pss_one (ps_if (pt_cmpR op_isnot_bl (pe_k k_is_word (hr.mono (by decide)) pass0 (pa_cons (pv 1) pa_nil)) pe_bl (nomark _)) (pss_one (ps_ret pe_bl)) pss_nil)))
      (pss_cons (ps_for (passes_of rfl) rfl (pi_list (pe_op op_cat (pe_lst (pa_cons pe_str (pa_cons pe_str (pa_cons pe_str (pa_cons pe_str (pa_cons pe_non (pa_cons pe_int (pa_cons (pe_tup (pa_cons pe_str (pa_cons pe_str pa_nil))) (pa_cons (pe_lst (pa_cons pe_str pa_nil)) pa_nil))))))))) (pe_lc (own := [("entry", 2)]) rfl nd (pi_list (pv 0)) (blkOk_by (N := N__law_words) (sc := defScope s__law_words) (by decide +kernel)) (fun _ _ _ _ _ => (pg_name (i := 2) nd rfl (Or.inl rfl))) (fun _ _ _ _ _ => pts_nil) (fun _ _ _ _ _ => (pe_op op_add_str (pe_ix (ix_tupK (K := K)) (pv 2) pe_int (fun _ _ => rfl)) pe_str))))) (pg_name (i := 1) nd rfl (Or.inl rfl)) (pss_one (ps_if (pt_cmpR op_isnot_bl (pe_k k_is_word (hr.mono (by decide)) pass0 (pa_cons (pv 1) pa_nil)) pe_bl (nomark _)) (pss_one (ps_ret pe_bl)) pss_nil)))
      (pss_one (ps_ret (pe_and (pe_callB (isiK (K := K)) rfl T.f_isinstance (by decide +kernel) (pa_cons (pe_glob (v := .ref _) rfl T.g_LETTERS rfl) (pa_cons (pe_bltn (v := .ty "tuple") rfl T.f_tuple (by decide +kernel) rfl) pa_nil))) (pe_one (pe_cmpR (eqPK (K := K) hr.units) (pe_glob (v := .ref _) rfl T.g_LETTERS rfl) (pe_tup (pa_cons pe_str (pa_cons pe_str pa_nil))) (nomark _)))))))), ?_⟩
    walk_at "rd"
    walk_at "rs"
    refine ⟨by decide, fun p hp => ?_⟩
    have s1 := same_new (o := .lst [V.str "", V.str "1", V.str "2212"]) hp
    have rl : r.length ≤ 7 := hw.len
    refine compL_map ent (hd.same s1) (fun p => some (.str p.2)) (by omega) (fun p _ e he => by cases he; rfl) (fun p _ => ?_) fun p2 H2 hp2 s2 l2 e2 d2 => ?_
    · intro y H' N Y s1 hy hN hY
      obtain ⟨a, rfl, hS⟩ := ent_at hy
      walk_at "rd"
      walk_at "rs"
      exact ixT1 hS (hY _ _ _ (Same.refl _) rfl (.str _))
    have ek : (r.filterMap fun p => some (PyData.str p.2)) = (r.map fun p => p.2).map PyData.str := by
      rw [List.filterMap_eq_map', List.map_map]
      rfl
    rw [ek] at d2
    obtain rfl := strs_of d2
    refine cat_of (s2 _ _ upd_same) e2 (by simp; omega) fun p3 H3 s3 e3 => ?_
    have s13 := s1.trans (s2.trans s3)
    have ea : [V.str "", V.str "1", V.str "2212"] ++ (r.map fun p => p.2).map V.str = ((["", "1", "2212"] : List Str) ++ r.map fun p => p.2).map V.str := by rw [List.map_append]; rfl
    rw [ea] at e3
    refine loopL_map (H0 := H3) (as := (["", "1", "2212"] : List Str) ++ r.map fun p => p.2) PyData.str (.lst (SqL.of e3) (DpAll.strs _)) (fun l σ H' => Same H3 H' ∧ ∃ a b, σ = [some v, a, b]) ⟨.refl _, _, _, rfl⟩ (fun _ _ _ h => h.1) (fun y z l σ H' hm h hy N hN => ?_) (fun σ H' h => ?_)
    · obtain ⟨s4, a, b, rfl⟩ := h
      cases hy
      have hz : okW z = true ∧ z.length ≤ 1600 := by
        rcases List.mem_append.mp hm with h | h
        · simp only [List.mem_cons, List.not_mem_nil, or_false] at h
          rcases h with rfl | rfl | rfl <;> exact ⟨by decide +kernel, by decide +kernel⟩
        · obtain ⟨p, hp, rfl⟩ := List.mem_map.mp h
          exact ⟨(hw.good.mem p hp).1, hw.wl p hp⟩
      walk_at "rd"
      walk_at "rs"
      refine ⟨_, _, rfl, .str z, fun s e => by cases e; exact Nat.le_trans hz.2 (by decide), fun H5 s5 => ⟨_, rfl, ?_⟩⟩
      rw [show isWord (.str z) = true from hz.1]
      walk_at "rs"
      exact hN _ _ ⟨s4.trans s5, _, _, rfl⟩
    · obtain ⟨s4, a, b, rfl⟩ := h
      walk_at "rd"
      walk_at "rs"
      refine ⟨by decide, fun q1 hq1 => ⟨by decide, fun q2 hq2 => ⟨by decide, fun q3 hq3 => ?_⟩⟩⟩
      have t1 := same_new (o := .tup [V.str "1", V.str "2"]) hq1
      have t2 := same_new (o := .lst [V.str "1"]) hq2
      have t3 := same_new (o := .lst [V.str "3", V.str "12 ", V.str "0", V.str "1\n", V.non, V.int 12, V.ref q1, V.ref q2]) hq3
      have t13 := s13.trans (s4.trans (t1.trans (t2.trans t3)))
      refine compL_map ent (hd.same t13) (fun p => some (.str (p.2 ++ "a"))) (by omega) (fun p _ e he => by cases he; rfl) (fun p hp => ?_) fun p2 H2 hp2 t4 l2 e2 d2 => ?_
      · intro y H' N Y s1 hy hN hY
        obtain ⟨a, rfl, hS⟩ := ent_at hy
        walk_at "rd"
        walk_at "rs"
        exact ixT1 hS ⟨_, rfl, szl (by have := hw.wl p hp; have : ("a" : Str).length = 1 := (by decide +kernel); omega), hY _ _ _ (Same.refl _) rfl (.str _)⟩
      have ek : (r.filterMap fun p => some (PyData.str (p.2 ++ ("a" : Str)))) = (r.map fun p => p.2 ++ ("a" : Str)).map PyData.str := by
        rw [List.filterMap_eq_map', List.map_map]
        rfl
      rw [ek] at d2
      obtain rfl := strs_of d2
      have e8 : DpAll K H2 [V.str "3", V.str "12 ", V.str "0", V.str "1\n", V.non, V.int 12, V.ref q1, V.ref q2] [.str "3", .str "12 ", .str "0", .str "1\n", .none, .int 12, .tuple [.str "1", .str "2"], .list [.str "1"]] :=
        .cons (.str _) (.cons (.str _) (.cons (.str _) (.cons (.str _) (.cons .non (.cons (.int _) (.cons (.tup (SqT.of (t4 _ _ (t3 _ _ (t2 _ _ upd_same)))) (.cons (.str _) (.cons (.str _) .nil))) (.cons (.lst (SqL.of (t4 _ _ (t3 _ _ upd_same))) (.cons (.str _) .nil)) .nil)))))))
      refine cat_of (t4 _ _ upd_same) e2 (by simp; omega) fun p3 H3 t5 e3 => ?_
      have t15 := t13.trans (t4.trans t5)
      refine loopL_same (H0 := H3) (.lst (SqL.of e3) ((e8.same t5).append (DpAll.strs _))) (fun l σ H' => Same H3 H' ∧ ∃ a b, σ = [some v, a, b]) ⟨.refl _, _, _, rfl⟩ (fun _ _ _ h => h.1) (fun y z l σ H' hm h hy => ?_) (fun σ H' h => ?_)
      · obtain ⟨s6, a, b, rfl⟩ := h
        have hz : isWord z = false ∧ ∀ s, z = .str s → s.length ≤ 1601 := by
          rcases List.mem_append.mp hm with h | h
          · simp only [List.mem_cons, List.not_mem_nil, or_false] at h
            rcases h with rfl | rfl | rfl | rfl | rfl | rfl | rfl | rfl
            all_goals first
              | exact ⟨by decide +kernel, fun s e => by cases e; decide +kernel⟩
              | exact ⟨rfl, fun s e => by cases e⟩
          · obtain ⟨u, hu, rfl⟩ := List.mem_map.mp h
            obtain ⟨p, hp, rfl⟩ := List.mem_map.mp hu
            refine ⟨?_, fun s e => ?_⟩
            · show okW (p.2 ++ "a") = false
              rw [okW_app, show okW "a" = false by decide +kernel, Bool.and_false]
            · cases e
              rw [len_app]
              have := hw.wl p hp
              have : ("a" : Str).length = 1 := by decide +kernel
              omega
        walk_at "rd"
        walk_at "rs"
        refine ⟨_, _, rfl, hy, fun s e => Nat.le_trans (hz.2 s e) (by decide), fun H5 s5 => ⟨_, rfl, ?_⟩⟩
        rw [hz.1]
        walk_at "rs"
        exact s6.trans s5
      · obtain ⟨s6, a, b, rfl⟩ := h
        walk_at "rd"
        walk_at "rs"
        have DL : ∀ H0, Dp K H0 (.ref (He.ga K "LETTERS")) (.tuple [.str "1", .str "2"]) := fun H0 => .tup (T.c_LETTERS H0) (.cons (.str _) (.cons (.str _) .nil))
        refine isi_tuple (DL _) ⟨_, rfl, ?_⟩
        simp only [isT]
        walk_at "rs"
        refine ⟨by decide, fun q4 hq4 => eq_same (DL _) (.tup (SqT.of upd_same) (.cons (.str _) (.cons (.str _) .nil))) (by decide) ?_⟩
        exact q _ (t15.trans (s6.trans (same_new hq4)))
abbrev N__law_bad : List Str := ["row", "draws", "at", "entry", "word", "spoilt"]
abbrev P__law_bad : List Str := ["row", "draws"]
theorem sc__law_bad : FnScope N__law_bad P__law_bad (defScope s__law_bad) := ⟨rfl, rfl, rfl, by decide +kernel, rfl, by decide +kernel, by decide +kernel⟩
theorem bn__law_bad : ∀ (kV doc pm : Value) (an : Option Addr) (cdv ct : Value) (us : List Value), us.length = P__law_bad.length → bindArgs (PySem.W.fnOf "_law_bad" "_law_bad" (defArgs s__law_bad) (defBody s__law_bad) (defScope s__law_bad) .none kV doc pm an cdv ct) ⟨us, []⟩ = pure (P__law_bad.zip us) := fun _ _ _ _ _ _ us hl => match us, hl with | [_, _], _ => rfl
def spBad (K : PySem.W.Frag) : Sp := fun vs H Q _ => ∃ d l r, vs = [.ref l, .ref d] ∧ DrawsAt d H ∧ RowAt K d l r H ∧ Rw r ∧ r ≠ [] ∧
  ∀ v b H', Dk d H H' → PDp K H' v b → Fit b → unstk b = none → Q v H'
theorem k__law_bad (T : Txt K mg) : Knows P w K mg base CX0 3 "_law_bad" P__law_bad (spBad K) := by
  have k__law_pick := k__law_pick (P := P) (w := w) (base := base) T
  have k__law_take := k__law_take (P := P) (w := w) (base := base) T
  refine knows_of T.g__law_bad T.d__law_bad bn__law_bad fun fd F => F.ok sc__law_bad (fun vs H Q E h => ?_) (fun cdv A outer s H vs Q E hr h => ?_)
  · obtain ⟨d, l, r, rfl, hd, hrow, hw, hne, q⟩ := h
    rfl
  · obtain ⟨d, l, r, rfl, hd, hrow, hw, hne, q⟩ := h
    have nd := sc__law_bad.nd
    refine ⟨_, (pss_cons (ps_set (i := 2) nd rfl (Or.inl rfl) (pe_k k__law_pick (hr.mono (by decide)) pass0 (pa_cons (pv 1) (pa_cons (pe_callB (lenK (K := K)) rfl T.f_len (by decide +kernel) (pa_cons (pv 0) pa_nil)) pa_nil))))
      (pss_cons (ps_set (i := 3) nd rfl (Or.inl rfl) (pe_ix (ix_listK (K := K)) (pv 0) (pv 2) (fun _ _ => rfl)))
      (pss_cons (ps_set (i := 4) nd rfl (Or.inl rfl) (pe_k k__law_take (hr.mono (by decide)) pass0 (pa_cons (pv 1) (pa_cons pe_int pa_nil))))
      (pss_cons (ps_set (i := 5) nd rfl (Or.inl rfl) (pe_callTy (listK (K := K)) rfl T.f_list (by decide +kernel) (pa_cons (pv 0) pa_nil)))
      (pss_cons (ps_if (pt_cmpR op_eq (pv 4) pe_int (nomark _)) (pss_one (ps_expr (pe_bm PySem.F.plainAttrs_list PySem.F.slot_list_insert PySem.F.type_list_insert mt_insert (pv 5) (pa_cons (pv 2) (pa_cons (pv 3) pa_nil))))) (pss_one (ps_if (pt_cmpR op_eq (pv 4) pe_int (nomark _)) (pss_one (ps_asg (pe_lst (pa_cons (pe_ix (ix_tupK (K := K)) (pv 3) pe_int (fun _ _ => rfl)) (pa_cons (pe_ix (ix_tupK (K := K)) (pv 3) pe_int (fun _ _ => rfl)) pa_nil))) (pg_sub (pv 5) (pv 2) set_list))) (pss_one (ps_if (pt_cmpR op_eq (pv 4) pe_int (nomark _)) (pss_one (ps_expr (pe_bm PySem.F.plainAttrs_list PySem.F.slot_list_insert PySem.F.type_list_insert mt_insert (pv 5) (pa_cons (pv 2) (pa_cons (pe_tup (pa_cons (pe_op op_add (pe_ix (ix_tupK (K := K)) (pv 3) pe_int (fun _ _ => rfl)) pe_int) (pa_cons pe_str pa_nil))) pa_nil))))) (pss_one (ps_if (pt_cmpR op_eq (pv 4) pe_int (nomark _)) (pss_one (ps_asg (pe_tup (pa_cons (pe_ix (ix_tupK (K := K)) (pv 3) pe_int (fun _ _ => rfl)) (pa_cons pe_str pa_nil))) (pg_sub (pv 5) (pv 2) set_list))) (pss_one (ps_if (pt_cmpR op_eq (pv 4) pe_int (nomark _)) (pss_one (ps_asg (pe_tup (pa_cons (pe_ix (ix_tupK (K := K)) (pv 3) pe_int (fun _ _ => rfl)) (pa_cons (pe_op op_add_str (pe_ix (ix_tupK (K := K)) (pv 3) pe_int (fun _ _ => rfl)) pe_str) pa_nil))) (pg_sub (pv 5) (pv 2) set_list))) (pss_one (ps_if (pt_cmpR op_eq (pv 4) pe_int (nomark _)) (pss_one (ps_asg (pe_tup (pa_cons (pe_ix (ix_tupK (K := K)) (pv 3) pe_int (fun _ _ => rfl)) (pa_cons (pe_ix (ix_tupK (K := K)) (pv 3) pe_int (fun _ _ => rfl)) (pa_cons pe_int pa_nil)))) (pg_sub (pv 5) (pv 2) set_list))) (pss_one (ps_if (pt_cmpR op_eq (pv 4) pe_int (nomark _)) (pss_one (ps_asg (pe_tup (pa_cons (pe_un un_neg pe_int) (pa_cons pe_str pa_nil))) (pg_sub (pv 5) pe_int set_list))) (pss_one (ps_if (pt_cmpR op_eq (pv 4) pe_int (nomark _)) (pss_one (ps_set (i := 5) nd rfl (Or.inl rfl) (pe_lst (pa_cons (pe_tup (pa_cons pe_bl (pa_cons pe_str pa_nil))) pa_nil)))) (pss_one (ps_if (pt_cmpR op_eq (pv 4) pe_int (nomark _)) (pss_one (ps_asg (pe_tup (pa_cons (pe_ix (ix_tupK (K := K)) (pv 3) pe_int (fun _ _ => rfl)) (pa_cons pe_int pa_nil))) (pg_sub (pv 5) (pv 2) set_list))) (pss_one (ps_if (pt_cmpR op_eq (pv 4) pe_int (nomark _)) (pss_one (ps_asg pe_non (pg_sub (pv 5) (pv 2) set_list))) (pss_one (ps_if (pt_cmpR op_eq (pv 4) pe_int (nomark _)) (pss_one (ps_ret (pe_callTy (listK (K := K)) rfl T.f_list (by decide +kernel) (pa_cons (pv 0) pa_nil)))) (pss_one (ps_ret (pe_ix (ix_listK (K := K)) (pe_lst (pa_cons pe_non (pa_cons pe_str (pa_cons pe_str (pa_cons pe_int (pa_cons pe_bl pa_nil)))))) (pe_k k__law_take (hr.mono (by decide)) pass0 (pa_cons (pv 1) (pa_cons pe_int pa_nil))) (fun _ _ => rfl)))))))))))))))))))))))))
      (pss_one (ps_ret (pe_callTy (tupleK (K := K)) rfl T.f_tuple (by decide +kernel) (pa_cons (pv 5) pa_nil))))))))), ?_⟩
    walk_at "rd"
    walk_at "rs"
    obtain ⟨nl, xs, el, hx⟩ := id hrow
    have lx := hx.len
    rw [rowD, List.length_map] at lx
    have r0 : 0 < r.length := List.length_pos_iff.mpr hne
    have r7 := hw.len
    have big : ∀ {k : Nat}, k ≤ 50 → k < sizeLine := fun hk => Nat.lt_of_le_of_lt hk (by decide)
    refine ⟨l, xs, rfl, .inl (SqL.of el), ?_⟩
    refine ⟨d, _, rfl, by omega, hd, fun at_ H1 a0 a1 k1 => ?_⟩
    obtain ⟨j, rfl⟩ : ∃ j : Nat, at_ = j := ⟨at_.toNat, by omega⟩
    have row1 := hrow.dk k1 hd
    have el1 := k1.at_ nl el
    have hx1 := hx.kept k1.1 hd.lists (noL_rowD r)
    have jr : j < r.length := by omega
    obtain ⟨cu, ecu⟩ : ∃ cu, r[j]? = some cu := ⟨_, List.getElem?_eq_getElem jr⟩
    obtain ⟨c, u⟩ := cu
    have hmem : (c, u) ∈ r := List.mem_of_getElem? ecu
    have edj : (rowD r)[j]? = some (ent (c, u)) := by rw [rowD, List.getElem?_map, ecu]; rfl
    obtain ⟨z, ez, hz⟩ := hx1.get' edj
    obtain ⟨t, rfl, hT⟩ := ent_at hz
    refine ⟨l, xs, j, .ref t, rfl, rfl, SqL.of el1, atI_nat ez, ?_⟩
    refine ⟨d, 12, rfl, by decide, k1.2, fun word H2 w0 w1 k2 => ?_⟩
    have k12 := k1.trans k2
    have el2 := k12.at_ nl el
    have hx2 := hx.kept k12.1 hd.lists (noL_rowD r)
    refine ⟨l, xs, rfl, .inl (SqL.of el2), fun pS hpS => ?_⟩
    have pH : H pS = none := k12.1.free hpS
    have s3 := same_new (o := .lst xs) hpS
    have k13 : Dk d H (upd H2 pS (.lst xs)) := k12.new hpS
    have eS : upd H2 pS (.lst xs) pS = some (.lst xs) := upd_same
    have hx3 := hx2.same s3
    have hT3 := same_tup s3 (Dk_tup k1.2 k2 hT)
    generalize upd H2 pS (.lst xs) = H3 at k13 eS hx3 hT3 ⊢
    have hd3 := k13.2
    walk_at "rs"
    have fin : ∀ (H' : Hp) (p : Addr) (vs : List V) (ds : List PyData), Dk d H H' → H' p = some (.lst vs) → DpAll K H' vs ds → Fit (.tuple ds) → okEntries (-1) ds = false → rTupQ K [.ref p] H' Q := fun H' p vs ds k e dv fit bad =>
      ptup_of (SqL.of e) fun l H4 s4 e4 => q (.ref l) (.tuple ds) H4 (k.trans (Dk.same k.2 s4)) (pdp_of e4 (dv.same s4)) fit (unstk_bad.mpr bad)
    have put_ : ∀ (H4 : Hp) (v : V) (x : PyData) (i j' : Nat), Same H3 H4 → i ≤ j' → Dp K (upd H4 pS (.lst (xs.take i ++ v :: xs.drop j'))) v x → (∀ c w, x = .tuple [c, .str w] → w.length ≤ 20000) →
        okEntries (-1) ((rowD r).take i ++ x :: (rowD r).drop j') = false → rTupQ K [.ref pS] (upd H4 pS (.lst (xs.take i ++ v :: xs.drop j'))) Q := fun H4 v x i j' s4 ij dv hb bad => by
      have nlt : noLs ((rowD r).take i) = true := noLs_all fun e he => noLs_mem (noL_rowD r) e (List.mem_of_mem_take he)
      have nld : noLs ((rowD r).drop j') = true := noLs_all fun e he => noLs_mem (noL_rowD r) e (List.mem_of_mem_drop he)
      refine fin _ pS _ _ (Dk.put hd (k13.trans (Dk.same hd3 s4)) pH) upd_same ((dps_put (s4 _ _ eS) nlt ((hx3.same s4).take i)).append (.cons dv (dps_put (s4 _ _ eS) nld ((hx3.same s4).drop j')))) (fit_mix hw ?_ (fun e he => ?_) hb) bad
      · rw [List.length_append, List.length_cons, List.length_take, List.length_drop, rowD, List.length_map]
        omega
      · rcases List.mem_append.mp he with he | he
        · exact .inl (List.mem_of_mem_take he)
        · rcases List.mem_cons.mp he with he | he
          · exact .inr he
          · exact .inl (List.mem_of_mem_drop he)
    have ins : ∀ v : V, xs.take j ++ [v] ++ xs.drop j = xs.take j ++ v :: xs.drop j := fun v => by rw [List.append_assoc]; rfl
    have set_ : ∀ (v : V) (i : Nat), i < xs.length → xs.set i v = xs.take i ++ v :: xs.drop (i + 1) := fun v i h => by rw [List.set_eq_take_append_cons_drop, if_pos h]
    have dj := drop_at edj
    have ixi : ∀ i : Nat, i < xs.length → ixN xs.length (i : Int) = some i := fun i hi => by
      unfold ixN
      rw [if_pos (by omega), if_pos (by omega), Int.toNat_natCast]
    have setq : ∀ (H4 : Hp) (v : V) (x : PyData) (i : Nat), i < r.length → Same H3 H4 → Dp K (upd H4 pS (.lst (xs.take i ++ v :: xs.drop (i + 1)))) v x → (∀ c w, x = .tuple [c, .str w] → w.length ≤ 20000) →
        okEntries (-1) ((rowD r).take i ++ x :: (rowD r).drop (i + 1)) = false → rSetL (.ref pS) (.int i) v H4 fun H5 => rTupQ K [.ref pS] H5 Q := fun H4 v x i hi s4 dv hb bad => by
      refine ⟨pS, xs, i, i, rfl, rfl, s4 _ _ eS, ixi i (by omega), ?_⟩
      rw [set_ v i (by omega)]
      exact put_ H4 v x i (i + 1) s4 (by omega) dv hb bad
    have eL : ∀ (p : Addr) (H4 : Hp) (o u : HO), Same H3 H4 → H4 p = none → p ≠ pS ∧ upd (upd H4 p o) pS u p = some o := fun p H4 o u s4 hp => by
      have n : p ≠ pS := fun e => by rw [e, s4 _ _ eS] at hp; cases hp
      exact ⟨n, by rw [upd_ne n]; exact upd_same⟩
    have short : ∀ {s : Str}, s.length ≤ 5 → s.length ≤ 20000 := fun h => by omega
    have ul : u.length ≤ 1600 := hw.wl _ hmem
    refine ite2 (fun _ => ?_) (fun _ => ite2 (fun _ => ?_) (fun _ => ite2 (fun _ => ?_) (fun _ => ite2 (fun _ => ?_) (fun _ => ite2 (fun _ => ?_) (fun _ => ite2 (fun _ => ?_) (fun _ => ite2 (fun _ => ?_) (fun _ => ite2 (fun _ => ?_) (fun _ => ite2 (fun _ => ?_) (fun _ => ite2 (fun _ => ?_) (fun _ => ite2 (fun _ => ?_) (fun _ => ?_)))))))))))
    · refine ⟨tyv_list (SqL.of eS), xs, j, _, ⟨rfl, rfl⟩, eS, big (by omega), by omega, by omega, ?_⟩
      rw [Int.toNat_natCast]
      show rTupQ K [_] (upd H3 pS (.lst (xs.take j ++ [V.ref t] ++ xs.drop j))) Q
      rw [ins]
      refine put_ H3 _ (ent (c, u)) j j (.refl _) (Nat.le_refl _) (.tup (k13.2.same (.refl _) |> fun _ => ?_) (.cons (.int c) (.cons (.str u) .nil))) (fun c w e => by cases e; exact show u.length ≤ 20000 by omega) ?_
      · exact (kept_put (M := [pS]) (by simp)).tup (lists_one eS) hT3
      · rw [dj]
        exact bad_pair (Int.lt_irrefl c) _ _ _
    · refine ixT0 hT3 (ixT1 hT3 ⟨by decide, fun p hp => ?_⟩)
      try (walk_at "rd")
      walk_at "rs"
      have e := eL p H3 (.lst [V.int c, V.str u]) (.lst (xs.take j ++ V.ref p :: xs.drop (j + 1))) (.refl _) hp
      refine setq _ _ (.list [.int c, .str u]) j jr (same_new hp) (.lst (SqL.of e.2) (.cons (.int c) (.cons (.str u) .nil))) (fun c w e => by cases e) (bad_mid (fun l => rfl) _ _ _)
    · refine ⟨tyv_list (SqL.of eS), ixT0 hT3 ⟨c, rfl, by decide, fun p hp => ?_⟩⟩
      refine ⟨xs, j, _, ⟨rfl, rfl⟩, same_new hp _ _ eS, big (by omega), by omega, by omega, ?_⟩
      rw [Int.toNat_natCast]
      show rTupQ K [_] (upd (upd H3 p _) pS (.lst (xs.take j ++ [V.ref p] ++ xs.drop j))) Q
      rw [ins]
      have e := eL p H3 (.tup [V.int (c + 1), V.str "1"]) (.lst (xs.take j ++ V.ref p :: xs.drop j)) (.refl _) hp
      refine put_ _ _ (ent (c + 1, "1")) j j (same_new hp) (Nat.le_refl _) (.tup (SqT.of e.2) (.cons (.int _) (.cons (.str _) .nil))) (fun c w e => by cases e; exact show ("1" : Str).length ≤ 20000 by decide +kernel) ?_
      rw [dj]
      exact bad_pair (by omega) _ _ _
    · refine ixT0 hT3 ⟨by decide, fun p hp => ?_⟩
      try (walk_at "rd")
      walk_at "rs"
      have e := eL p H3 (.tup [V.int c, V.str ""]) (.lst (xs.take j ++ V.ref p :: xs.drop (j + 1))) (.refl _) hp
      refine setq _ _ (.tuple [.int c, .str ""]) j jr (same_new hp) (.tup (SqT.of e.2) (.cons (.int c) (.cons (.str _) .nil))) (fun c w e => by cases e; exact short (by decide +kernel)) (bad_mid (fun l => ?_) _ _ _)
      rw [okEntry_two, if_neg fun z => z.2.2 rfl]
    · have l3 : ("3" : Str).length = 1 := by decide +kernel
      refine ixT0 hT3 (ixT1 hT3 ⟨u, rfl, szl (by omega), by decide, fun p hp => ?_⟩)
      try (walk_at "rd")
      walk_at "rs"
      have e := eL p H3 (.tup [V.int c, V.str (u ++ ("3" : Str))]) (.lst (xs.take j ++ V.ref p :: xs.drop (j + 1))) (.refl _) hp
      refine setq _ _ (.tuple [.int c, .str (u ++ ("3" : Str))]) j jr (same_new hp) (.tup (SqT.of e.2) (.cons (.int c) (.cons (.str _) .nil))) (fun c w e => by cases e; rw [len_app]; omega) (bad_mid (fun l => ?_) _ _ _)
      rw [okEntry_two, if_neg]
      intro z
      rw [okW_app, show okW "3" = false by decide +kernel, Bool.and_false] at z
      exact absurd z.2.1 (by decide)
    · refine ixT0 hT3 (ixT1 hT3 ⟨by decide, fun p hp => ?_⟩)
      try (walk_at "rd")
      walk_at "rs"
      have e := eL p H3 (.tup [V.int c, V.str u, V.int 1]) (.lst (xs.take j ++ V.ref p :: xs.drop (j + 1))) (.refl _) hp
      exact setq _ _ (.tuple [.int c, .str u, .int 1]) j jr (same_new hp) (.tup (SqT.of e.2) (.cons (.int c) (.cons (.str _) (.cons (.int _) .nil)))) (fun c w e => by cases e) (bad_mid (fun l => rfl) _ _ _)
    · refine ⟨by decide, fun p hp => ?_⟩
      try (walk_at "rd")
      walk_at "rs"
      have e := eL p H3 (.tup [V.int (-1), V.str "1"]) (.lst (xs.take 0 ++ V.ref p :: xs.drop (0 + 1))) (.refl _) hp
      refine setq _ _ (ent (-1, "1")) 0 r0 (same_new hp) (.tup (SqT.of e.2) (.cons (.int _) (.cons (.str _) .nil))) (fun c w e => by cases e; exact short (by decide +kernel)) ?_
      rw [List.take_zero, List.nil_append, okEntries, ent, okEntry_two, if_neg fun z => absurd z.1 (by decide)]
    · refine ⟨by decide, fun p hp => ⟨by decide, fun p' hp' => ?_⟩⟩
      have t1 := same_new (o := .tup [V.bl true, V.str "1"]) hp
      have t2 := same_new (o := .lst [V.ref p]) hp'
      refine fin _ p' [V.ref p] [.tuple [.bool true, .str "1"]] (k13.trans (Dk.same hd3 (t1.trans t2))) upd_same (.cons (.tup (SqT.of (t2 _ _ upd_same)) (.cons (.bl _) (.cons (.str _) .nil))) .nil) ?_ rfl
      intro es e
      cases e
      refine ⟨by decide, fun c w h => ?_⟩
      cases List.mem_singleton.mp h
      decide +kernel
    · refine ixT0 hT3 ⟨by decide, fun p hp => ?_⟩
      try (walk_at "rd")
      walk_at "rs"
      have e := eL p H3 (.tup [V.int c, V.int 12]) (.lst (xs.take j ++ V.ref p :: xs.drop (j + 1))) (.refl _) hp
      exact setq _ _ (.tuple [.int c, .int 12]) j jr (same_new hp) (.tup (SqT.of e.2) (.cons (.int c) (.cons (.int _) .nil))) (fun c w e => by cases e) (bad_mid (fun l => rfl) _ _ _)
    · try (walk_at "rd")
      walk_at "rs"
      exact setq _ _ .none j jr (.refl _) .non (fun c w e => by cases e) (bad_mid (fun l => rfl) _ _ _)
    · refine ⟨l, xs, rfl, .inl (SqL.of (k13.at_ nl el)), fun p hp => ?_⟩
      refine q _ (.list (rowD r)) _ (k13.trans (Dk.same hd3 (same_new hp))) ⟨.lst (SqL.of upd_same) (hx3.same (same_new hp)), fun ds e => by cases e⟩ (fun es e => by cases e) rfl
    · refine ⟨by decide, fun p hp => ?_⟩
      have t1 := same_new (o := .lst [V.non, V.str "", V.str "12", V.int 0, V.bl true]) hp
      have k4 := k13.trans (Dk.same hd3 t1)
      refine ⟨d, 5, rfl, by decide, k4.2, fun i H5 i0 i1 k5 => ?_⟩
      have e5 := k5.at_ (k13.2.ne hp) upd_same
      have k15 := k4.trans k5
      have one : ∀ (v : V) (b : PyData), Dp K H5 v b → (∀ ds, b ≠ .tuple ds) → unstk b = none → Q v H5 := fun v b h n un => q v b H5 k15 ⟨h, fun ds e => absurd e (n ds)⟩ (fun es e => absurd e (n es)) un
      have i5 : i = 0 ∨ i = 1 ∨ i = 2 ∨ i = 3 ∨ i = 4 := by omega
      rcases i5 with rfl | rfl | rfl | rfl | rfl
      · exact ⟨p, _, 0, _, rfl, rfl, SqL.of e5, atI_nat (j := 0) rfl, one _ .none .non (fun ds e => by cases e) rfl⟩
      · exact ⟨p, _, 1, _, rfl, rfl, SqL.of e5, atI_nat (j := 1) rfl, one _ (.str "") (.str _) (fun ds e => by cases e) rfl⟩
      · exact ⟨p, _, 2, _, rfl, rfl, SqL.of e5, atI_nat (j := 2) rfl, one _ (.str "12") (.str _) (fun ds e => by cases e) rfl⟩
      · exact ⟨p, _, 3, _, rfl, rfl, SqL.of e5, atI_nat (j := 3) rfl, one _ (.int 0) (.int _) (fun ds e => by cases e) rfl⟩
      · exact ⟨p, _, 4, _, rfl, rfl, SqL.of e5, atI_nat (j := 4) rfl, one _ (.bool true) (.bl _) (fun ds e => by cases e) rfl⟩
end
end K19

namespace K19
open PySem PySem.Spec PyProof.Rows L2 MeD MeK MeL
local macro_rules | `(tactic| walk_at "rd") => `(tactic| (dsimp only [gSub, tVar, tC, tOp, tUn, tCons, tNil, tTup, tLst, tCB, tK, tKS, tTest, tB, tAnd, tOr, tNot, tAndV, tOrV, tNotV, tIf, tIfS, tSeq, tNext, tRet, tRetN, tDrop, tAsg, gName, gTup, gNil, gCons, wipe, tYes, tSl, tPart, tNoPart, tBM, tBM0,  tBreak, tCont, gLst, tDGet, tDIn, tDNotIn, sDPut, tDNewK, MeL.for_tup_eq, MeL.for_list_eq, MeL.for_str_eq, MeL.for_rng_eq, MeL.for_row_eq, MeL.lc_tup_eq, MeL.lc_list_eq, MeL.lc_str_eq, MeL.lc_rng_eq, rI0, rI, rU, tRs1, cxOf, Cx.tr, Cx.suite, L2.start, List.map, List.replicate, List.length, List.append, HAppend.hAppend, Append.append, Nat.reduceAdd, Nat.reduceSub]))
local macro_rules | `(tactic| walk_at "rs") => `(tactic| (try simp only [List.getElem?_cons_zero, List.getElem?_cons_succ, Option.some.injEq, exists_eq_left', exists_eq_left, V.bl.injEq, V.int.injEq, V.str.injEq, V.ref.injEq, List.cons.injEq, and_true, true_and, and_self, exists_and_left, exists_eq', exists_eq, ↓reduceIte, reduceCtorEq, Bool.false_eq_true, false_and, exists_const, exists_false, decide_true, decide_false, Bool.not_true, Bool.not_false, List.set_cons_zero, List.set_cons_succ, MeK.tyv_str, or_false, MeL.for_row_eq, MeK.req_int, MeK.rne_int, MeK.req_str, MeK.rne_str, MeK.req_bl, MeK.rne_bl, decide_eq_true_eq, Bool.not_eq_true', decide_eq_false_iff_not, Int.natCast_inj]))
theorem onN_bad {d : PyData} (h : okNum d = false) (f : Int → Out) : onN d f = .num "colour" := by
  cases d with
  | int c => exact if_neg fun z => absurd ((decide_eq_true z).symm.trans h) (by decide)
  | _ => rfl
theorem onL_bad {d : PyData} (h : okLet d = false) (f : Str → Out) : onL d f = .num "letter" := by
  cases d with
  | str c => exact if_neg (by rw [h]; decide)
  | _ => rfl
/-- a for over any list, each of its values with R -/
theorem loopL_each {K : PySem.W.Frag} {g : TG} {tb : TS} {D : Ends} {σ : L2.St} {H : Hp} {a : Addr} {xs : List V} (hS : SqL K H a xs) (R : V → Prop) (hR : ∀ v ∈ xs, R v) (Inv : L2.St → Hp → Prop) (h0 : Inv σ H) (hk : ∀ σ' H', Inv σ' H' → SqL K H' a xs)
    (hs : ∀ y σ' H', R y → Inv σ' H' → g y σ' H' fun σ2 H2 => tb (turnE D Inv) σ2 H2) (hd : ∀ σ' H', Inv σ' H' → D.nx σ' H') : loopL K g tb D σ (.ref a) H :=
  ⟨a, rfl, ⟨_, hS⟩, for_list (K := K) (xs := xs) (fun _ σ' H' => Inv σ' H') h0 (fun n σ' H' _ p => hk _ _ p) (fun n y σ' H' e p => hs y σ' H' (hR y (List.mem_of_getElem? e)) p) (fun σ' H' p => hd σ' H' p)⟩
/-- a shape of a call that raises BadStacks -/
def Shp (K : PySem.W.Frag) (H : Hp) (y : V) : Prop := ∃ t nm la args, y = .ref t ∧ SqT K H t [.str nm, .ref la] ∧ SqL K H la args ∧ Asks K H nm args .stacks
section
variable {K : PySem.W.Frag} {H : Hp} {v u x : V} {b e f : PyData} {r : Row} (un : unstk b = none) (B : PDp K H v b) (fit : Fit b)
include un B fit
theorem sh_wordAt (hu : Dp K H u e) : Asks K H "word_at" [v, u] .stacks := by
  have h : mWordAt b e = .stacks := by rw [mWordAt, onR_none un]
  exact h ▸ .wordAt B.1 fit hu
theorem sh_taken (hu : Dp K H u e) : Asks K H "taken" [v, u] .stacks := by
  have h : mTaken b e = .stacks := by rw [mTaken, onR_none un]
  exact h ▸ .taken B.1 fit hu
theorem sh_put (hu : Dp K H u e) (hx : Dp K H x f) : Asks K H "put" [v, u, x] .stacks := by
  have h : mPut b e f = .stacks := by rw [mPut, onR_none un]
  exact h ▸ .put B.1 fit hu hx
theorem sh_behind (hu : Dp K H u e) (hx : Dp K H x f) : Asks K H "behind" [v, u, x] .stacks := by
  have h : mBehind b e f = .stacks := by rw [mBehind, onR_none un]
  exact h ▸ .behind B.1 fit hu hx
theorem sh_letters : Asks K H "letters" [v] .stacks := by
  have h : mLetters b = .stacks := by rw [mLetters, onR_none un]
  exact h ▸ .letters B.1 fit
theorem sh_check : Asks K H "check_stacks" [v] .stacks := by
  have h : (onR b fun _ => .ok .none) = .stacks := onR_none un
  exact h ▸ .check B.1 fit
variable (G : PDp K H u (.tuple (rowD r))) (hw : Rw r)
include G hw
theorem sh_agreeB : Asks K H "agree" [v, u] .stacks := by
  have h : mAgree b (.tuple (rowD r)) = .stacks := by rw [mAgree, onR_none un]
  exact h ▸ .agree B.1 fit G.1 (rw_fit hw)
theorem sh_agreeG : Asks K H "agree" [u, v] .stacks := by
  have h : mAgree (.tuple (rowD r)) b = .stacks := by rw [mAgree, onR_some (rw_un hw), onR_none un]
  exact h ▸ .agree G.1 (rw_fit hw) B.1 fit
theorem sh_longerB : Asks K H "longer" [v, u] .stacks := by
  have h : mLonger b (.tuple (rowD r)) = .stacks := by rw [mLonger, onR_none un]
  exact h ▸ .longer B fit G.1 (rw_fit hw)
theorem sh_longerG : Asks K H "longer" [u, v] .stacks := by
  have h : mLonger (.tuple (rowD r)) b = .stacks := by rw [mLonger, onR_some (rw_un hw), onR_none un]
  exact h ▸ .longer G (rw_fit hw) B.1 fit
theorem sh_restB : Asks K H "rest" [v, u] .stacks := by
  have h : mRest b (.tuple (rowD r)) = .stacks := by rw [mRest, onR_none un]
  exact h ▸ .rest B.1 fit G.1 (rw_fit hw)
theorem sh_restG : Asks K H "rest" [u, v] .stacks := by
  have h : mRest (.tuple (rowD r)) b = .stacks := by rw [mRest, onR_some (rw_un hw), onR_none un]
  exact h ▸ .rest G.1 (rw_fit hw) B.1 fit
theorem sh_afterB : Asks K H "after" [v, u] .stacks := by
  have h : mAfter b (.tuple (rowD r)) = .stacks := by rw [mAfter, onR_none un]
  exact h ▸ .after B fit G.1 (rw_fit hw)
theorem sh_afterG : Asks K H "after" [u, v] .stacks := by
  have h : mAfter (.tuple (rowD r)) b = .stacks := by rw [mAfter, onR_some (rw_un hw), onR_none un]
  exact h ▸ .after G (rw_fit hw) B.1 fit
end
theorem ask_colour {K : PySem.W.Frag} {H : Hp} {u x y : V} {r : Row} {dc dy : PyData} {nm : Str} (hm : nm = "word_at" ∨ nm = "taken" ∨ nm = "put" ∨ nm = "behind") (G : PDp K H u (.tuple (rowD r))) (hw : Rw r) (hc : okNum dc = false) (hx : Dp K H x dc) (hy : Dp K H y dy) :
    Asks K H nm [u, x, y] (.num "colour") := by
  have fit := rw_fit hw
  rcases hm with rfl | rfl | rfl | rfl
  · have h : mWordAt (.tuple (rowD r)) dc = .num "colour" := by rw [mWordAt, onR_some (rw_un hw), onN_bad hc]
    exact h ▸ .wordAtR G.1 fit hx
  · have h : mTaken (.tuple (rowD r)) dc = .num "colour" := by rw [mTaken, onR_some (rw_un hw), onN_bad hc]
    exact h ▸ .taken G.1 fit hx
  · have h : mPut (.tuple (rowD r)) dc dy = .num "colour" := by rw [mPut, onR_some (rw_un hw), onN_bad hc]
    exact h ▸ .put G.1 fit hx hy
  · have h : mBehind (.tuple (rowD r)) dc dy = .num "colour" := by rw [mBehind, onR_some (rw_un hw), onN_bad hc]
    exact h ▸ .behind G.1 fit hx hy
theorem ask_letter {K : PySem.W.Frag} {H : Hp} {u y : V} {r : Row} {c : Int} {dy : PyData} {nm : Str} (hm : nm = "put" ∨ nm = "behind") (G : PDp K H u (.tuple (rowD r))) (hw : Rw r) (hc : 0 ≤ c) (hl : okLet dy = false) (hy : Dp K H y dy) :
    Asks K H nm [u, .int c, y] (.num "letter") := by
  have fit := rw_fit hw
  rcases hm with rfl | rfl
  · have h : mPut (.tuple (rowD r)) (.int c) dy = .num "letter" := by rw [mPut, onR_some (rw_un hw), onN_int hc, onL_bad hl]
    exact h ▸ .put G.1 fit (.int c) hy
  · have h : mBehind (.tuple (rowD r)) (.int c) dy = .num "letter" := by rw [mBehind, onR_some (rw_un hw), onN_int hc, onL_bad hl]
    exact h ▸ .behind G.1 fit (.int c) hy
/-- a call that is refused with a name -/
theorem asked_num {K : PySem.W.Frag} {H : Hp} {nm s : Str} {u y z : V} {R : VK} (ask : ∀ H0, Same H H0 → Asks K H0 nm [u, y, z] (.num s)) (q : ∀ H', Same H H' → R (.bl false) H') :
    3 ≤ sizeLine ∧ ∀ p : Addr, H p = none → spAsked K [.str nm, .ref p] (upd H p (.lst [u, y, z])) (fun x H1 => 2 ≤ sizeLine ∧ ∀ p : Addr, H1 p = none → rNeP K x (.ref p) (upd H1 p (.lst [.str "BadNumber", .str s])) R) E0 := by
  refine ⟨by decide, fun p hp => ⟨nm, p, _, _, rfl, SqL.of upd_same, ask _ (same_new hp), fun v6 H6 s6 h6 => ⟨by decide, fun p2 hp2 => ?_⟩⟩⟩
  have s7 := same_new (o := .lst [V.str "BadNumber", V.str s]) hp2
  exact ne_same (h6.same s7) (.lst (SqL.of upd_same) (.cons (.str _) (.cons (.str _) .nil))) (by simp [outD, PyData.depth, PyData.depthAll]) (q _ ((same_new hp).trans (s6.trans s7)))
section
variable {P : Program} {w : World} {K : PySem.W.Frag} {mg : Str → Option Value} {base : Heap}
abbrev N__law_refused : List Str := ["row", "bad", "draws", "good", "shapes", "shape", "colour", "letter", "word"]
abbrev P__law_refused : List Str := ["row", "bad", "draws"]
theorem sc__law_refused : FnScope N__law_refused P__law_refused (defScope s__law_refused) := ⟨rfl, rfl, rfl, by decide +kernel, rfl, by decide +kernel, by decide +kernel⟩
theorem bn__law_refused : ∀ (kV doc pm : Value) (an : Option Addr) (cdv ct : Value) (us : List Value), us.length = P__law_refused.length → bindArgs (PySem.W.fnOf "_law_refused" "_law_refused" (defArgs s__law_refused) (defBody s__law_refused) (defScope s__law_refused) .none kV doc pm an cdv ct) ⟨us, []⟩ = pure (P__law_refused.zip us) := fun _ _ _ _ _ _ us hl => match us, hl with | [_, _, _], _ => rfl
def spRefused (K : PySem.W.Frag) : Sp := fun vs H Q _ => ∃ d l r v b, vs = [.ref l, v, .ref d] ∧ DrawsAt d H ∧ RowAt K d l r H ∧ Rw r ∧ PDp K H v b ∧ Fit b ∧ unstk b = none ∧ ∀ H', Dk d H H' → Q (.bl true) H'
theorem k__law_refused (T : Txt K mg) : Knows P w K mg base CX0 7 "_law_refused" P__law_refused (spRefused K) := by
  have k_is_stacks := k_is_stacks (P := P) (w := w) (base := base) T
  have k__law_take := k__law_take (P := P) (w := w) (base := base) T
  have k__law_asked := k__law_asked (P := P) (w := w) (base := base) T
  refine knows_of T.g__law_refused T.d__law_refused bn__law_refused fun fd F => F.ok sc__law_refused (fun vs H Q E h => ?_) (fun cdv A outer s H vs Q E hr h => ?_)
  · obtain ⟨d, l, r, v, b, rfl, hd, hrow, hw, hb, fit, un, q⟩ := h
    rfl
  · obtain ⟨d, l, r, v, b, rfl, hd, hrow, hw, hb, fit, un, q⟩ := h
    have nd := sc__law_refused.nd
    refine ⟨_, (pss_cons (ps_set (i := 3) nd rfl (Or.inl rfl) (pe_callTy (tupleK (K := K)) rfl T.f_tuple (by decide +kernel) (pa_cons (pv 0) pa_nil)))
      (pss_cons (ps_if (pt_cmpR op_isnot_bl (pe_k k_is_stacks (hr.mono (by decide)) pass0 (pa_cons (pv 1) pa_nil)) pe_bl (nomark _)) (pss_one (ps_ret pe_bl)) pss_nil)
      (pss_cons (ps_set (i := 4) nd rfl (Or.inl rfl) (pe_lst (pa_cons (pe_tup (pa_cons pe_str (pa_cons (pe_lst (pa_cons (pv 1) (pa_cons pe_int pa_nil))) pa_nil))) (pa_cons (pe_tup (pa_cons pe_str (pa_cons (pe_lst (pa_cons (pv 1) (pa_cons pe_int (pa_cons pe_str pa_nil)))) pa_nil))) (pa_cons (pe_tup (pa_cons pe_str (pa_cons (pe_lst (pa_cons (pv 1) (pa_cons pe_int (pa_cons pe_str pa_nil)))) pa_nil))) (pa_cons (pe_tup (pa_cons pe_str (pa_cons (pe_lst (pa_cons (pv 1) (pa_cons pe_int pa_nil))) pa_nil))) pa_nil))))))
      (pss_cons (ps_set (i := 4) nd rfl (Or.inl rfl) (pe_op op_cat (pv 4) (pe_lst (pa_cons (pe_tup (pa_cons pe_str (pa_cons (pe_lst (pa_cons (pv 1) (pa_cons (pv 3) pa_nil))) pa_nil))) (pa_cons (pe_tup (pa_cons pe_str (pa_cons (pe_lst (pa_cons (pv 3) (pa_cons (pv 1) pa_nil))) pa_nil))) (pa_cons (pe_tup (pa_cons pe_str (pa_cons (pe_lst (pa_cons (pv 1) (pa_cons (pv 3) pa_nil))) pa_nil))) (pa_cons (pe_tup (pa_cons pe_str (pa_cons (pe_lst (pa_cons (pv 3) (pa_cons (pv 1) pa_nil))) pa_nil))) pa_nil)))))))
      (pss_cons (ps_set (i := 4) nd rfl (Or.inl rfl) (pe_op op_cat (pv 4) (pe_lst (pa_cons (pe_tup (pa_cons pe_str (pa_cons (pe_lst (pa_cons (pv 1) (pa_cons (pv 3) pa_nil))) pa_nil))) (pa_cons (pe_tup (pa_cons pe_str (pa_cons (pe_lst (pa_cons (pv 3) (pa_cons (pv 1) pa_nil))) pa_nil))) (pa_cons (pe_tup (pa_cons pe_str (pa_cons (pe_lst (pa_cons (pv 1) (pa_cons (pv 3) pa_nil))) pa_nil))) (pa_cons (pe_tup (pa_cons pe_str (pa_cons (pe_lst (pa_cons (pv 3) (pa_cons (pv 1) pa_nil))) pa_nil))) pa_nil)))))))
      (pss_cons (ps_set (i := 4) nd rfl (Or.inl rfl) (pe_op op_cat (pv 4) (pe_lst (pa_cons (pe_tup (pa_cons pe_str (pa_cons (pe_lst (pa_cons (pv 1) pa_nil)) pa_nil))) (pa_cons (pe_tup (pa_cons pe_str (pa_cons (pe_lst (pa_cons (pv 1) pa_nil)) pa_nil))) (pa_cons (pe_tup (pa_cons pe_str (pa_cons (pe_lst (pa_cons (pv 1) (pa_cons (pe_un un_neg pe_int) (pa_cons pe_str pa_nil)))) pa_nil))) (pa_cons (pe_tup (pa_cons pe_str (pa_cons (pe_lst (pa_cons (pv 1) (pa_cons pe_non (pa_cons pe_int pa_nil)))) pa_nil))) pa_nil)))))))
      (pss_cons (ps_for (passes_of rfl) rfl (pi_list (pv 4)) (pg_name (i := 5) nd rfl (Or.inl rfl)) (pss_one (ps_if (pt_cmpR (nePK (K := K) hr.units) (pe_k k__law_asked (hr.mono (by decide)) pass0 (pa_cons (pe_ix (ix_tupK (K := K)) (pv 5) pe_int (fun _ _ => rfl)) (pa_cons (pe_ix (ix_tupK (K := K)) (pv 5) pe_int (fun _ _ => rfl)) pa_nil))) (pe_lst (pa_cons pe_str pa_nil)) (nomark _)) (pss_one (ps_ret pe_bl)) pss_nil)))
      (pss_cons (ps_set (i := 6) nd rfl (Or.inl rfl) (pe_ix (ix_listK (K := K)) (pe_lst (pa_cons (pe_un un_neg pe_int) (pa_cons pe_non (pa_cons pe_bl (pa_cons pe_str (pa_cons (pe_un un_neg (pe_op op_pow pe_int pe_int)) pa_nil)))))) (pe_k k__law_take (hr.mono (by decide)) pass0 (pa_cons (pv 2) (pa_cons pe_int pa_nil))) (fun _ _ => rfl)))
      (pss_cons (ps_set (i := 7) nd rfl (Or.inl rfl) (pe_ix (ix_listK (K := K)) (pe_lst (pa_cons pe_str (pa_cons pe_str (pa_cons pe_int (pa_cons pe_str (pa_cons pe_non (pa_cons pe_str pa_nil))))))) (pe_k k__law_take (hr.mono (by decide)) pass0 (pa_cons (pv 2) (pa_cons pe_int pa_nil))) (fun _ _ => rfl)))
      (pss_cons (ps_for (passes_of rfl) rfl (pi_tup (pe_tup (pa_cons pe_str (pa_cons pe_str (pa_cons pe_str (pa_cons pe_str pa_nil)))))) (pg_name (i := 8) nd rfl (Or.inl rfl)) (pss_one (ps_if (pt_cmpR (nePK (K := K) hr.units) (pe_k k__law_asked (hr.mono (by decide)) pass0 (pa_cons (pv 8) (pa_cons (pe_lst (pa_cons (pv 3) (pa_cons (pv 6) (pa_cons pe_str pa_nil)))) pa_nil))) (pe_lst (pa_cons pe_str (pa_cons pe_str pa_nil))) (nomark _)) (pss_one (ps_ret pe_bl)) pss_nil)))
      (pss_cons (ps_for (passes_of rfl) rfl (pi_tup (pe_tup (pa_cons pe_str (pa_cons pe_str pa_nil)))) (pg_name (i := 8) nd rfl (Or.inl rfl)) (pss_cons (ps_if (pt_cmpR (nePK (K := K) hr.units) (pe_k k__law_asked (hr.mono (by decide)) pass0 (pa_cons (pv 8) (pa_cons (pe_lst (pa_cons (pv 3) (pa_cons (pv 6) (pa_cons (pv 7) pa_nil)))) pa_nil))) (pe_lst (pa_cons pe_str (pa_cons pe_str pa_nil))) (nomark _)) (pss_one (ps_ret pe_bl)) pss_nil)
      (pss_one (ps_if (pt_cmpR (nePK (K := K) hr.units) (pe_k k__law_asked (hr.mono (by decide)) pass0 (pa_cons (pv 8) (pa_cons (pe_lst (pa_cons (pv 3) (pa_cons pe_int (pa_cons (pv 7) pa_nil)))) pa_nil))) (pe_lst (pa_cons pe_str (pa_cons pe_str pa_nil))) (nomark _)) (pss_one (ps_ret pe_bl)) pss_nil))))
      (pss_one (ps_ret pe_bl))))))))))))), ?_⟩
    walk_at "rd"
    walk_at "rs"
    obtain ⟨nl, xs, el, hx⟩ := id hrow
    refine ptup_of (SqL.of el) fun lt H1 s1 e1 => ?_
    have D1 := pdp_of e1 (hx.same s1)
    have B1 := hb.same s1
    refine ⟨_, _, rfl, B1.1, fit, fun H2 s2 => ⟨_, rfl, ?_⟩⟩
    rw [unstk_bad.mp un]
    walk_at "rs"
    have SS : Same H1 H2 := s2
    refine ⟨by decide, fun p1 hp1 => ?_⟩
    have t1 := same_new (o := .lst [v, V.int 0]) hp1
    have e1_ := upd_same (H := H2) (a := p1) (o := .lst [v, V.int 0])
    generalize upd H2 p1 _ = G1 at t1 e1_ ⊢
    replace SS := SS.trans t1
    refine ⟨by decide, fun p2 hp2 => ?_⟩
    have t2 := same_new (o := .tup [V.str "word_at", V.ref p1]) hp2
    have e2_ := upd_same (H := G1) (a := p2) (o := .tup [V.str "word_at", V.ref p1])
    generalize upd G1 p2 _ = G2 at t2 e2_ ⊢
    replace e1_ := t2 _ _ e1_
    replace SS := SS.trans t2
    refine ⟨by decide, fun p3 hp3 => ?_⟩
    have t3 := same_new (o := .lst [v, V.int 0, V.str "1"]) hp3
    have e3_ := upd_same (H := G2) (a := p3) (o := .lst [v, V.int 0, V.str "1"])
    generalize upd G2 p3 _ = G3 at t3 e3_ ⊢
    replace e1_ := t3 _ _ e1_
    replace e2_ := t3 _ _ e2_
    replace SS := SS.trans t3
    refine ⟨by decide, fun p4 hp4 => ?_⟩
    have t4 := same_new (o := .tup [V.str "put", V.ref p3]) hp4
    have e4_ := upd_same (H := G3) (a := p4) (o := .tup [V.str "put", V.ref p3])
    generalize upd G3 p4 _ = G4 at t4 e4_ ⊢
    replace e1_ := t4 _ _ e1_
    replace e2_ := t4 _ _ e2_
    replace e3_ := t4 _ _ e3_
    replace SS := SS.trans t4
    refine ⟨by decide, fun p5 hp5 => ?_⟩
    have t5 := same_new (o := .lst [v, V.int 0, V.str "1"]) hp5
    have e5_ := upd_same (H := G4) (a := p5) (o := .lst [v, V.int 0, V.str "1"])
    generalize upd G4 p5 _ = G5 at t5 e5_ ⊢
    replace e1_ := t5 _ _ e1_
    replace e2_ := t5 _ _ e2_
    replace e3_ := t5 _ _ e3_
    replace e4_ := t5 _ _ e4_
    replace SS := SS.trans t5
    refine ⟨by decide, fun p6 hp6 => ?_⟩
    have t6 := same_new (o := .tup [V.str "behind", V.ref p5]) hp6
    have e6_ := upd_same (H := G5) (a := p6) (o := .tup [V.str "behind", V.ref p5])
    generalize upd G5 p6 _ = G6 at t6 e6_ ⊢
    replace e1_ := t6 _ _ e1_
    replace e2_ := t6 _ _ e2_
    replace e3_ := t6 _ _ e3_
    replace e4_ := t6 _ _ e4_
    replace e5_ := t6 _ _ e5_
    replace SS := SS.trans t6
    refine ⟨by decide, fun p7 hp7 => ?_⟩
    have t7 := same_new (o := .lst [v, V.int 0]) hp7
    have e7_ := upd_same (H := G6) (a := p7) (o := .lst [v, V.int 0])
    generalize upd G6 p7 _ = G7 at t7 e7_ ⊢
    replace e1_ := t7 _ _ e1_
    replace e2_ := t7 _ _ e2_
    replace e3_ := t7 _ _ e3_
    replace e4_ := t7 _ _ e4_
    replace e5_ := t7 _ _ e5_
    replace e6_ := t7 _ _ e6_
    replace SS := SS.trans t7
    refine ⟨by decide, fun p8 hp8 => ?_⟩
    have t8 := same_new (o := .tup [V.str "taken", V.ref p7]) hp8
    have e8_ := upd_same (H := G7) (a := p8) (o := .tup [V.str "taken", V.ref p7])
    generalize upd G7 p8 _ = G8 at t8 e8_ ⊢
    replace e1_ := t8 _ _ e1_
    replace e2_ := t8 _ _ e2_
    replace e3_ := t8 _ _ e3_
    replace e4_ := t8 _ _ e4_
    replace e5_ := t8 _ _ e5_
    replace e6_ := t8 _ _ e6_
    replace e7_ := t8 _ _ e7_
    replace SS := SS.trans t8
    refine ⟨by decide, fun p9 hp9 => ?_⟩
    have t9 := same_new (o := .lst [V.ref p2, V.ref p4, V.ref p6, V.ref p8]) hp9
    have e9_ := upd_same (H := G8) (a := p9) (o := .lst [V.ref p2, V.ref p4, V.ref p6, V.ref p8])
    generalize upd G8 p9 _ = G9 at t9 e9_ ⊢
    replace e1_ := t9 _ _ e1_
    replace e2_ := t9 _ _ e2_
    replace e3_ := t9 _ _ e3_
    replace e4_ := t9 _ _ e4_
    replace e5_ := t9 _ _ e5_
    replace e6_ := t9 _ _ e6_
    replace e7_ := t9 _ _ e7_
    replace e8_ := t9 _ _ e8_
    replace SS := SS.trans t9
    refine ⟨by decide, fun p10 hp10 => ?_⟩
    have t10 := same_new (o := .lst [v, V.ref lt]) hp10
    have e10_ := upd_same (H := G9) (a := p10) (o := .lst [v, V.ref lt])
    generalize upd G9 p10 _ = G10 at t10 e10_ ⊢
    replace e1_ := t10 _ _ e1_
    replace e2_ := t10 _ _ e2_
    replace e3_ := t10 _ _ e3_
    replace e4_ := t10 _ _ e4_
    replace e5_ := t10 _ _ e5_
    replace e6_ := t10 _ _ e6_
    replace e7_ := t10 _ _ e7_
    replace e8_ := t10 _ _ e8_
    replace e9_ := t10 _ _ e9_
    replace SS := SS.trans t10
    refine ⟨by decide, fun p11 hp11 => ?_⟩
    have t11 := same_new (o := .tup [V.str "agree", V.ref p10]) hp11
    have e11_ := upd_same (H := G10) (a := p11) (o := .tup [V.str "agree", V.ref p10])
    generalize upd G10 p11 _ = G11 at t11 e11_ ⊢
    replace e1_ := t11 _ _ e1_
    replace e2_ := t11 _ _ e2_
    replace e3_ := t11 _ _ e3_
    replace e4_ := t11 _ _ e4_
    replace e5_ := t11 _ _ e5_
    replace e6_ := t11 _ _ e6_
    replace e7_ := t11 _ _ e7_
    replace e8_ := t11 _ _ e8_
    replace e9_ := t11 _ _ e9_
    replace e10_ := t11 _ _ e10_
    replace SS := SS.trans t11
    refine ⟨by decide, fun p12 hp12 => ?_⟩
    have t12 := same_new (o := .lst [V.ref lt, v]) hp12
    have e12_ := upd_same (H := G11) (a := p12) (o := .lst [V.ref lt, v])
    generalize upd G11 p12 _ = G12 at t12 e12_ ⊢
    replace e1_ := t12 _ _ e1_
    replace e2_ := t12 _ _ e2_
    replace e3_ := t12 _ _ e3_
    replace e4_ := t12 _ _ e4_
    replace e5_ := t12 _ _ e5_
    replace e6_ := t12 _ _ e6_
    replace e7_ := t12 _ _ e7_
    replace e8_ := t12 _ _ e8_
    replace e9_ := t12 _ _ e9_
    replace e10_ := t12 _ _ e10_
    replace e11_ := t12 _ _ e11_
    replace SS := SS.trans t12
    refine ⟨by decide, fun p13 hp13 => ?_⟩
    have t13 := same_new (o := .tup [V.str "agree", V.ref p12]) hp13
    have e13_ := upd_same (H := G12) (a := p13) (o := .tup [V.str "agree", V.ref p12])
    generalize upd G12 p13 _ = G13 at t13 e13_ ⊢
    replace e1_ := t13 _ _ e1_
    replace e2_ := t13 _ _ e2_
    replace e3_ := t13 _ _ e3_
    replace e4_ := t13 _ _ e4_
    replace e5_ := t13 _ _ e5_
    replace e6_ := t13 _ _ e6_
    replace e7_ := t13 _ _ e7_
    replace e8_ := t13 _ _ e8_
    replace e9_ := t13 _ _ e9_
    replace e10_ := t13 _ _ e10_
    replace e11_ := t13 _ _ e11_
    replace e12_ := t13 _ _ e12_
    replace SS := SS.trans t13
    refine ⟨by decide, fun p14 hp14 => ?_⟩
    have t14 := same_new (o := .lst [v, V.ref lt]) hp14
    have e14_ := upd_same (H := G13) (a := p14) (o := .lst [v, V.ref lt])
    generalize upd G13 p14 _ = G14 at t14 e14_ ⊢
    replace e1_ := t14 _ _ e1_
    replace e2_ := t14 _ _ e2_
    replace e3_ := t14 _ _ e3_
    replace e4_ := t14 _ _ e4_
    replace e5_ := t14 _ _ e5_
    replace e6_ := t14 _ _ e6_
    replace e7_ := t14 _ _ e7_
    replace e8_ := t14 _ _ e8_
    replace e9_ := t14 _ _ e9_
    replace e10_ := t14 _ _ e10_
    replace e11_ := t14 _ _ e11_
    replace e12_ := t14 _ _ e12_
    replace e13_ := t14 _ _ e13_
    replace SS := SS.trans t14
    refine ⟨by decide, fun p15 hp15 => ?_⟩
    have t15 := same_new (o := .tup [V.str "longer", V.ref p14]) hp15
    have e15_ := upd_same (H := G14) (a := p15) (o := .tup [V.str "longer", V.ref p14])
    generalize upd G14 p15 _ = G15 at t15 e15_ ⊢
    replace e1_ := t15 _ _ e1_
    replace e2_ := t15 _ _ e2_
    replace e3_ := t15 _ _ e3_
    replace e4_ := t15 _ _ e4_
    replace e5_ := t15 _ _ e5_
    replace e6_ := t15 _ _ e6_
    replace e7_ := t15 _ _ e7_
    replace e8_ := t15 _ _ e8_
    replace e9_ := t15 _ _ e9_
    replace e10_ := t15 _ _ e10_
    replace e11_ := t15 _ _ e11_
    replace e12_ := t15 _ _ e12_
    replace e13_ := t15 _ _ e13_
    replace e14_ := t15 _ _ e14_
    replace SS := SS.trans t15
    refine ⟨by decide, fun p16 hp16 => ?_⟩
    have t16 := same_new (o := .lst [V.ref lt, v]) hp16
    have e16_ := upd_same (H := G15) (a := p16) (o := .lst [V.ref lt, v])
    generalize upd G15 p16 _ = G16 at t16 e16_ ⊢
    replace e1_ := t16 _ _ e1_
    replace e2_ := t16 _ _ e2_
    replace e3_ := t16 _ _ e3_
    replace e4_ := t16 _ _ e4_
    replace e5_ := t16 _ _ e5_
    replace e6_ := t16 _ _ e6_
    replace e7_ := t16 _ _ e7_
    replace e8_ := t16 _ _ e8_
    replace e9_ := t16 _ _ e9_
    replace e10_ := t16 _ _ e10_
    replace e11_ := t16 _ _ e11_
    replace e12_ := t16 _ _ e12_
    replace e13_ := t16 _ _ e13_
    replace e14_ := t16 _ _ e14_
    replace e15_ := t16 _ _ e15_
    replace SS := SS.trans t16
    refine ⟨by decide, fun p17 hp17 => ?_⟩
    have t17 := same_new (o := .tup [V.str "longer", V.ref p16]) hp17
    have e17_ := upd_same (H := G16) (a := p17) (o := .tup [V.str "longer", V.ref p16])
    generalize upd G16 p17 _ = G17 at t17 e17_ ⊢
    replace e1_ := t17 _ _ e1_
    replace e2_ := t17 _ _ e2_
    replace e3_ := t17 _ _ e3_
    replace e4_ := t17 _ _ e4_
    replace e5_ := t17 _ _ e5_
    replace e6_ := t17 _ _ e6_
    replace e7_ := t17 _ _ e7_
    replace e8_ := t17 _ _ e8_
    replace e9_ := t17 _ _ e9_
    replace e10_ := t17 _ _ e10_
    replace e11_ := t17 _ _ e11_
    replace e12_ := t17 _ _ e12_
    replace e13_ := t17 _ _ e13_
    replace e14_ := t17 _ _ e14_
    replace e15_ := t17 _ _ e15_
    replace e16_ := t17 _ _ e16_
    replace SS := SS.trans t17
    refine ⟨by decide, fun p18 hp18 => ?_⟩
    have t18 := same_new (o := .lst [V.ref p11, V.ref p13, V.ref p15, V.ref p17]) hp18
    have e18_ := upd_same (H := G17) (a := p18) (o := .lst [V.ref p11, V.ref p13, V.ref p15, V.ref p17])
    generalize upd G17 p18 _ = G18 at t18 e18_ ⊢
    replace e1_ := t18 _ _ e1_
    replace e2_ := t18 _ _ e2_
    replace e3_ := t18 _ _ e3_
    replace e4_ := t18 _ _ e4_
    replace e5_ := t18 _ _ e5_
    replace e6_ := t18 _ _ e6_
    replace e7_ := t18 _ _ e7_
    replace e8_ := t18 _ _ e8_
    replace e9_ := t18 _ _ e9_
    replace e10_ := t18 _ _ e10_
    replace e11_ := t18 _ _ e11_
    replace e12_ := t18 _ _ e12_
    replace e13_ := t18 _ _ e13_
    replace e14_ := t18 _ _ e14_
    replace e15_ := t18 _ _ e15_
    replace e16_ := t18 _ _ e16_
    replace e17_ := t18 _ _ e17_
    replace SS := SS.trans t18
    refine cat_of e9_ e18_ (by simp) fun p19 G19 t19 e19_ => ?_
    replace e1_ := t19 _ _ e1_
    replace e2_ := t19 _ _ e2_
    replace e3_ := t19 _ _ e3_
    replace e4_ := t19 _ _ e4_
    replace e5_ := t19 _ _ e5_
    replace e6_ := t19 _ _ e6_
    replace e7_ := t19 _ _ e7_
    replace e8_ := t19 _ _ e8_
    replace e9_ := t19 _ _ e9_
    replace e10_ := t19 _ _ e10_
    replace e11_ := t19 _ _ e11_
    replace e12_ := t19 _ _ e12_
    replace e13_ := t19 _ _ e13_
    replace e14_ := t19 _ _ e14_
    replace e15_ := t19 _ _ e15_
    replace e16_ := t19 _ _ e16_
    replace e17_ := t19 _ _ e17_
    replace e18_ := t19 _ _ e18_
    replace SS := SS.trans t19
    refine ⟨by decide, fun p20 hp20 => ?_⟩
    have t20 := same_new (o := .lst [v, V.ref lt]) hp20
    have e20_ := upd_same (H := G19) (a := p20) (o := .lst [v, V.ref lt])
    generalize upd G19 p20 _ = G20 at t20 e20_ ⊢
    replace e1_ := t20 _ _ e1_
    replace e2_ := t20 _ _ e2_
    replace e3_ := t20 _ _ e3_
    replace e4_ := t20 _ _ e4_
    replace e5_ := t20 _ _ e5_
    replace e6_ := t20 _ _ e6_
    replace e7_ := t20 _ _ e7_
    replace e8_ := t20 _ _ e8_
    replace e9_ := t20 _ _ e9_
    replace e10_ := t20 _ _ e10_
    replace e11_ := t20 _ _ e11_
    replace e12_ := t20 _ _ e12_
    replace e13_ := t20 _ _ e13_
    replace e14_ := t20 _ _ e14_
    replace e15_ := t20 _ _ e15_
    replace e16_ := t20 _ _ e16_
    replace e17_ := t20 _ _ e17_
    replace e18_ := t20 _ _ e18_
    replace e19_ := t20 _ _ e19_
    replace SS := SS.trans t20
    refine ⟨by decide, fun p21 hp21 => ?_⟩
    have t21 := same_new (o := .tup [V.str "rest", V.ref p20]) hp21
    have e21_ := upd_same (H := G20) (a := p21) (o := .tup [V.str "rest", V.ref p20])
    generalize upd G20 p21 _ = G21 at t21 e21_ ⊢
    replace e1_ := t21 _ _ e1_
    replace e2_ := t21 _ _ e2_
    replace e3_ := t21 _ _ e3_
    replace e4_ := t21 _ _ e4_
    replace e5_ := t21 _ _ e5_
    replace e6_ := t21 _ _ e6_
    replace e7_ := t21 _ _ e7_
    replace e8_ := t21 _ _ e8_
    replace e9_ := t21 _ _ e9_
    replace e10_ := t21 _ _ e10_
    replace e11_ := t21 _ _ e11_
    replace e12_ := t21 _ _ e12_
    replace e13_ := t21 _ _ e13_
    replace e14_ := t21 _ _ e14_
    replace e15_ := t21 _ _ e15_
    replace e16_ := t21 _ _ e16_
    replace e17_ := t21 _ _ e17_
    replace e18_ := t21 _ _ e18_
    replace e19_ := t21 _ _ e19_
    replace e20_ := t21 _ _ e20_
    replace SS := SS.trans t21
    refine ⟨by decide, fun p22 hp22 => ?_⟩
    have t22 := same_new (o := .lst [V.ref lt, v]) hp22
    have e22_ := upd_same (H := G21) (a := p22) (o := .lst [V.ref lt, v])
    generalize upd G21 p22 _ = G22 at t22 e22_ ⊢
    replace e1_ := t22 _ _ e1_
    replace e2_ := t22 _ _ e2_
    replace e3_ := t22 _ _ e3_
    replace e4_ := t22 _ _ e4_
    replace e5_ := t22 _ _ e5_
    replace e6_ := t22 _ _ e6_
    replace e7_ := t22 _ _ e7_
    replace e8_ := t22 _ _ e8_
    replace e9_ := t22 _ _ e9_
    replace e10_ := t22 _ _ e10_
    replace e11_ := t22 _ _ e11_
    replace e12_ := t22 _ _ e12_
    replace e13_ := t22 _ _ e13_
    replace e14_ := t22 _ _ e14_
    replace e15_ := t22 _ _ e15_
    replace e16_ := t22 _ _ e16_
    replace e17_ := t22 _ _ e17_
    replace e18_ := t22 _ _ e18_
    replace e19_ := t22 _ _ e19_
    replace e20_ := t22 _ _ e20_
    replace e21_ := t22 _ _ e21_
    replace SS := SS.trans t22
    refine ⟨by decide, fun p23 hp23 => ?_⟩
    have t23 := same_new (o := .tup [V.str "rest", V.ref p22]) hp23
    have e23_ := upd_same (H := G22) (a := p23) (o := .tup [V.str "rest", V.ref p22])
    generalize upd G22 p23 _ = G23 at t23 e23_ ⊢
    replace e1_ := t23 _ _ e1_
    replace e2_ := t23 _ _ e2_
    replace e3_ := t23 _ _ e3_
    replace e4_ := t23 _ _ e4_
    replace e5_ := t23 _ _ e5_
    replace e6_ := t23 _ _ e6_
    replace e7_ := t23 _ _ e7_
    replace e8_ := t23 _ _ e8_
    replace e9_ := t23 _ _ e9_
    replace e10_ := t23 _ _ e10_
    replace e11_ := t23 _ _ e11_
    replace e12_ := t23 _ _ e12_
    replace e13_ := t23 _ _ e13_
    replace e14_ := t23 _ _ e14_
    replace e15_ := t23 _ _ e15_
    replace e16_ := t23 _ _ e16_
    replace e17_ := t23 _ _ e17_
    replace e18_ := t23 _ _ e18_
    replace e19_ := t23 _ _ e19_
    replace e20_ := t23 _ _ e20_
    replace e21_ := t23 _ _ e21_
    replace e22_ := t23 _ _ e22_
    replace SS := SS.trans t23
    refine ⟨by decide, fun p24 hp24 => ?_⟩
    have t24 := same_new (o := .lst [v, V.ref lt]) hp24
    have e24_ := upd_same (H := G23) (a := p24) (o := .lst [v, V.ref lt])
    generalize upd G23 p24 _ = G24 at t24 e24_ ⊢
    replace e1_ := t24 _ _ e1_
    replace e2_ := t24 _ _ e2_
    replace e3_ := t24 _ _ e3_
    replace e4_ := t24 _ _ e4_
    replace e5_ := t24 _ _ e5_
    replace e6_ := t24 _ _ e6_
    replace e7_ := t24 _ _ e7_
    replace e8_ := t24 _ _ e8_
    replace e9_ := t24 _ _ e9_
    replace e10_ := t24 _ _ e10_
    replace e11_ := t24 _ _ e11_
    replace e12_ := t24 _ _ e12_
    replace e13_ := t24 _ _ e13_
    replace e14_ := t24 _ _ e14_
    replace e15_ := t24 _ _ e15_
    replace e16_ := t24 _ _ e16_
    replace e17_ := t24 _ _ e17_
    replace e18_ := t24 _ _ e18_
    replace e19_ := t24 _ _ e19_
    replace e20_ := t24 _ _ e20_
    replace e21_ := t24 _ _ e21_
    replace e22_ := t24 _ _ e22_
    replace e23_ := t24 _ _ e23_
    replace SS := SS.trans t24
    refine ⟨by decide, fun p25 hp25 => ?_⟩
    have t25 := same_new (o := .tup [V.str "after", V.ref p24]) hp25
    have e25_ := upd_same (H := G24) (a := p25) (o := .tup [V.str "after", V.ref p24])
    generalize upd G24 p25 _ = G25 at t25 e25_ ⊢
    replace e1_ := t25 _ _ e1_
    replace e2_ := t25 _ _ e2_
    replace e3_ := t25 _ _ e3_
    replace e4_ := t25 _ _ e4_
    replace e5_ := t25 _ _ e5_
    replace e6_ := t25 _ _ e6_
    replace e7_ := t25 _ _ e7_
    replace e8_ := t25 _ _ e8_
    replace e9_ := t25 _ _ e9_
    replace e10_ := t25 _ _ e10_
    replace e11_ := t25 _ _ e11_
    replace e12_ := t25 _ _ e12_
    replace e13_ := t25 _ _ e13_
    replace e14_ := t25 _ _ e14_
    replace e15_ := t25 _ _ e15_
    replace e16_ := t25 _ _ e16_
    replace e17_ := t25 _ _ e17_
    replace e18_ := t25 _ _ e18_
    replace e19_ := t25 _ _ e19_
    replace e20_ := t25 _ _ e20_
    replace e21_ := t25 _ _ e21_
    replace e22_ := t25 _ _ e22_
    replace e23_ := t25 _ _ e23_
    replace e24_ := t25 _ _ e24_
    replace SS := SS.trans t25
    refine ⟨by decide, fun p26 hp26 => ?_⟩
    have t26 := same_new (o := .lst [V.ref lt, v]) hp26
    have e26_ := upd_same (H := G25) (a := p26) (o := .lst [V.ref lt, v])
    generalize upd G25 p26 _ = G26 at t26 e26_ ⊢
    replace e1_ := t26 _ _ e1_
    replace e2_ := t26 _ _ e2_
    replace e3_ := t26 _ _ e3_
    replace e4_ := t26 _ _ e4_
    replace e5_ := t26 _ _ e5_
    replace e6_ := t26 _ _ e6_
    replace e7_ := t26 _ _ e7_
    replace e8_ := t26 _ _ e8_
    replace e9_ := t26 _ _ e9_
    replace e10_ := t26 _ _ e10_
    replace e11_ := t26 _ _ e11_
    replace e12_ := t26 _ _ e12_
    replace e13_ := t26 _ _ e13_
    replace e14_ := t26 _ _ e14_
    replace e15_ := t26 _ _ e15_
    replace e16_ := t26 _ _ e16_
    replace e17_ := t26 _ _ e17_
    replace e18_ := t26 _ _ e18_
    replace e19_ := t26 _ _ e19_
    replace e20_ := t26 _ _ e20_
    replace e21_ := t26 _ _ e21_
    replace e22_ := t26 _ _ e22_
    replace e23_ := t26 _ _ e23_
    replace e24_ := t26 _ _ e24_
    replace e25_ := t26 _ _ e25_
    replace SS := SS.trans t26
    refine ⟨by decide, fun p27 hp27 => ?_⟩
    have t27 := same_new (o := .tup [V.str "after", V.ref p26]) hp27
    have e27_ := upd_same (H := G26) (a := p27) (o := .tup [V.str "after", V.ref p26])
    generalize upd G26 p27 _ = G27 at t27 e27_ ⊢
    replace e1_ := t27 _ _ e1_
    replace e2_ := t27 _ _ e2_
    replace e3_ := t27 _ _ e3_
    replace e4_ := t27 _ _ e4_
    replace e5_ := t27 _ _ e5_
    replace e6_ := t27 _ _ e6_
    replace e7_ := t27 _ _ e7_
    replace e8_ := t27 _ _ e8_
    replace e9_ := t27 _ _ e9_
    replace e10_ := t27 _ _ e10_
    replace e11_ := t27 _ _ e11_
    replace e12_ := t27 _ _ e12_
    replace e13_ := t27 _ _ e13_
    replace e14_ := t27 _ _ e14_
    replace e15_ := t27 _ _ e15_
    replace e16_ := t27 _ _ e16_
    replace e17_ := t27 _ _ e17_
    replace e18_ := t27 _ _ e18_
    replace e19_ := t27 _ _ e19_
    replace e20_ := t27 _ _ e20_
    replace e21_ := t27 _ _ e21_
    replace e22_ := t27 _ _ e22_
    replace e23_ := t27 _ _ e23_
    replace e24_ := t27 _ _ e24_
    replace e25_ := t27 _ _ e25_
    replace e26_ := t27 _ _ e26_
    replace SS := SS.trans t27
    refine ⟨by decide, fun p28 hp28 => ?_⟩
    have t28 := same_new (o := .lst [V.ref p21, V.ref p23, V.ref p25, V.ref p27]) hp28
    have e28_ := upd_same (H := G27) (a := p28) (o := .lst [V.ref p21, V.ref p23, V.ref p25, V.ref p27])
    generalize upd G27 p28 _ = G28 at t28 e28_ ⊢
    replace e1_ := t28 _ _ e1_
    replace e2_ := t28 _ _ e2_
    replace e3_ := t28 _ _ e3_
    replace e4_ := t28 _ _ e4_
    replace e5_ := t28 _ _ e5_
    replace e6_ := t28 _ _ e6_
    replace e7_ := t28 _ _ e7_
    replace e8_ := t28 _ _ e8_
    replace e9_ := t28 _ _ e9_
    replace e10_ := t28 _ _ e10_
    replace e11_ := t28 _ _ e11_
    replace e12_ := t28 _ _ e12_
    replace e13_ := t28 _ _ e13_
    replace e14_ := t28 _ _ e14_
    replace e15_ := t28 _ _ e15_
    replace e16_ := t28 _ _ e16_
    replace e17_ := t28 _ _ e17_
    replace e18_ := t28 _ _ e18_
    replace e19_ := t28 _ _ e19_
    replace e20_ := t28 _ _ e20_
    replace e21_ := t28 _ _ e21_
    replace e22_ := t28 _ _ e22_
    replace e23_ := t28 _ _ e23_
    replace e24_ := t28 _ _ e24_
    replace e25_ := t28 _ _ e25_
    replace e26_ := t28 _ _ e26_
    replace e27_ := t28 _ _ e27_
    replace SS := SS.trans t28
    refine cat_of e19_ e28_ (by simp) fun p29 G29 t29 e29_ => ?_
    replace e1_ := t29 _ _ e1_
    replace e2_ := t29 _ _ e2_
    replace e3_ := t29 _ _ e3_
    replace e4_ := t29 _ _ e4_
    replace e5_ := t29 _ _ e5_
    replace e6_ := t29 _ _ e6_
    replace e7_ := t29 _ _ e7_
    replace e8_ := t29 _ _ e8_
    replace e9_ := t29 _ _ e9_
    replace e10_ := t29 _ _ e10_
    replace e11_ := t29 _ _ e11_
    replace e12_ := t29 _ _ e12_
    replace e13_ := t29 _ _ e13_
    replace e14_ := t29 _ _ e14_
    replace e15_ := t29 _ _ e15_
    replace e16_ := t29 _ _ e16_
    replace e17_ := t29 _ _ e17_
    replace e18_ := t29 _ _ e18_
    replace e19_ := t29 _ _ e19_
    replace e20_ := t29 _ _ e20_
    replace e21_ := t29 _ _ e21_
    replace e22_ := t29 _ _ e22_
    replace e23_ := t29 _ _ e23_
    replace e24_ := t29 _ _ e24_
    replace e25_ := t29 _ _ e25_
    replace e26_ := t29 _ _ e26_
    replace e27_ := t29 _ _ e27_
    replace e28_ := t29 _ _ e28_
    replace SS := SS.trans t29
    refine ⟨by decide, fun p30 hp30 => ?_⟩
    have t30 := same_new (o := .lst [v]) hp30
    have e30_ := upd_same (H := G29) (a := p30) (o := .lst [v])
    generalize upd G29 p30 _ = G30 at t30 e30_ ⊢
    replace e1_ := t30 _ _ e1_
    replace e2_ := t30 _ _ e2_
    replace e3_ := t30 _ _ e3_
    replace e4_ := t30 _ _ e4_
    replace e5_ := t30 _ _ e5_
    replace e6_ := t30 _ _ e6_
    replace e7_ := t30 _ _ e7_
    replace e8_ := t30 _ _ e8_
    replace e9_ := t30 _ _ e9_
    replace e10_ := t30 _ _ e10_
    replace e11_ := t30 _ _ e11_
    replace e12_ := t30 _ _ e12_
    replace e13_ := t30 _ _ e13_
    replace e14_ := t30 _ _ e14_
    replace e15_ := t30 _ _ e15_
    replace e16_ := t30 _ _ e16_
    replace e17_ := t30 _ _ e17_
    replace e18_ := t30 _ _ e18_
    replace e19_ := t30 _ _ e19_
    replace e20_ := t30 _ _ e20_
    replace e21_ := t30 _ _ e21_
    replace e22_ := t30 _ _ e22_
    replace e23_ := t30 _ _ e23_
    replace e24_ := t30 _ _ e24_
    replace e25_ := t30 _ _ e25_
    replace e26_ := t30 _ _ e26_
    replace e27_ := t30 _ _ e27_
    replace e28_ := t30 _ _ e28_
    replace e29_ := t30 _ _ e29_
    replace SS := SS.trans t30
    refine ⟨by decide, fun p31 hp31 => ?_⟩
    have t31 := same_new (o := .tup [V.str "letters", V.ref p30]) hp31
    have e31_ := upd_same (H := G30) (a := p31) (o := .tup [V.str "letters", V.ref p30])
    generalize upd G30 p31 _ = G31 at t31 e31_ ⊢
    replace e1_ := t31 _ _ e1_
    replace e2_ := t31 _ _ e2_
    replace e3_ := t31 _ _ e3_
    replace e4_ := t31 _ _ e4_
    replace e5_ := t31 _ _ e5_
    replace e6_ := t31 _ _ e6_
    replace e7_ := t31 _ _ e7_
    replace e8_ := t31 _ _ e8_
    replace e9_ := t31 _ _ e9_
    replace e10_ := t31 _ _ e10_
    replace e11_ := t31 _ _ e11_
    replace e12_ := t31 _ _ e12_
    replace e13_ := t31 _ _ e13_
    replace e14_ := t31 _ _ e14_
    replace e15_ := t31 _ _ e15_
    replace e16_ := t31 _ _ e16_
    replace e17_ := t31 _ _ e17_
    replace e18_ := t31 _ _ e18_
    replace e19_ := t31 _ _ e19_
    replace e20_ := t31 _ _ e20_
    replace e21_ := t31 _ _ e21_
    replace e22_ := t31 _ _ e22_
    replace e23_ := t31 _ _ e23_
    replace e24_ := t31 _ _ e24_
    replace e25_ := t31 _ _ e25_
    replace e26_ := t31 _ _ e26_
    replace e27_ := t31 _ _ e27_
    replace e28_ := t31 _ _ e28_
    replace e29_ := t31 _ _ e29_
    replace e30_ := t31 _ _ e30_
    replace SS := SS.trans t31
    refine ⟨by decide, fun p32 hp32 => ?_⟩
    have t32 := same_new (o := .lst [v]) hp32
    have e32_ := upd_same (H := G31) (a := p32) (o := .lst [v])
    generalize upd G31 p32 _ = G32 at t32 e32_ ⊢
    replace e1_ := t32 _ _ e1_
    replace e2_ := t32 _ _ e2_
    replace e3_ := t32 _ _ e3_
    replace e4_ := t32 _ _ e4_
    replace e5_ := t32 _ _ e5_
    replace e6_ := t32 _ _ e6_
    replace e7_ := t32 _ _ e7_
    replace e8_ := t32 _ _ e8_
    replace e9_ := t32 _ _ e9_
    replace e10_ := t32 _ _ e10_
    replace e11_ := t32 _ _ e11_
    replace e12_ := t32 _ _ e12_
    replace e13_ := t32 _ _ e13_
    replace e14_ := t32 _ _ e14_
    replace e15_ := t32 _ _ e15_
    replace e16_ := t32 _ _ e16_
    replace e17_ := t32 _ _ e17_
    replace e18_ := t32 _ _ e18_
    replace e19_ := t32 _ _ e19_
    replace e20_ := t32 _ _ e20_
    replace e21_ := t32 _ _ e21_
    replace e22_ := t32 _ _ e22_
    replace e23_ := t32 _ _ e23_
    replace e24_ := t32 _ _ e24_
    replace e25_ := t32 _ _ e25_
    replace e26_ := t32 _ _ e26_
    replace e27_ := t32 _ _ e27_
    replace e28_ := t32 _ _ e28_
    replace e29_ := t32 _ _ e29_
    replace e30_ := t32 _ _ e30_
    replace e31_ := t32 _ _ e31_
    replace SS := SS.trans t32
    refine ⟨by decide, fun p33 hp33 => ?_⟩
    have t33 := same_new (o := .tup [V.str "check_stacks", V.ref p32]) hp33
    have e33_ := upd_same (H := G32) (a := p33) (o := .tup [V.str "check_stacks", V.ref p32])
    generalize upd G32 p33 _ = G33 at t33 e33_ ⊢
    replace e1_ := t33 _ _ e1_
    replace e2_ := t33 _ _ e2_
    replace e3_ := t33 _ _ e3_
    replace e4_ := t33 _ _ e4_
    replace e5_ := t33 _ _ e5_
    replace e6_ := t33 _ _ e6_
    replace e7_ := t33 _ _ e7_
    replace e8_ := t33 _ _ e8_
    replace e9_ := t33 _ _ e9_
    replace e10_ := t33 _ _ e10_
    replace e11_ := t33 _ _ e11_
    replace e12_ := t33 _ _ e12_
    replace e13_ := t33 _ _ e13_
    replace e14_ := t33 _ _ e14_
    replace e15_ := t33 _ _ e15_
    replace e16_ := t33 _ _ e16_
    replace e17_ := t33 _ _ e17_
    replace e18_ := t33 _ _ e18_
    replace e19_ := t33 _ _ e19_
    replace e20_ := t33 _ _ e20_
    replace e21_ := t33 _ _ e21_
    replace e22_ := t33 _ _ e22_
    replace e23_ := t33 _ _ e23_
    replace e24_ := t33 _ _ e24_
    replace e25_ := t33 _ _ e25_
    replace e26_ := t33 _ _ e26_
    replace e27_ := t33 _ _ e27_
    replace e28_ := t33 _ _ e28_
    replace e29_ := t33 _ _ e29_
    replace e30_ := t33 _ _ e30_
    replace e31_ := t33 _ _ e31_
    replace e32_ := t33 _ _ e32_
    replace SS := SS.trans t33
    refine ⟨by decide, fun p34 hp34 => ?_⟩
    have t34 := same_new (o := .lst [v, V.int (-1), V.str "3"]) hp34
    have e34_ := upd_same (H := G33) (a := p34) (o := .lst [v, V.int (-1), V.str "3"])
    generalize upd G33 p34 _ = G34 at t34 e34_ ⊢
    replace e1_ := t34 _ _ e1_
    replace e2_ := t34 _ _ e2_
    replace e3_ := t34 _ _ e3_
    replace e4_ := t34 _ _ e4_
    replace e5_ := t34 _ _ e5_
    replace e6_ := t34 _ _ e6_
    replace e7_ := t34 _ _ e7_
    replace e8_ := t34 _ _ e8_
    replace e9_ := t34 _ _ e9_
    replace e10_ := t34 _ _ e10_
    replace e11_ := t34 _ _ e11_
    replace e12_ := t34 _ _ e12_
    replace e13_ := t34 _ _ e13_
    replace e14_ := t34 _ _ e14_
    replace e15_ := t34 _ _ e15_
    replace e16_ := t34 _ _ e16_
    replace e17_ := t34 _ _ e17_
    replace e18_ := t34 _ _ e18_
    replace e19_ := t34 _ _ e19_
    replace e20_ := t34 _ _ e20_
    replace e21_ := t34 _ _ e21_
    replace e22_ := t34 _ _ e22_
    replace e23_ := t34 _ _ e23_
    replace e24_ := t34 _ _ e24_
    replace e25_ := t34 _ _ e25_
    replace e26_ := t34 _ _ e26_
    replace e27_ := t34 _ _ e27_
    replace e28_ := t34 _ _ e28_
    replace e29_ := t34 _ _ e29_
    replace e30_ := t34 _ _ e30_
    replace e31_ := t34 _ _ e31_
    replace e32_ := t34 _ _ e32_
    replace e33_ := t34 _ _ e33_
    replace SS := SS.trans t34
    refine ⟨by decide, fun p35 hp35 => ?_⟩
    have t35 := same_new (o := .tup [V.str "put", V.ref p34]) hp35
    have e35_ := upd_same (H := G34) (a := p35) (o := .tup [V.str "put", V.ref p34])
    generalize upd G34 p35 _ = G35 at t35 e35_ ⊢
    replace e1_ := t35 _ _ e1_
    replace e2_ := t35 _ _ e2_
    replace e3_ := t35 _ _ e3_
    replace e4_ := t35 _ _ e4_
    replace e5_ := t35 _ _ e5_
    replace e6_ := t35 _ _ e6_
    replace e7_ := t35 _ _ e7_
    replace e8_ := t35 _ _ e8_
    replace e9_ := t35 _ _ e9_
    replace e10_ := t35 _ _ e10_
    replace e11_ := t35 _ _ e11_
    replace e12_ := t35 _ _ e12_
    replace e13_ := t35 _ _ e13_
    replace e14_ := t35 _ _ e14_
    replace e15_ := t35 _ _ e15_
    replace e16_ := t35 _ _ e16_
    replace e17_ := t35 _ _ e17_
    replace e18_ := t35 _ _ e18_
    replace e19_ := t35 _ _ e19_
    replace e20_ := t35 _ _ e20_
    replace e21_ := t35 _ _ e21_
    replace e22_ := t35 _ _ e22_
    replace e23_ := t35 _ _ e23_
    replace e24_ := t35 _ _ e24_
    replace e25_ := t35 _ _ e25_
    replace e26_ := t35 _ _ e26_
    replace e27_ := t35 _ _ e27_
    replace e28_ := t35 _ _ e28_
    replace e29_ := t35 _ _ e29_
    replace e30_ := t35 _ _ e30_
    replace e31_ := t35 _ _ e31_
    replace e32_ := t35 _ _ e32_
    replace e33_ := t35 _ _ e33_
    replace e34_ := t35 _ _ e34_
    replace SS := SS.trans t35
    refine ⟨by decide, fun p36 hp36 => ?_⟩
    have t36 := same_new (o := .lst [v, V.non, V.int 1]) hp36
    have e36_ := upd_same (H := G35) (a := p36) (o := .lst [v, V.non, V.int 1])
    generalize upd G35 p36 _ = G36 at t36 e36_ ⊢
    replace e1_ := t36 _ _ e1_
    replace e2_ := t36 _ _ e2_
    replace e3_ := t36 _ _ e3_
    replace e4_ := t36 _ _ e4_
    replace e5_ := t36 _ _ e5_
    replace e6_ := t36 _ _ e6_
    replace e7_ := t36 _ _ e7_
    replace e8_ := t36 _ _ e8_
    replace e9_ := t36 _ _ e9_
    replace e10_ := t36 _ _ e10_
    replace e11_ := t36 _ _ e11_
    replace e12_ := t36 _ _ e12_
    replace e13_ := t36 _ _ e13_
    replace e14_ := t36 _ _ e14_
    replace e15_ := t36 _ _ e15_
    replace e16_ := t36 _ _ e16_
    replace e17_ := t36 _ _ e17_
    replace e18_ := t36 _ _ e18_
    replace e19_ := t36 _ _ e19_
    replace e20_ := t36 _ _ e20_
    replace e21_ := t36 _ _ e21_
    replace e22_ := t36 _ _ e22_
    replace e23_ := t36 _ _ e23_
    replace e24_ := t36 _ _ e24_
    replace e25_ := t36 _ _ e25_
    replace e26_ := t36 _ _ e26_
    replace e27_ := t36 _ _ e27_
    replace e28_ := t36 _ _ e28_
    replace e29_ := t36 _ _ e29_
    replace e30_ := t36 _ _ e30_
    replace e31_ := t36 _ _ e31_
    replace e32_ := t36 _ _ e32_
    replace e33_ := t36 _ _ e33_
    replace e34_ := t36 _ _ e34_
    replace e35_ := t36 _ _ e35_
    replace SS := SS.trans t36
    refine ⟨by decide, fun p37 hp37 => ?_⟩
    have t37 := same_new (o := .tup [V.str "behind", V.ref p36]) hp37
    have e37_ := upd_same (H := G36) (a := p37) (o := .tup [V.str "behind", V.ref p36])
    generalize upd G36 p37 _ = G37 at t37 e37_ ⊢
    replace e1_ := t37 _ _ e1_
    replace e2_ := t37 _ _ e2_
    replace e3_ := t37 _ _ e3_
    replace e4_ := t37 _ _ e4_
    replace e5_ := t37 _ _ e5_
    replace e6_ := t37 _ _ e6_
    replace e7_ := t37 _ _ e7_
    replace e8_ := t37 _ _ e8_
    replace e9_ := t37 _ _ e9_
    replace e10_ := t37 _ _ e10_
    replace e11_ := t37 _ _ e11_
    replace e12_ := t37 _ _ e12_
    replace e13_ := t37 _ _ e13_
    replace e14_ := t37 _ _ e14_
    replace e15_ := t37 _ _ e15_
    replace e16_ := t37 _ _ e16_
    replace e17_ := t37 _ _ e17_
    replace e18_ := t37 _ _ e18_
    replace e19_ := t37 _ _ e19_
    replace e20_ := t37 _ _ e20_
    replace e21_ := t37 _ _ e21_
    replace e22_ := t37 _ _ e22_
    replace e23_ := t37 _ _ e23_
    replace e24_ := t37 _ _ e24_
    replace e25_ := t37 _ _ e25_
    replace e26_ := t37 _ _ e26_
    replace e27_ := t37 _ _ e27_
    replace e28_ := t37 _ _ e28_
    replace e29_ := t37 _ _ e29_
    replace e30_ := t37 _ _ e30_
    replace e31_ := t37 _ _ e31_
    replace e32_ := t37 _ _ e32_
    replace e33_ := t37 _ _ e33_
    replace e34_ := t37 _ _ e34_
    replace e35_ := t37 _ _ e35_
    replace e36_ := t37 _ _ e36_
    replace SS := SS.trans t37
    refine ⟨by decide, fun p38 hp38 => ?_⟩
    have t38 := same_new (o := .lst [V.ref p31, V.ref p33, V.ref p35, V.ref p37]) hp38
    have e38_ := upd_same (H := G37) (a := p38) (o := .lst [V.ref p31, V.ref p33, V.ref p35, V.ref p37])
    generalize upd G37 p38 _ = G38 at t38 e38_ ⊢
    replace e1_ := t38 _ _ e1_
    replace e2_ := t38 _ _ e2_
    replace e3_ := t38 _ _ e3_
    replace e4_ := t38 _ _ e4_
    replace e5_ := t38 _ _ e5_
    replace e6_ := t38 _ _ e6_
    replace e7_ := t38 _ _ e7_
    replace e8_ := t38 _ _ e8_
    replace e9_ := t38 _ _ e9_
    replace e10_ := t38 _ _ e10_
    replace e11_ := t38 _ _ e11_
    replace e12_ := t38 _ _ e12_
    replace e13_ := t38 _ _ e13_
    replace e14_ := t38 _ _ e14_
    replace e15_ := t38 _ _ e15_
    replace e16_ := t38 _ _ e16_
    replace e17_ := t38 _ _ e17_
    replace e18_ := t38 _ _ e18_
    replace e19_ := t38 _ _ e19_
    replace e20_ := t38 _ _ e20_
    replace e21_ := t38 _ _ e21_
    replace e22_ := t38 _ _ e22_
    replace e23_ := t38 _ _ e23_
    replace e24_ := t38 _ _ e24_
    replace e25_ := t38 _ _ e25_
    replace e26_ := t38 _ _ e26_
    replace e27_ := t38 _ _ e27_
    replace e28_ := t38 _ _ e28_
    replace e29_ := t38 _ _ e29_
    replace e30_ := t38 _ _ e30_
    replace e31_ := t38 _ _ e31_
    replace e32_ := t38 _ _ e32_
    replace e33_ := t38 _ _ e33_
    replace e34_ := t38 _ _ e34_
    replace e35_ := t38 _ _ e35_
    replace e36_ := t38 _ _ e36_
    replace e37_ := t38 _ _ e37_
    replace SS := SS.trans t38
    refine cat_of e29_ e38_ (by simp) fun p39 G39 t39 e39_ => ?_
    replace e1_ := t39 _ _ e1_
    replace e2_ := t39 _ _ e2_
    replace e3_ := t39 _ _ e3_
    replace e4_ := t39 _ _ e4_
    replace e5_ := t39 _ _ e5_
    replace e6_ := t39 _ _ e6_
    replace e7_ := t39 _ _ e7_
    replace e8_ := t39 _ _ e8_
    replace e9_ := t39 _ _ e9_
    replace e10_ := t39 _ _ e10_
    replace e11_ := t39 _ _ e11_
    replace e12_ := t39 _ _ e12_
    replace e13_ := t39 _ _ e13_
    replace e14_ := t39 _ _ e14_
    replace e15_ := t39 _ _ e15_
    replace e16_ := t39 _ _ e16_
    replace e17_ := t39 _ _ e17_
    replace e18_ := t39 _ _ e18_
    replace e19_ := t39 _ _ e19_
    replace e20_ := t39 _ _ e20_
    replace e21_ := t39 _ _ e21_
    replace e22_ := t39 _ _ e22_
    replace e23_ := t39 _ _ e23_
    replace e24_ := t39 _ _ e24_
    replace e25_ := t39 _ _ e25_
    replace e26_ := t39 _ _ e26_
    replace e27_ := t39 _ _ e27_
    replace e28_ := t39 _ _ e28_
    replace e29_ := t39 _ _ e29_
    replace e30_ := t39 _ _ e30_
    replace e31_ := t39 _ _ e31_
    replace e32_ := t39 _ _ e32_
    replace e33_ := t39 _ _ e33_
    replace e34_ := t39 _ _ e34_
    replace e35_ := t39 _ _ e35_
    replace e36_ := t39 _ _ e36_
    replace e37_ := t39 _ _ e37_
    replace e38_ := t39 _ _ e38_
    replace SS := SS.trans t39
    have BF := hb.same (s1.trans SS)
    have DF := D1.same SS
    have all_ : ∀ y ∈ ([V.ref p2, V.ref p4, V.ref p6, V.ref p8, V.ref p11, V.ref p13, V.ref p15, V.ref p17, V.ref p21, V.ref p23, V.ref p25, V.ref p27, V.ref p31, V.ref p33, V.ref p35, V.ref p37] : List V), Shp K G39 y := by
      intro y hy
      simp only [List.mem_cons, List.not_mem_nil, or_false] at hy
      rcases hy with rfl | rfl | rfl | rfl | rfl | rfl | rfl | rfl | rfl | rfl | rfl | rfl | rfl | rfl | rfl | rfl
      · exact ⟨_, _, _, _, rfl, SqT.of e2_, SqL.of e1_, sh_wordAt un BF fit (.int _)⟩
      · exact ⟨_, _, _, _, rfl, SqT.of e4_, SqL.of e3_, sh_put un BF fit (.int _) (.str _)⟩
      · exact ⟨_, _, _, _, rfl, SqT.of e6_, SqL.of e5_, sh_behind un BF fit (.int _) (.str _)⟩
      · exact ⟨_, _, _, _, rfl, SqT.of e8_, SqL.of e7_, sh_taken un BF fit (.int _)⟩
      · exact ⟨_, _, _, _, rfl, SqT.of e11_, SqL.of e10_, sh_agreeB un BF fit DF hw⟩
      · exact ⟨_, _, _, _, rfl, SqT.of e13_, SqL.of e12_, sh_agreeG un BF fit DF hw⟩
      · exact ⟨_, _, _, _, rfl, SqT.of e15_, SqL.of e14_, sh_longerB un BF fit DF hw⟩
      · exact ⟨_, _, _, _, rfl, SqT.of e17_, SqL.of e16_, sh_longerG un BF fit DF hw⟩
      · exact ⟨_, _, _, _, rfl, SqT.of e21_, SqL.of e20_, sh_restB un BF fit DF hw⟩
      · exact ⟨_, _, _, _, rfl, SqT.of e23_, SqL.of e22_, sh_restG un BF fit DF hw⟩
      · exact ⟨_, _, _, _, rfl, SqT.of e25_, SqL.of e24_, sh_afterB un BF fit DF hw⟩
      · exact ⟨_, _, _, _, rfl, SqT.of e27_, SqL.of e26_, sh_afterG un BF fit DF hw⟩
      · exact ⟨_, _, _, _, rfl, SqT.of e31_, SqL.of e30_, sh_letters un BF fit ⟩
      · exact ⟨_, _, _, _, rfl, SqT.of e33_, SqL.of e32_, sh_check un BF fit ⟩
      · exact ⟨_, _, _, _, rfl, SqT.of e35_, SqL.of e34_, sh_put un BF fit (.int _) (.str _)⟩
      · exact ⟨_, _, _, _, rfl, SqT.of e37_, SqL.of e36_, sh_behind un BF fit .non (.int _)⟩
    refine loopL_each (SqL.of e39_) (Shp K G39) all_ (fun σ H' => Same G39 H' ∧ ∃ z a b c, σ = [some (.ref l), some v, some (.ref d), some (.ref lt), some (.ref p39), z, a, b, c]) ⟨.refl _, _, _, _, _, rfl⟩ (fun σ H' h => SqL.of (h.1 _ _ e39_)) (fun y σ H' hy h => ?_) (fun σ H' h => ?_)

    · obtain ⟨s5, z, a, b, c, rfl⟩ := h
      obtain ⟨t, nm, la, args, rfl, hT, hS, ask⟩ := hy
      walk_at "rd"
      walk_at "rs"
      refine ixT0 (same_tup s5 hT) (ixT1 (same_tup s5 hT) ⟨nm, la, args, .stacks, rfl, same_seq s5 hS, ask.same s5, fun v6 H6 s6 h6 => ⟨by decide, fun p hp => ?_⟩⟩)
      have s7 := same_new (o := .lst [V.str "BadStacks"]) hp
      refine ne_same (h6.same s7) (.lst (SqL.of upd_same) (.cons (.str _) .nil)) (by decide) ⟨_, rfl, ?_⟩
      walk_at "rs"
      exact s5.trans (s6.trans s7)
    · obtain ⟨s5, z, a, b, c, rfl⟩ := h
      walk_at "rd"
      walk_at "rs"
      have k0 : Dk d H H' := Dk.same hd (s1.trans (SS.trans s5))
      have D0 := DF.same s5
      refine ⟨⟨by decide, by decide, by decide⟩, by decide, fun p hp => ?_⟩
      have t1 := same_new (o := .lst [V.int (-1), V.non, V.bl true, V.str "0", V.int (-10 ^ Int.toNat 30)]) hp
      have eq1 := upd_same (H := H') (a := p) (o := .lst [V.int (-1), V.non, V.bl true, V.str "0", V.int (-10 ^ Int.toNat 30)])
      generalize upd H' p _ = H6 at t1 eq1 ⊢
      have k6 := Dk.same k0.2 t1
      refine ⟨d, 5, rfl, by decide, k6.2, fun i H7 i0 i1 k7 => ?_⟩
      have e7 := k7.at_ (k0.2.ne hp) eq1
      have pick1 : ∃ x dc, atI [V.int (-1), V.non, V.bl true, V.str "0", V.int (-10 ^ Int.toNat 30)] i = some x ∧ (∀ H0, Dp K H0 x dc) ∧ okNum dc = false := by
        have i5 : i = 0 ∨ i = 1 ∨ i = 2 ∨ i = 3 ∨ i = 4 := by omega
        rcases i5 with rfl | rfl | rfl | rfl | rfl
        · exact ⟨_, _, atI_nat (j := 0) rfl, fun H0 => .int _, rfl⟩
        · exact ⟨_, _, atI_nat (j := 1) rfl, fun H0 => .non, rfl⟩
        · exact ⟨_, _, atI_nat (j := 2) rfl, fun H0 => .bl _, rfl⟩
        · exact ⟨_, _, atI_nat (j := 3) rfl, fun H0 => .str _, rfl⟩
        · exact ⟨_, _, atI_nat (j := 4) rfl, fun H0 => .int _, by decide⟩
      obtain ⟨x, dc, ex, hxc, nc⟩ := pick1
      refine ⟨p, _, i, x, rfl, rfl, SqL.of e7, ex, ⟨by decide, fun q1 hq1 => ?_⟩⟩
      have t2 := same_new (o := .lst [V.str "3", V.str "", V.int 1, V.str "12", V.non, V.str "0"]) hq1
      have eq2 := upd_same (H := H7) (a := q1) (o := .lst [V.str "3", V.str "", V.int 1, V.str "12", V.non, V.str "0"])
      generalize upd H7 q1 _ = H8 at t2 eq2 ⊢
      have k8 := k6.trans (k7.trans (Dk.same k7.2 t2))
      refine ⟨d, 6, rfl, by decide, k8.2, fun m H9 m0 m1 k9 => ?_⟩
      have e9 := k9.at_ (k7.2.ne hq1) eq2
      have pick2 : ∃ x dl, atI [V.str "3", V.str "", V.int 1, V.str "12", V.non, V.str "0"] m = some x ∧ (∀ H0, Dp K H0 x dl) ∧ okLet dl = false := by
        have i6 : m = 0 ∨ m = 1 ∨ m = 2 ∨ m = 3 ∨ m = 4 ∨ m = 5 := by omega
        rcases i6 with rfl | rfl | rfl | rfl | rfl | rfl
        · exact ⟨_, _, atI_nat (j := 0) rfl, fun H0 => .str _, by decide +kernel⟩
        · exact ⟨_, _, atI_nat (j := 1) rfl, fun H0 => .str _, by decide +kernel⟩
        · exact ⟨_, _, atI_nat (j := 2) rfl, fun H0 => .int _, rfl⟩
        · exact ⟨_, _, atI_nat (j := 3) rfl, fun H0 => .str _, by decide +kernel⟩
        · exact ⟨_, _, atI_nat (j := 4) rfl, fun H0 => .non, rfl⟩
        · exact ⟨_, _, atI_nat (j := 5) rfl, fun H0 => .str _, by decide +kernel⟩
      obtain ⟨x2, dl, ex2, hxl, ncl⟩ := pick2
      refine ⟨q1, _, m, x2, rfl, rfl, SqL.of e9, ex2, ⟨by decide, fun q2 hq2 => ?_⟩⟩
      have k09 := k8.trans k9
      have D9 := D0.dk k09 k0.2
      have t3 := same_new (o := .tup [V.str "word_at", V.str "taken", V.str "put", V.str "behind"]) hq2
      have eq3 := upd_same (H := H9) (a := q2) (o := .tup [V.str "word_at", V.str "taken", V.str "put", V.str "behind"])
      generalize upd H9 q2 _ = H10 at t3 eq3 ⊢
      have D10 := D9.same t3
      refine loopT_map (H0 := H10) (as := ([("word_at" : Str), "taken", "put", "behind"] : List Str)) PyData.str (.tup (SqT.of eq3) (.cons (.str _) (.cons (.str _) (.cons (.str _) (.cons (.str _) .nil))))) (fun _ σ H' => Same H10 H' ∧ ∃ a b, σ = [some (.ref l), some v, some (.ref d), some (.ref lt), some (.ref p39), a, some x, some x2, b]) ⟨.refl _, _, _, rfl⟩ (fun _ _ _ h => h.1) (fun y nm l' σ H11 hm h hy N hN => ?_) (fun σ H11 h => ?_)
      · obtain ⟨s11, a, b, rfl⟩ := h
        cases hy
        walk_at "rd"
        walk_at "rs"
        have hn : nm = "word_at" ∨ nm = "taken" ∨ nm = "put" ∨ nm = "behind" := by
          simpa only [List.mem_cons, List.not_mem_nil, or_false] using hm
        refine asked_num (fun H0 s0 => ask_colour hn (D10.same (s11.trans s0)) hw nc (hxc _) (.str _)) fun H12 s12 => ⟨_, rfl, ?_⟩
        walk_at "rs"
        exact hN _ _ ⟨s11.trans s12, _, _, rfl⟩
      · obtain ⟨s11, a, b, rfl⟩ := h
        walk_at "rd"
        walk_at "rs"
        refine ⟨by decide, fun q3 hq3 => ?_⟩
        have t4 := same_new (o := .tup [V.str "put", V.str "behind"]) hq3
        have eq4 := upd_same (H := H11) (a := q3) (o := .tup [V.str "put", V.str "behind"])
        generalize upd H11 q3 _ = H13 at t4 eq4 ⊢
        have D13 := D10.same (s11.trans t4)
        refine loopT_map (H0 := H13) (as := ([("put" : Str), "behind"] : List Str)) PyData.str (.tup (SqT.of eq4) (.cons (.str _) (.cons (.str _) .nil))) (fun _ σ H' => Same H13 H' ∧ ∃ a b, σ = [some (.ref l), some v, some (.ref d), some (.ref lt), some (.ref p39), a, some x, some x2, b]) ⟨.refl _, _, _, rfl⟩ (fun _ _ _ h => h.1) (fun y nm l' σ H14 hm h hy N hN => ?_) (fun σ H14 h => ?_)
        · obtain ⟨s14, a, b, rfl⟩ := h
          cases hy
          have hn : nm = "put" ∨ nm = "behind" := by
            simpa only [List.mem_cons, List.not_mem_nil, or_false] using hm
          walk_at "rd"
          walk_at "rs"
          refine asked_num (fun H0 s0 => ask_colour (.inr (.inr hn)) (D13.same (s14.trans s0)) hw nc (hxc _) (hxl _)) fun H15 s15 => ⟨_, rfl, ?_⟩
          walk_at "rs"
          refine asked_num (fun H0 s0 => ask_letter hn (D13.same (s14.trans (s15.trans s0))) hw (by decide) ncl (hxl _)) fun H16 s16 => ⟨_, rfl, ?_⟩
          walk_at "rs"
          exact hN _ _ ⟨s14.trans (s15.trans s16), _, _, rfl⟩
        · obtain ⟨s14, a, b, rfl⟩ := h
          walk_at "rd"
          walk_at "rs"
          exact q _ (k0.trans (k09.trans (Dk.same k09.2 (t3.trans (s11.trans (t4.trans s14))))))
end
end K19

namespace K19
open PySem PySem.Spec PyProof.Rows L2 MeD MeK MeL
local macro_rules | `(tactic| walk_at "rd") => `(tactic| (dsimp only [gSub, tVar, tC, tOp, tUn, tCons, tNil, tTup, tLst, tCB, tK, tKS, tTest, tB, tAnd, tOr, tNot, tAndV, tOrV, tNotV, tIf, tIfS, tSeq, tNext, tRet, tRetN, tDrop, tAsg, gName, gTup, gNil, gCons, wipe, tYes, tSl, tPart, tNoPart, tBM, tBM0,  tBreak, tCont, gLst, tDGet, tDIn, tDNotIn, sDPut, tDNewK, MeL.for_tup_eq, MeL.for_list_eq, MeL.for_str_eq, MeL.for_rng_eq, MeL.for_row_eq, MeL.lc_tup_eq, MeL.lc_list_eq, MeL.lc_str_eq, MeL.lc_rng_eq, rI0, rI, rU, tRs1, cxOf, Cx.tr, Cx.suite, L2.start, List.map, List.replicate, List.length, List.append, HAppend.hAppend, Append.append, Nat.reduceAdd, Nat.reduceSub]))
local macro_rules | `(tactic| walk_at "rs") => `(tactic| (try simp only [List.getElem?_cons_zero, List.getElem?_cons_succ, Option.some.injEq, exists_eq_left', exists_eq_left, V.bl.injEq, V.int.injEq, V.str.injEq, V.ref.injEq, List.cons.injEq, and_true, true_and, and_self, exists_and_left, exists_eq', exists_eq, ↓reduceIte, reduceCtorEq, Bool.false_eq_true, false_and, exists_const, exists_false, decide_true, decide_false, Bool.not_true, Bool.not_false, List.set_cons_zero, List.set_cons_succ, MeK.tyv_str, or_false, MeL.for_row_eq, MeK.req_int, MeK.rne_int, MeK.req_str, MeK.rne_str, MeK.req_bl, MeK.rne_bl, decide_eq_true_eq, Bool.not_eq_true', decide_eq_false_iff_not, Int.natCast_inj]))
/-! ### what stacks_from takes -/
theorem from_rows : ∀ {ds : List PyData} {g told : Row}, ds.map pairOf = g.map some → (∀ q ∈ g, 0 ≤ q.1 ∧ okW q.2 = true) → (keys (told ++ g)).Nodup → fromR told ds = some (told ++ g)
  | [], [], told, _, _, _ => by rw [fromR, List.append_nil]
  | [], _ :: _, _, e, _, _ => by cases e
  | _ :: _, [], _, e, _, _ => by cases e
  | d :: ds, (c, w) :: g, told, e, hq, n => by
    rw [List.map_cons, List.map_cons, List.cons.injEq] at e
    have h := hq (c, w) List.mem_cons_self
    have hc : c ∉ keys told := fun z => by
      rw [keys_app, List.nodup_append] at n
      exact n.2.2 c z c (by rw [keys, List.map_cons]; exact List.mem_cons_self) rfl
    rw [from_ok e.1 ⟨h.1, hc, h.2⟩, from_rows e.2 (fun q m => hq q (List.mem_cons_of_mem _ m)) (by rw [List.append_assoc]; exact n), List.append_assoc]
    rfl
theorem from_some : ∀ {ds : List PyData} {told g : Row}, fromR told ds = some g → ∃ h : Row, g = told ++ h ∧ ds.map pairOf = h.map some ∧ (∀ q ∈ h, 0 ≤ q.1 ∧ okW q.2 = true) ∧ ((keys told).Nodup → (keys g).Nodup)
  | [], told, g, e => by
    rw [fromR] at e
    cases e
    exact ⟨[], by simp, rfl, by simp, fun n => n⟩
  | d :: ds, told, g, e => by
    cases pe : pairOf d with
    | none => rw [from_none pe] at e; cases e
    | some q =>
      obtain ⟨c, w⟩ := q
      by_cases z : 0 ≤ c ∧ c ∉ keys told ∧ okW w = true
      · rw [from_ok pe z] at e
        obtain ⟨h, h1, h2, h3, h4⟩ := from_some e
        refine ⟨(c, w) :: h, by rw [h1, List.append_assoc]; rfl, by rw [List.map_cons, List.map_cons, pe, h2], fun q hq => ?_, fun n => h4 ?_⟩
        · rcases List.mem_cons.mp hq with rfl | hq
          · exact ⟨z.1, z.2.2⟩
          · exact h3 q hq
        · rw [← put_new (w := w) z.2.1]
          exact put_nodup n _ _
      · have n : fromR told (d :: ds) = none := by
          rw [fromR, pe]
          exact if_neg z
        rw [n] at e
        cases e
theorem perm_some {h g : Row} (p : (h.map some).Perm (g.map some)) : h.Perm g := by
  have := p.filterMap id
  simpa [List.filterMap_map] using this
/-- a bad one among them -/
theorem from_bads {ds ds' : List PyData} {g : Row} {b : PyData} (e : ds.map pairOf = g.map some) (p : ds'.Perm (b :: ds)) (hb : ∀ q, pairOf b = some q → 0 ≤ q.1 → okW q.2 = true → q.1 ∈ keys g) : fromR [] ds' = none := by
  cases f : fromR [] ds' with
  | none => rfl
  | some g' =>
    exfalso
    obtain ⟨h, h1, h2, h3, h4⟩ := from_some f
    rw [List.nil_append] at h1
    rw [h1] at h4
    have n := h4 nodup_nil
    have pm := p.map pairOf
    rw [h2, List.map_cons, e] at pm
    have hb1 : pairOf b ∈ h.map some := pm.mem_iff.mpr List.mem_cons_self
    obtain ⟨q, hq, eq⟩ := List.mem_map.mp hb1
    rw [← eq] at pm
    have pq : h.Perm (q :: g) := perm_some pm
    have k := hb q eq.symm (h3 q hq).1 (h3 q hq).2
    have nq : (keys (q :: g)).Nodup := List.Perm.nodup (pq.map _) n
    rw [keys, List.map_cons, List.nodup_cons] at nq
    exact nq.1 k
/-! ### the items given -/
def ItemAt (ex : List Addr) (H : Hp) (v : V) (q : Int × Str) : Prop := ∃ a, v = .ref a ∧ a ∉ ex ∧ (H a = some (.lst [.int q.1, .str q.2]) ∨ H a = some (.tup [.int q.1, .str q.2]))
theorem ItemAt.keep {ex : List Addr} {H H' : Hp} {v : V} {q : Int × Str} (h : ItemAt ex H v q) (k : Kept ex H H') : ItemAt ex H' v q := by
  obtain ⟨a, e, n, h⟩ := h
  exact ⟨a, e, n, h.imp (k.at_ a _ n) (k.at_ a _ n)⟩
theorem ItemAt.more {ex : List Addr} {H : Hp} {v : V} {q : Int × Str} {p : Addr} (h : ItemAt ex H v q) (hp : H p = none) : ItemAt (p :: ex) H v q := by
  obtain ⟨a, e, n, h⟩ := h
  refine ⟨a, e, fun z => ?_, h⟩
  rcases List.mem_cons.mp z with z | z
  · rw [← z] at hp
    rcases h with h | h <;> rw [hp] at h <;> cases h
  · exact n z
theorem ItemAt.dp {K : PySem.W.Frag} {ex : List Addr} {H : Hp} {v : V} {q : Int × Str} (h : ItemAt ex H v q) : ∃ e, Dp K H v e ∧ pairOf e = some q ∧ itemsD e = some [.int q.1, .str q.2] ∧ e.depth ≤ 2 := by
  obtain ⟨a, rfl, n, h | h⟩ := h
  · exact ⟨.list [.int q.1, .str q.2], .lst (SqL.of h) (.cons (.int _) (.cons (.str _) .nil)), rfl, rfl, by simp [PyData.depth, PyData.depthAll]⟩
  · exact ⟨.tuple [.int q.1, .str q.2], .tup (SqT.of h) (.cons (.int _) (.cons (.str _) .nil)), rfl, rfl, by simp [PyData.depth, PyData.depthAll]⟩
theorem kept_mono {M M' : List Addr} {H H' : Hp} (h : Kept M H H') (s : ∀ m ∈ M, m ∈ M') : Kept M' H H' := ⟨fun b o n e => h.at_ b o (fun z => n (s b z)) e, h.on⟩
/-- the items of a row, in some order -/
def ItemsAt (ex : List Addr) (H : Hp) (its : List (V × (Int × Str))) : Prop := ∀ e ∈ its, ItemAt ex H e.1 e.2
theorem ItemsAt.dp {K : PySem.W.Frag} {ex : List Addr} {H : Hp} : ∀ {its : List (V × (Int × Str))}, ItemsAt ex H its → ∃ ds, DpAll K H (its.map (·.1)) ds ∧ ds.map pairOf = (its.map (·.2)).map some ∧ (∀ e ∈ ds, ∃ q ∈ its.map (·.2), itemsD e = some [.int q.1, .str q.2]) ∧ PyData.depthAll ds ≤ 2
  | [], _ => ⟨[], .nil, rfl, by simp, by simp [PyData.depthAll]⟩
  | (v, q) :: its, h => by
    obtain ⟨ds, h1, h2, h3, h4⟩ := ItemsAt.dp (K := K) (its := its) fun e he => h e (List.mem_cons_of_mem _ he)
    obtain ⟨e, g1, g2, g3, g4⟩ := (h (v, q) List.mem_cons_self).dp (K := K)
    refine ⟨e :: ds, .cons g1 h1, by rw [List.map_cons, h2, g2]; rfl, fun x hx => ?_, ?_⟩
    · rcases List.mem_cons.mp hx with rfl | hx
      · exact ⟨q, by simp, g3⟩
      · obtain ⟨q', m, e'⟩ := h3 x hx
        exact ⟨q', by rw [List.map_cons]; exact List.mem_cons_of_mem _ m, e'⟩
    · show max e.depth (PyData.depthAll ds) ≤ 2
      omega
theorem ins_item {H H2 : Hp} {p d : Addr} {its : List (V × (Int × Str))} {v : V} {q : Int × Str} {k : Nat} (hd : DrawsAt d H) (hp : H p = none) (kd : Dk d H H2) (hi : ItemsAt [d, p] H2 its) (hv : ItemAt [d, p] H2 v q) :
    ∃ its' : List (V × (Int × Str)), ((its.map (·.1)).take k ++ [v]) ++ (its.map (·.1)).drop k = its'.map (·.1) ∧ ItemsAt [d, p] (upd H2 p (.lst (its'.map (·.1)))) its' ∧ (its'.map (·.2)).Perm (q :: its.map (·.2)) ∧ Dk d H (upd H2 p (.lst (its'.map (·.1)))) := by
  refine ⟨its.take k ++ (v, q) :: its.drop k, ?_, ?_, ?_, Dk.put hd kd hp⟩
  · rw [List.map_append, List.map_cons, List.map_take, List.map_drop, List.append_assoc]
    rfl
  · intro e he
    have ke : ∀ {u : V} {z : Int × Str}, ItemAt [d, p] H2 u z → ItemAt [d, p] (upd H2 p (.lst ((its.take k ++ (v, q) :: its.drop k).map (·.1)))) u z := fun h => h.keep (kept_put (by simp))
    rcases List.mem_append.mp he with he | he
    · exact ke (hi e (List.mem_of_mem_take he))
    · rcases List.mem_cons.mp he with rfl | he
      · exact ke hv
      · exact ke (hi e (List.mem_of_mem_drop he))
  · have h := (List.perm_middle (a := (v, q)) (l₁ := its.take k) (l₂ := its.drop k)).map (·.2)
    rw [List.map_cons, List.take_append_drop] at h
    exact h
theorem ItemsAt.keep {ex : List Addr} {H H' : Hp} {its : List (V × (Int × Str))} (h : ItemsAt ex H its) (k : Kept ex H H') : ItemsAt ex H' its := fun e he => (h e he).keep k
theorem item_new {d p a : Addr} {H : Hp} {o : HO} {c : Int} {u : Str} {od op : HO} (ha : H a = none) (hd : H d = some od) (hp : H p = some op) (ho : o = .lst [.int c, .str u] ∨ o = .tup [.int c, .str u]) : ItemAt [d, p] (upd H a o) (.ref a) (c, u) := by
  refine ⟨a, rfl, fun z => ?_, ho.imp (fun e => by rw [upd_same, e]) (fun e => by rw [upd_same, e])⟩
  simp only [List.mem_cons, List.not_mem_nil, or_false] at z
  rcases z with rfl | rfl
  · rw [ha] at hd; cases hd
  · rw [ha] at hp; cases hp
theorem from_good {ds : List PyData} {g r : Row} (e : ds.map pairOf = g.map some) (p : g.Perm ((4, "") :: r)) (h : Rw r) : fromR [] ds = some g ∧ sorR g = r := by
  have k4 : (4 : Int) ∉ keys r := fun z => by
    obtain ⟨q, hq, e⟩ := List.mem_map.mp z
    exact h.no4 q hq e
  have n0 : (keys (((4 : Int), ("" : Str)) :: r)).Nodup := by
    rw [keys, List.map_cons, List.nodup_cons]
    exact ⟨k4, h.good.srt.nodup⟩
  have n : (keys g).Nodup := List.Perm.nodup (List.Perm.symm (p.map _)) n0
  refine ⟨from_rows e (fun q hq => ?_) n, sor_eq n h.good.srt fun x => ?_⟩
  · rcases List.mem_cons.mp (p.mem_iff.mp hq) with rfl | hq
    · exact ⟨by decide, by decide +kernel⟩
    · have := h.good.gt q hq
      exact ⟨by omega, (h.good.mem q hq).1⟩
  · rw [atR_perm n p, atR_cons]
    by_cases z : (4 : Int) = x
    · rw [if_pos z, ← z, atR_none k4]
    · rw [if_neg z]
theorem m_from {ds : List PyData} {g r : Row} (e : ds.map pairOf = g.map some) (p : g.Perm ((4, "") :: r)) (h : Rw r) : mFrom (.list ds) = .ok (.tuple (rowD r)) ∧ mFrom (.tuple ds) = .ok (.tuple (rowD r)) := by
  obtain ⟨h1, h2⟩ := from_good e p h
  have q : ∀ d, itemsD d = some ds → mFrom d = .ok (.tuple (rowD r)) := fun d hd => by
    rw [mFrom, hd]
    dsimp only
    rw [h1]
    dsimp only
    rw [h2]
  exact ⟨q _ rfl, q _ rfl⟩
def badD : List PyData := [.tuple [.int 4, .str ""], .tuple [.int 4, .str "1"], .tuple [.int (-1), .str "1"], .tuple [.bool true, .str "1"], .tuple [.int 5, .str "13"], .tuple [.int 5, .int 1], .tuple [.int 5, .none], .tuple [.int 5], .tuple [.int 5, .str "1", .str "2"], .str "51", .none]
theorem bad_ok {g r : Row} (pm : g.Perm ((4, "") :: r)) : ∀ b ∈ badD, noL b = true ∧ (∀ q, pairOf b = some q → 0 ≤ q.1 → okW q.2 = true → q.1 ∈ keys g) ∧ ∀ c w, itemsD b = some [c, .str w] → w.length ≤ 20000 := by
  have k4 : (4 : Int) ∈ keys g := List.Perm.mem_iff (List.Perm.map (·.1) pm) |>.mpr (by simp)
  intro b hb
  simp only [badD, List.mem_cons, List.not_mem_nil, or_false] at hb
  rcases hb with rfl | rfl | rfl | rfl | rfl | rfl | rfl | rfl | rfl | rfl | rfl
  · exact ⟨rfl, fun q e _ _ => by cases e; exact k4, fun c w e => by cases e; exact show ("" : Str).length ≤ 20000 by decide +kernel⟩
  · exact ⟨rfl, fun q e _ _ => by cases e; exact k4, fun c w e => by cases e; exact show ("1" : Str).length ≤ 20000 by decide +kernel⟩
  · exact ⟨rfl, fun q e z _ => by cases e; exact absurd z (by decide), fun c w e => by cases e; exact show ("1" : Str).length ≤ 20000 by decide +kernel⟩
  · exact ⟨rfl, fun q e _ _ => (by cases e), fun c w e => by cases e; exact show ("1" : Str).length ≤ 20000 by decide +kernel⟩
  · exact ⟨rfl, fun q e _ z => by cases e; exact absurd z (by decide +kernel), fun c w e => by cases e; exact show ("13" : Str).length ≤ 20000 by decide +kernel⟩
  · exact ⟨rfl, fun q e _ _ => (by cases e), fun c w e => by cases e⟩
  · exact ⟨rfl, fun q e _ _ => (by cases e), fun c w e => by cases e⟩
  · exact ⟨rfl, fun q e _ _ => (by cases e), fun c w e => by cases e⟩
  · exact ⟨rfl, fun q e _ _ => (by cases e), fun c w e => by cases e⟩
  · exact ⟨rfl, fun q e _ _ => (by cases e), fun c w e => by cases e⟩
  · exact ⟨rfl, fun q e _ _ => (by cases e), fun c w e => by cases e⟩
section
variable {P : Program} {w : World} {K : PySem.W.Frag} {mg : Str → Option Value} {base : Heap}
abbrev N__law_from : List Str := ["row", "draws", "given", "entry", "item", "kept", "bad", "spoilt", "wrong", "due"]
abbrev P__law_from : List Str := ["row", "draws"]
theorem sc__law_from : FnScope N__law_from P__law_from (defScope s__law_from) := ⟨rfl, rfl, rfl, by decide +kernel, rfl, by decide +kernel, by decide +kernel⟩
theorem bn__law_from : ∀ (kV doc pm : Value) (an : Option Addr) (cdv ct : Value) (us : List Value), us.length = P__law_from.length → bindArgs (PySem.W.fnOf "_law_from" "_law_from" (defArgs s__law_from) (defBody s__law_from) (defScope s__law_from) .none kV doc pm an cdv ct) ⟨us, []⟩ = pure (P__law_from.zip us) := fun _ _ _ _ _ _ us hl => match us, hl with | [_, _], _ => rfl
def spLFrom (K : PySem.W.Frag) : Sp := fun vs H Q _ => ∃ d l r, vs = [.ref l, .ref d] ∧ DrawsAt d H ∧ RowAt K d l r H ∧ Rw r ∧ ∀ H', Dk d H H' → Q (.bl true) H'
theorem k__law_from (T : Txt K mg) : Knows P w K mg base CX0 7 "_law_from" P__law_from (spLFrom K) := by
  have k__law_pick := k__law_pick (P := P) (w := w) (base := base) T
  have k__law_is := k__law_is (P := P) (w := w) (base := base) T
  have k__law_take := k__law_take (P := P) (w := w) (base := base) T
  have k__law_asked := k__law_asked (P := P) (w := w) (base := base) T
  refine knows_of T.g__law_from T.d__law_from bn__law_from fun fd F => F.ok sc__law_from (fun vs H Q E h => ?_) (fun cdv A outer s H vs Q E hr h => ?_)
  · obtain ⟨d, l, r, rfl, hd, hrow, hw, q⟩ := h
    rfl
  · obtain ⟨d, l, r, rfl, hd, hrow, hw, q⟩ := h
    have nd := sc__law_from.nd
    refine ⟨_, (pss_cons (ps_set (i := 2) nd rfl (Or.inl rfl) (pe_lst pa_nil))
      (pss_cons (ps_for (passes_of rfl) rfl (pi_list (pv 0)) (pg_name (i := 3) nd rfl (Or.inl rfl)) (pss_cons (ps_set (i := 4) nd rfl (Or.inl rfl) (pe_lst (pa_cons (pe_ix (ix_tupK (K := K)) (pv 3) pe_int (fun _ _ => rfl)) (pa_cons (pe_ix (ix_tupK (K := K)) (pv 3) pe_int (fun _ _ => rfl)) pa_nil))))
      (pss_cons (ps_if (pt_cmpR op_eq (pe_k k__law_take (hr.mono (by decide)) pass0 (pa_cons (pv 1) (pa_cons pe_int pa_nil))) pe_int (nomark _)) (pss_one (ps_set (i := 4) nd rfl (Or.inl rfl) (pe_tup (pa_cons (pe_ix (ix_tupK (K := K)) (pv 3) pe_int (fun _ _ => rfl)) (pa_cons (pe_ix (ix_tupK (K := K)) (pv 3) pe_int (fun _ _ => rfl)) pa_nil))))) pss_nil)
      (pss_one (ps_expr (pe_bm PySem.F.plainAttrs_list PySem.F.slot_list_insert PySem.F.type_list_insert mt_insert (pv 2) (pa_cons (pe_k k__law_pick (hr.mono (by decide)) pass0 (pa_cons (pv 1) (pa_cons (pe_op op_add (pe_callB (lenK (K := K)) rfl T.f_len (by decide +kernel) (pa_cons (pv 2) pa_nil)) pe_int) pa_nil))) (pa_cons (pv 4) pa_nil))))))))
      (pss_cons (ps_expr (pe_bm PySem.F.plainAttrs_list PySem.F.slot_list_insert PySem.F.type_list_insert mt_insert (pv 2) (pa_cons (pe_k k__law_pick (hr.mono (by decide)) pass0 (pa_cons (pv 1) (pa_cons (pe_op op_add (pe_callB (lenK (K := K)) rfl T.f_len (by decide +kernel) (pa_cons (pv 2) pa_nil)) pe_int) pa_nil))) (pa_cons (pe_tup (pa_cons pe_int (pa_cons pe_str pa_nil))) pa_nil))))
      (pss_cons (ps_set (i := 5) nd rfl (Or.inl rfl) (pe_callTy (listK (K := K)) rfl T.f_list (by decide +kernel) (pa_cons (pv 2) pa_nil)))
      (pss_cons (ps_if (pt_not (pt_val (pe_k k__law_is (hr.mono (by decide)) pass0 (pa_cons (pe_k k__law_asked (hr.mono (by decide)) pass0 (pa_cons pe_str (pa_cons (pe_lst (pa_cons (pv 2) pa_nil)) pa_nil))) (pa_cons (pe_callTy (tupleK (K := K)) rfl T.f_tuple (by decide +kernel) (pa_cons (pv 0) pa_nil)) pa_nil))))) (pss_one (ps_ret pe_bl)) pss_nil)
      (pss_cons (ps_if (PW.pt (pw_or (pt_cmpR (nePK (K := K) hr.units) (pv 2) (pv 5) (nomark _)) (pw_or1 (pt_not (pt_val (pe_k k__law_is (hr.mono (by decide)) pass0 (pa_cons (pe_k k__law_asked (hr.mono (by decide)) pass0 (pa_cons pe_str (pa_cons (pe_lst (pa_cons (pe_callTy (tupleK (K := K)) rfl T.f_tuple (by decide +kernel) (pa_cons (pv 2) pa_nil)) pa_nil)) pa_nil))) (pa_cons (pe_callTy (tupleK (K := K)) rfl T.f_tuple (by decide +kernel) (pa_cons (pv 0) pa_nil)) pa_nil)))))))) (pss_one (ps_ret pe_bl)) pss_nil)
      (pss_cons (ps_set (i := 6) nd rfl (Or.inl rfl) (pe_ix (ix_listK (K := K)) (pe_lst (pa_cons (pe_tup (pa_cons pe_int (pa_cons pe_str pa_nil))) (pa_cons (pe_tup (pa_cons pe_int (pa_cons pe_str pa_nil))) (pa_cons (pe_tup (pa_cons (pe_un un_neg pe_int) (pa_cons pe_str pa_nil))) (pa_cons (pe_tup (pa_cons pe_bl (pa_cons pe_str pa_nil))) (pa_cons (pe_tup (pa_cons pe_int (pa_cons pe_str pa_nil))) (pa_cons (pe_tup (pa_cons pe_int (pa_cons pe_int pa_nil))) (pa_cons (pe_tup (pa_cons pe_int (pa_cons pe_non pa_nil))) (pa_cons (pe_tup (pa_cons pe_int pa_nil)) (pa_cons (pe_tup (pa_cons pe_int (pa_cons pe_str (pa_cons pe_str pa_nil)))) (pa_cons pe_str (pa_cons pe_non pa_nil)))))))))))) (pe_k k__law_take (hr.mono (by decide)) pass0 (pa_cons (pv 1) (pa_cons pe_int pa_nil))) (fun _ _ => rfl)))
      (pss_cons (ps_set (i := 7) nd rfl (Or.inl rfl) (pe_callTy (listK (K := K)) rfl T.f_list (by decide +kernel) (pa_cons (pv 2) pa_nil)))
      (pss_cons (ps_expr (pe_bm PySem.F.plainAttrs_list PySem.F.slot_list_insert PySem.F.type_list_insert mt_insert (pv 7) (pa_cons (pe_k k__law_pick (hr.mono (by decide)) pass0 (pa_cons (pv 1) (pa_cons (pe_op op_add (pe_callB (lenK (K := K)) rfl T.f_len (by decide +kernel) (pa_cons (pv 7) pa_nil)) pe_int) pa_nil))) (pa_cons (pv 6) pa_nil))))
      (pss_cons (ps_for (passes_of rfl) rfl (pi_tup (pe_tup (pa_cons (pv 7) (pa_cons (pe_callTy (tupleK (K := K)) rfl T.f_tuple (by decide +kernel) (pa_cons (pv 7) pa_nil)) (pa_cons pe_non (pa_cons pe_str (pa_cons pe_int pa_nil))))))) (pg_name (i := 8) nd rfl (Or.inl rfl)) (pss_cons (ps_set (i := 9) nd rfl (Or.inl rfl) (pe_lst (pa_cons pe_str pa_nil)))
      (pss_one (ps_if (pt_cmpR (nePK (K := K) hr.units) (pe_k k__law_asked (hr.mono (by decide)) pass0 (pa_cons pe_str (pa_cons (pe_lst (pa_cons (pv 8) pa_nil)) pa_nil))) (pv 9) (nomark _)) (pss_one (ps_ret pe_bl)) pss_nil))))
      (pss_one (ps_ret pe_bl)))))))))))), ?_⟩
    walk_at "rd"
    walk_at "rs"
    refine ⟨by decide, fun p hp => ?_⟩
    have pd : p ≠ d := hd.ne hp
    refine loop_row hd hrow (fun m σ H' => Dk d H H' ∧ ∃ (its : List (V × (Int × Str))) (a b c e f g h : Option V), σ = [some (.ref l), some (.ref d), some (.ref p), a, b, c, e, f, g, h] ∧ H' p = some (.lst (its.map (·.1))) ∧ ItemsAt [d, p] H' its ∧ (its.map (·.2) ++ m).Perm r)
      ⟨hd.dk_new hp, [], _, _, _, _, _, _, _, rfl, upd_same, by intro e he; simp at he, by simp⟩ (fun _ _ _ h => h.1) (fun y e m σ H1 hm h hy N hN => ?_) (fun σ H1 h => ?_)
    · obtain ⟨k, its, a, b, c, e', f, g, h', rfl, ep, hits, pm⟩ := h
      obtain ⟨t, rfl, hS⟩ := ent_at hy
      obtain ⟨c0, u⟩ := e
      walk_at "rd"
      walk_at "rs"
      have big : ∀ k : Nat, k ≤ 20 → k < sizeLine := fun k hk => Nat.lt_of_le_of_lt hk (by decide)
      have il : its.length ≤ 7 := by
        have h1 := pm.length_eq
        have h2 := hw.len
        rw [List.length_append, List.length_map] at h1
        omega
      have fin : ∀ (H3 : Hp) (v : V), Dk d H1 H3 → ItemAt [d, p] H3 v (c0, u) → tyV K "list" (.ref p) H3 ∧ rLenQ K [.ref p] H3 fun x H1 => ∃ i, x = .int i ∧ spTake [.ref d, .int (i + 1)] H1 (fun x H1 => ∃ x_2 x_3 x_4, (x = .int x_3 ∧ v = x_4) ∧ H1 p = some (.lst x_2) ∧ x_2.length < sizeLine ∧ 0 ≤ x_3 ∧ x_3 < 2 ^ 63 ∧
          N [some (.ref l), some (.ref d), some (.ref p), some (.ref t), some v, c, e', f, g, h'] (upd H1 p (.lst (((List.take x_3.toNat x_2).append [x_4]).append (List.drop x_3.toNat x_2))))) E0 := fun H3 v k3 iv => by
        have e3 := k3.at_ pd ep
        refine ⟨tyv_list (SqL.of e3), p, _, rfl, .inl (SqL.of e3), _, rfl, ?_⟩
        rw [List.length_map]
        refine ⟨d, _, rfl, by omega, k3.2, fun i H4 i0 i1 k4 => ?_⟩
        have k34 := k3.trans k4
        have e4 := k34.at_ pd ep
        refine ⟨_, i, _, ⟨rfl, rfl⟩, e4, big _ (by rw [List.length_map]; omega), i0, by omega, ?_⟩
        obtain ⟨its', g1, g2, g3, g4⟩ := ins_item (k := i.toNat) hd hp (k.trans k34) (hits.keep (kept_mono k34.1 (by simp))) (iv.keep (kept_mono k4.1 (by simp)))
        show N _ (upd H4 p (.lst (((its.map (·.1)).take i.toNat ++ [v]) ++ (its.map (·.1)).drop i.toNat)))
        rw [g1]
        refine hN _ _ ⟨g4, its', _, _, _, _, _, _, _, rfl, upd_same, g2, ?_⟩
        refine List.Perm.trans ?_ pm
        refine (g3.append_right m).trans ?_
        exact List.perm_middle.symm
      obtain ⟨nd', ed', _⟩ := k.2
      refine ixT0 hS (ixT1 hS ⟨by decide, fun q1 hq1 => ?_⟩)
      have t1 := same_new (o := .lst [V.int c0, V.str u]) hq1
      have i1 := item_new (d := d) (p := p) (o := .lst [V.int c0, V.str u]) hq1 ed' ep (.inl rfl)
      have kk1 := Dk.same k.2 t1
      refine ⟨d, 2, rfl, by decide, kk1.2, fun x H3 x0 x1 k3 => ?_⟩
      have k13 := kk1.trans k3
      walk_at "rs"
      refine ite2 (fun _ => ?_) (fun _ => fin _ _ k13 (i1.keep (kept_mono k3.1 (by simp))))
      have hS3 := Dk_tup k.2 k13 hS
      refine ixT0 hS3 (ixT1 hS3 ⟨by decide, fun q2 hq2 => ?_⟩)
      have t2 := same_new (o := .tup [V.int c0, V.str u]) hq2
      obtain ⟨nd3, ed3, _⟩ := k13.2
      exact fin _ _ (k13.trans (Dk.same k13.2 t2)) (item_new hq2 ed3 (k13.at_ pd ep) (.inr rfl))
    · obtain ⟨k, its, a, b, c, e', f, g, h', rfl, ep, hits, pm⟩ := h
      rw [List.append_nil] at pm
      have il : its.length ≤ 7 := by
        have h1 := pm.length_eq
        have h2 := hw.len
        rw [List.length_map] at h1
        omega
      have big : ∀ k : Nat, k ≤ 20 → k < sizeLine := fun k hk => Nat.lt_of_le_of_lt hk (by decide)
      walk_at "rd"
      walk_at "rs"
      refine ⟨tyv_list (SqL.of ep), p, _, rfl, .inl (SqL.of ep), _, rfl, ?_⟩
      rw [List.length_map]
      refine ⟨d, _, rfl, by omega, k.2, fun i H4 i0 i1 k4 => ⟨by decide, fun q1 hq1 => ?_⟩⟩
      have t1 := same_new (o := .tup [V.int 4, V.str ""]) hq1
      have e4 := k4.at_ pd ep
      obtain ⟨nd4, ed4, _⟩ := id k4.2
      have it1 := item_new (d := d) (p := p) (o := .tup [V.int 4, V.str ""]) hq1 ed4 e4 (.inr rfl)
      have k4' := k4.trans (Dk.same k4.2 t1)
      refine ⟨_, i, _, ⟨rfl, rfl⟩, t1 _ _ e4, big _ (by rw [List.length_map]; omega), i0, by omega, ?_⟩
      obtain ⟨its1, g1, hit1, g3, k5⟩ := ins_item (k := i.toNat) hd hp (k.trans k4') (hits.keep (kept_mono k4'.1 (by simp))) it1
      have pm1 := g3.trans (pm.cons ((4 : Int), ("" : Str)))
      show rListQ K [_] (upd _ p (.lst (((its.map (·.1)).take i.toNat ++ [V.ref q1]) ++ (its.map (·.1)).drop i.toNat))) _
      rw [g1]
      have e5 := upd_same (H := upd H4 q1 (.tup [V.int 4, V.str ""])) (a := p) (o := .lst (its1.map (·.1)))
      generalize upd (upd H4 q1 (.tup [V.int 4, V.str ""])) p _ = H5 at hit1 k5 e5 ⊢
      obtain ⟨ds, dp1, dp2, dp3, dp4⟩ := hit1.dp (K := K)
      have il1 : its1.length ≤ 8 := by
        have h1 := pm1.length_eq
        have h2 := hw.len
        rw [List.length_map, List.length_cons] at h1
        omega
      obtain ⟨mf1, mf2⟩ := m_from dp2 pm1 hw
      have DL : Dp K H5 (.ref p) (.list ds) := .lst (SqL.of e5) dp1
      have dl : PyData.depth (.list ds) ≤ 64 := by
        have e : PyData.depth (.list ds) = PyData.depthAll ds + 1 ∨ PyData.depth (.list ds) = 1 + PyData.depthAll ds := by
          first | exact .inl rfl | exact .inr rfl
        omega
      have lds : ds.length ≤ 8 := by
        have := dp1.len
        rw [List.length_map] at this
        omega
      have wq : ∀ q ∈ its1.map (·.2), q.2.length ≤ 1600 := fun q hq => by
        rcases List.mem_cons.mp (pm1.mem_iff.mp hq) with rfl | hq
        · exact show ("" : Str).length ≤ 1600 by decide +kernel
        · exact hw.wl q hq
      have fp : ∀ d, itemsD d = some ds → FitP d := fun d hd ds' e => by
        rw [hd] at e
        cases e
        refine ⟨by omega, fun e he c w hcw => ?_⟩
        obtain ⟨q, hq, e2⟩ := dp3 e he
        rw [e2] at hcw
        cases hcw
        have := wq q hq
        omega
      have row5 := hrow.dk k5 hd
      refine ⟨p, _, rfl, .inl (SqL.of e5), fun pk hpk => ?_⟩
      have s6 := same_new (o := .lst (its1.map (·.1))) hpk
      have e6 := upd_same (H := H5) (a := pk) (o := .lst (its1.map (·.1)))
      generalize upd H5 pk _ = H6 at s6 e6 ⊢
      have DK : Dp K H6 (.ref pk) (.list ds) := .lst (SqL.of e6) (dp1.same s6)
      refine ⟨by decide, fun q2 hq2 => ?_⟩
      have s7 := s6.trans (same_new (o := .lst [V.ref p]) hq2)
      have s7' := same_new (o := .lst [V.ref p]) hq2
      refine ⟨_, q2, _, _, rfl, SqL.of upd_same, .sfrom (DL.same s7) (fp _ rfl), fun v8 H8 s8 h8 => ?_⟩
      rw [mf1] at h8
      obtain ⟨_, xs8, el8, hx8⟩ := row5.same (s7.trans s8)
      refine tup_of el8 hx8 fun v9 H9 s9 h9 => ⟨v8, v9, _, rfl, h9, .inr ⟨r, rfl, h8.same s9⟩, fun H10 s10 => ⟨_, rfl, ?_⟩⟩
      walk_at "rs"
      have t10 := s7.trans (s8.trans (s9.trans s10))
      refine ne_same (DL.same t10) (DK.same (s7'.trans (s8.trans (s9.trans s10)))) dl ⟨_, rfl, ?_⟩
      walk_at "rs"
      refine tup_of (t10 _ _ e5) (dp1.same t10) fun v11 H11 s11 h11 => ⟨by decide, fun q3 hq3 => ?_⟩
      have s12 := same_new (o := .lst [v11]) hq3
      refine ⟨_, q3, _, _, rfl, SqL.of upd_same, .sfrom (h11.same s12) (fp _ rfl), fun v13 H13 s13 h13 => ?_⟩
      rw [mf2] at h13
      have t13 := t10.trans (s11.trans (s12.trans s13))
      obtain ⟨_, xs13, el13, hx13⟩ := row5.same t13
      refine tup_of el13 hx13 fun v14 H14 s14 h14 => ⟨v13, v14, _, rfl, h14, .inr ⟨r, rfl, h13.same s14⟩, fun G0 s15 => ⟨_, rfl, ?_⟩⟩
      walk_at "rs"
      have SG := t13.trans (s14.trans s15)
      refine ⟨by decide, fun b1 hb1 => ?_⟩
      have u1 := same_new (o := .tup [V.int 4, V.str ""]) hb1
      have f1 := upd_same (H := G0) (a := b1) (o := .tup [V.int 4, V.str ""])
      generalize upd G0 b1 _ = G1 at u1 f1 ⊢
      replace SG := SG.trans u1
      refine ⟨by decide, fun b2 hb2 => ?_⟩
      have u2 := same_new (o := .tup [V.int 4, V.str "1"]) hb2
      have f2 := upd_same (H := G1) (a := b2) (o := .tup [V.int 4, V.str "1"])
      generalize upd G1 b2 _ = G2 at u2 f2 ⊢
      replace f1 := u2 _ _ f1
      replace SG := SG.trans u2
      refine ⟨by decide, fun b3 hb3 => ?_⟩
      have u3 := same_new (o := .tup [V.int (-1), V.str "1"]) hb3
      have f3 := upd_same (H := G2) (a := b3) (o := .tup [V.int (-1), V.str "1"])
      generalize upd G2 b3 _ = G3 at u3 f3 ⊢
      replace f1 := u3 _ _ f1
      replace f2 := u3 _ _ f2
      replace SG := SG.trans u3
      refine ⟨by decide, fun b4 hb4 => ?_⟩
      have u4 := same_new (o := .tup [V.bl true, V.str "1"]) hb4
      have f4 := upd_same (H := G3) (a := b4) (o := .tup [V.bl true, V.str "1"])
      generalize upd G3 b4 _ = G4 at u4 f4 ⊢
      replace f1 := u4 _ _ f1
      replace f2 := u4 _ _ f2
      replace f3 := u4 _ _ f3
      replace SG := SG.trans u4
      refine ⟨by decide, fun b5 hb5 => ?_⟩
      have u5 := same_new (o := .tup [V.int 5, V.str "13"]) hb5
      have f5 := upd_same (H := G4) (a := b5) (o := .tup [V.int 5, V.str "13"])
      generalize upd G4 b5 _ = G5 at u5 f5 ⊢
      replace f1 := u5 _ _ f1
      replace f2 := u5 _ _ f2
      replace f3 := u5 _ _ f3
      replace f4 := u5 _ _ f4
      replace SG := SG.trans u5
      refine ⟨by decide, fun b6 hb6 => ?_⟩
      have u6 := same_new (o := .tup [V.int 5, V.int 1]) hb6
      have f6 := upd_same (H := G5) (a := b6) (o := .tup [V.int 5, V.int 1])
      generalize upd G5 b6 _ = G6 at u6 f6 ⊢
      replace f1 := u6 _ _ f1
      replace f2 := u6 _ _ f2
      replace f3 := u6 _ _ f3
      replace f4 := u6 _ _ f4
      replace f5 := u6 _ _ f5
      replace SG := SG.trans u6
      refine ⟨by decide, fun b7 hb7 => ?_⟩
      have u7 := same_new (o := .tup [V.int 5, V.non]) hb7
      have f7 := upd_same (H := G6) (a := b7) (o := .tup [V.int 5, V.non])
      generalize upd G6 b7 _ = G7 at u7 f7 ⊢
      replace f1 := u7 _ _ f1
      replace f2 := u7 _ _ f2
      replace f3 := u7 _ _ f3
      replace f4 := u7 _ _ f4
      replace f5 := u7 _ _ f5
      replace f6 := u7 _ _ f6
      replace SG := SG.trans u7
      refine ⟨by decide, fun b8 hb8 => ?_⟩
      have u8 := same_new (o := .tup [V.int 5]) hb8
      have f8 := upd_same (H := G7) (a := b8) (o := .tup [V.int 5])
      generalize upd G7 b8 _ = G8 at u8 f8 ⊢
      replace f1 := u8 _ _ f1
      replace f2 := u8 _ _ f2
      replace f3 := u8 _ _ f3
      replace f4 := u8 _ _ f4
      replace f5 := u8 _ _ f5
      replace f6 := u8 _ _ f6
      replace f7 := u8 _ _ f7
      replace SG := SG.trans u8
      refine ⟨by decide, fun b9 hb9 => ?_⟩
      have u9 := same_new (o := .tup [V.int 5, V.str "1", V.str "2"]) hb9
      have f9 := upd_same (H := G8) (a := b9) (o := .tup [V.int 5, V.str "1", V.str "2"])
      generalize upd G8 b9 _ = G9 at u9 f9 ⊢
      replace f1 := u9 _ _ f1
      replace f2 := u9 _ _ f2
      replace f3 := u9 _ _ f3
      replace f4 := u9 _ _ f4
      replace f5 := u9 _ _ f5
      replace f6 := u9 _ _ f6
      replace f7 := u9 _ _ f7
      replace f8 := u9 _ _ f8
      replace SG := SG.trans u9
      refine ⟨by decide, fun pb hpb => ?_⟩
      have u10 := same_new (o := .lst [V.ref b1, V.ref b2, V.ref b3, V.ref b4, V.ref b5, V.ref b6, V.ref b7, V.ref b8, V.ref b9, V.str "51", V.non]) hpb
      have f10 := upd_same (H := G9) (a := pb) (o := .lst [V.ref b1, V.ref b2, V.ref b3, V.ref b4, V.ref b5, V.ref b6, V.ref b7, V.ref b8, V.ref b9, V.str "51", V.non])
      generalize upd G9 pb _ = G10 at u10 f10 ⊢
      replace f1 := u10 _ _ f1
      replace f2 := u10 _ _ f2
      replace f3 := u10 _ _ f3
      replace f4 := u10 _ _ f4
      replace f5 := u10 _ _ f5
      replace f6 := u10 _ _ f6
      replace f7 := u10 _ _ f7
      replace f8 := u10 _ _ f8
      replace f9 := u10 _ _ f9
      have pbd : pb ≠ d := (k5.2.same SG).ne hpb
      replace SG := SG.trans u10
      have BD : DpAll K G10 [V.ref b1, V.ref b2, V.ref b3, V.ref b4, V.ref b5, V.ref b6, V.ref b7, V.ref b8, V.ref b9, V.str "51", V.non] badD := (.cons (.tup (SqT.of f1) (.cons (.int _) (.cons (.str _) .nil))) (.cons (.tup (SqT.of f2) (.cons (.int _) (.cons (.str _) .nil))) (.cons (.tup (SqT.of f3) (.cons (.int _) (.cons (.str _) .nil))) (.cons (.tup (SqT.of f4) (.cons (.bl _) (.cons (.str _) .nil))) (.cons (.tup (SqT.of f5) (.cons (.int _) (.cons (.str _) .nil))) (.cons (.tup (SqT.of f6) (.cons (.int _) (.cons (.int _) .nil))) (.cons (.tup (SqT.of f7) (.cons (.int _) (.cons .non .nil))) (.cons (.tup (SqT.of f8) (.cons (.int _) .nil)) (.cons (.tup (SqT.of f9) (.cons (.int _) (.cons (.str _) (.cons (.str _) .nil)))) (.cons (.str _) (.cons .non .nil)))))))))))

      have kG := Dk.same k5.2 SG
      refine ⟨d, 11, rfl, by decide, kG.2, fun n Hc n0 n1 kc => ?_⟩
      have lG := kG.2.lists
      have BDc := BD.kept kc.1 lG (by decide)
      have fc := kc.at_ pbd f10
      obtain ⟨n', rfl⟩ : ∃ n' : Nat, n = n' := ⟨n.toNat, by omega⟩
      obtain ⟨v, ev⟩ : ∃ v, [V.ref b1, V.ref b2, V.ref b3, V.ref b4, V.ref b5, V.ref b6, V.ref b7, V.ref b8, V.ref b9, V.str "51", V.non][n']? = some v := ⟨_, List.getElem?_eq_getElem (by simp; omega)⟩
      obtain ⟨bd, ebd, hbd⟩ := BDc.get ev
      obtain ⟨nb, pbad, fbad⟩ := bad_ok pm1 bd (List.mem_of_getElem? ebd)
      refine ⟨pb, _, n', v, rfl, rfl, SqL.of fc, atI_nat ev, ?_⟩
      have kHc := kG.trans kc
      have epc := kHc.at_ pd e5
      have hitc := hit1.keep (kept_mono kHc.1 (M' := [d, p]) (by simp))
      refine ⟨p, _, rfl, .inl (SqL.of epc), fun pS hpS => ?_⟩
      have pSd : pS ≠ d := kc.2.ne hpS
      have us := same_new (o := .lst (its1.map (·.1))) hpS
      have eS := upd_same (H := Hc) (a := pS) (o := .lst (its1.map (·.1)))
      generalize upd Hc pS _ = Hd at us eS ⊢
      have kS := Dk.same kc.2 us
      refine ⟨tyv_list (SqL.of eS), pS, _, rfl, .inl (SqL.of eS), _, rfl, ?_⟩
      rw [List.length_map]
      refine ⟨d, _, rfl, by omega, kS.2, fun j He j0 j1 ke => ?_⟩
      have eSe := ke.at_ pSd eS
      have kce := kS.trans ke
      refine ⟨pS, rfl, _, j, _, ⟨rfl, rfl⟩, eSe, big _ (by rw [List.length_map]; omega), j0, by omega, ?_⟩
      show rTupQ K [_] (upd He pS (.lst (((its1.map (·.1)).take j.toNat ++ [v]) ++ (its1.map (·.1)).drop j.toNat))) _
      have hite : ItemsAt [pS, d, p] He its1 := fun e he => ((hitc e he).more hpS).keep (kept_mono kce.1 (by simp))
      have hbe := hbd.kept kce.1 kc.2.lists nb
      have hbf := dp_put (o := .lst (((its1.map (·.1)).take j.toNat ++ [v]) ++ (its1.map (·.1)).drop j.toNat)) eSe nb hbe
      have hitf := hite.keep (kept_put (o := .lst (((its1.map (·.1)).take j.toNat ++ [v]) ++ (its1.map (·.1)).drop j.toNat)) (show pS ∈ [pS, d, p] by simp))
      have kf := Dk.put (o := .lst (((its1.map (·.1)).take j.toNat ++ [v]) ++ (its1.map (·.1)).drop j.toNat)) kc.2 kce hpS
      have eF := upd_same (H := He) (a := pS) (o := .lst (((its1.map (·.1)).take j.toNat ++ [v]) ++ (its1.map (·.1)).drop j.toNat))
      generalize upd He pS _ = Hf at hbf hitf kf eF ⊢
      obtain ⟨dsf, f1', f2', f3', f4'⟩ := hitf.dp (K := K)
      have ldf : dsf.length ≤ 8 := by
        have := f1'.len
        rw [List.length_map] at this
        omega
      have hds : ∃ ds', ds' = dsf.take j.toNat ++ [bd] ++ dsf.drop j.toNat := ⟨_, rfl⟩
      obtain ⟨ds', eds⟩ := hds
      have dF : DpAll K Hf (((its1.map (·.1)).take j.toNat ++ [v]) ++ (its1.map (·.1)).drop j.toNat) ds' := by
        rw [eds]
        exact ((f1'.take _).snoc hbf).append (f1'.drop _)
      have pds : ds'.Perm (bd :: dsf) := by
        rw [eds, List.append_assoc]
        have h := List.perm_middle (a := bd) (l₁ := dsf.take j.toNat) (l₂ := dsf.drop j.toNat)
        rw [List.take_append_drop] at h
        exact h
      have nof := from_bads f2' pds pbad
      have fp' : ∀ d', itemsD d' = some ds' → FitP d' := fun d' hd' ds'' e => by
        rw [hd'] at e
        cases e
        have hl := pds.length_eq
        rw [List.length_cons] at hl
        refine ⟨by omega, fun e he c w hcw => ?_⟩
        rcases List.mem_cons.mp (pds.mem_iff.mp he) with rfl | he
        · exact fbad c w hcw
        · obtain ⟨q, hq, e2⟩ := f3' e he
          rw [e2] at hcw
          cases hcw
          have := wq q hq
          omega
      have mfr : ∀ d', itemsD d' = some ds' → mFrom d' = .stacks := fun d' hd' => by
        rw [mFrom, hd']
        dsimp only
        rw [nof]
      refine tup_of eF dF fun vt Hg sg hg => ⟨by decide, fun pw hpw => ?_⟩
      have sh := same_new (o := .tup [V.ref pS, vt, V.non, V.str "", V.int 7]) hpw
      have eh := upd_same (H := Hg) (a := pw) (o := .tup [V.ref pS, vt, V.non, V.str "", V.int 7])
      generalize upd Hg pw _ = Hh at sh eh ⊢
      have sfh := sg.trans sh
      have hx : Dp K Hh (.ref pw) (.tuple [.list ds', .tuple ds', .none, .str "", .int 7]) := .tup (SqT.of eh) (.cons (.lst (SqL.of (sfh _ _ eF)) (dF.same sfh)) (.cons (hg.same sh) (.cons .non (.cons (.str _) (.cons (.int _) .nil)))))
      refine loopT_same (H0 := Hh) hx (fun _ σ H' => Same Hh H' ∧ ∃ y z, σ = [some (.ref l), some (.ref d), some (.ref p), a, b, some (.ref pk), some v, some (.ref pS), y, z]) ⟨.refl _, _, _, rfl⟩ (fun _ _ _ h => h.1) (fun y dd l' σ Hi hm h hy => ?_) (fun σ Hi h => ?_)
      · obtain ⟨si, y', z', rfl⟩ := h
        have hdd : FitP dd ∧ mFrom dd = .stacks := by
          simp only [List.mem_cons, List.not_mem_nil, or_false] at hm
          rcases hm with rfl | rfl | rfl | rfl | rfl
          · exact ⟨fp' _ rfl, mfr _ rfl⟩
          · exact ⟨fp' _ rfl, mfr _ rfl⟩
          · exact ⟨fun ds e => (by cases e), rfl⟩
          · exact ⟨fun ds e => (by cases e), rfl⟩
          · exact ⟨fun ds e => (by cases e), rfl⟩
        walk_at "rd"
        walk_at "rs"
        refine ⟨by decide, fun q4 hq4 => ⟨by decide, fun q5 hq5 => ?_⟩⟩
        have w1 := same_new (o := .lst [V.str "BadStacks"]) hq4
        have w2 := same_new (o := .lst [y]) hq5
        refine ⟨_, q5, _, _, rfl, SqL.of upd_same, .sfrom (hy.same (w1.trans w2)) hdd.1, fun vj Hj sj hj => ?_⟩
        rw [hdd.2] at hj
        refine ne_same hj (.lst (SqL.of (sj _ _ (w2 _ _ upd_same))) (.cons (.str _) .nil)) (by decide) ⟨_, rfl, ?_⟩
        walk_at "rs"
        exact si.trans (w1.trans (w2.trans sj))
      · obtain ⟨si, y', z', rfl⟩ := h
        walk_at "rd"
        walk_at "rs"
        exact q _ (k5.trans (kHc.trans (kf.trans (Dk.same kf.2 (sfh.trans si)))))
end
end K19

namespace K19
open PySem PySem.Spec PyProof.Rows L2 MeD MeK MeL
local macro_rules | `(tactic| walk_at "rd") => `(tactic| (dsimp only [gSub, tVar, tC, tOp, tUn, tCons, tNil, tTup, tLst, tCB, tK, tKS, tTest, tB, tAnd, tOr, tNot, tAndV, tOrV, tNotV, tIf, tIfS, tSeq, tNext, tRet, tRetN, tDrop, tAsg, gName, gTup, gNil, gCons, wipe, tYes, tSl, tPart, tNoPart, tBM, tBM0,  tBreak, tCont, gLst, tDGet, tDIn, tDNotIn, sDPut, tDNewK, MeL.for_tup_eq, MeL.for_list_eq, MeL.for_str_eq, MeL.for_rng_eq, MeL.for_row_eq, MeL.lc_tup_eq, MeL.lc_list_eq, MeL.lc_str_eq, MeL.lc_rng_eq, rI0, rI, rU, tRs1, cxOf, Cx.tr, Cx.suite, L2.start, List.map, List.replicate, List.length, List.append, HAppend.hAppend, Append.append, Nat.reduceAdd, Nat.reduceSub]))
local macro_rules | `(tactic| walk_at "rs") => `(tactic| (try simp only [List.getElem?_cons_zero, List.getElem?_cons_succ, Option.some.injEq, exists_eq_left', exists_eq_left, V.bl.injEq, V.int.injEq, V.str.injEq, V.ref.injEq, List.cons.injEq, and_true, true_and, and_self, exists_and_left, exists_eq', exists_eq, ↓reduceIte, reduceCtorEq, Bool.false_eq_true, false_and, exists_const, exists_false, decide_true, decide_false, Bool.not_true, Bool.not_false, List.set_cons_zero, List.set_cons_succ, MeK.tyv_str, or_false, MeL.for_row_eq, MeK.req_int, MeK.rne_int, MeK.req_str, MeK.rne_str, MeK.req_bl, MeK.rne_bl, decide_eq_true_eq, Bool.not_eq_true', decide_eq_false_iff_not, Int.natCast_inj]))
theorem fst_rw {m : Int} {r : Row} (h : Fst m r) : Rw r := ⟨h.good, by have := h.len; omega, fun p hp => Nat.le_trans (h.wl p hp) (by decide), h.no4⟩
section
variable {P : Program} {w : World} {K : PySem.W.Frag} {mg : Str → Option Value} {base : Heap}
abbrev N_law : List Str := ["script", "draws", "row", "other", "turn"]
abbrev P_law : List Str := ["script"]
theorem sc_law : FnScope N_law P_law (defScope s_law) := ⟨rfl, rfl, rfl, by decide +kernel, rfl, by decide +kernel, by decide +kernel⟩
theorem bn_law : ∀ (kV doc pm : Value) (an : Option Addr) (cdv ct : Value) (us : List Value), us.length = P_law.length → bindArgs (PySem.W.fnOf "law" "law" (defArgs s_law) (defBody s_law) (defScope s_law) .none kV doc pm an cdv ct) ⟨us, []⟩ = pure (P_law.zip us) := fun _ _ _ _ _ _ us hl => match us, hl with | [_], _ => rfl
def spLaw (K : PySem.W.Frag) : Sp := fun vs H Q _ => ∃ (a : Addr) (ns : List Int), vs = [.ref a] ∧ SqL K H a (ns.map V.int) ∧ ∀ H', Q (.bl true) H'
theorem ok_law (T : Txt K mg) {fd : FuncData} (F : FunD K "law" "law" (defArgs s_law) (defBody s_law) (defScope s_law) [] [] (He.ga K "law") fd) : FnOk P w K mg base CX0 8 (He.ga K "law") fd P_law (spLaw K) := by
  have k__law_draws := k__law_draws (P := P) (w := w) (base := base) T
  have k__law_first := k__law_first (P := P) (w := w) (base := base) T
  have k__law_second := k__law_second (P := P) (w := w) (base := base) T
  have k__law_two := k__law_two (P := P) (w := w) (base := base) T
  have k__law_one := k__law_one (P := P) (w := w) (base := base) T
  have k__law_from := k__law_from (P := P) (w := w) (base := base) T
  have k__law_words := k__law_words (P := P) (w := w) (base := base) T
  have k__law_refused := k__law_refused (P := P) (w := w) (base := base) T
  have k__law_bad := k__law_bad (P := P) (w := w) (base := base) T
  refine F.ok sc_law (fun vs H Q E h => ?_) (fun cdv A outer s H vs Q E hr h => ?_)
  · obtain ⟨a, ns, rfl, ha, q⟩ := h
    rfl
  · obtain ⟨a, ns, rfl, ha, q⟩ := h
    have nd := sc_law.nd
    refine ⟨_, (pss_cons (ps_set (i := 1) nd rfl (Or.inl rfl) (pe_k k__law_draws (hr.mono (by decide)) pass0 (pa_cons (pv 0) pa_nil)))
      (pss_cons (ps_set (i := 2) nd rfl (Or.inl rfl) (pe_k k__law_first (hr.mono (by decide)) pass0 (pa_cons (pv 1) pa_nil)))
      (pss_cons (ps_if (pt_cmpR op_eq (pe_callB (lenK (K := K)) rfl T.f_len (by decide +kernel) (pa_cons (pv 2) pa_nil)) pe_int (nomark _)) (pss_one (ps_set (i := 2) nd rfl (Or.inl rfl) (pe_lst (pa_cons (pe_tup (pa_cons pe_int (pa_cons pe_str pa_nil))) pa_nil)))) pss_nil)
      (pss_cons (ps_set (i := 3) nd rfl (Or.inl rfl) (pe_k k__law_second (hr.mono (by decide)) pass0 (pa_cons (pv 2) (pa_cons (pv 1) pa_nil))))
      (pss_cons (ps_if (PW.pt (pw_or (pt_not (pt_val (pe_k k__law_two (hr.mono (by decide)) pass0 (pa_cons (pv 2) (pa_cons (pv 3) pa_nil))))) (pw_or1 (pt_not (pt_val (pe_k k__law_two (hr.mono (by decide)) pass0 (pa_cons (pv 3) (pa_cons (pv 2) pa_nil)))))))) (pss_one (ps_ret pe_bl)) pss_nil)
      (pss_cons (ps_if (PW.pt (pw_or (pt_not (pt_val (pe_k k__law_one (hr.mono (by decide)) pass0 (pa_cons (pv 2) (pa_cons (pv 1) pa_nil))))) (pw_or1 (pt_not (pt_val (pe_k k__law_one (hr.mono (by decide)) pass0 (pa_cons (pv 3) (pa_cons (pv 1) pa_nil)))))))) (pss_one (ps_ret pe_bl)) pss_nil)
      (pss_cons (ps_if (PW.pt (pw_or (pt_not (pt_val (pe_k k__law_from (hr.mono (by decide)) pass0 (pa_cons (pv 2) (pa_cons (pv 1) pa_nil))))) (pw_or1 (pt_not (pt_val (pe_k k__law_words (hr.mono (by decide)) pass0 (pa_cons (pv 2) pa_nil))))))) (pss_one (ps_ret pe_bl)) pss_nil)
      (pss_cons (ps_for (passes_of rfl) rfl (pi_range1 rfl T.f_range (pa_cons pe_int pa_nil)) (pg_name (i := 4) nd rfl (Or.inl rfl)) (pss_one (ps_if (pt_not (pt_val (pe_k k__law_refused (hr.mono (by decide)) pass0 (pa_cons (pv 2) (pa_cons (pe_k k__law_bad (hr.mono (by decide)) pass0 (pa_cons (pv 2) (pa_cons (pv 1) pa_nil))) (pa_cons (pv 1) pa_nil)))))) (pss_one (ps_ret pe_bl)) pss_nil)))
      (pss_one (ps_ret (pe_and (pe_k k__law_two (hr.mono (by decide)) pass0 (pa_cons (pe_lst pa_nil) (pa_cons (pv 2) pa_nil))) (pe_and (pe_k k__law_one (hr.mono (by decide)) pass0 (pa_cons (pe_lst pa_nil) (pa_cons (pv 1) pa_nil))) (pe_one (pe_k k__law_two (hr.mono (by decide)) pass0 (pa_cons (pv 2) (pa_cons (pv 3) pa_nil)))))))))))))))), ?_⟩
    walk_at "rd"
    walk_at "rs"
    refine ⟨a, ns, rfl, ha, fun d H1 hdN s1 hd1 => ?_⟩
    refine ⟨d, rfl, hd1, fun l r H2 hf k2 hrow hl => ?_⟩
    obtain ⟨nl, xs, el, hx⟩ := id hrow
    have lx := hx.len
    rw [rowD, List.length_map] at lx
    refine ⟨l, xs, rfl, .inl (SqL.of el), ?_⟩
    walk_at "rs"
    refine ite2 (fun z => ?_) (fun z => ?_)
    refine ⟨by decide, fun p hp => ⟨by decide, fun p1 hp1 => ?_⟩⟩
    have t1 := same_new (o := .tup [V.int 0, V.str "2"]) hp
    have t2 := same_new (o := .lst [V.ref p]) hp1
    have hd' := k2.2.same (t1.trans t2)
    have hrow' : RowAt K d p1 [(0, "2")] (upd (upd H2 p (.tup [V.int 0, V.str "2"])) p1 (.lst [V.ref p])) :=
      ⟨(k2.2.same t1).ne hp1, _, upd_same, .cons (.tup (SqT.of (t2 _ _ upd_same)) (.cons (.int _) (.cons (.str _) .nil))) .nil⟩
    have hf' : Fst (10 ^ 30 + 98) [(0, "2")] := by
      refine ⟨⟨by decide, by decide +kernel, by decide +kernel, trivial⟩, by decide, fun q hq => ?_, fun q hq => ?_, fun q hq => ?_⟩
      · rw [List.mem_singleton.mp hq]; exact show ("2" : Str).length ≤ 780 by decide +kernel
      · rw [List.mem_singleton.mp hq]; exact show (0 : Int) ≤ 10 ^ 30 + 98 by decide
      · rw [List.mem_singleton.mp hq]; exact show (0 : Int) ≠ 4 by decide
    have ne' : ([(0, "2")] : Row) ≠ [] := by simp
    generalize upd (upd H2 p (.tup [V.int 0, V.str "2"])) p1 (.lst [V.ref p]) = H3 at hd' hrow' ⊢
    rotate_left
    have hd' := k2.2
    have hrow' := hrow
    have hf' := hf
    have ne' : r ≠ [] := fun e => z (by rw [lx, e]; rfl)
    all_goals
      have hw := fst_rw hf'
      refine ⟨d, _, _, rfl, hd', hrow', hf', fun o s H4 hs k4 hso ho => ?_⟩
      have hr4 := hrow'.dk k4 hd'
      refine ⟨_, _, _, _, rfl, hr4.dp, hso.dp, hw, hs, fun H5 s5 => ⟨_, rfl, ?_⟩⟩
      walk_at "rs"
      refine ⟨_, _, _, _, rfl, (hso.same s5).dp, (hr4.same s5).dp, hs, hw, fun H6 s6 => ⟨_, rfl, ?_⟩⟩
      walk_at "rs"
      have s46 := s5.trans s6
      have hd6 := k4.2.same s46
      have r6 := hr4.same s46
      have o6 := hso.same s46
      refine ⟨d, _, _, rfl, hd6, r6, hw, fun H7 k7 => ⟨_, rfl, ?_⟩⟩
      walk_at "rs"
      have r7 := r6.dk k7 hd6
      have o7 := o6.dk k7 hd6
      refine ⟨d, _, _, rfl, k7.2, o7, hs, fun H8 k8 => ⟨_, rfl, ?_⟩⟩
      walk_at "rs"
      have r8 := r7.dk k8 k7.2
      have o8 := o7.dk k8 k7.2
      refine ⟨d, _, _, rfl, k8.2, r8, hw, fun H9 k9 => ⟨_, rfl, ?_⟩⟩
      walk_at "rs"
      have r9 := r8.dk k9 k8.2
      have o9 := o8.dk k9 k8.2
      refine ⟨_, _, rfl, r9.dp, hw, fun H10 s10 => ⟨_, rfl, ?_⟩⟩
      walk_at "rs"
      have r10 := r9.same s10
      have o10 := o9.same s10
      have hd10 := k9.2.same s10
      refine ⟨by decide, by decide, ?_⟩
      refine loopR_of (fun _ σ H' => Dk d H10 H' ∧ ∃ x, σ = [some (.ref a), some (.ref d), some (.ref _), some (.ref o), x]) ⟨.refl hd10, _, rfl⟩ (fun i σ H' hi h => ?_) (fun σ H' h => ?_)
      · obtain ⟨k11, x, rfl⟩ := h
        walk_at "rd"
        walk_at "rs"
        have r11 := r10.dk k11 hd10
        refine ⟨d, _, _, rfl, k11.2, r11, hw, ne', fun v b H12 k12 hb fit un => ?_⟩
        refine ⟨d, _, _, v, b, rfl, k12.2, r11.dk k12 k11.2, hw, hb, fit, un, fun H13 k13 => ⟨_, rfl, ?_⟩⟩
        walk_at "rs"
        exact k11.trans (k12.trans k13)
      · obtain ⟨k11, x, rfl⟩ := h
        walk_at "rd"
        walk_at "rs"
        have r11 := r10.dk k11 hd10
        have o11 := o10.dk k11 hd10
        have w0 : Rw [] := ⟨trivial, by decide, by simp, by simp⟩
        refine ⟨by decide, fun p5 hp5 => ?_⟩
        have u1 := same_new (o := .lst []) hp5
        refine ⟨_, _, [], _, rfl, .lst (SqL.of upd_same) .nil, (r11.same u1).dp, w0, hw, fun H12 s12 => ⟨_, rfl, ite2 (fun _ => ?_) (fun z => absurd rfl z)⟩⟩
        have t12 := u1.trans s12
        refine ⟨by decide, fun p6 hp6 => ?_⟩
        have u2 := same_new (o := .lst []) hp6
        have t13 := t12.trans u2
        have hd12 := k11.2.same t13
        refine ⟨d, p6, [], rfl, hd12, ⟨(k11.2.same t12).ne hp6, _, upd_same, .nil⟩, w0, fun H13 k13 => ⟨_, rfl, ite2 (fun _ => ?_) (fun z => absurd rfl z)⟩⟩
        exact ⟨_, _, _, _, rfl, ((r11.same t13).dk k13 hd12).dp, ((o11.same t13).dk k13 hd12).dp, hw, hs, fun H14 s14 => q _⟩
end
/-! ### the end -/
theorem facts {P : Program} {w : World} {K : PySem.W.Frag} {h : Heap} {mg : Str → Option Value} {f : Addr} (X : K.In h) (G : h.Ns mainGlobals mg) (hfa : mg ("law" : Str) = some (.ref f)) (c : MeH.SaysM fa fn exB K) :
    ∃ fd : FuncData, (∀ (s : Shared) (v : Value), BindsTo s fd ⟨[v], []⟩ [("script", v)]) ∧ ∀ base : Heap, K.In base → base.Ns mainGlobals mg → FnOk P w K mg base CX0 8 f fd ["script"] (spLaw K) := by
  have T := txt_of X G c
  have e := hfa.symm.trans T.g_law
  cases e
  obtain ⟨fd, F⟩ := T.d_law
  have b := FunD.bindsA (ps := ["script"]) F fun _ _ _ _ _ _ us hl => match us, hl with | [_], _ => rfl
  refine ⟨fd, fun s v => b s [v] rfl, fun base _ _ => ok_law T F⟩
end K19
open PySem PySem.W PySem.Calls PyProof.Rows
theorem PySem.Challenge.cw_cellsmeet_k19_words_and_stacks_holds : PySem.Challenge.rw_cellsmeet_k19_words_and_stacks.Holds := by
  w_on; o_law
  refine HandSHeadRun.head_any (r := OpenLaw.row PySem.Challenge.rw_cellsmeet_k19_words_and_stacks) (q := view (OpenLaw.row PySem.Challenge.rw_cellsmeet_k19_words_and_stacks).prog [K19.lawAt]) (H := K19.hk) (ob := K19.ob) (M := K19.steps) (loose := K19.names) (d := HandSHeadRun.topDef (OpenLaw.row PySem.Challenge.rw_cellsmeet_k19_words_and_stacks).prog K19.lawAt) (kwd := []) K19.ob_eq
    (by kernel_rfl) (fun s => by kernel_rfl) K19.run (by kernel_rfl) (by kernel_rfl) (by kernel_rfl) (by rfl) (by first | assumption | decide +kernel) (by decide +kernel) ⟨rfl, rfl, rfl, rfl, rfl, by decide +kernel⟩ ?hw ?hc
  case hw => w_witness2
  case hc =>
    refine L2.walk_ofE (l := PySem.Challenge.rw_cellsmeet_k19_words_and_stacks) (n := 63) (k := 8) (x := "script") (CX := L2.CX0) rfl (by decide) (by kernel_rfl) ⟨rfl, by decide, by decide⟩ ?F (fun _ _ _ _ z => z)
    intro w mg fa h Y G hmg0
    obtain ⟨K, KX, c⟩ := Y
    have hmg : mg ("law" : PySem.Str) = some (.ref fa) := by
      have e : (HandSHeadRun.topDef (OpenLaw.row PySem.Challenge.rw_cellsmeet_k19_words_and_stacks).prog K19.lawAt).name = ("law" : PySem.Str) := by kernel_rfl
      rw [← e]
      exact hmg0
    obtain ⟨fd, hb, hF⟩ := K19.facts (P := (PySem.Challenge.rw_cellsmeet_k19_words_and_stacks).prog) (w := w) KX G hmg c
    exact ⟨K, fd, K19.spLaw K, KX, hb, fun H a ns hl _ hS => ⟨a, ns, rfl, hS, fun _ => rfl⟩, hF⟩
