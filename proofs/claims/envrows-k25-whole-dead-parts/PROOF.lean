import PyProof.Rows.All
import Wide.All
import OpenK.AllK
import Wide.FinOn
import HandS.ForMost
import PySem.Challenge.RW_envrows_k25_whole_dead_parts
import KE.KExcPX
import HandS.Exc
import HandS.ExcInit
import HandS.ExcSuper
import HandS.ExcValue
import HandS.ExcField
import HandS.ExcIs
import HandS.ClsMeth
import KE.KExcIs
import HandS.Defaults
import HandS.Head0
import HandS.HeadHook1
import HandS.HeadHook2
import HandS.HeadHook3
import HandS.HeadHook4
import KE.KStateDown
import HandS.Head1
import HandS.Head2
import HandS.HeadEnd
import HandS.HeadWalk
import KE.GoesEnum
import KE.GoesRaise
import PyProof.DictCompW
import HandS.DictComp
import HandS.Set
import HandS.SetFor
import HandS.SetTxt0
import HandS.Strs
import HandS.Deep
import HandS.Dict
import HandS.TupAny
import KE.DataMinMax
import HandS.ExcOwn
import PyProof.Rows.TmSorted
import PyProof.Rows.StrMeet
import HandS.Words
import HandS.Comp
import HandS.Conv
import HandS.More
import HandS.Codes
import HandS.IsInst
import HandS.Walk
import HandS.WordsDict
import HandS.Lambda
import PyProof.Rows.ReprShort
import PyProof.Rows.RegFStrParts
import KE.KNestM
section
set_option Elab.async false
set_option linter.all false
set_option maxRecDepth 100000
namespace EV
open PySem L2
/-! the text by its places -/
def top (i : Nat) : Stmt := PySem.Challenge.pw_envrows_k25_whole_dead_parts.main.body.getD i (.Pass ⟨0, 0, 0, 0⟩)
abbrev s_BadFile_init : Stmt := inClass (top 2) 0
abbrev s_BadSpot_init : Stmt := inClass (top 3) 0
abbrev s_TooMany_init : Stmt := inClass (top 4) 0
abbrev s_TooLong_init : Stmt := inClass (top 5) 0
abbrev s_is_name : Stmt := top 21
abbrev s_is_plain : Stmt := top 22
abbrev s_is_part : Stmt := top 23
abbrev s_is_text_of : Stmt := top 24
abbrev s_is_text : Stmt := top 25
abbrev s_is_row : Stmt := top 26
abbrev s_text_of_row : Stmt := top 27
abbrev s_names_in_text : Stmt := top 28
abbrev s_names_in : Stmt := top 29
abbrev s_need_file : Stmt := top 30
abbrev s_kind_of : Stmt := top 31
abbrev s_is_hard : Stmt := top 32
abbrev s_all_names : Stmt := top 33
abbrev s_all_cases : Stmt := top 41
abbrev s_begun : Stmt := top 42
abbrev s_length_of : Stmt := top 43
abbrev s_put_together : Stmt := top 44
abbrev s_Stop_init : Stmt := inClass (top 45) 0
abbrev s_Runner_init : Stmt := inClass (top 46) 0
abbrev s_Runner_part : Stmt := inClass (top 46) 1
abbrev s_Runner_worked : Stmt := inClass (top 46) 2
abbrev s_Runner_done_row : Stmt := inClass (top 46) 3
abbrev s_Runner_run_rows : Stmt := inClass (top 46) 4
abbrev s_spots_in : Stmt := top 47
abbrev s_environment_of : Stmt := top 50
abbrev s_least_environment : Stmt := top 52
abbrev s_spots_of : Stmt := top 53
abbrev s_all_spots : Stmt := top 54
abbrev s_need_spot : Stmt := top 55
abbrev s_spots_by_case : Stmt := top 56
abbrev s_dead : Stmt := top 57
abbrev s_taker : Stmt := top 58
abbrev s_law_mixed : Stmt := top 60
abbrev s_law_begin : Stmt := top 61
abbrev s_law_draw : Stmt := top 62
abbrev s_law_of : Stmt := top 63
abbrev s_law_worked : Stmt := top 64
abbrev s_law_run_seen : Stmt := top 65
abbrev s_law_names : Stmt := top 66
abbrev s_law_plain : Stmt := top 67
abbrev s_law_text : Stmt := top 68
abbrev s_law_row : Stmt := top 69
abbrev s_law_file : Stmt := top 70
abbrev s_law_worlds : Stmt := top 71
abbrev s_law_is_long : Stmt := top 72
abbrev s_law_is_refused : Stmt := top 73
abbrev s_law_traced : Stmt := top 74
abbrev s_law_met : Stmt := top 75
abbrev s_law_spots : Stmt := top 76
abbrev s_law_size : Stmt := top 77
abbrev s_law_file_right : Stmt := top 78
abbrev s_law : Stmt := top 79
end EV
end

section
set_option Elab.async false
set_option linter.all false
set_option maxRecDepth 100000
set_option maxHeartbeats 4000000
/-! exceptions of own classes: made, kept behind their suite, asked -/
namespace EV
open PySem PySem.Spec PyProof.Rows L2

/-! ### B.__init__(self, ..), whatever B is -/
/-- the call of a name's attribute is read as a method's call -/
abbrev CallsOn (env : Env) (x m : Str) (p1 p2 pos : Pos) (args : List Expr) (pl : Sem Bool) : Prop :=
  eval (.Call (.Attribute (.Name x p1) m p2) args [] pos) env = (eval (.Name x p1) env >>= fun ov => standAt p2.atName >>= fun _ => holding [ov] (getMethod ov m pl) >>= fun fx => callWith pos fx.1 fx.2 (backTo pos (starEach args env)) (backToKw pos (keywordEach [] env)))
/-- the exception that is being made stands at the head of the arguments, its class T -/
def SelfFirst (T : Addr → Prop) (Q : VK) : List V → Hp → Prop := fun vs H => ∃ (a C : Addr) (ws : List V), vs = .ref a :: ws ∧ ws.length ≤ 1000 ∧ T C ∧ H a = some (exo a C none) ∧ Q .non H
section
variable {X : Cx} {e : Expr} {es : List Expr} {ta : TA} {pos : Pos} {pins : List (Addr × Obj)} {σ : L2.St} {H : Hp} {s : Shared} {Q : VK}
theorem init_call {id : String} {T : Addr → Prop} (ha : PA X (e :: es) ta) (I : Inv X pins σ H s) (h : ta σ H (SelfFirst T Q))
    (run : ∀ (a C : Addr) (us : List Value) (s1 : Shared) (H1 : Hp) (R : Value → Shared → Prop), T C → Inv X pins σ H1 s1 → H1 a = some (exo a C none) → us.length ≤ sizeLine → (∀ s', Inv X pins σ H1 s' → R .none s') →
      wpAny (model X.prog X.w) X.A (call (.builtin id) (.ref a :: us)) R X.xe s1)
    (he : starEach (e :: es) X.env = (false, eval e X.env) :: starEach es X.env) (hpl : (backTo pos (starEach es X.env)).any (·.1) = false) :
    wpAny (model X.prog X.w) X.A (callWith pos (.builtin id) [] (backTo pos (starEach (e :: es) X.env)) []) (EP X pins σ Q) X.xe s := by
  refine PyProof.Rows.callWith_method1 (thn (ha.run pos pins s σ H _ I h) ?_) he hpl
  rintro us s1 ⟨_, H1, I1, r1, a, C, ws, rfl, small, t, ea, q⟩
  obtain ⟨u0, ur, rfl, r0, rr⟩ : ∃ u0 ur, us = u0 :: ur ∧ u0 = Value.ref a ∧ Vals ws ur := by
    cases r1 with
    | cons y z => exact ⟨_, _, rfl, y, z⟩
  subst r0
  have few : ur.length ≤ sizeLine := by
    have := rr.length
    rw [sizeLine_eq]
    omega
  exact run a C ur s1 H1 _ t I1 ea few fun s' J => ⟨.non, H1, J, rfl, q⟩
end

/-! ### Base.__init__(self, ..), Base an own class over ValueError -/
/-- the class B, read for its __init__ -/
structure IniC (K : PySem.W.Frag) (B : Addr) : Prop where
  rd : PySem.W.readsIn K B (.type "type") = true
  ga : PySem.W.specialIn K (.ref B) "__getattribute__" = some (some (.builtin "type.__getattribute__"))
  fi : PySem.W.findCls K (.ref B) (.type "type") "__init__" = some (.val (.builtin "ValueError.__init__"))
section
variable {X : Cx} {e : Expr} {es : List Expr} {ta : TA} {p1 p2 pos : Pos}
theorem pe_inic {pl : Sem Bool} {x : Str} {B : Addr} (hg : Gl X x) (hm : X.mg x = some (.ref B)) (vV : IniC X.K B) (ha : PA X (e :: es) ta) (hdb : (x == ("__debug__" : Str)) = false := by decide)
    (hc : CallsOn X.env x "__init__" p1 p2 pos (e :: es) pl := by rfl) (he : starEach (e :: es) X.env = (false, eval e X.env) :: starEach es X.env := by rfl) (hpl : (backTo pos (starEach es X.env)).any (·.1) = false := by rfl) :
    PE X (.Call (.Attribute (.Name x p1) "__init__" p2) (e :: es) [] pos) (tVeI X.K ta) :=
  ⟨fun pins s σ H Q I h => PySem.W.methodCall_KW (ld_glob I hg hm (PySem.W.method_cls I.kIn vV.ga (PySem.W.cls_value I.kIn vV.rd vV.fi (by decide +kernel)
    (init_call ha (I.tok _) h (fun _ _ _ _ _ _ T J ea few k => oinit_ok T J ea few k) he hpl))) hdb) hc⟩
end

/-! ### an own class directly over Exception -/
/-- what the written part says of the class -/
structure OexE (K : PySem.W.Frag) (C : Addr) : Prop where
  cls : ∃ nm q N bs sn sub ab col dd k0 k1 k2 k3 k5, K.lookup C = some (excClassObj nm q C N bs PySem.ESX.exTail true sn sub ab col dd k0 k1 k2 k3 k5 "Exception.__new__")
  sa : PySem.W.findIn K (.ref C) "__setattr__" = some (some (.builtin "object.__setattr__"))
  exC : PySem.W.subIn K (.ref C) (.type "BaseException") = some true
  tyC : PySem.W.typeIn K (.ref C) = some (.type "type")
  kC : PySem.W.keepIn K (.ref C) = true
theorem OexE.data {K : PySem.W.Frag} {C : Addr} (T : OexE K C) : ∃ cd, PySem.W.clsIn K C = some cd ∧ cd.mro = .ref C :: PySem.ESX.exTail ∧ cd.hasDict = true := by
  obtain ⟨_, _, _, _, _, _, _, _, _, _, _, _, _, _, e⟩ := T.cls
  unfold PySem.W.clsIn
  rw [e]
  exact ⟨_, rfl, rfl, rfl⟩
theorem typ_E : typeOf (.type "Exception") = pure (.type "type") := by kernel_rfl
/-- Exception.__init__(self, ..) -/
def tEI (K : PySem.W.Frag) (ta : TA) : TE := fun σ H Q => ta σ H (SelfFirst (OexE K) Q)
/-- self.f = e, the first -/
def tEst (K : PySem.W.Frag) (f : Str) (to te : TE) : TS := fun D σ H => te σ H fun y H1 => to σ H1 fun x H2 => ∃ a C : Addr, x = .ref a ∧ OexE K C ∧ PySem.W.findIn K (.ref C) f = some none ∧
  H2 a = some (exo a C none) ∧ ∀ dx, H2 dx = none → dx ≠ a → D.nx σ (upd (upd H2 dx (exd dx [(f, y)])) a (exo a C (some dx)))
theorem upd_comm {H : Hp} {a b : Addr} {o u : HO} (n : a ≠ b) : upd (upd H a o) b u = upd (upd H b u) a o := by
  funext c
  unfold upd
  by_cases ca : c = a
  · rw [if_neg (fun z => n (ca.symm.trans z)), if_pos ca, if_pos ca]
  · rw [if_neg ca, if_neg ca]
theorem upd_id {H : Hp} {a : Addr} {o : HO} (e : H a = some o) : upd H a o = H := funext fun b => by
  unfold upd
  split
  · rename_i z
    rw [z, e]
  · rfl
section
variable {X : Cx} {pins : List (Addr × Obj)} {σ : L2.St} {H : Hp} {s : Shared} {a C : Addr} {f : Str} {y : V} {u : Value} {E : Value → Shared → Prop} {A : Around}
/-- the exception at a gets a dict of its own: first the exception is written, then the dict is tracked -/
theorem Inv_dict {h' : Heap} {t' : Nat} {dx : Addr} {mA : Str → Option Value} (I : Inv X pins σ H s) (e : H a = some (exo a C none)) (new : s.heap.objs.size ≤ dx) (ne : dx ≠ a) (keep : ∀ b o, b ≠ a → s.heap.get? b = some o → h'.get? b = some o)
    (at_ : ∃ t1 : Addr, h'.get? a = some { cls := .ref C, dict := some dx, data := .fields #[.ref t1, .none, .none, .none, .bool false, .none] }) (hn : h'.Ns1 dx mA) (rel : RelO (some y) (mA f)) (no : ∀ g, g ≠ f → mA g = none) :
    Inv X pins σ (upd (upd H dx (exd dx [(f, y)])) a (exo a C (some dx))) { s with heap := h', toks := t' } := by
  obtain ⟨t1, ht⟩ := at_
  obtain ⟨G, gIn, gOut⟩ := restrict h' fun b => decide (b ≠ dx)
  have inG : ∀ b, b ≠ dx → G.get? b = h'.get? b := fun b n => gIn b (decide_eq_true n)
  have outG : G.get? dx = none := gOut dx (by simp)
  have old : ∀ b o, s.heap.get? b = some o → b ≠ dx := fun b o q z => Nat.lt_irrefl _ (Nat.lt_of_lt_of_le (Heap.lt_size q) (z ▸ new))
  have aG := (inG a (Ne.symm ne)).trans ht
  have J1 : Inv X pins σ (upd H a (exo a C (some dx))) { s with heap := G, toks := t' } :=
    I.write (x := a) (e := a) (by rw [e]; exact True.intro) (.inl rfl) (fun b o n q => (inG b (old b o q)).trans (keep b o n q)) ⟨_, aG⟩ (exo_ok aG)
  have J2 := J1.laidN (h' := h') (t' := t') (a := dx) (o := exd dx [(f, y)])
    (fun b o q => (inG b fun z => by rw [z, show ({ s with heap := G, toks := t' } : Shared).heap.get? dx = none from outG] at q; cases q).symm.trans q) outG (by rw [upd_ne ne]; exact I.hok.fresh new)
    (exd_ok hn fun g => by
      rw [lookup_put]
      split
      · rename_i z
        rw [z]
        exact rel
      · rename_i z
        rw [no g z]
        exact True.intro)
  rw [upd_comm (Ne.symm ne)] at J2
  exact J2
theorem est_new {Q : Unit → Shared → Prop} (T : OexE X.K C) (I : Inv X pins σ H s) (e : H a = some (exo a C none)) (hno : PySem.W.findIn X.K (.ref C) f = some none) (ry : RelV y u)
    (h : ∀ dx s', H dx = none → dx ≠ a → Inv X pins σ (upd (upd H dx (exd dx [(f, y)])) a (exo a C (some dx))) s' → Q () s') : wpAny (model X.prog X.w) A (setAttr (.ref a) f u) Q E s := by
  obtain ⟨cd, c1, c2, c3⟩ := T.data
  obtain ⟨t1, ho⟩ := exo_at I.hok e
  exact PySem.W.set_plain I.kIn (od := none) ⟨ho, rfl, rfl, trivial⟩ T.sa (PySem.ESX.osa_new I.kIn ho c1 c2 c3 hno fun h' t' dx k new ne hx hn =>
    h dx _ (I.hok.fresh new) ne (Inv_dict (t' := t') I e new ne k ⟨t1, hx⟩ hn (by rw [if_pos rfl]; exact ry) fun g n => if_neg n))
theorem einit_ok {us : List Value} {Q : Value → Shared → Prop} (T : OexE X.K C) (I : Inv X pins σ H s) (e : H a = some (exo a C none)) (few : us.length ≤ sizeLine) (h : ∀ s', Inv X pins σ H s' → Q .none s') :
    wpAny (model X.prog X.w) A (call (.builtin "Exception.__init__") (.ref a :: us)) Q E s := by
  obtain ⟨_, _, _, _, _, _, _, _, _, _, _, _, _, _, hC⟩ := T.cls
  obtain ⟨t1, ho⟩ := exo_at I.hok e
  refine wpAny_call (PySem.HandSPX.init_base F.excBase_Exception (fun _ => rfl) (I.kIn _ _ hC) ho few fun h' t2 k hx => h _ ?_)
  have J := I.write (t' := s.toks) (x := a) (e := a) (h' := h') (o := exo a C none) (by rw [e]; exact True.intro) (.inl rfl) k ⟨_, hx⟩ (exo_ok hx)
  rw [upd_id e] at J
  exact J
end
section
variable {X : Cx} {o e : Expr} {es : List Expr} {to te : TE} {ta : TA} {f : Str} {p p' p1 p2 pos : Pos}
theorem pe_einit {pl : Sem Bool} (hg : Gl X "Exception") (hm : X.mg "Exception" = none) (vV : PySem.W.findCls X.K (.type "Exception") (.type "type") "__init__" = some (.val (.builtin "Exception.__init__"))) (ha : PA X (e :: es) ta)
    (hc : CallsOn X.env "Exception" "__init__" p1 p2 pos (e :: es) pl := by rfl) (he : starEach (e :: es) X.env = (false, eval e X.env) :: starEach es X.env := by rfl) (hpl : (backTo pos (starEach es X.env)).any (·.1) = false := by rfl) :
    PE X (.Call (.Attribute (.Name "Exception" p1) "__init__" p2) (e :: es) [] pos) (tEI X.K ta) := by
  refine ⟨fun pins s σ H Q I h => ?_⟩
  obtain ⟨m, fr⟩ := I.fr
  exact PySem.W.methodCall_KW (ld_blt I hg hm PyProof.Rows.Boot.«Exception» (PySem.W.method_type fr I.ok.mod.kin typ_E (by decide +kernel) vV (by decide +kernel)
    (init_call ha (I.tok _) h (fun _ _ _ _ _ _ T J ea few k => einit_ok T J ea few k) he hpl)) (by decide) (by decide)) hc
theorem ps_est (ho : PE X o to) (he : PE X e te) (hs : swapsWith e (some (.Attribute o f p')) pos.line X.env = pure false := by rfl) : PS X (.Assign [.Attribute o f p'] e pos) (tEst X.K f to te) := by
  refine ⟨fun pins s σ H D I h => plainObj_wpAny_Assign_Attribute (thn (he.run pins s σ H _ I h) ?_) hs⟩
  rintro v s1 ⟨y, H1, I1, ry, q1⟩
  refine thn (ho.run pins s1 σ H1 _ I1 q1) ?_
  rintro u s2 ⟨_, H2, I2, ru, a, C, rfl, T, hno, ea, q⟩
  cases (show u = Value.ref a from ru)
  exact est_new T I2 ea hno ry fun dx s' n ne J => ⟨σ, _, J, q dx n ne⟩
/-- the heap with a new exception of the class at C, its args ahead of it -/
abbrev madeE (h : Heap) (us : List Value) (C : Addr) : Heap := (h.push (PySem.W.kdv_tup us)).push (PySem.HandSPX.excO C h.objs.size)
theorem madeE_keeps {h : Heap} {us : List Value} {C b : Addr} {ob : Obj} (q : h.get? b = some ob) : (madeE h us C).get? b = some ob := Heap.get?_push_of_some _ (Heap.get?_push_of_some _ q)
theorem madeE_inv {pins : List (Addr × Obj)} {σ : L2.St} {H : Hp} {s : Shared} (I : Inv X pins σ H s) (us : List Value) (C : Addr) :
    Inv X pins σ (upd H (s.heap.objs.size + 1) (exo (s.heap.objs.size + 1) C none)) { s with heap := madeE s.heap us C } :=
  I.laid (t' := s.toks) (fun _ _ q => madeE_keeps q) (Nat.le_succ _) (exo_ok (t1 := s.heap.objs.size) (by
    obtain ⟨h, _, _, _, _⟩ := s
    heap_get))
/-- C(us): the class's own __init__ makes it, the exception is handed on -/
theorem make_eex {CX : CXT} {C fI : Addr} {k : Nat} {fd : FuncData} {ps : List Str} {sp : Sp} {ds us : List Value} {vs dvs : List V} {pins : List (Addr × Obj)} {σ : L2.St} {H : Hp} {Q : XK} {s : Shared} (T : OexE X.K C)
    (iC : PySem.W.findIn X.K (.ref C) "__init__" = some (some (.ref fI))) (tI : PySem.W.typeIn X.K (.ref fI) = some (.type "function")) (F1 : FnOk X.prog X.w X.K X.mg X.base CX k fI fd ps sp) (hr : Room (k + 1) X.A) (hb : Binds X.K fd ps ds)
    (hx : Passes CX X (fun _ _ _ => False)) (I : Inv X pins σ H s) (r : Vals (vs ++ dvs) (us ++ ds)) (few : us.length ≤ sizeLine)
    (q : ∀ a, H a = none → sp (.ref a :: (vs ++ dvs)) (upd H a (exo a C none))
      (fun v H2 => v = .non ∧ ∃ (d : Addr) (fs : List (Str × V)), H2 a = some (exo a C (some d)) ∧ H2 d = some (exd d fs) ∧ H d = none ∧ Q (.ref C) (some d) (upd (del H2 a) d (.xd fs))) fun _ _ _ => False) :
    codeAny (model X.prog X.w) X.A (.call (.ref C) ⟨us, []⟩) (fun r s' => match r with | .ok (.ret u) => MkP X pins σ Q u s' | .ok _ => False | .error e => X.xe e s') s := by
  obtain ⟨_, _, _, _, _, _, _, _, _, _, _, _, _, _, hC⟩ := T.cls
  have J := madeE_inv I us C
  have hq := q _ (I.hok.fresh (Nat.le_succ _))
  obtain ⟨h, g, d, t, os⟩ := s
  have n : (Value.ref (h.objs.size + 1) :: us ++ ds).length = ps.length := by
    rw [← F1.len _ _ _ _ hq]
    exact congrArg (· + 1) r.length.symm
  have go := F1.run _ X.stack _ _ ⟨.ref (h.objs.size + 1) :: us, []⟩ (.ref (h.objs.size + 1) :: (us ++ ds)) _ _ (fun _ _ _ => False) (hr.make C us []) (J.env0.make C us []) (hb _ (.ref (h.objs.size + 1) :: us) J.kIn n) (show Vals (V.ref (h.objs.size + 1) :: (vs ++ dvs)) (.ref (h.objs.size + 1) :: (us ++ ds)) from .cons rfl r) hq
  refine PySem.HandSPX.call_own F.excBase_Exception (fun _ => rfl) (I.kIn _ _ hC) (PySem.W.looks_findIn I.kIn iC) (fun self => PySem.W.bind_fn I.kIn self tI) few (codeAny_mono go ?_)
  rintro (er | fl) s' z
  · exact hx pins σ _ _ er s' J z
  · cases fl with
    | ret u =>
      obtain ⟨_, H2, os2, bare2, un2, ok2, rv, rfl, dx, fs, ea, ed, hd1, q2⟩ := z
      obtain ⟨h2, g2, d2, t2, os'⟩ := s'
      exact ⟨rv, mk_end (raises_own T.exC T.tyC) I (Nat.le_succ _) (fun _ _ w => madeE_keeps w) un2 ok2 os2 bare2 ea ed hd1 q2⟩
    | next => exact False.elim z
    | brk => exact False.elim z
    | cont => exact False.elim z
theorem pmk_eex {CX : CXT} {x : Str} {C fI : Addr} {k : Nat} {fd : FuncData} {ps : List Str} {sp : Sp} {ds : List Value} {dvs : List V} (T : OexE X.K C) (iC : PySem.W.findIn X.K (.ref C) "__init__" = some (some (.ref fI))) (tI : PySem.W.typeIn X.K (.ref fI) = some (.type "function"))
    (F1 : FnOk X.prog X.w X.K X.mg X.base CX k fI fd ps sp) (hr : Room (k + 1) X.A) (hb : Binds X.K fd ps ds) (hd : Vals dvs ds) (hx : Passes CX X (fun _ _ _ => False)) (hg : Gl X x) (hm : X.mg x = some (.ref C)) (ha : PA X (e :: es) ta)
    (hdb : (x == ("__debug__" : Str)) = false := by decide) (he : starEach (e :: es) X.env = (false, eval e X.env) :: starEach es X.env := by rfl) (hpl : (backTo pos (starEach es X.env)).any (·.1) = false := by rfl) :
    PMk X (.Call (.Name x p) (e :: es) [] pos) (tMkO C sp dvs ta) := fun pins s σ H Q I h => by
  refine wpAny_Call_Name_kw (ld_glob I hg hm (PySem.W.callWith_K (h₀ := X.base) I.ok.mod.kin T.kC (thn (ha.run pos pins s σ H _ I h) ?_) he hpl) hdb)
  rintro us s1 ⟨vs, H1, I1, r1, small, q1⟩
  have few : us.length ≤ sizeLine := by
    have := r1.length
    rw [sizeLine_eq]
    omega
  refine ⟨I1.kIn, wpAny_call (codeAny_mono (make_eex T iC tI F1 hr hb hx I1 (r1.append hd) few q1) fun r s' z => ?_)⟩
  rcases r with er | (u | _ | _ | _) <;> exact z
end

/-! ### an exception that stays behind its suite -/
/-- at a: an exception of the class cls, its dict d -/
def exk (a : Addr) (cls : Value) (d : Option Addr) : HO := .ext fun h => ∃ o, h.get? a = some o ∧ Zc cls d o ∧ ∃ vs, o.data = .fields vs
section
variable {P : Program} {w : World} {H : Hp} {h : Heap} {a : Addr} {cls : Value} {d : Option Addr}
theorem exk_ok (z : ∃ o, h.get? a = some o ∧ Zc cls d o ∧ ∃ vs, o.data = .fields vs) : ObjOk P w H h a (exk a cls d) :=
  ⟨z, z.imp fun _ y => y.1, fun _ _ y k => y.imp fun _ x => ⟨k _ x.1, x.2⟩⟩
theorem exk_at (ok : HOk P w H h) (e : H a = some (exk a cls d)) : ∃ o, h.get? a = some o ∧ Zc cls d o ∧ ∃ vs, o.data = .fields vs :=
  (show ObjOk P w H h a (.ext _) from ok a _ e).1
end
/-- a statement's ends where slot i is emptied behind it -/
abbrev Emptied (D : Ends) (i : Nat) : Ends := { nx := fun σ H => D.nx (σ.set i none) H, rt := D.rt, bk := fun σ H => D.bk (σ.set i none) H, ct := fun σ H => D.ct (σ.set i none) H }
/-- what the clause 'except x as n' wishes of an exception of the body: slot i is n's; the exception stays tracked -/
def wKeep (K : PySem.W.Frag) (c : Value) (i : Nat) (ts : TS) (Wout : WX) (D : Ends) : WX := fun cls d σ H =>
  ∃ b, PySem.W.exmOne K cls c = some b ∧ (b = true → ∀ a, H a = none → ts (Emptied D i) (σ.set i (some (.ref a))) (upd H a (exk a cls d))) ∧ (b = false → Wout cls d σ H)
section
variable {X Y : Cx} {pins pq : List (Addr × Obj)} {σ : L2.St} {H : Hp} {s : Shared} {D : Ends}
theorem sp_move (k : ∀ σ' H', Inv X pins σ' H' s → Inv Y pq σ' H' s) : ∀ {f : Flow}, SP X pins D f s → SP Y pq D f s
  | .next, ⟨σ', H', J, q⟩ => ⟨σ', H', k _ _ J, q⟩
  | .brk, ⟨σ', H', J, q⟩ => ⟨σ', H', k _ _ J, q⟩
  | .cont, ⟨σ', H', J, q⟩ => ⟨σ', H', k _ _ J, q⟩
  | .ret _, ⟨v, σ', H', J, q⟩ => ⟨v, σ', H', k _ _ J, q⟩
/-- the name of the clause goes behind its suite -/
theorem sp_empty {n : Str} {i : Nat} {pos : Pos} (hN : X.N.Nodup) (hi : X.N[i]? = some n) (hl : X.env.kindOf n = some .local) : ∀ {f : Flow}, SP X pins (Emptied D i) f s →
    wpAny (model X.prog X.w) X.A (do bindName X.env n .none; unbindBehindTheSuite X.env n pos) (fun _ s' => SP X pins D f s') X.xe s
  | .next, ⟨_, _, J, q⟩ => gone_ok J hN hi hl fun _ J' => ⟨_, _, J', q⟩
  | .brk, ⟨_, _, J, q⟩ => gone_ok J hN hi hl fun _ J' => ⟨_, _, J', q⟩
  | .cont, ⟨_, _, J, q⟩ => gone_ok J hN hi hl fun _ J' => ⟨_, _, J', q⟩
  | .ret _, ⟨_, _, _, J, q⟩ => gone_ok J hN hi hl fun _ J' => ⟨_, _, _, J', q⟩
/-- into a suite and out of it, no pin but those that stood -/
theorem inv_in {a : Addr} (I : Inv X pins σ H s) : Inv (X.suite a (X.pn ++ pins)) [] σ H s :=
  { I with ok := I.ok.suite _ _, pin := fun p m => I.pin p (by rwa [List.append_nil] at m) }
theorem inv_out {a : Addr} (ok : X.Ok) (I : Inv (X.suite a (X.pn ++ pins)) [] σ H s) : Inv X pins σ H s :=
  { I with ok := ok, pin := fun p m => I.pin p (by rwa [List.append_nil]) }
theorem names_load {x : Str} {c : Value} {np : Pos} {Q : Value → Shared → Prop} {E : Value → Shared → Prop} (hc : Names X x c) (I : Inv X pins σ H s) (q : Q c s) : wpAny (model X.prog X.w) X.A (eval (.Name x np) X.env) Q E s := by
  rcases hc with ⟨g, nd, m | ⟨m, b, n⟩⟩
  · exact ld_glob I g m q nd
  · exact ld_blt I g m b q n nd
/-- an exception of a try's body where the clauses look at it: the state sI is the one without it, B the ground -/
structure Caught (X : Cx) (pins : List (Addr × Obj)) (σ : L2.St) (H : Hp) (sI s : Shared) (B : Heap) (a : Addr) (cls : Value) (d : Option Addr) : Prop where
  inv : Inv X pins σ H sI
  ground : ∀ b o, sI.heap.get? b = some o → b ∉ frs X.stack → B.get? b = some o
  up : sI.heap.UpToSlots s.heap
  fly : HandSPX.FlyingZ B X.stack a (Zc cls d) s.heap
  no : H a = none
  os : s.os = sI.os
  bare : AllBare s.gens
end
namespace Caught
variable {X : Cx} {pins : List (Addr × Obj)} {σ : L2.St} {H : Hp} {sI s : Shared} {B h' : Heap} {a : Addr} {cls : Value} {d : Option Addr} (C : Caught X pins σ H sI s B a cls d)
include C
theorem here : Inv X pins σ H s := C.inv.landed C.ground C.fly.1 C.up C.os C.bare
theorem on (fl : HandSPX.FlyingZ B X.stack a (Zc cls d) h') (up : s.heap.UpToSlots h') : Caught X pins σ H sI { s with heap := h' } B a cls d := { C with up := C.up.trans up, fly := fl }
theorem offStack : a ∉ frs X.stack := fun m => by
  obtain ⟨oe, vs, he, _, hd⟩ := C.fly.there
  obtain ⟨_, o, e, n⟩ := C.fly.2.2.1.mem m
  rw [he] at e
  cases e
  exact n _ hd
theorem offBoth (hs : X.stack = X.env :: X.outer) (hf : X.env.frame = some X.env.locals) : a ≠ X.env.locals ∧ a ∉ X.fs := by
  have off := C.offStack
  rw [hs] at off
  refine ⟨fun z => off (List.mem_filterMap.mpr ⟨X.env, List.mem_cons_self, by rw [hf, z]⟩), fun m => ?_⟩
  obtain ⟨e, he, q⟩ := List.mem_filterMap.mp m
  exact off (List.mem_filterMap.mpr ⟨e, List.mem_cons_of_mem _ he, q⟩)
/-- as the suite sees it -/
theorem marked (hs : X.stack = X.env :: X.outer) (hf : X.env.frame = some X.env.locals) : ∃ oe, Inv (X.suite a ((a, oe) :: (X.pn ++ pins))) [] σ H s := by
  obtain ⟨oe, vs, he, _, hd⟩ := C.fly.there
  obtain ⟨n1, n2⟩ := C.offBoth hs hf
  exact ⟨oe, C.here.suite he hd C.no n1 n2⟩
theorem new : sI.heap.get? a = none := by
  cases e : sI.heap.get? a with
  | none => rfl
  | some o =>
    have z := C.ground a o e C.offStack
    rw [C.fly.2.1] at z
    cases z
/-- from here on it is an object of ours: the heap is read without it, and then it is laid -/
theorem tracked : Inv X pins σ (upd H a (exk a cls d)) s := by
  obtain ⟨G, gIn, gOut⟩ := restrict s.heap fun b => decide (b ≠ a)
  have inG : ∀ b, b ≠ a → G.get? b = s.heap.get? b := fun b n => gIn b (decide_eq_true n)
  have noG : G.get? a = none := gOut a (by simp)
  have J : Inv X pins σ H { s with heap := G } := C.inv.landed C.ground
    (fun b o q => (inG b fun z => by rw [z, C.fly.2.1] at q; cases q).trans (C.fly.1 b o q))
    (fun b o q nf => by
      obtain ⟨sl, z⟩ := C.up b o q nf
      exact ⟨sl, (inG b fun y => by rw [y, C.new] at q; cases q).trans z⟩) C.os C.bare
  obtain ⟨oe, vs, he, hz, hd⟩ := C.fly.there
  exact J.laidN (t' := s.toks) (fun b o q => (inG b fun z => by rw [z, show ({ s with heap := G } : Shared).heap.get? a = none from noG] at q; cases q).symm.trans q) noG C.no (exk_ok ⟨oe, he, hz, vs, hd⟩)
end Caught
section
variable {X : Cx} {x n : Str} {c : Value} {i : Nat} {body suite : List Stmt} {b₀ : Stmt} {np pos pos' : Pos} {tb : WX → TS} {ts : TS} {Wout : WX}
theorem ps_try_keep (hs : X.stack = X.env :: X.outer) (hf : X.env.frame = some X.env.locals) (hex : X.ex = []) (hN : X.N.Nodup) (hi : X.N[i]? = some n) (hln : X.env.kindOf n = some .local) (hc : Names X x c) (tk : Takes X Wout)
    (hb : ∀ (W : WX) (pn : List (Addr × Obj)) (xe : Value → Shared → Prop), Takes (X.tr pn xe) W → PassesOwn (model X.prog X.w) X.A X.env xe → PSs (X.tr pn xe) body (tb W))
    (hsu : ∀ (a : Addr) (pn : List (Addr × Obj)), PSs (X.suite a pn) (b₀ :: suite) ts) :
    PS X (.Try body [.ExceptHandler (some (.Name x np)) (some n) (b₀ :: suite) pos'] [] [] pos) (fun D σ H => tb (wKeep X.K c i ts Wout D) D σ H) := by
  refine ⟨fun pins s σ H D I h => ?_⟩
  have ok := I.ok
  have clause : ∀ (xe : Value → Shared → Prop) (u : Value) (s1 : Shared), XE (X.tr (X.pn ++ pins) xe) (wKeep X.K c i ts Wout D) u s1 → wpAny (model X.prog X.w) X.A (noteFrame u X.env) (fun _ s2 => wpAny (model X.prog X.w) X.A (setFlight u none)
      (fun _ s3 => wpAny (model X.prog X.w) X.A (handleBy u X.env [.ExceptHandler (some (.Name x np)) (some n) (b₀ :: suite) pos']) (SP X pins D) X.xe s3) X.xe s2) X.xe s1 := by
    rintro xe _ s1 ⟨a, B, sI, _, σ1, H1, cls, d, rfl, J, nb, up, sky, na, os, ag, b, hm, yes, no⟩
    refine Sky.land Zc.steady (by rw [ok.frames, hs]) hf (by rw [← hs]; exact sky) fun h3 fl3 up3 => ?_
    rw [← hs] at fl3
    have C : Caught X pins σ1 H1 sI { s1 with heap := h3 } B a cls d := ⟨J.ofTry ok, nb, up.trans up3, fl3, na, os, ag⟩
    obtain ⟨oe, M⟩ := C.marked hs hf
    have air : PX.FlyingZ B (X.env :: X.outer) a (Zc cls d) h3 := by rw [← hs]; exact fl3
    cases b with
    | true =>
      refine PX.clause_asZ (c := c) C.here.kIn (fun _ z => z.1) air hm (fun q => names_load (X := X.suite a ((a, oe) :: (X.pn ++ pins))) hc M q) fun h4 fl4 up4 => ?_
      have C4 : Caught X pins σ1 H1 sI { s1 with heap := h4 } B a cls d := C.on (by rw [hs]; exact fl4) up4
      refine store_ok (X := X.suite a (X.pn ++ pins)) (v := .ref a) (inv_in C4.tracked) hN hi (.inl hln) rfl (fun s5 S5 => ?_) (.inr hln)
      exact wpAny_mono ((hsu a (X.pn ++ pins)).run [] s5 _ _ _ S5 (yes rfl a na)) (fun f s6 z => sp_empty hN hi hln (sp_move (fun _ _ y => inv_out ok y) z)) fun _ _ z => z
    | false =>
      refine PX.clause_passZ (c := c) C.here.kIn (fun _ z => z.1) air hm (fun q => names_load (X := X.suite a ((a, oe) :: (X.pn ++ pins))) hc M q) (PX.no_clauseZ hf air fun h4 held up4 => tk _ _ ?_)
      exact ⟨a, B, sI, pins, σ1, H1, cls, d, rfl, C.inv, nb, C.up.trans up4, .inr (.inr (by rw [hs]; exact held)), na, os, ag, no rfl⟩
  refine wpAny_Try_except (wpAny_mono ((hb (wKeep X.K c i ts Wout D) (X.pn ++ pins) _ (clause _) PassesOwn.looking).run [] s σ H D (I.toTry _) h) (fun f s1 z => ?_) fun _ _ z => z)
  have z' : SP X pins D f s1 := sp_move (fun _ _ J => J.ofTry ok) z
  cases f with
  | next => exact wpAny_execs_nil z'
  | brk => exact z'
  | cont => exact z'
  | ret u => exact z'
end
end EV
end

section
set_option Elab.async false
set_option linter.all false
set_option maxRecDepth 100000
set_option maxHeartbeats 4000000
/-! isinstance of a kept exception; its field -/
namespace EV
open PySem PySem.Spec PyProof.Rows L2
/-- at a: an exception of the class D that is kept, its fields fs -/
def KeptAt (H : Hp) (a D : Addr) (fs : List (Str × V)) : Prop := ∃ d : Addr, H a = some (exk a (.ref D) (some d)) ∧ H d = some (.xd fs)
/-- isinstance(x, c), x a kept exception of the class D with a dict -/
def rIsK (K : PySem.W.Frag) : List V → Hp → VK → Prop := fun xs H Q => ∃ (a D d : Addr) (fs : List (Str × V)) (c : V) (cv : Value) (b : Bool), xs = [.ref a, c] ∧ H a = some (exk a (.ref D) (some d)) ∧ H d = some (.xd fs) ∧ ExcC K D ∧
  (∀ u, RelV c u → u = cv) ∧ PySem.W.kitOne K (.ref D) cv = some b ∧ Q (.bl b) H
/-- e.n, e a kept exception -/
def tXk (K : PySem.W.Frag) (n : Str) (te : TE) : TE := fun σ H Q => te σ H fun x H1 => ∃ (a D d : Addr) (fs : List (Str × V)) (v : V), x = .ref a ∧ H1 a = some (exk a (.ref D) (some d)) ∧ H1 d = some (.xd fs) ∧ XfC K D ∧ PySem.W.findIn K (.ref D) n = some none ∧ fs.lookup n = some v ∧ Q v H1
section
variable {X : Cx} {pins : List (Addr × Obj)} {σ : L2.St} {H : Hp} {s : Shared} {a D : Addr} {fs : List (Str × V)}
/-- a kept exception is an instance, and its dict has its fields -/
theorem KeptAt.inst (k : KeptAt H a D fs) (I : Inv X pins σ H s) : ∃ oe od, PySem.W.InstAt s.heap a oe D (some od) ∧ ∀ (f : Str) (v : V), fs.lookup f = some v → ∃ u, RelV v u ∧ PySem.W.lookIn f od = some (some u) := by
  obtain ⟨d, ka, kd⟩ := k
  obtain ⟨oe, ho, ⟨hc, hd⟩, vs, hv⟩ := exk_at I.hok ka
  obtain ⟨mA, ns, rel⟩ := show ObjOk X.prog X.w H s.heap d (.xd fs) from I.hok d _ kd
  obtain ⟨od, hod, look⟩ := lookIn_ns ns
  refine ⟨oe, od, ⟨ho, hc, ?_, ?_⟩, fun f v l => ?_⟩
  · unfold PySem.W.notCls
    rw [hv] <;> rfl
  · rw [hd]
    exact hod
  · have r := rel f
    rw [l] at r
    obtain ⟨u, e, ru⟩ := RelO.some_of r
    exact ⟨u, ru, by rw [look, e]⟩
theorem call_isK : CallR X (.builtin "isinstance") (rIsK X.K) := by
  rintro pins s σ H _ us Q I r ⟨a, D, d, fs, c, cv, b, rfl, ha, hd, C, hcv, e, q⟩
  obtain ⟨u1, u2, rfl, r1, r2⟩ := vals2 r
  cases (show u1 = Value.ref a from r1)
  cases hcv u2 r2
  obtain ⟨oe, od, J, _⟩ := KeptAt.inst ⟨d, ha, hd⟩ I
  have cls : (PySem.W.clsIn X.K D).isSome = true := by
    obtain ⟨cd, h, _⟩ := PySem.W.any_some C.hd
    rw [h]
    rfl
  exact PySem.W.kia_one (PySem.W.kitx_exc cls C.hg C.hk C.hs C.ha C.hn C.ht C.hm) I.kIn J e (fun z => nomatch z) fun tk => ⟨.bl b, H, I.kept (t' := tk) fun _ _ z => z, rfl, q⟩
theorem pe_xk {e : Expr} {te : TE} {pos : Pos} {n : Str} (he : PE X e te) (hb : attributeBase e n X.env (eval e X.env) = eval e X.env := by rfl) : PE X (.Attribute e n pos) (tXk X.K n te) := by
  refine ⟨fun pins s σ H Q I h => attr_of hb (thn (he.run pins s σ H _ I h) ?_)⟩
  rintro u s1 ⟨_, H1, J, ru, a, D, d, fs, v, rfl, ka, kd, T, hno, l, q⟩
  cases (show u = Value.ref a from ru)
  obtain ⟨oe, od, at_, look⟩ := KeptAt.inst ⟨d, ka, kd⟩ J
  obtain ⟨w, rw', hw⟩ := look n v l
  exact HandSPX.exc_get J.kIn at_ T.ga T.gg T.exC (PySem.W.findObj_own T.hdC hno rfl hw) (handed_of rw') ⟨v, H1, J.tok _, rw', q⟩
end
end EV
end

section
set_option Elab.async false
set_option linter.all false
set_option maxRecDepth 100000
set_option maxHeartbeats 4000000
/-! what the text's top has written -/
namespace EV
open PySem PySem.Spec PyProof.Rows L2
structure Top (K : PySem.W.Frag) (mg : Str → Option Value) where
  a_TooLong_init : Addr
  d_TooLong_init : FuncData
  F_TooLong_init : FunD K "__init__" "TooLong.__init__" (defArgs s_TooLong_init) (defBody s_TooLong_init) (defScope s_TooLong_init) [] [] a_TooLong_init d_TooLong_init
  a_is_name : Addr
  d_is_name : FuncData
  F_is_name : FunD K "is_name" "is_name" (defArgs s_is_name) (defBody s_is_name) (defScope s_is_name) [] [] a_is_name d_is_name
  g_is_name : mg "is_name" = some (.ref a_is_name)
  a_is_plain : Addr
  d_is_plain : FuncData
  F_is_plain : FunD K "is_plain" "is_plain" (defArgs s_is_plain) (defBody s_is_plain) (defScope s_is_plain) [] [] a_is_plain d_is_plain
  g_is_plain : mg "is_plain" = some (.ref a_is_plain)
  a_is_part : Addr
  d_is_part : FuncData
  F_is_part : FunD K "is_part" "is_part" (defArgs s_is_part) (defBody s_is_part) (defScope s_is_part) [] [] a_is_part d_is_part
  g_is_part : mg "is_part" = some (.ref a_is_part)
  a_is_text_of : Addr
  d_is_text_of : FuncData
  F_is_text_of : FunD K "is_text_of" "is_text_of" (defArgs s_is_text_of) (defBody s_is_text_of) (defScope s_is_text_of) [] [] a_is_text_of d_is_text_of
  g_is_text_of : mg "is_text_of" = some (.ref a_is_text_of)
  a_is_text : Addr
  d_is_text : FuncData
  F_is_text : FunD K "is_text" "is_text" (defArgs s_is_text) (defBody s_is_text) (defScope s_is_text) [] [] a_is_text d_is_text
  g_is_text : mg "is_text" = some (.ref a_is_text)
  a_is_row : Addr
  d_is_row : FuncData
  F_is_row : FunD K "is_row" "is_row" (defArgs s_is_row) (defBody s_is_row) (defScope s_is_row) [] [] a_is_row d_is_row
  g_is_row : mg "is_row" = some (.ref a_is_row)
  a_text_of_row : Addr
  d_text_of_row : FuncData
  F_text_of_row : FunD K "text_of_row" "text_of_row" (defArgs s_text_of_row) (defBody s_text_of_row) (defScope s_text_of_row) [] [] a_text_of_row d_text_of_row
  g_text_of_row : mg "text_of_row" = some (.ref a_text_of_row)
  a_names_in_text : Addr
  d_names_in_text : FuncData
  F_names_in_text : FunD K "names_in_text" "names_in_text" (defArgs s_names_in_text) (defBody s_names_in_text) (defScope s_names_in_text) [] [] a_names_in_text d_names_in_text
  g_names_in_text : mg "names_in_text" = some (.ref a_names_in_text)
  a_names_in : Addr
  d_names_in : FuncData
  F_names_in : FunD K "names_in" "names_in" (defArgs s_names_in) (defBody s_names_in) (defScope s_names_in) [] [] a_names_in d_names_in
  g_names_in : mg "names_in" = some (.ref a_names_in)
  a_need_file : Addr
  d_need_file : FuncData
  F_need_file : FunD K "need_file" "need_file" (defArgs s_need_file) (defBody s_need_file) (defScope s_need_file) [] [] a_need_file d_need_file
  g_need_file : mg "need_file" = some (.ref a_need_file)
  a_kind_of : Addr
  d_kind_of : FuncData
  F_kind_of : FunD K "kind_of" "kind_of" (defArgs s_kind_of) (defBody s_kind_of) (defScope s_kind_of) [] [] a_kind_of d_kind_of
  g_kind_of : mg "kind_of" = some (.ref a_kind_of)
  a_is_hard : Addr
  d_is_hard : FuncData
  F_is_hard : FunD K "is_hard" "is_hard" (defArgs s_is_hard) (defBody s_is_hard) (defScope s_is_hard) [] [] a_is_hard d_is_hard
  g_is_hard : mg "is_hard" = some (.ref a_is_hard)
  a_all_names : Addr
  d_all_names : FuncData
  F_all_names : FunD K "all_names" "all_names" (defArgs s_all_names) (defBody s_all_names) (defScope s_all_names) [] [] a_all_names d_all_names
  g_all_names : mg "all_names" = some (.ref a_all_names)
  a_all_cases : Addr
  d_all_cases : FuncData
  F_all_cases : FunD K "all_cases" "all_cases" (defArgs s_all_cases) (defBody s_all_cases) (defScope s_all_cases) [] [] a_all_cases d_all_cases
  g_all_cases : mg "all_cases" = some (.ref a_all_cases)
  a_begun : Addr
  d_begun : FuncData
  F_begun : FunD K "begun" "begun" (defArgs s_begun) (defBody s_begun) (defScope s_begun) [] [] a_begun d_begun
  g_begun : mg "begun" = some (.ref a_begun)
  a_length_of : Addr
  d_length_of : FuncData
  F_length_of : FunD K "length_of" "length_of" (defArgs s_length_of) (defBody s_length_of) (defScope s_length_of) [] [] a_length_of d_length_of
  g_length_of : mg "length_of" = some (.ref a_length_of)
  a_put_together : Addr
  d_put_together : FuncData
  F_put_together : FunD K "put_together" "put_together" (defArgs s_put_together) (defBody s_put_together) (defScope s_put_together) [] [] a_put_together d_put_together
  g_put_together : mg "put_together" = some (.ref a_put_together)
  a_Stop_init : Addr
  d_Stop_init : FuncData
  F_Stop_init : FunD K "__init__" "Stop.__init__" (defArgs s_Stop_init) (defBody s_Stop_init) (defScope s_Stop_init) [] [] a_Stop_init d_Stop_init
  a_Runner_init : Addr
  d_Runner_init : FuncData
  F_Runner_init : FunD K "__init__" "Runner.__init__" (defArgs s_Runner_init) (defBody s_Runner_init) (defScope s_Runner_init) [] [] a_Runner_init d_Runner_init
  a_Runner_part : Addr
  d_Runner_part : FuncData
  F_Runner_part : FunD K "part" "Runner.part" (defArgs s_Runner_part) (defBody s_Runner_part) (defScope s_Runner_part) [] [] a_Runner_part d_Runner_part
  a_Runner_worked : Addr
  d_Runner_worked : FuncData
  F_Runner_worked : FunD K "worked" "Runner.worked" (defArgs s_Runner_worked) (defBody s_Runner_worked) (defScope s_Runner_worked) [] [] a_Runner_worked d_Runner_worked
  a_Runner_done_row : Addr
  d_Runner_done_row : FuncData
  F_Runner_done_row : FunD K "done_row" "Runner.done_row" (defArgs s_Runner_done_row) (defBody s_Runner_done_row) (defScope s_Runner_done_row) [] [] a_Runner_done_row d_Runner_done_row
  a_Runner_run_rows : Addr
  d_Runner_run_rows : FuncData
  F_Runner_run_rows : FunD K "run_rows" "Runner.run_rows" (defArgs s_Runner_run_rows) (defBody s_Runner_run_rows) (defScope s_Runner_run_rows) [] [] a_Runner_run_rows d_Runner_run_rows
  a_spots_in : Addr
  d_spots_in : FuncData
  F_spots_in : FunD K "spots_in" "spots_in" (defArgs s_spots_in) (defBody s_spots_in) (defScope s_spots_in) [] [] a_spots_in d_spots_in
  g_spots_in : mg "spots_in" = some (.ref a_spots_in)
  a_environment_of : Addr
  d_environment_of : FuncData
  F_environment_of : FunD K "environment_of" "environment_of" (defArgs s_environment_of) (defBody s_environment_of) (defScope s_environment_of) [] [] a_environment_of d_environment_of
  g_environment_of : mg "environment_of" = some (.ref a_environment_of)
  a_least_environment : Addr
  d_least_environment : FuncData
  F_least_environment : FunD K "least_environment" "least_environment" (defArgs s_least_environment) (defBody s_least_environment) (defScope s_least_environment) [] [] a_least_environment d_least_environment
  g_least_environment : mg "least_environment" = some (.ref a_least_environment)
  a_spots_of : Addr
  d_spots_of : FuncData
  F_spots_of : FunD K "spots_of" "spots_of" (defArgs s_spots_of) (defBody s_spots_of) (defScope s_spots_of) [] [] a_spots_of d_spots_of
  g_spots_of : mg "spots_of" = some (.ref a_spots_of)
  a_all_spots : Addr
  d_all_spots : FuncData
  F_all_spots : FunD K "all_spots" "all_spots" (defArgs s_all_spots) (defBody s_all_spots) (defScope s_all_spots) [] [] a_all_spots d_all_spots
  g_all_spots : mg "all_spots" = some (.ref a_all_spots)
  a_need_spot : Addr
  d_need_spot : FuncData
  F_need_spot : FunD K "need_spot" "need_spot" (defArgs s_need_spot) (defBody s_need_spot) (defScope s_need_spot) [] [] a_need_spot d_need_spot
  g_need_spot : mg "need_spot" = some (.ref a_need_spot)
  a_spots_by_case : Addr
  d_spots_by_case : FuncData
  F_spots_by_case : FunD K "spots_by_case" "spots_by_case" (defArgs s_spots_by_case) (defBody s_spots_by_case) (defScope s_spots_by_case) [] [] a_spots_by_case d_spots_by_case
  g_spots_by_case : mg "spots_by_case" = some (.ref a_spots_by_case)
  a_dead : Addr
  d_dead : FuncData
  F_dead : FunD K "dead" "dead" (defArgs s_dead) (defBody s_dead) (defScope s_dead) [] [] a_dead d_dead
  g_dead : mg "dead" = some (.ref a_dead)
  a_taker : Addr
  d_taker : FuncData
  F_taker : FunD K "taker" "taker" (defArgs s_taker) (defBody s_taker) (defScope s_taker) [] [] a_taker d_taker
  g_taker : mg "taker" = some (.ref a_taker)
  a_law_mixed : Addr
  d_law_mixed : FuncData
  F_law_mixed : FunD K "_law_mixed" "_law_mixed" (defArgs s_law_mixed) (defBody s_law_mixed) (defScope s_law_mixed) [] [] a_law_mixed d_law_mixed
  g_law_mixed : mg "_law_mixed" = some (.ref a_law_mixed)
  a_law_begin : Addr
  d_law_begin : FuncData
  F_law_begin : FunD K "_law_begin" "_law_begin" (defArgs s_law_begin) (defBody s_law_begin) (defScope s_law_begin) [] [] a_law_begin d_law_begin
  g_law_begin : mg "_law_begin" = some (.ref a_law_begin)
  a_law_draw : Addr
  d_law_draw : FuncData
  F_law_draw : FunD K "_law_draw" "_law_draw" (defArgs s_law_draw) (defBody s_law_draw) (defScope s_law_draw) [] [] a_law_draw d_law_draw
  g_law_draw : mg "_law_draw" = some (.ref a_law_draw)
  a_law_of : Addr
  d_law_of : FuncData
  F_law_of : FunD K "_law_of" "_law_of" (defArgs s_law_of) (defBody s_law_of) (defScope s_law_of) [] [] a_law_of d_law_of
  g_law_of : mg "_law_of" = some (.ref a_law_of)
  a_law_worked : Addr
  d_law_worked : FuncData
  F_law_worked : FunD K "_law_worked" "_law_worked" (defArgs s_law_worked) (defBody s_law_worked) (defScope s_law_worked) [] [] a_law_worked d_law_worked
  g_law_worked : mg "_law_worked" = some (.ref a_law_worked)
  a_law_run_seen : Addr
  d_law_run_seen : FuncData
  F_law_run_seen : FunD K "_law_run_seen" "_law_run_seen" (defArgs s_law_run_seen) (defBody s_law_run_seen) (defScope s_law_run_seen) [] [] a_law_run_seen d_law_run_seen
  g_law_run_seen : mg "_law_run_seen" = some (.ref a_law_run_seen)
  a_law_names : Addr
  d_law_names : FuncData
  F_law_names : FunD K "_law_names" "_law_names" (defArgs s_law_names) (defBody s_law_names) (defScope s_law_names) [] [] a_law_names d_law_names
  g_law_names : mg "_law_names" = some (.ref a_law_names)
  a_law_plain : Addr
  d_law_plain : FuncData
  F_law_plain : FunD K "_law_plain" "_law_plain" (defArgs s_law_plain) (defBody s_law_plain) (defScope s_law_plain) [] [] a_law_plain d_law_plain
  g_law_plain : mg "_law_plain" = some (.ref a_law_plain)
  a_law_text : Addr
  d_law_text : FuncData
  F_law_text : FunD K "_law_text" "_law_text" (defArgs s_law_text) (defBody s_law_text) (defScope s_law_text) [] [] a_law_text d_law_text
  g_law_text : mg "_law_text" = some (.ref a_law_text)
  a_law_row : Addr
  d_law_row : FuncData
  F_law_row : FunD K "_law_row" "_law_row" (defArgs s_law_row) (defBody s_law_row) (defScope s_law_row) [] [] a_law_row d_law_row
  g_law_row : mg "_law_row" = some (.ref a_law_row)
  a_law_file : Addr
  d_law_file : FuncData
  F_law_file : FunD K "_law_file" "_law_file" (defArgs s_law_file) (defBody s_law_file) (defScope s_law_file) [] [] a_law_file d_law_file
  g_law_file : mg "_law_file" = some (.ref a_law_file)
  a_law_worlds : Addr
  d_law_worlds : FuncData
  F_law_worlds : FunD K "_law_worlds" "_law_worlds" (defArgs s_law_worlds) (defBody s_law_worlds) (defScope s_law_worlds) [] [] a_law_worlds d_law_worlds
  g_law_worlds : mg "_law_worlds" = some (.ref a_law_worlds)
  a_law_is_long : Addr
  d_law_is_long : FuncData
  F_law_is_long : FunD K "_law_is_long" "_law_is_long" (defArgs s_law_is_long) (defBody s_law_is_long) (defScope s_law_is_long) [] [] a_law_is_long d_law_is_long
  g_law_is_long : mg "_law_is_long" = some (.ref a_law_is_long)
  a_law_is_refused : Addr
  d_law_is_refused : FuncData
  F_law_is_refused : FunD K "_law_is_refused" "_law_is_refused" (defArgs s_law_is_refused) (defBody s_law_is_refused) (defScope s_law_is_refused) [] [] a_law_is_refused d_law_is_refused
  g_law_is_refused : mg "_law_is_refused" = some (.ref a_law_is_refused)
  a_law_traced : Addr
  d_law_traced : FuncData
  F_law_traced : FunD K "_law_traced" "_law_traced" (defArgs s_law_traced) (defBody s_law_traced) (defScope s_law_traced) [] [] a_law_traced d_law_traced
  g_law_traced : mg "_law_traced" = some (.ref a_law_traced)
  a_law_met : Addr
  d_law_met : FuncData
  F_law_met : FunD K "_law_met" "_law_met" (defArgs s_law_met) (defBody s_law_met) (defScope s_law_met) [] [] a_law_met d_law_met
  g_law_met : mg "_law_met" = some (.ref a_law_met)
  a_law_spots : Addr
  d_law_spots : FuncData
  F_law_spots : FunD K "_law_spots" "_law_spots" (defArgs s_law_spots) (defBody s_law_spots) (defScope s_law_spots) [] [] a_law_spots d_law_spots
  g_law_spots : mg "_law_spots" = some (.ref a_law_spots)
  a_law_size : Addr
  d_law_size : FuncData
  F_law_size : FunD K "_law_size" "_law_size" (defArgs s_law_size) (defBody s_law_size) (defScope s_law_size) [] [] a_law_size d_law_size
  g_law_size : mg "_law_size" = some (.ref a_law_size)
  a_law_file_right : Addr
  d_law_file_right : FuncData
  F_law_file_right : FunD K "_law_file_right" "_law_file_right" (defArgs s_law_file_right) (defBody s_law_file_right) (defScope s_law_file_right) [] [] a_law_file_right d_law_file_right
  g_law_file_right : mg "_law_file_right" = some (.ref a_law_file_right)
  a_law : Addr
  d_law : FuncData
  F_law : FunD K "law" "law" (defArgs s_law) (defBody s_law) (defScope s_law) [] [] a_law d_law
  g_law : mg "law" = some (.ref a_law)
  k_MOST_ROWS : ∃ u, mg "MOST_ROWS" = some u ∧ RelV (.int 40) u
  k_MOST_NAMES : ∃ u, mg "MOST_NAMES" = some u ∧ RelV (.int 12) u
  k_MOST_ASKED : ∃ u, mg "MOST_ASKED" = some u ∧ RelV (.int 6) u
  k_MOST_PIECES : ∃ u, mg "MOST_PIECES" = some u ∧ RelV (.int 8) u
  k_MOST_PLAIN : ∃ u, mg "MOST_PLAIN" = some u ∧ RelV (.int 20) u
  k_MOST_LEVELS : ∃ u, mg "MOST_LEVELS" = some u ∧ RelV (.int 4) u
  k_MOST_IN_NAME : ∃ u, mg "MOST_IN_NAME" = some u ∧ RelV (.int 8) u
  k_CAPITALS : ∃ u, mg "CAPITALS" = some u ∧ RelV (.str "ABCDEFGHIJKLMNOPQRSTUVWXYZ") u
  k_PLAIN_SIGNS : ∃ u, mg "PLAIN_SIGNS" = some u ∧ RelV (.str "abcdefghijklmnopqrstuvwxyz0123456789 _./:=,@-") u
  k_SET : ∃ u, mg "SET" = some u ∧ RelV (.str "set") u
  k_GIVE : ∃ u, mg "GIVE" = some u ∧ RelV (.str "give") u
  k_DROP : ∃ u, mg "DROP" = some u ∧ RelV (.str "drop") u
  k_CHECK : ∃ u, mg "CHECK" = some u ∧ RelV (.str "check") u
  k_MOST_LONG : ∃ u, mg "MOST_LONG" = some u ∧ RelV (.int 400) u
  k_UNSET : ∃ u, mg "UNSET" = some u ∧ RelV (.str "unset") u
  k_EMPTY : ∃ u, mg "EMPTY" = some u ∧ RelV (.str "empty") u
  k_FULL : ∃ u, mg "FULL" = some u ∧ RelV (.str "full") u
  k_DONE : ∃ u, mg "DONE" = some u ∧ RelV (.str "done") u
  k_STOPPED : ∃ u, mg "STOPPED" = some u ∧ RelV (.str "stopped") u
  k_ONE_SIGN : ∃ u, mg "ONE_SIGN" = some u ∧ RelV (.str "a") u
  a_SIGNS : Addr
  g_SIGNS : mg "SIGNS" = some (.ref a_SIGNS)
  t_SIGNS : ∃ (o : Obj) (its : Array Value) (n : Nat), K.lookup a_SIGNS = some o ∧ o.cls = .type "tuple" ∧ o.data = .seq its n ∧ its.size ≤ sizeLine ∧ Vals (["", "-", ":-", "+", ":+", "?", ":?", "=", ":="].map fun s => V.str (Str.ofString s)) its.toList
  n_len : mg "len" = none
  n_isinstance : mg "isinstance" = none
  n_str : mg "str" = none
  n_tuple : mg "tuple" = none
  n_int : mg "int" = none
  n_bool : mg "bool" = none
  n_dict : mg "dict" = none
  n_list : mg "list" = none
  n_set : mg "set" = none
  n_sorted : mg "sorted" = none
  n_enumerate : mg "enumerate" = none
  n_all : mg "all" = none
  n_sum : mg "sum" = none
  n_max : mg "max" = none
  n_min : mg "min" = none
  n_range : mg "range" = none
  n_repr : mg "repr" = none
  n_Exception : mg "Exception" = none
  a_RowsError : Addr
  g_RowsError : mg "RowsError" = some (.ref a_RowsError)
  i_RowsError : IniC K a_RowsError
  a_TooLong : Addr
  g_TooLong : mg "TooLong" = some (.ref a_TooLong)
  o_TooLong : OexC K a_TooLong
  i_TooLong : PySem.W.findIn K (.ref a_TooLong) "__init__" = some (some (.ref a_TooLong_init))
  f_TooLong : PySem.W.typeIn K (.ref a_TooLong_init) = some (.type "function")
  m_TooLong : PySem.W.findIn K (.ref a_TooLong) "most" = some none
  e_TooLong : ExcC K a_TooLong
  x_TooLong : XfC K a_TooLong
  c_TooLong : PySem.W.kitOne K (.ref a_TooLong) (.ref a_TooLong) = some true
  r_TooLong : PySem.W.exmOne K (.ref a_TooLong) (.ref a_RowsError) = some true
  a_Stop : Addr
  g_Stop : mg "Stop" = some (.ref a_Stop)
  o_Stop : OexE K a_Stop
  i_Stop : PySem.W.findIn K (.ref a_Stop) "__init__" = some (some (.ref a_Stop_init))
  f_Stop : PySem.W.typeIn K (.ref a_Stop_init) = some (.type "function")
  m_Stop : PySem.W.findIn K (.ref a_Stop) "message" = some none
  x_Stop : XfC K a_Stop
  r_Stop : PySem.W.exmOne K (.ref a_Stop) (.ref a_Stop) = some true
  s_TooLong : PySem.W.exmOne K (.ref a_TooLong) (.ref a_Stop) = some false
  v_Exc : PySem.W.findCls K (.type "Exception") (.type "type") "__init__" = some (.val (.builtin "Exception.__init__"))
  a_Runner : Addr
  g_Runner : mg "Runner" = some (.ref a_Runner)
  l_Runner : Cls K a_Runner
  k_Runner : Mk K a_Runner a_Runner_init
  p_Runner : Meth K a_Runner "part" a_Runner_part
  w_Runner : Meth K a_Runner "worked" a_Runner_worked
  d_Runner : Meth K a_Runner "done_row" a_Runner_done_row
  r_Runner : Meth K a_Runner "run_rows" a_Runner_run_rows
  v_Runner : NoAttr K a_Runner "values_now"
  s_Runner : NoAttr K a_Runner "spots_seen"
end EV
end

section
set_option Elab.async false
set_option linter.all false
set_option maxRecDepth 100000
set_option maxHeartbeats 4000000
/-! facts of the written classes as Bools -/
namespace EV
open PySem PySem.Spec PyProof.Rows L2
def clsObB (K : PySem.W.Frag) (C : Addr) (newId : String) (okT : List Value → Bool) : Bool := match K.lookup C with
  | some ⟨.type "type", _, .cls cd, sl⟩ => (match cd.mro, sl.toList with
    | .ref C' :: bm, [_, _, _, _, some (.builtin n), _] => C' == C && n == newId && !cd.hasDel && cd.hasDict && okT bm
    | _, _ => false)
  | _ => false
theorem clsObB_ok {K : PySem.W.Frag} {C : Addr} {newId : String} {okT : List Value → Bool} (q : clsObB K C newId okT = true) :
    ∃ nm qn N bs bm sn sub ab col dd k0 k1 k2 k3 k5, K.lookup C = some (excClassObj nm qn C N bs bm true sn sub ab col dd k0 k1 k2 k3 k5 newId) ∧ okT bm = true := by
  unfold clsObB at q
  split at q
  · rename_i dd cd sl ho
    split at q
    · rename_i C' bm k0 k1 k2 k3 n k5 hm hs
      simp only [Bool.and_eq_true, beq_iff_eq, Bool.not_eq_true'] at q
      obtain ⟨⟨⟨⟨rfl, rfl⟩, hdel⟩, hdi⟩, ht⟩ := q
      obtain ⟨nm, bs, mro, ns, qn, hd, sn, sub, ab, col, del⟩ := cd
      dsimp only at hm hdel hdi
      subst hm hdel hdi
      have hsl : sl = #[k0, k1, k2, k3, some (.builtin n), k5] := by
        obtain ⟨l⟩ := sl
        simp only at hs
        rw [hs]
      subst hsl
      exact ⟨nm, qn, ns, bs, bm, sn, sub, ab, col, dd, k0, k1, k2, k3, k5, ho, ht⟩
    · cases q
  · cases q
def oexB (K : PySem.W.Frag) (C : Addr) : Bool := clsObB K C "ValueError.__new__" PySem.HandSPX.refsVE && (decide (PySem.W.findIn K (.ref C) "__setattr__" = some (some (.builtin "object.__setattr__"))) && (decide (PySem.W.subIn K (.ref C) (.type "BaseException") = some true) &&
  (decide (PySem.W.typeIn K (.ref C) = some (.type "type")) && PySem.W.keepIn K (.ref C))))
theorem oexB_ok {K : PySem.W.Frag} {C : Addr} (h : oexB K C = true) : OexC K C := by
  obtain ⟨h1, h⟩ := Bool.and_eq_true_iff.mp h
  obtain ⟨h2, h⟩ := Bool.and_eq_true_iff.mp h
  obtain ⟨h3, h⟩ := Bool.and_eq_true_iff.mp h
  obtain ⟨h4, h5⟩ := Bool.and_eq_true_iff.mp h
  exact ⟨clsObB_ok h1, of_decide_eq_true h2, of_decide_eq_true h3, of_decide_eq_true h4, h5⟩
def oeeB (K : PySem.W.Frag) (C : Addr) : Bool := clsObB K C "Exception.__new__" (fun l => l == PySem.ESX.exTail) && (decide (PySem.W.findIn K (.ref C) "__setattr__" = some (some (.builtin "object.__setattr__"))) && (decide (PySem.W.subIn K (.ref C) (.type "BaseException") = some true) &&
  (decide (PySem.W.typeIn K (.ref C) = some (.type "type")) && PySem.W.keepIn K (.ref C))))
theorem oeeB_ok {K : PySem.W.Frag} {C : Addr} (h : oeeB K C = true) : OexE K C := by
  obtain ⟨h1, h⟩ := Bool.and_eq_true_iff.mp h
  obtain ⟨h2, h⟩ := Bool.and_eq_true_iff.mp h
  obtain ⟨h3, h⟩ := Bool.and_eq_true_iff.mp h
  obtain ⟨h4, h5⟩ := Bool.and_eq_true_iff.mp h
  obtain ⟨nm, qn, N, bs, bm, sn, sub, ab, col, dd, k0, k1, k2, k3, k5, ho, ht⟩ := clsObB_ok h1
  have e : bm = PySem.ESX.exTail := beq_iff_eq.mp ht
  subst e
  exact ⟨⟨nm, qn, N, bs, sn, sub, ab, col, dd, k0, k1, k2, k3, k5, ho⟩, of_decide_eq_true h2, of_decide_eq_true h3, of_decide_eq_true h4, h5⟩
def iniB (K : PySem.W.Frag) (B : Addr) : Bool := PySem.W.readsIn K B (.type "type") && (decide (PySem.W.specialIn K (.ref B) "__getattribute__" = some (some (.builtin "type.__getattribute__"))) && (match PySem.W.findCls K (.ref B) (.type "type") "__init__" with
  | some (.val (.builtin n)) => n == "ValueError.__init__"
  | _ => false))
theorem iniB_ok {K : PySem.W.Frag} {B : Addr} (h : iniB K B = true) : IniC K B := by
  obtain ⟨h1, h⟩ := Bool.and_eq_true_iff.mp h
  obtain ⟨h2, h3⟩ := Bool.and_eq_true_iff.mp h
  refine ⟨h1, of_decide_eq_true h2, ?_⟩
  split at h3
  · rename_i n e
    rw [e, beq_iff_eq.mp h3]
  · cases h3
def vExB (K : PySem.W.Frag) : Bool := match PySem.W.findCls K (.type "Exception") (.type "type") "__init__" with
  | some (.val (.builtin n)) => n == "Exception.__init__"
  | _ => false
theorem vExB_ok {K : PySem.W.Frag} (h : vExB K = true) : PySem.W.findCls K (.type "Exception") (.type "type") "__init__" = some (.val (.builtin "Exception.__init__")) := by
  unfold vExB at h
  split at h
  · rename_i n e
    rw [e, beq_iff_eq.mp h]
  · cases h
def excB (K : PySem.W.Frag) (D : Addr) : Bool := He.eqO (PySem.W.findIn K (.ref D) "__getattribute__") (some (some (.builtin "BaseException.__getattribute__"))) && (He.eqO (PySem.W.findIn K (.ref D) "__getattr__") (some none) && (decide (PySem.W.subIn K (.ref D) (.type "BaseException") = some true) &&
  (PySem.W.hasDictIn K D && (He.eqO (PySem.W.findIn K (.ref D) "__class__") (some (some (.builtin "object.__class__"))) && (He.eqO (PySem.W.specialIn K (.builtin "object.__class__") "__get__") (some (some (.builtin "getset_descriptor.__get__"))) &&
  (decide (PySem.W.takesIn K (.builtin "object.__class__") = some true) && decide (PySem.W.mroIn K D (.type "object") = some true)))))))
theorem excB_ok {K : PySem.W.Frag} {D : Addr} (h : excB K D = true) : ExcC K D := by
  obtain ⟨h1, h⟩ := Bool.and_eq_true_iff.mp h
  obtain ⟨h2, h⟩ := Bool.and_eq_true_iff.mp h
  obtain ⟨h3, h⟩ := Bool.and_eq_true_iff.mp h
  obtain ⟨h4, h⟩ := Bool.and_eq_true_iff.mp h
  obtain ⟨h5, h⟩ := Bool.and_eq_true_iff.mp h
  obtain ⟨h6, h⟩ := Bool.and_eq_true_iff.mp h
  obtain ⟨h7, h8⟩ := Bool.and_eq_true_iff.mp h
  exact ⟨He.eqO_ok h1, He.eqO_ok h2, of_decide_eq_true h3, h4, He.eqO_ok h5, He.eqO_ok h6, of_decide_eq_true h7, of_decide_eq_true h8⟩
/-- the tuple SIGNS -/
def signL : List Str := ["", "-", ":-", "+", ":+", "?", ":?", "=", ":="].map Str.ofString
def strV : Value → Option Str | .str s _ => some s | _ => none
def signsB (K : PySem.W.Frag) : Bool := match K.lookup (He.ga K "SIGNS") with
  | some ⟨.type c, _, .seq its _, _⟩ => c == "tuple" && (its.toList.map strV == signL.map some)
  | _ => false
theorem strV_vals : ∀ {us : List Value} {ss : List Str}, us.map strV = ss.map some → Vals (ss.map V.str) us
  | [], [], _ => .nil
  | [], _ :: _, h => by cases h
  | _ :: _, [], h => by cases h
  | u :: us, s :: ss, h => by
    rw [List.map_cons, List.map_cons] at h
    obtain ⟨h1, h2⟩ := List.cons.inj h
    cases u <;> first | (cases h1; done) | skip
    rename_i z t
    obtain rfl : z = s := Option.some.inj h1
    exact .cons ⟨t, rfl⟩ (strV_vals h2)
theorem signsB_ok {K : PySem.W.Frag} (h : signsB K = true) : ∃ (o : Obj) (its : Array Value) (n : Nat), K.lookup (He.ga K "SIGNS") = some o ∧ o.cls = .type "tuple" ∧ o.data = .seq its n ∧ its.size ≤ sizeLine ∧ Vals (["", "-", ":-", "+", ":+", "?", ":?", "=", ":="].map fun s => V.str (Str.ofString s)) its.toList := by
  unfold signsB at h
  split at h
  · rename_i c _ its n _ e
    obtain ⟨h1, h2⟩ := Bool.and_eq_true_iff.mp h
    have h1 := beq_iff_eq.mp h1
    have h2 := beq_iff_eq.mp h2
    subst h1
    have hl := congrArg List.length h2
    rw [List.length_map, List.length_map] at hl
    refine ⟨_, its, n, e, rfl, rfl, ?_, ?_⟩
    · have : signL.length = 9 := rfl
      rw [Array.length_toList] at hl
      rw [sizeLine_eq]; omega
    · have := strV_vals h2
      unfold signL at this
      rw [List.map_map] at this
      exact this
  · cases h
end EV
end

section
set_option Elab.async false
set_option linter.all false
set_option maxRecDepth 100000
set_option maxHeartbeats 0
namespace EV
open PySem PySem.Spec PyProof.Rows L2
def d_BadFile_init : He.DefD := ⟨("BadFile", some "__init__"), "__init__", "BadFile.__init__", defArgs s_BadFile_init, defBody s_BadFile_init, defScope s_BadFile_init, [], []⟩
def d_BadSpot_init : He.DefD := ⟨("BadSpot", some "__init__"), "__init__", "BadSpot.__init__", defArgs s_BadSpot_init, defBody s_BadSpot_init, defScope s_BadSpot_init, [], []⟩
def d_TooMany_init : He.DefD := ⟨("TooMany", some "__init__"), "__init__", "TooMany.__init__", defArgs s_TooMany_init, defBody s_TooMany_init, defScope s_TooMany_init, [], []⟩
def d_TooLong_init : He.DefD := ⟨("TooLong", some "__init__"), "__init__", "TooLong.__init__", defArgs s_TooLong_init, defBody s_TooLong_init, defScope s_TooLong_init, [], []⟩
def d_is_name : He.DefD := ⟨("is_name", none), "is_name", "is_name", defArgs s_is_name, defBody s_is_name, defScope s_is_name, [], []⟩
def d_is_plain : He.DefD := ⟨("is_plain", none), "is_plain", "is_plain", defArgs s_is_plain, defBody s_is_plain, defScope s_is_plain, [], []⟩
def d_is_part : He.DefD := ⟨("is_part", none), "is_part", "is_part", defArgs s_is_part, defBody s_is_part, defScope s_is_part, [], []⟩
def d_is_text_of : He.DefD := ⟨("is_text_of", none), "is_text_of", "is_text_of", defArgs s_is_text_of, defBody s_is_text_of, defScope s_is_text_of, [], []⟩
def d_is_text : He.DefD := ⟨("is_text", none), "is_text", "is_text", defArgs s_is_text, defBody s_is_text, defScope s_is_text, [], []⟩
def d_is_row : He.DefD := ⟨("is_row", none), "is_row", "is_row", defArgs s_is_row, defBody s_is_row, defScope s_is_row, [], []⟩
def d_text_of_row : He.DefD := ⟨("text_of_row", none), "text_of_row", "text_of_row", defArgs s_text_of_row, defBody s_text_of_row, defScope s_text_of_row, [], []⟩
def d_names_in_text : He.DefD := ⟨("names_in_text", none), "names_in_text", "names_in_text", defArgs s_names_in_text, defBody s_names_in_text, defScope s_names_in_text, [], []⟩
def d_names_in : He.DefD := ⟨("names_in", none), "names_in", "names_in", defArgs s_names_in, defBody s_names_in, defScope s_names_in, [], []⟩
def d_need_file : He.DefD := ⟨("need_file", none), "need_file", "need_file", defArgs s_need_file, defBody s_need_file, defScope s_need_file, [], []⟩
def d_kind_of : He.DefD := ⟨("kind_of", none), "kind_of", "kind_of", defArgs s_kind_of, defBody s_kind_of, defScope s_kind_of, [], []⟩
def d_is_hard : He.DefD := ⟨("is_hard", none), "is_hard", "is_hard", defArgs s_is_hard, defBody s_is_hard, defScope s_is_hard, [], []⟩
def d_all_names : He.DefD := ⟨("all_names", none), "all_names", "all_names", defArgs s_all_names, defBody s_all_names, defScope s_all_names, [], []⟩
def d_all_cases : He.DefD := ⟨("all_cases", none), "all_cases", "all_cases", defArgs s_all_cases, defBody s_all_cases, defScope s_all_cases, [], []⟩
def d_begun : He.DefD := ⟨("begun", none), "begun", "begun", defArgs s_begun, defBody s_begun, defScope s_begun, [], []⟩
def d_length_of : He.DefD := ⟨("length_of", none), "length_of", "length_of", defArgs s_length_of, defBody s_length_of, defScope s_length_of, [], []⟩
def d_put_together : He.DefD := ⟨("put_together", none), "put_together", "put_together", defArgs s_put_together, defBody s_put_together, defScope s_put_together, [], []⟩
def d_Stop_init : He.DefD := ⟨("Stop", some "__init__"), "__init__", "Stop.__init__", defArgs s_Stop_init, defBody s_Stop_init, defScope s_Stop_init, [], []⟩
def d_Runner_init : He.DefD := ⟨("Runner", some "__init__"), "__init__", "Runner.__init__", defArgs s_Runner_init, defBody s_Runner_init, defScope s_Runner_init, [], []⟩
def d_Runner_part : He.DefD := ⟨("Runner", some "part"), "part", "Runner.part", defArgs s_Runner_part, defBody s_Runner_part, defScope s_Runner_part, [], []⟩
def d_Runner_worked : He.DefD := ⟨("Runner", some "worked"), "worked", "Runner.worked", defArgs s_Runner_worked, defBody s_Runner_worked, defScope s_Runner_worked, [], []⟩
def d_Runner_done_row : He.DefD := ⟨("Runner", some "done_row"), "done_row", "Runner.done_row", defArgs s_Runner_done_row, defBody s_Runner_done_row, defScope s_Runner_done_row, [], []⟩
def d_Runner_run_rows : He.DefD := ⟨("Runner", some "run_rows"), "run_rows", "Runner.run_rows", defArgs s_Runner_run_rows, defBody s_Runner_run_rows, defScope s_Runner_run_rows, [], []⟩
def d_spots_in : He.DefD := ⟨("spots_in", none), "spots_in", "spots_in", defArgs s_spots_in, defBody s_spots_in, defScope s_spots_in, [], []⟩
def d_environment_of : He.DefD := ⟨("environment_of", none), "environment_of", "environment_of", defArgs s_environment_of, defBody s_environment_of, defScope s_environment_of, [], []⟩
def d_least_environment : He.DefD := ⟨("least_environment", none), "least_environment", "least_environment", defArgs s_least_environment, defBody s_least_environment, defScope s_least_environment, [], []⟩
def d_spots_of : He.DefD := ⟨("spots_of", none), "spots_of", "spots_of", defArgs s_spots_of, defBody s_spots_of, defScope s_spots_of, [], []⟩
def d_all_spots : He.DefD := ⟨("all_spots", none), "all_spots", "all_spots", defArgs s_all_spots, defBody s_all_spots, defScope s_all_spots, [], []⟩
def d_need_spot : He.DefD := ⟨("need_spot", none), "need_spot", "need_spot", defArgs s_need_spot, defBody s_need_spot, defScope s_need_spot, [], []⟩
def d_spots_by_case : He.DefD := ⟨("spots_by_case", none), "spots_by_case", "spots_by_case", defArgs s_spots_by_case, defBody s_spots_by_case, defScope s_spots_by_case, [], []⟩
def d_dead : He.DefD := ⟨("dead", none), "dead", "dead", defArgs s_dead, defBody s_dead, defScope s_dead, [], []⟩
def d_taker : He.DefD := ⟨("taker", none), "taker", "taker", defArgs s_taker, defBody s_taker, defScope s_taker, [], []⟩
def d_law_mixed : He.DefD := ⟨("_law_mixed", none), "_law_mixed", "_law_mixed", defArgs s_law_mixed, defBody s_law_mixed, defScope s_law_mixed, [], []⟩
def d_law_begin : He.DefD := ⟨("_law_begin", none), "_law_begin", "_law_begin", defArgs s_law_begin, defBody s_law_begin, defScope s_law_begin, [], []⟩
def d_law_draw : He.DefD := ⟨("_law_draw", none), "_law_draw", "_law_draw", defArgs s_law_draw, defBody s_law_draw, defScope s_law_draw, [], []⟩
def d_law_of : He.DefD := ⟨("_law_of", none), "_law_of", "_law_of", defArgs s_law_of, defBody s_law_of, defScope s_law_of, [], []⟩
def d_law_worked : He.DefD := ⟨("_law_worked", none), "_law_worked", "_law_worked", defArgs s_law_worked, defBody s_law_worked, defScope s_law_worked, [], []⟩
def d_law_run_seen : He.DefD := ⟨("_law_run_seen", none), "_law_run_seen", "_law_run_seen", defArgs s_law_run_seen, defBody s_law_run_seen, defScope s_law_run_seen, [], []⟩
def d_law_names : He.DefD := ⟨("_law_names", none), "_law_names", "_law_names", defArgs s_law_names, defBody s_law_names, defScope s_law_names, [], []⟩
def d_law_plain : He.DefD := ⟨("_law_plain", none), "_law_plain", "_law_plain", defArgs s_law_plain, defBody s_law_plain, defScope s_law_plain, [], []⟩
def d_law_text : He.DefD := ⟨("_law_text", none), "_law_text", "_law_text", defArgs s_law_text, defBody s_law_text, defScope s_law_text, [], []⟩
def d_law_row : He.DefD := ⟨("_law_row", none), "_law_row", "_law_row", defArgs s_law_row, defBody s_law_row, defScope s_law_row, [], []⟩
def d_law_file : He.DefD := ⟨("_law_file", none), "_law_file", "_law_file", defArgs s_law_file, defBody s_law_file, defScope s_law_file, [], []⟩
def d_law_worlds : He.DefD := ⟨("_law_worlds", none), "_law_worlds", "_law_worlds", defArgs s_law_worlds, defBody s_law_worlds, defScope s_law_worlds, [], []⟩
def d_law_is_long : He.DefD := ⟨("_law_is_long", none), "_law_is_long", "_law_is_long", defArgs s_law_is_long, defBody s_law_is_long, defScope s_law_is_long, [], []⟩
def d_law_is_refused : He.DefD := ⟨("_law_is_refused", none), "_law_is_refused", "_law_is_refused", defArgs s_law_is_refused, defBody s_law_is_refused, defScope s_law_is_refused, [], []⟩
def d_law_traced : He.DefD := ⟨("_law_traced", none), "_law_traced", "_law_traced", defArgs s_law_traced, defBody s_law_traced, defScope s_law_traced, [], []⟩
def d_law_met : He.DefD := ⟨("_law_met", none), "_law_met", "_law_met", defArgs s_law_met, defBody s_law_met, defScope s_law_met, [], []⟩
def d_law_spots : He.DefD := ⟨("_law_spots", none), "_law_spots", "_law_spots", defArgs s_law_spots, defBody s_law_spots, defScope s_law_spots, [], []⟩
def d_law_size : He.DefD := ⟨("_law_size", none), "_law_size", "_law_size", defArgs s_law_size, defBody s_law_size, defScope s_law_size, [], []⟩
def d_law_file_right : He.DefD := ⟨("_law_file_right", none), "_law_file_right", "_law_file_right", defArgs s_law_file_right, defBody s_law_file_right, defScope s_law_file_right, [], []⟩
def d_law : He.DefD := ⟨("law", none), "law", "law", defArgs s_law, defBody s_law, defScope s_law, [], []⟩
def fnL0 : List He.DefD := [d_BadFile_init, d_BadSpot_init, d_TooMany_init, d_TooLong_init, d_is_name, d_is_plain, d_is_part, d_is_text_of, d_is_text, d_is_row, d_text_of_row, d_names_in_text, d_names_in, d_need_file, d_kind_of, d_is_hard, d_all_names, d_all_cases, d_begun, d_length_of]
def fnL1 : List He.DefD := [d_put_together, d_Stop_init, d_Runner_init, d_Runner_part, d_Runner_worked, d_Runner_done_row, d_Runner_run_rows, d_spots_in, d_environment_of, d_least_environment, d_spots_of, d_all_spots, d_need_spot, d_spots_by_case, d_dead, d_taker, d_law_mixed, d_law_begin, d_law_draw, d_law_of]
def fnL2 : List He.DefD := [d_law_worked, d_law_run_seen, d_law_names, d_law_plain, d_law_text, d_law_row, d_law_file, d_law_worlds, d_law_is_long, d_law_is_refused, d_law_traced, d_law_met, d_law_spots, d_law_size, d_law_file_right, d_law]
def fnL : List He.DefD := fnL0 ++ fnL1 ++ fnL2
def loose0 : List PySem.Str := ["RowsError", "BadFile", "BadSpot", "TooMany", "TooLong", "MOST_ROWS", "MOST_NAMES", "MOST_ASKED", "MOST_PIECES", "MOST_PLAIN", "MOST_LEVELS", "MOST_IN_NAME", "CAPITALS", "PLAIN_SIGNS", "SIGNS", "SET", "GIVE", "DROP", "CHECK", "is_name"]
def loose1 : List PySem.Str := ["is_plain", "is_part", "is_text_of", "is_text", "is_row", "text_of_row", "names_in_text", "names_in", "need_file", "kind_of", "is_hard", "all_names", "MOST_LONG", "UNSET", "EMPTY", "FULL", "DONE", "STOPPED", "all_cases", "begun"]
def loose2 : List PySem.Str := ["length_of", "put_together", "Stop", "Runner", "spots_in", "ONE_SIGN", "environment_of", "least_environment", "spots_of", "all_spots", "need_spot", "spots_by_case", "dead", "taker", "_law_mixed", "_law_begin", "_law_draw", "_law_of", "_law_worked", "_law_run_seen"]
def loose3 : List PySem.Str := ["_law_names", "_law_plain", "_law_text", "_law_row", "_law_file", "_law_worlds", "_law_is_long", "_law_is_refused", "_law_traced", "_law_met", "_law_spots", "_law_size", "_law_file_right"]
def loose : List PySem.Str := loose0 ++ loose1 ++ loose2 ++ loose3
def fa0 : List He.Fa := [.glo "is_name", .glo "is_plain", .glo "is_part", .glo "is_text_of", .glo "is_text", .glo "is_row", .glo "text_of_row", .glo "names_in_text", .glo "names_in", .glo "need_file", .glo "kind_of", .glo "is_hard", .glo "all_names", .glo "all_cases", .glo "begun", .glo "length_of", .glo "put_together", .glo "spots_in", .glo "environment_of", .glo "least_environment", .glo "spots_of", .glo "all_spots", .glo "need_spot", .glo "spots_by_case", .glo "dead", .glo "taker", .glo "_law_mixed", .glo "_law_begin", .glo "_law_draw", .glo "_law_of"]
def fa1 : List He.Fa := [.glo "_law_worked", .glo "_law_run_seen", .glo "_law_names", .glo "_law_plain", .glo "_law_text", .glo "_law_row", .glo "_law_file", .glo "_law_worlds", .glo "_law_is_long", .glo "_law_is_refused", .glo "_law_traced", .glo "_law_met", .glo "_law_spots", .glo "_law_size", .glo "_law_file_right", .glo "law", .glo "SIGNS", .glo "RowsError", .glo "TooLong", .glo "Stop", .glo "Runner", .int "MOST_ROWS" 40, .int "MOST_NAMES" 12, .int "MOST_ASKED" 6, .int "MOST_PIECES" 8, .int "MOST_PLAIN" 20, .int "MOST_LEVELS" 4, .int "MOST_IN_NAME" 8, .int "MOST_LONG" 400, .str "CAPITALS" "ABCDEFGHIJKLMNOPQRSTUVWXYZ"]
def fa2 : List He.Fa := [.str "PLAIN_SIGNS" "abcdefghijklmnopqrstuvwxyz0123456789 _./:=,@-", .str "SET" "set", .str "GIVE" "give", .str "DROP" "drop", .str "CHECK" "check", .str "UNSET" "unset", .str "EMPTY" "empty", .str "FULL" "full", .str "DONE" "done", .str "STOPPED" "stopped", .str "ONE_SIGN" "a", .free "len", .free "isinstance", .free "str", .free "tuple", .free "int", .free "bool", .free "dict", .free "list", .free "set", .free "sorted", .free "enumerate", .free "all", .free "sum", .free "max", .free "min", .free "range", .free "repr", .free "Exception", .cls "Runner"]
def fa3 : List He.Fa := [.mkr "Runner", .meth "Runner" "part", .meth "Runner" "worked", .meth "Runner" "done_row", .meth "Runner" "run_rows", .noat "Runner" "values_now", .noat "Runner" "spots_seen", .noat "TooLong" "most", .noat "Stop" "message", .meth "TooLong" "__init__", .meth "Stop" "__init__", .exm "TooLong" "RowsError" true, .exm "Stop" "Stop" true, .exm "TooLong" "Stop" false]
def fa : List He.Fa := fa0 ++ (fa1 ++ (fa2 ++ (fa3)))
/-- the facts that are no Fa -/
def exAll (K : PySem.W.Frag) : Bool := oexB K (He.ga K "TooLong") && (iniB K (He.ga K "RowsError") && (excB K (He.ga K "TooLong") && (xfB K (He.ga K "TooLong") && (decide (PySem.W.kitOne K (.ref (He.ga K "TooLong")) (.ref (He.ga K "TooLong")) = some true) && (oeeB K (He.ga K "Stop") && (xfB K (He.ga K "Stop") && (vExB K && signsB K)))))))
def tf : List He.Defn := [("_law_file_right", none)]
abbrev R : PySem.W.OpenRow := PySem.W.OpenLaw.row PySem.Challenge.rw_envrows_k25_whole_dead_parts
/-- the part looked at: the statics beside what the globals reach -/
def asY (g : Addr → Option Obj) : List Addr := cStatics :: He.asD g 5
def obsY (g : Addr → Option Obj) : He.AlX := (He.obsT fa fnL [] (He.frT g (asY g)), exAll (He.frT g (asY g)) && He.tabsB g tf (He.frT g (asY g)))
theorem saysY_of {w : World} {h : Heap} (e : obsY h.get? = He.valX fnL [] w) : He.SaysX fa fnL [] tf exAll w h (He.frT h.get? (asY h.get?)) := by
  have e1 : He.obsT fa fnL [] (He.frT h.get? (asY h.get?)) = He.valT fnL [] w := congrArg (fun z : He.AlX => z.1) e
  have e2 : (exAll (He.frT h.get? (asY h.get?)) && He.tabsB h.get? tf (He.frT h.get? (asY h.get?))) = true := congrArg (fun z : He.AlX => z.2) e
  obtain ⟨h1, h2⟩ := He.ba e2
  have key : ∀ p ∈ tf, PySem.W.codeHdIn (He.frT h.get? (asY h.get?)) (He.cT (He.frT h.get? (asY h.get?)) p).1 (He.cT (He.frT h.get? (asY h.get?)) p).2 = true ∧ ∃ o, h.get? (He.cT (He.frT h.get? (asY h.get?)) p).2 = some o ∧ He.emptyTab o = true := fun p hp => by
    obtain ⟨h3, h4⟩ := He.ba (List.all_eq_true.mp h2 p hp)
    refine ⟨h3, ?_⟩
    cases q : h.get? (He.cT (He.frT h.get? (asY h.get?)) p).2 with
    | none => rw [q] at h4; cases h4
    | some o => rw [q] at h4; exact ⟨o, rfl, h4⟩
  exact ⟨e1, h1, fun p hp => (key p hp).1, fun p hp => by
    obtain ⟨_, o, q, z⟩ := key p hp
    exact He.frT_none q z, fun p hp => by
    obtain ⟨_, o, q, z⟩ := key p hp
    rw [q, He.emptyTab_eq z]⟩
def hk : PySem.W.Hook where
  α := He.AlX
  obs := fun s => obsY s.heap.get?
  val := fun w => He.valX fnL [] w
  says := fun w h => ∃ K : PySem.W.Frag, K.In h ∧ He.SaysX fa fnL [] tf exAll w h K
  of := fun _ _ e => ⟨_, He.frT_in, saysY_of e⟩
  keeps := fun _ _ _ ⟨K, hK, c⟩ k => ⟨K, PySem.W.Frag.In.keeps hK k, ⟨c.t, c.more, c.hd, c.out, fun p hp => k _ _ (c.empty p hp)⟩⟩
def ob (s : PySem.W.SharedT) : He.AlX := obsY (HandSHeadRun.getT s)
theorem ob_eq (s : PySem.W.SharedT) : ob s = hk.obs s.abs := by
  have e : HandSHeadRun.getT s = s.abs.heap.get? := funext (HandSHeadRun.getT_eq s)
  show obsY _ = obsY _
  rw [e]
theorem hdRun (w : World) : HandSHeadRun.RunEq R (PySem.W.view R.prog [79]) hk ob 8000 loose w := by
  intro os
  kernel_rfl
end EV
end

section
set_option Elab.async false
set_option linter.all false
set_option maxRecDepth 100000
set_option maxHeartbeats 4000000
/-! what the text's top has written, from the head's facts -/
namespace EV
open PySem PySem.Spec PyProof.Rows L2
theorem top_of {w : World} {h h0 : Heap} {K : PySem.W.Frag} {mg : Str → Option Value} (X : K.In h) (G : h.Ns mainGlobals mg) (c0 : He.SaysX fa fnL [] tf exAll w h0 K) : ∃ T : Top K mg, T.a_law_file_right = He.fAd K ("_law_file_right", none) ∧ T.a_law = He.ga K "law" := by
  have c := c0.t.d
  obtain ⟨fd_TooLong_init, F_TooLong_init⟩ := c.def_ 3 (d := d_TooLong_init) rfl
  obtain ⟨fd_is_name, F_is_name⟩ := c.def_ 4 (d := d_is_name) rfl
  obtain ⟨fd_is_plain, F_is_plain⟩ := c.def_ 5 (d := d_is_plain) rfl
  obtain ⟨fd_is_part, F_is_part⟩ := c.def_ 6 (d := d_is_part) rfl
  obtain ⟨fd_is_text_of, F_is_text_of⟩ := c.def_ 7 (d := d_is_text_of) rfl
  obtain ⟨fd_is_text, F_is_text⟩ := c.def_ 8 (d := d_is_text) rfl
  obtain ⟨fd_is_row, F_is_row⟩ := c.def_ 9 (d := d_is_row) rfl
  obtain ⟨fd_text_of_row, F_text_of_row⟩ := c.def_ 10 (d := d_text_of_row) rfl
  obtain ⟨fd_names_in_text, F_names_in_text⟩ := c.def_ 11 (d := d_names_in_text) rfl
  obtain ⟨fd_names_in, F_names_in⟩ := c.def_ 12 (d := d_names_in) rfl
  obtain ⟨fd_need_file, F_need_file⟩ := c.def_ 13 (d := d_need_file) rfl
  obtain ⟨fd_kind_of, F_kind_of⟩ := c.def_ 14 (d := d_kind_of) rfl
  obtain ⟨fd_is_hard, F_is_hard⟩ := c.def_ 15 (d := d_is_hard) rfl
  obtain ⟨fd_all_names, F_all_names⟩ := c.def_ 16 (d := d_all_names) rfl
  obtain ⟨fd_all_cases, F_all_cases⟩ := c.def_ 17 (d := d_all_cases) rfl
  obtain ⟨fd_begun, F_begun⟩ := c.def_ 18 (d := d_begun) rfl
  obtain ⟨fd_length_of, F_length_of⟩ := c.def_ 19 (d := d_length_of) rfl
  obtain ⟨fd_put_together, F_put_together⟩ := c.def_ 20 (d := d_put_together) rfl
  obtain ⟨fd_Stop_init, F_Stop_init⟩ := c.def_ 21 (d := d_Stop_init) rfl
  obtain ⟨fd_Runner_init, F_Runner_init⟩ := c.def_ 22 (d := d_Runner_init) rfl
  obtain ⟨fd_Runner_part, F_Runner_part⟩ := c.def_ 23 (d := d_Runner_part) rfl
  obtain ⟨fd_Runner_worked, F_Runner_worked⟩ := c.def_ 24 (d := d_Runner_worked) rfl
  obtain ⟨fd_Runner_done_row, F_Runner_done_row⟩ := c.def_ 25 (d := d_Runner_done_row) rfl
  obtain ⟨fd_Runner_run_rows, F_Runner_run_rows⟩ := c.def_ 26 (d := d_Runner_run_rows) rfl
  obtain ⟨fd_spots_in, F_spots_in⟩ := c.def_ 27 (d := d_spots_in) rfl
  obtain ⟨fd_environment_of, F_environment_of⟩ := c.def_ 28 (d := d_environment_of) rfl
  obtain ⟨fd_least_environment, F_least_environment⟩ := c.def_ 29 (d := d_least_environment) rfl
  obtain ⟨fd_spots_of, F_spots_of⟩ := c.def_ 30 (d := d_spots_of) rfl
  obtain ⟨fd_all_spots, F_all_spots⟩ := c.def_ 31 (d := d_all_spots) rfl
  obtain ⟨fd_need_spot, F_need_spot⟩ := c.def_ 32 (d := d_need_spot) rfl
  obtain ⟨fd_spots_by_case, F_spots_by_case⟩ := c.def_ 33 (d := d_spots_by_case) rfl
  obtain ⟨fd_dead, F_dead⟩ := c.def_ 34 (d := d_dead) rfl
  obtain ⟨fd_taker, F_taker⟩ := c.def_ 35 (d := d_taker) rfl
  obtain ⟨fd_law_mixed, F_law_mixed⟩ := c.def_ 36 (d := d_law_mixed) rfl
  obtain ⟨fd_law_begin, F_law_begin⟩ := c.def_ 37 (d := d_law_begin) rfl
  obtain ⟨fd_law_draw, F_law_draw⟩ := c.def_ 38 (d := d_law_draw) rfl
  obtain ⟨fd_law_of, F_law_of⟩ := c.def_ 39 (d := d_law_of) rfl
  obtain ⟨fd_law_worked, F_law_worked⟩ := c.def_ 40 (d := d_law_worked) rfl
  obtain ⟨fd_law_run_seen, F_law_run_seen⟩ := c.def_ 41 (d := d_law_run_seen) rfl
  obtain ⟨fd_law_names, F_law_names⟩ := c.def_ 42 (d := d_law_names) rfl
  obtain ⟨fd_law_plain, F_law_plain⟩ := c.def_ 43 (d := d_law_plain) rfl
  obtain ⟨fd_law_text, F_law_text⟩ := c.def_ 44 (d := d_law_text) rfl
  obtain ⟨fd_law_row, F_law_row⟩ := c.def_ 45 (d := d_law_row) rfl
  obtain ⟨fd_law_file, F_law_file⟩ := c.def_ 46 (d := d_law_file) rfl
  obtain ⟨fd_law_worlds, F_law_worlds⟩ := c.def_ 47 (d := d_law_worlds) rfl
  obtain ⟨fd_law_is_long, F_law_is_long⟩ := c.def_ 48 (d := d_law_is_long) rfl
  obtain ⟨fd_law_is_refused, F_law_is_refused⟩ := c.def_ 49 (d := d_law_is_refused) rfl
  obtain ⟨fd_law_traced, F_law_traced⟩ := c.def_ 50 (d := d_law_traced) rfl
  obtain ⟨fd_law_met, F_law_met⟩ := c.def_ 51 (d := d_law_met) rfl
  obtain ⟨fd_law_spots, F_law_spots⟩ := c.def_ 52 (d := d_law_spots) rfl
  obtain ⟨fd_law_size, F_law_size⟩ := c.def_ 53 (d := d_law_size) rfl
  obtain ⟨fd_law_file_right, F_law_file_right⟩ := c.def_ 54 (d := d_law_file_right) rfl
  obtain ⟨fd_law, F_law⟩ := c.def_ 55 (d := d_law) rfl
  have ex := c0.more
  obtain ⟨x1, ex⟩ := He.ba ex
  obtain ⟨x2, ex⟩ := He.ba ex
  obtain ⟨x3, ex⟩ := He.ba ex
  obtain ⟨x4, ex⟩ := He.ba ex
  obtain ⟨x5, ex⟩ := He.ba ex
  obtain ⟨x6, ex⟩ := He.ba ex
  obtain ⟨x7, ex⟩ := He.ba ex
  obtain ⟨x8, x9⟩ := He.ba ex
  refine ⟨{
    a_TooLong_init := He.ma K (He.ga K "TooLong") "__init__"
    d_TooLong_init := fd_TooLong_init
    F_TooLong_init := F_TooLong_init
    a_is_name := He.ga K "is_name"
    d_is_name := fd_is_name
    F_is_name := F_is_name
    a_is_plain := He.ga K "is_plain"
    d_is_plain := fd_is_plain
    F_is_plain := F_is_plain
    a_is_part := He.ga K "is_part"
    d_is_part := fd_is_part
    F_is_part := F_is_part
    a_is_text_of := He.ga K "is_text_of"
    d_is_text_of := fd_is_text_of
    F_is_text_of := F_is_text_of
    a_is_text := He.ga K "is_text"
    d_is_text := fd_is_text
    F_is_text := F_is_text
    a_is_row := He.ga K "is_row"
    d_is_row := fd_is_row
    F_is_row := F_is_row
    a_text_of_row := He.ga K "text_of_row"
    d_text_of_row := fd_text_of_row
    F_text_of_row := F_text_of_row
    a_names_in_text := He.ga K "names_in_text"
    d_names_in_text := fd_names_in_text
    F_names_in_text := F_names_in_text
    a_names_in := He.ga K "names_in"
    d_names_in := fd_names_in
    F_names_in := F_names_in
    a_need_file := He.ga K "need_file"
    d_need_file := fd_need_file
    F_need_file := F_need_file
    a_kind_of := He.ga K "kind_of"
    d_kind_of := fd_kind_of
    F_kind_of := F_kind_of
    a_is_hard := He.ga K "is_hard"
    d_is_hard := fd_is_hard
    F_is_hard := F_is_hard
    a_all_names := He.ga K "all_names"
    d_all_names := fd_all_names
    F_all_names := F_all_names
    a_all_cases := He.ga K "all_cases"
    d_all_cases := fd_all_cases
    F_all_cases := F_all_cases
    a_begun := He.ga K "begun"
    d_begun := fd_begun
    F_begun := F_begun
    a_length_of := He.ga K "length_of"
    d_length_of := fd_length_of
    F_length_of := F_length_of
    a_put_together := He.ga K "put_together"
    d_put_together := fd_put_together
    F_put_together := F_put_together
    a_Stop_init := He.ma K (He.ga K "Stop") "__init__"
    d_Stop_init := fd_Stop_init
    F_Stop_init := F_Stop_init
    a_Runner_init := He.ma K (He.ga K "Runner") "__init__"
    d_Runner_init := fd_Runner_init
    F_Runner_init := F_Runner_init
    a_Runner_part := He.ma K (He.ga K "Runner") "part"
    d_Runner_part := fd_Runner_part
    F_Runner_part := F_Runner_part
    a_Runner_worked := He.ma K (He.ga K "Runner") "worked"
    d_Runner_worked := fd_Runner_worked
    F_Runner_worked := F_Runner_worked
    a_Runner_done_row := He.ma K (He.ga K "Runner") "done_row"
    d_Runner_done_row := fd_Runner_done_row
    F_Runner_done_row := F_Runner_done_row
    a_Runner_run_rows := He.ma K (He.ga K "Runner") "run_rows"
    d_Runner_run_rows := fd_Runner_run_rows
    F_Runner_run_rows := F_Runner_run_rows
    a_spots_in := He.ga K "spots_in"
    d_spots_in := fd_spots_in
    F_spots_in := F_spots_in
    a_environment_of := He.ga K "environment_of"
    d_environment_of := fd_environment_of
    F_environment_of := F_environment_of
    a_least_environment := He.ga K "least_environment"
    d_least_environment := fd_least_environment
    F_least_environment := F_least_environment
    a_spots_of := He.ga K "spots_of"
    d_spots_of := fd_spots_of
    F_spots_of := F_spots_of
    a_all_spots := He.ga K "all_spots"
    d_all_spots := fd_all_spots
    F_all_spots := F_all_spots
    a_need_spot := He.ga K "need_spot"
    d_need_spot := fd_need_spot
    F_need_spot := F_need_spot
    a_spots_by_case := He.ga K "spots_by_case"
    d_spots_by_case := fd_spots_by_case
    F_spots_by_case := F_spots_by_case
    a_dead := He.ga K "dead"
    d_dead := fd_dead
    F_dead := F_dead
    a_taker := He.ga K "taker"
    d_taker := fd_taker
    F_taker := F_taker
    a_law_mixed := He.ga K "_law_mixed"
    d_law_mixed := fd_law_mixed
    F_law_mixed := F_law_mixed
    a_law_begin := He.ga K "_law_begin"
    d_law_begin := fd_law_begin
    F_law_begin := F_law_begin
    a_law_draw := He.ga K "_law_draw"
    d_law_draw := fd_law_draw
    F_law_draw := F_law_draw
    a_law_of := He.ga K "_law_of"
    d_law_of := fd_law_of
    F_law_of := F_law_of
    a_law_worked := He.ga K "_law_worked"
    d_law_worked := fd_law_worked
    F_law_worked := F_law_worked
    a_law_run_seen := He.ga K "_law_run_seen"
    d_law_run_seen := fd_law_run_seen
    F_law_run_seen := F_law_run_seen
    a_law_names := He.ga K "_law_names"
    d_law_names := fd_law_names
    F_law_names := F_law_names
    a_law_plain := He.ga K "_law_plain"
    d_law_plain := fd_law_plain
    F_law_plain := F_law_plain
    a_law_text := He.ga K "_law_text"
    d_law_text := fd_law_text
    F_law_text := F_law_text
    a_law_row := He.ga K "_law_row"
    d_law_row := fd_law_row
    F_law_row := F_law_row
    a_law_file := He.ga K "_law_file"
    d_law_file := fd_law_file
    F_law_file := F_law_file
    a_law_worlds := He.ga K "_law_worlds"
    d_law_worlds := fd_law_worlds
    F_law_worlds := F_law_worlds
    a_law_is_long := He.ga K "_law_is_long"
    d_law_is_long := fd_law_is_long
    F_law_is_long := F_law_is_long
    a_law_is_refused := He.ga K "_law_is_refused"
    d_law_is_refused := fd_law_is_refused
    F_law_is_refused := F_law_is_refused
    a_law_traced := He.ga K "_law_traced"
    d_law_traced := fd_law_traced
    F_law_traced := F_law_traced
    a_law_met := He.ga K "_law_met"
    d_law_met := fd_law_met
    F_law_met := F_law_met
    a_law_spots := He.ga K "_law_spots"
    d_law_spots := fd_law_spots
    F_law_spots := F_law_spots
    a_law_size := He.ga K "_law_size"
    d_law_size := fd_law_size
    F_law_size := F_law_size
    a_law_file_right := He.ga K "_law_file_right"
    d_law_file_right := fd_law_file_right
    F_law_file_right := F_law_file_right
    a_law := He.ga K "law"
    d_law := fd_law
    F_law := F_law
    g_is_name := He.glo_ok X G (c.fact 0 (f := .glo "is_name") rfl)
    g_is_plain := He.glo_ok X G (c.fact 1 (f := .glo "is_plain") rfl)
    g_is_part := He.glo_ok X G (c.fact 2 (f := .glo "is_part") rfl)
    g_is_text_of := He.glo_ok X G (c.fact 3 (f := .glo "is_text_of") rfl)
    g_is_text := He.glo_ok X G (c.fact 4 (f := .glo "is_text") rfl)
    g_is_row := He.glo_ok X G (c.fact 5 (f := .glo "is_row") rfl)
    g_text_of_row := He.glo_ok X G (c.fact 6 (f := .glo "text_of_row") rfl)
    g_names_in_text := He.glo_ok X G (c.fact 7 (f := .glo "names_in_text") rfl)
    g_names_in := He.glo_ok X G (c.fact 8 (f := .glo "names_in") rfl)
    g_need_file := He.glo_ok X G (c.fact 9 (f := .glo "need_file") rfl)
    g_kind_of := He.glo_ok X G (c.fact 10 (f := .glo "kind_of") rfl)
    g_is_hard := He.glo_ok X G (c.fact 11 (f := .glo "is_hard") rfl)
    g_all_names := He.glo_ok X G (c.fact 12 (f := .glo "all_names") rfl)
    g_all_cases := He.glo_ok X G (c.fact 13 (f := .glo "all_cases") rfl)
    g_begun := He.glo_ok X G (c.fact 14 (f := .glo "begun") rfl)
    g_length_of := He.glo_ok X G (c.fact 15 (f := .glo "length_of") rfl)
    g_put_together := He.glo_ok X G (c.fact 16 (f := .glo "put_together") rfl)
    g_spots_in := He.glo_ok X G (c.fact 17 (f := .glo "spots_in") rfl)
    g_environment_of := He.glo_ok X G (c.fact 18 (f := .glo "environment_of") rfl)
    g_least_environment := He.glo_ok X G (c.fact 19 (f := .glo "least_environment") rfl)
    g_spots_of := He.glo_ok X G (c.fact 20 (f := .glo "spots_of") rfl)
    g_all_spots := He.glo_ok X G (c.fact 21 (f := .glo "all_spots") rfl)
    g_need_spot := He.glo_ok X G (c.fact 22 (f := .glo "need_spot") rfl)
    g_spots_by_case := He.glo_ok X G (c.fact 23 (f := .glo "spots_by_case") rfl)
    g_dead := He.glo_ok X G (c.fact 24 (f := .glo "dead") rfl)
    g_taker := He.glo_ok X G (c.fact 25 (f := .glo "taker") rfl)
    g_law_mixed := He.glo_ok X G (c.fact 26 (f := .glo "_law_mixed") rfl)
    g_law_begin := He.glo_ok X G (c.fact 27 (f := .glo "_law_begin") rfl)
    g_law_draw := He.glo_ok X G (c.fact 28 (f := .glo "_law_draw") rfl)
    g_law_of := He.glo_ok X G (c.fact 29 (f := .glo "_law_of") rfl)
    g_law_worked := He.glo_ok X G (c.fact 30 (f := .glo "_law_worked") rfl)
    g_law_run_seen := He.glo_ok X G (c.fact 31 (f := .glo "_law_run_seen") rfl)
    g_law_names := He.glo_ok X G (c.fact 32 (f := .glo "_law_names") rfl)
    g_law_plain := He.glo_ok X G (c.fact 33 (f := .glo "_law_plain") rfl)
    g_law_text := He.glo_ok X G (c.fact 34 (f := .glo "_law_text") rfl)
    g_law_row := He.glo_ok X G (c.fact 35 (f := .glo "_law_row") rfl)
    g_law_file := He.glo_ok X G (c.fact 36 (f := .glo "_law_file") rfl)
    g_law_worlds := He.glo_ok X G (c.fact 37 (f := .glo "_law_worlds") rfl)
    g_law_is_long := He.glo_ok X G (c.fact 38 (f := .glo "_law_is_long") rfl)
    g_law_is_refused := He.glo_ok X G (c.fact 39 (f := .glo "_law_is_refused") rfl)
    g_law_traced := He.glo_ok X G (c.fact 40 (f := .glo "_law_traced") rfl)
    g_law_met := He.glo_ok X G (c.fact 41 (f := .glo "_law_met") rfl)
    g_law_spots := He.glo_ok X G (c.fact 42 (f := .glo "_law_spots") rfl)
    g_law_size := He.glo_ok X G (c.fact 43 (f := .glo "_law_size") rfl)
    g_law_file_right := He.glo_ok X G (c.fact 44 (f := .glo "_law_file_right") rfl)
    g_law := He.glo_ok X G (c.fact 45 (f := .glo "law") rfl)
    g_SIGNS := He.glo_ok X G (c.fact 46 (f := .glo "SIGNS") rfl)
    g_RowsError := He.glo_ok X G (c.fact 47 (f := .glo "RowsError") rfl)
    g_TooLong := He.glo_ok X G (c.fact 48 (f := .glo "TooLong") rfl)
    g_Stop := He.glo_ok X G (c.fact 49 (f := .glo "Stop") rfl)
    g_Runner := He.glo_ok X G (c.fact 50 (f := .glo "Runner") rfl)
    k_MOST_ROWS := (let ⟨t, e⟩ := He.int_ok X G (c.fact 51 (f := .int "MOST_ROWS" 40) rfl); ⟨_, e, ⟨t, rfl⟩⟩)
    k_MOST_NAMES := (let ⟨t, e⟩ := He.int_ok X G (c.fact 52 (f := .int "MOST_NAMES" 12) rfl); ⟨_, e, ⟨t, rfl⟩⟩)
    k_MOST_ASKED := (let ⟨t, e⟩ := He.int_ok X G (c.fact 53 (f := .int "MOST_ASKED" 6) rfl); ⟨_, e, ⟨t, rfl⟩⟩)
    k_MOST_PIECES := (let ⟨t, e⟩ := He.int_ok X G (c.fact 54 (f := .int "MOST_PIECES" 8) rfl); ⟨_, e, ⟨t, rfl⟩⟩)
    k_MOST_PLAIN := (let ⟨t, e⟩ := He.int_ok X G (c.fact 55 (f := .int "MOST_PLAIN" 20) rfl); ⟨_, e, ⟨t, rfl⟩⟩)
    k_MOST_LEVELS := (let ⟨t, e⟩ := He.int_ok X G (c.fact 56 (f := .int "MOST_LEVELS" 4) rfl); ⟨_, e, ⟨t, rfl⟩⟩)
    k_MOST_IN_NAME := (let ⟨t, e⟩ := He.int_ok X G (c.fact 57 (f := .int "MOST_IN_NAME" 8) rfl); ⟨_, e, ⟨t, rfl⟩⟩)
    k_MOST_LONG := (let ⟨t, e⟩ := He.int_ok X G (c.fact 58 (f := .int "MOST_LONG" 400) rfl); ⟨_, e, ⟨t, rfl⟩⟩)
    k_CAPITALS := (let ⟨t, e⟩ := He.str_ok X G (c.fact 59 (f := .str "CAPITALS" "ABCDEFGHIJKLMNOPQRSTUVWXYZ") rfl); ⟨_, e, ⟨t, rfl⟩⟩)
    k_PLAIN_SIGNS := (let ⟨t, e⟩ := He.str_ok X G (c.fact 60 (f := .str "PLAIN_SIGNS" "abcdefghijklmnopqrstuvwxyz0123456789 _./:=,@-") rfl); ⟨_, e, ⟨t, rfl⟩⟩)
    k_SET := (let ⟨t, e⟩ := He.str_ok X G (c.fact 61 (f := .str "SET" "set") rfl); ⟨_, e, ⟨t, rfl⟩⟩)
    k_GIVE := (let ⟨t, e⟩ := He.str_ok X G (c.fact 62 (f := .str "GIVE" "give") rfl); ⟨_, e, ⟨t, rfl⟩⟩)
    k_DROP := (let ⟨t, e⟩ := He.str_ok X G (c.fact 63 (f := .str "DROP" "drop") rfl); ⟨_, e, ⟨t, rfl⟩⟩)
    k_CHECK := (let ⟨t, e⟩ := He.str_ok X G (c.fact 64 (f := .str "CHECK" "check") rfl); ⟨_, e, ⟨t, rfl⟩⟩)
    k_UNSET := (let ⟨t, e⟩ := He.str_ok X G (c.fact 65 (f := .str "UNSET" "unset") rfl); ⟨_, e, ⟨t, rfl⟩⟩)
    k_EMPTY := (let ⟨t, e⟩ := He.str_ok X G (c.fact 66 (f := .str "EMPTY" "empty") rfl); ⟨_, e, ⟨t, rfl⟩⟩)
    k_FULL := (let ⟨t, e⟩ := He.str_ok X G (c.fact 67 (f := .str "FULL" "full") rfl); ⟨_, e, ⟨t, rfl⟩⟩)
    k_DONE := (let ⟨t, e⟩ := He.str_ok X G (c.fact 68 (f := .str "DONE" "done") rfl); ⟨_, e, ⟨t, rfl⟩⟩)
    k_STOPPED := (let ⟨t, e⟩ := He.str_ok X G (c.fact 69 (f := .str "STOPPED" "stopped") rfl); ⟨_, e, ⟨t, rfl⟩⟩)
    k_ONE_SIGN := (let ⟨t, e⟩ := He.str_ok X G (c.fact 70 (f := .str "ONE_SIGN" "a") rfl); ⟨_, e, ⟨t, rfl⟩⟩)
    n_len := He.free_ok X G (c.fact 71 (f := .free "len") rfl)
    n_isinstance := He.free_ok X G (c.fact 72 (f := .free "isinstance") rfl)
    n_str := He.free_ok X G (c.fact 73 (f := .free "str") rfl)
    n_tuple := He.free_ok X G (c.fact 74 (f := .free "tuple") rfl)
    n_int := He.free_ok X G (c.fact 75 (f := .free "int") rfl)
    n_bool := He.free_ok X G (c.fact 76 (f := .free "bool") rfl)
    n_dict := He.free_ok X G (c.fact 77 (f := .free "dict") rfl)
    n_list := He.free_ok X G (c.fact 78 (f := .free "list") rfl)
    n_set := He.free_ok X G (c.fact 79 (f := .free "set") rfl)
    n_sorted := He.free_ok X G (c.fact 80 (f := .free "sorted") rfl)
    n_enumerate := He.free_ok X G (c.fact 81 (f := .free "enumerate") rfl)
    n_all := He.free_ok X G (c.fact 82 (f := .free "all") rfl)
    n_sum := He.free_ok X G (c.fact 83 (f := .free "sum") rfl)
    n_max := He.free_ok X G (c.fact 84 (f := .free "max") rfl)
    n_min := He.free_ok X G (c.fact 85 (f := .free "min") rfl)
    n_range := He.free_ok X G (c.fact 86 (f := .free "range") rfl)
    n_repr := He.free_ok X G (c.fact 87 (f := .free "repr") rfl)
    n_Exception := He.free_ok X G (c.fact 88 (f := .free "Exception") rfl)
    a_SIGNS := He.ga K "SIGNS"
    t_SIGNS := signsB_ok x9
    a_RowsError := He.ga K "RowsError"
    a_TooLong := He.ga K "TooLong"
    a_Stop := He.ga K "Stop"
    a_Runner := He.ga K "Runner"
    i_RowsError := iniB_ok x2
    o_TooLong := oexB_ok x1
    i_TooLong := (He.meth_ok (c.fact 99 (f := .meth "TooLong" "__init__") rfl)).at_
    f_TooLong := beq_iff_eq.mp (He.meth_ok (c.fact 99 (f := .meth "TooLong" "__init__") rfl)).fn
    m_TooLong := He.noat_ok (c.fact 97 (f := .noat "TooLong" "most") rfl)
    e_TooLong := excB_ok x3
    x_TooLong := xfB_ok x4
    c_TooLong := of_decide_eq_true x5
    r_TooLong := He.exm_ok (c.fact 101 (f := .exm "TooLong" "RowsError" true) rfl)
    o_Stop := oeeB_ok x6
    i_Stop := (He.meth_ok (c.fact 100 (f := .meth "Stop" "__init__") rfl)).at_
    f_Stop := beq_iff_eq.mp (He.meth_ok (c.fact 100 (f := .meth "Stop" "__init__") rfl)).fn
    m_Stop := He.noat_ok (c.fact 98 (f := .noat "Stop" "message") rfl)
    x_Stop := xfB_ok x7
    r_Stop := He.exm_ok (c.fact 102 (f := .exm "Stop" "Stop" true) rfl)
    s_TooLong := He.exm_ok (c.fact 103 (f := .exm "TooLong" "Stop" false) rfl)
    v_Exc := vExB_ok x8
    l_Runner := He.cls_ok (c.fact 89 (f := .cls "Runner") rfl)
    k_Runner := He.mkr_ok (c.fact 90 (f := .mkr "Runner") rfl)
    p_Runner := He.meth_ok (c.fact 91 (f := .meth "Runner" "part") rfl)
    w_Runner := He.meth_ok (c.fact 92 (f := .meth "Runner" "worked") rfl)
    d_Runner := He.meth_ok (c.fact 93 (f := .meth "Runner" "done_row") rfl)
    r_Runner := He.meth_ok (c.fact 94 (f := .meth "Runner" "run_rows") rfl)
    v_Runner := He.noat_ok (c.fact 95 (f := .noat "Runner" "values_now") rfl)
    s_Runner := He.noat_ok (c.fact 96 (f := .noat "Runner" "spots_seen") rfl) }, rfl, rfl⟩
end EV
end

section
set_option Elab.async false
set_option linter.all false
set_option maxRecDepth 100000
set_option maxHeartbeats 4000000
/-! enumerate over a tuple -/
namespace EV
open PySem PySem.Spec PyProof.Rows L2

/-- the record of enumerate over the iterator at it, not begun -/
abbrev enumO (it : Addr) : Obj := { cls := .type "enumerate", data := .fields #[.none, .bool false, .ref it, rawInt 0, .none, .none] }
set_option maxHeartbeats 8000000 in
/-- enumerate(v) for a thing v whose iterator is the new object o -/
theorem meets_enum1 {v : Value} {o : Obj} {S : Heap → Prop} (B : Begins v o S) :
    Meets (Builtin.«enumerate.__new__» ⟨[.type "enumerate", v], []⟩) fun _ R s => S s.heap ∧ R (.ok (.ret (.ref (s.heap.push o).objs.size))) { s with heap := (s.heap.push o).push (enumO s.heap.objs.size) } :=
  .of_wp fun prog w A R s ⟨st, h⟩ => by
    have sub := sub_enumerate
    obtain ⟨hp, g, d, tk, os⟩ := s
    have begins : ∀ {A' : Around} {E Q : Value → Shared → Prop}, Q (.ref hp.objs.size) ⟨hp.push o, g, d, tk, os⟩ → wpAny (model prog w) A' (pyIter v) Q E ⟨hp, g, d, tk, os⟩ := fun q => B.iter prog w _ _ _ _ st q
    wp_walk using begins
    refine wpAny_stack_any fun _ => wpAny_pure ?_
    split
    next c _ _ _ _ _ => cases hc : (c == Value.type "enumerate") <;> (wp_walk using begins; exact ⟨_, rfl, h⟩)
    next => wp_walk using begins; exact ⟨_, rfl, h⟩

section
variable {prog : Program} {w : World} {A : Around} {E : Value → Shared → Prop} {s : Shared}
theorem call_enumT {t : Addr} {items : Array Value} {Q : Value → Shared → Prop} (hL : s.heap.IsTuple t items)
    (h : ∀ h', IsEnum h' (s.heap.objs.size + 1) s.heap.objs.size 0 .none → h'.IsTupleIter s.heap.objs.size t 0 → (∀ b o, s.heap.get? b = some o → h'.get? b = some o) → Q (.ref (s.heap.objs.size + 1)) { s with heap := h' }) :
    wpAny (model prog w) A (call (.type "enumerate") [.ref t]) Q E s := by
  have B := begins_tuple t items
  generalize ho : ({ cls := .type "tuple_iterator", data := .fields #[.ref t, .int 0 0] } : Obj) = o at B
  have z : (s.heap.push o).objs.size = s.heap.objs.size + 1 := Heap.size_push ..
  have e1 : ((s.heap.push o).push (enumO s.heap.objs.size)).get? s.heap.objs.size = some o := Heap.get?_push_of_some _ (Heap.get?_push_size _ B.free)
  have e2 : ((s.heap.push o).push (enumO s.heap.objs.size)).get? (s.heap.objs.size + 1) = some (enumO s.heap.objs.size) := by rw [← z]; exact Heap.get?_push_size _ rfl
  refine callType_new F.called_enumerate (by decide) (F.typeCall_enumerate_1 _) (F.newCall_enumerate_1 _) (fun obj => F.args_object_init_2 obj _) F.entry_enumerate_new (meets_enum1 B) ⟨hL, ?_⟩
  rw [z]
  exact ⟨⟨_, e2, rfl⟩, h _ e2 ⟨o, e1, by rw [← ho], by rw [← ho]; rfl⟩ fun b u q => Heap.get?_push_of_some _ (Heap.get?_push_of_some _ q)⟩
end

/-- the tuple at a, each item in a new pair with its place -/
def Itet (K : PySem.W.Frag) (a : Addr) : It where
  go := fun i H => ∃ (xs : List V) (x : V), SqT K H a xs ∧ xs[i]? = some x
  yld := fun i H v H' => ∃ T x, v = .ref T ∧ H T = none ∧ H' = upd H T (.tup [.int (i : Nat), x]) ∧ ∀ xs, SqT K H a xs → xs[i]? = some x
  stop := fun i H => ∃ xs : List V, SqT K H a xs ∧ xs.length = i
/-- the records at e and it stand before item i -/
def EnT (a e it : Addr) (i : Nat) (h : Heap) : Prop := (∃ old, IsEnum h e it ((i : Nat) : Int) old) ∧ h.IsTupleIter it a i ∧ e ≠ it
section
variable {a e it : Addr} {i : Nat} {h : Heap} {items : Array Value}
theorem EnT.both (st : EnT a e it i h) {p : Addr → Prop} (pe : p e) (pit : p it) : ∀ b ∈ [e, it], p b := fun b m => by
  rcases List.mem_cons.mp m with z | z
  · rw [z]; exact pe
  · rw [List.mem_singleton.mp z]; exact pit
/-- the records are no tuples -/
theorem EnT.apart (st : EnT a e it i h) (t : h.IsTuple a items) : a ≠ e ∧ a ≠ it := by
  obtain ⟨⟨old, he⟩, ⟨o1, ho1, c1, _⟩, _⟩ := st
  obtain ⟨o, ho, c, _⟩ := t
  constructor <;> intro z <;> rw [z] at ho
  · rw [show h.get? e = some _ from he] at ho
    cases ho
    exact absurd (Value.type.inj c) (by decide)
  · rw [ho1] at ho
    cases ho
    rw [c1] at c
    exact absurd (Value.type.inj c) (by decide)
end
theorem turn_enumT {P : Program} {w : World} {K : PySem.W.Frag} {elts : List Expr} {kk : Nat} {tpos : Pos} (a e it : Addr) : Turn P w K (.Tuple elts kk tpos) (Itet K a) [e, it] e (EnT a e it) where
  mem := List.mem_cons_self ..
  obj := fun i h st => st.both (let ⟨_, q⟩ := st.1; ⟨_, q, fun _ z => nomatch z⟩) (let ⟨o, q, _, d⟩ := st.2.1; ⟨o, q, fun _ z => by rw [d] at z; cases z⟩)
  keep := fun i h h' st k => ⟨st.1.imp fun _ q => k e (by simp) _ q, st.2.1.at fun o q => k it (by simp) o q, st.2.2⟩
  self := fun A i s Q E st q => let ⟨_, z⟩ := st.1; wpAny_pyIter_enum z q
  item := by
    rintro X rfl rfl rfl hc i pins s σ H E I hf st ⟨xs, x, hq, hx⟩
    obtain ⟨its, rv, tp, _⟩ := I.tuple hq
    have tp : s.heap.IsTuple a its.toArray := tp
    obtain ⟨ae, ai⟩ := st.apart tp
    obtain ⟨⟨old, he⟩, hit, hne⟩ := st
    obtain ⟨u, hu, ru⟩ := rv.get hx
    refine wpAny_pyNext_enum_itemD (Draws.tuple (A := X.A.in1) (I.ok.hd hc) it a ai its.toArray) he ⟨hit, tp⟩ (by simpa using (List.getElem?_eq_some_iff.mp hu).1) hne (by simp [hne, ae.symm]) fun v h1 tk hv out st1 hT _ old1 => ?_
    obtain rfl : v = u := Option.some.inj (Eq.trans (Eq.symm (by simpa using hv)) hu)
    refine ⟨_, rfl, wpAny_letOwnedTupleGo_enum (s := { s with heap := h1, toks := tk + 1 }) out fun h2 he2 sb => ?_⟩
    have pair : h2.get? s.heap.objs.size = some { cls := .type "tuple", data := .seq #[.int i tk, v] } := (sb.2 _ fun z => Nat.lt_irrefl _ (by have := Heap.lt_size he; rwa [← z] at this)).trans hT
    have J : Inv X pins σ (upd H s.heap.objs.size (.tup [.int (i : Nat), x])) { s with heap := h2, toks := tk + 1 } :=
      I.turnedNew (ch := [e, it]) (fun b o nb q => (sb.2 b fun z => nb (by simp [z])).trans (old1 b o (fun z => nb (by simp [z])) (fun z => nb (by simp [z])) q)) hf (Nat.le_refl _)
        ⟨by show 2 ≤ sizeLine; decide, [.int i tk, v], .cons ⟨_, rfl⟩ (.cons ru .nil), _, pair, rfl, _, rfl⟩
    refine ⟨.ref s.heap.objs.size, _, J, rfl, ⟨_, x, rfl, I.hok.fresh (Nat.le_refl _), rfl, fun ys hy => by rw [I.tuple_inj hy hq]; exact hx⟩, ⟨⟨v, by simpa using he2⟩, st1.1.at fun o q => (sb.2 it hne.symm).trans q, hne⟩, fun b hb => ?_⟩
    have young : b ≠ s.heap.objs.size := fun z => by
      have := EnT.both (p := fun c => c < s.heap.objs.size) ⟨⟨old, he⟩, hit, hne⟩ (Heap.lt_size he) (let ⟨_, q, _⟩ := hit; Heap.lt_size q) b hb
      rw [z] at this
      exact Nat.lt_irrefl _ this
    rw [upd_ne young]
    exact (hf b hb).1
  done := by
    rintro X rfl rfl rfl hc i pins s σ H E I hf st ⟨xs, hq, rfl⟩
    obtain ⟨its, rv, tp, _⟩ := I.tuple hq
    have tp : s.heap.IsTuple a its.toArray := tp
    have ai := (st.apart tp).2
    obtain ⟨⟨old, he⟩, hit, _⟩ := st
    obtain ⟨f0, f1, f2, f3, f4, f5⟩ := hf it (by simp)
    have whole : its.toArray.size = xs.length := by rw [List.size_toArray, rv.length]
    exact wpAny_pyNext_enum_endD (Draws.tuple (A := X.A.in1) (I.ok.hd hc) it a ai its.toArray) he ⟨by rw [whole]; exact hit, tp⟩ fun h' keep => ⟨rfl, I.turned (t' := s.toks) (fun b o n q => keep b o n q) f0 f1 f3 f4 f5⟩
def iEnumT (K : PySem.W.Frag) (ta : TA) : TI := fun σ H R => ta σ H fun vs H1 => ∃ a xs, vs = [.ref a] ∧ SqT K H1 a xs ∧ R (Itet K a) H1
theorem pi_enumT {X : Cx} {e : Expr} {ta : TA} {p pos tpos : Pos} {elts : List Expr} {kk : Nat} (hg : Gl X "enumerate") (hm : X.mg "enumerate" = none) (ha : PA X [e] ta) (hs : starEach [e] X.env = [(false, eval e X.env)] := by rfl) :
    PI X (.Tuple elts kk tpos) (.Call (.Name "enumerate" p) [e] [] pos) (iEnumT X.K ta) := by
  refine ⟨fun pins s σ H R I h => Call_ (ld_blt I hg hm boot_enumerate (PyProof.Rows.callWith_type1 (thn (ha.run pos pins s σ H _ I h) ?_) hs rfl))⟩
  rintro us s1 ⟨_, H1, J, r, a, xs, rfl, hq, q⟩
  rw [Vals.ref1 r]
  obtain ⟨its, rv, tp, _⟩ := J.tuple hq
  refine call_enumT (show s1.heap.IsTuple a its.toArray from tp) fun h' he hit keep => wpAny_pyIter_enum he ?_
  have st : EnT a (s1.heap.objs.size + 1) s1.heap.objs.size 0 h' := ⟨⟨.none, he⟩, hit, Nat.succ_ne_self _⟩
  exact ⟨_, [s1.heap.objs.size + 1, s1.heap.objs.size], _, _, H1, rfl, J.kept (t' := s1.toks) keep, turn_enumT a _ _, st,
    st.both (J.fpOk (Nat.le_succ _) (J.hok.fresh (Nat.le_succ _))) (J.fpOk (Nat.le_refl _) (J.hok.fresh (Nat.le_refl _))), q⟩
/-- the loop over enumerate(t): Pv i before item i -/
theorem for_enumT {K : PySem.W.Frag} {a : Addr} {xs : List V} {g : TG} {tb : TS} {D : Ends} {σ : L2.St} {H : Hp} (Pv : Nat → L2.St → Hp → Prop) (h0 : Pv 0 σ H) (hl : ∀ i σ H, i ≤ xs.length → Pv i σ H → SqT K H a xs)
    (hs : ∀ i x σ H T, xs[i]? = some x → Pv i σ H → H T = none → g (.ref T) σ (upd H T (.tup [.int (i : Nat), x])) fun σ2 H2 => tb { D with nx := Pv (i + 1), ct := Pv (i + 1), bk := D.nx } σ2 H2) (hd : ∀ σ H, Pv xs.length σ H → D.nx σ H) :
    ∃ W : Nat → Nat → L2.St → Hp → Prop, (∃ m, W 0 m σ H) ∧ ∀ i m σ H, W i m σ H →
      ((Itet K a).stop i H ∧ D.nx σ H) ∨ ((Itet K a).go i H ∧ ∃ N : L2.St → Hp → Prop, (∀ σ' H', N σ' H' → ∃ m', m' < m ∧ W (i + 1) m' σ' H') ∧ ∀ x H', (Itet K a).yld i H x H' → g x σ H' fun σ2 H2 => tb { D with nx := N, ct := N, bk := D.nx } σ2 H2) := by
  refine ⟨fun i m σ H => i + m = xs.length ∧ Pv i σ H, ⟨xs.length, Nat.zero_add _, h0⟩, fun i m σ H w => ?_⟩
  obtain ⟨e, p⟩ := w
  have q := hl i σ H (by omega) p
  cases m with
  | zero =>
    obtain rfl : i = xs.length := e
    exact .inl ⟨⟨xs, q, rfl⟩, hd σ H p⟩
  | succ m =>
    have lt : i < xs.length := by omega
    refine .inr ⟨⟨xs, xs[i], q, List.getElem?_eq_getElem lt⟩, Pv (i + 1), fun σ' H' p' => ⟨m, Nat.lt_succ_self m, by omega, p'⟩, ?_⟩
    rintro _ _ ⟨T, y, rfl, new, rfl, hy⟩
    exact hs i y σ H T (hy xs q) p new
end EV
end

section
set_option Elab.async false
set_option linter.all false
set_option maxRecDepth 100000
set_option maxHeartbeats 4000000
/-! a list comprehension whose element may raise out of a call -/
namespace EV
open PySem PySem.Spec PyProof.Rows L2

section
variable {X : Cx} {pins : List (Addr × Obj)} {σ : L2.St} {H : Hp} {s s' : Shared} {E : XK}
/-- a call's exception, in flight -/
theorem call_air (I : Inv X pins σ H s) {u : Value} (c : L2.CX X.prog X.w X.stack H s E u s') :
    ∃ (a : Addr) (B : Heap) (sI : Shared) (H' : Hp) (cls : Value) (d : Option Addr), u = .ref a ∧ Inv X pins σ H' sI ∧ (∀ b o, sI.heap.get? b = some o → b ∉ frs X.stack → B.get? b = some o) ∧ sI.heap.UpToSlots s'.heap ∧
      HandSPX.FlyingZ B X.stack a (Zc cls d) s'.heap ∧ H' a = none ∧ s'.os = sI.os ∧ AllBare s'.gens ∧ E cls d H' := by
  obtain ⟨a, B, H', cls, d, hu, fl, hok, ub, na, os, ag, hE⟩ := c
  obtain ⟨G, g1, g2⟩ := restrict s'.heap fun b => (B.get? b).isSome || decide (b ∈ frs X.stack)
  have st : B.StaysIn s'.heap := fl.1
  have inB : ∀ b o, B.get? b = some o → G.get? b = some o := fun b o e => (g1 b (by simp [e])).trans (st b o e)
  have inF : ∀ b, b ∈ frs X.stack → G.get? b = s'.heap.get? b := fun b hb => g1 b (by simp [hb])
  have out : ∀ b o, G.get? b = some o → s'.heap.get? b = some o ∧ ((B.get? b).isSome = true ∨ b ∈ frs X.stack) := fun b o e => by
    by_cases q : ((B.get? b).isSome || decide (b ∈ frs X.stack)) = true
    · rw [g1 b q] at e
      exact ⟨e, by simpa [Bool.or_eq_true] using q⟩
    · rw [g2 b (by simpa using q)] at e
      cases e
  have J : Inv X pins σ H' { s with heap := G, gens := s'.gens, drawn := s'.drawn, toks := s'.toks } := by
    refine I.call (ch := []) { keep := fun b o e n hb _ => inB b o (ub.keep b o e n hb), slot := fun b o e n hb _ => ?_, free := fun b o e n _ => ub.free b o e n, there := fun b o e _ => ?_, tups := ub.tups, frzs := ub.frzs, tbls := ub.tbls } (hok.kept inB) ag (fun _ z => nomatch z)
    · obtain ⟨sl, q⟩ := ub.slot b o e hb
      exact ⟨sl, (inF b hb).trans q⟩
    · rcases Classical.em (b ∈ frs X.stack) with hb | hb
      · obtain ⟨sl, q⟩ := ub.slot b o e hb
        exact ⟨_, (inF b hb).trans q⟩
      · obtain ⟨o', q⟩ := ub.there b o e hb
        exact ⟨o', inB b o' q⟩
  refine ⟨a, B, _, H', cls, d, hu, J, fun b o e hb => ?_, Heap.UpToSlots.of_keeps fun b o e => (out b o e).1, fl, na, os, ag, hE⟩
  obtain ⟨e', h⟩ := out b o e
  rcases h with h | h
  · obtain ⟨o', q⟩ := Option.isSome_iff_exists.mp h
    have z := (st b o' q).symm.trans e'
    exact q.trans z
  · exact absurd h hb
end

section
variable {X : Cx}
/-- what a call in the block lets out goes on in the def's own frame -/
theorem blk_passes {pins : List (Addr × Obj)} {σ : L2.St} {H : Hp} {s : Shared} {E : XK} {W : WX} {scope : Scope} {ce : Env} {fp : List Addr} (hs : X.stack = X.env :: X.outer) (hf : X.env.frame = some X.env.locals) (tk : Takes X W)
    (hW : ∀ cls d H', E cls d H' → W cls d σ H') (I : Inv X pins σ H s) (hfp : ∀ b ∈ fp, FpOk X pins H b) (hcf : ce.frame = X.env.frame) (hcl : ce.locals = s.heap.objs.size) :
    Passes (L2.CX X.prog X.w) ((X.blk s H scope ce fp).wish (notedBy (model X.prog X.w) X.A ce (CompFails (model X.prog X.w) X.A X.xe ce))) E := by
  intro pins1 σ1 H1 s1 e s' I1 c
  obtain ⟨a, B, sI, H', cls, d, rfl, J1, nb, up, fl, na, os, ag, hE⟩ := call_air I1 c
  have J1 : Inv (X.blk s H scope ce fp) pins1 σ1 H' sI := J1.unwish
  have hfr : X.A.frames = some (X.env :: X.outer) := by rw [I.ok.frames, hs]
  have fl : HandSPX.FlyingZ B (X.env :: X.outer) a (Zc cls d) s'.heap := by rw [← hs]; exact fl
  show wpAny (model X.prog X.w) X.A (noteFrame (.ref a) ce) _ _ s'
  rw [noteFrame_env _ hcf]
  refine HandSPX.looks_onZ Zc.steady hfr hf fl fun h1 hh1 up1 => ?_
  obtain ⟨m, hn, _⟩ := J1.loc
  have hn : sI.heap.Ns ce.locals m := hn
  have hC : H' ce.locals = none := J1.free
  obtain ⟨oC, esC, epC, hoC, hdC, hrC⟩ := id hn
  have sCn : ∀ b o, s.heap.get? b = some o → b ≠ ce.locals := fun b o e z => by
    rw [z, hcl] at e
    exact Nat.lt_irrefl _ (Heap.lt_size e)
  have Cfr : ce.locals ∉ frs X.stack := fun hm => by
    obtain ⟨_, o, ho, _⟩ := I.stack.mem hm
    exact sCn _ o ho rfl
  have C1 : h1.get? ce.locals = some oC := hh1.1 _ _ (nb _ _ hoC Cfr)
  refine ⟨m, ⟨oC, esC, epC, C1, hdC, hrC⟩, fun h2 m2 hn2 hs2 => ?_⟩
  -- the ground and the state without the block's names
  obtain ⟨G, g1, g2⟩ := restrict sI.heap fun b => decide (b ≠ ce.locals)
  obtain ⟨B2, b1, b2⟩ := restrict B fun b => decide (b ≠ ce.locals)
  have gk : ∀ b, b ≠ ce.locals → G.get? b = sI.heap.get? b := fun b hb => g1 b (decide_eq_true hb)
  have gn : G.get? ce.locals = none := g2 _ (by simp)
  have bk : ∀ b, b ≠ ce.locals → B2.get? b = B.get? b := fun b hb => b1 b (decide_eq_true hb)
  have bn : B2.get? ce.locals = none := b2 _ (by simp)
  have b2B : ∀ b o, B2.get? b = some o → b ≠ ce.locals ∧ B.get? b = some o := fun b o e => by
    rcases Classical.em (b = ce.locals) with z | z
    · rw [z, bn] at e; cases e
    · exact ⟨z, (bk b z).symm.trans e⟩
  have J2 : Inv X pins σ H' { sI with heap := G } := by
    refine I.call' (ch := fp) J1.os { keep := fun b o e n hb hx => (gk b (sCn b o e)).trans (J1.base.keep b o e n hb hx), slot := fun b o e n hb hx => ?_, free := J1.base.free, there := fun b o e hx => ?_, tups := J1.base.tups, frzs := J1.base.frzs, tbls := J1.base.tbls } (fun b o e => ?_) J1.bare
      fun b hb => ⟨(hfp b hb).2.2.2.1, (hfp b hb).2.1, (hfp b hb).2.2.2.2.1, (hfp b hb).2.2.2.2.2⟩
    · obtain ⟨sl, q⟩ := J1.base.slot b o e n hb hx
      exact ⟨sl, (gk b (sCn b o e)).trans q⟩
    · obtain ⟨o', q⟩ := J1.base.there b o e hx
      exact ⟨o', (gk b (sCn b o e)).trans q⟩
    · refine (J1.hok b o e).stay (fun b' u hb' q => (gk b' fun z => ?_).trans q) (fun _ q => q) fun _ _ q => q
      rcases hb' with y | y
      · rw [← y, z, hC] at e; cases e
      · rw [z, hC] at y; cases y
  obtain ⟨f1, f2, f3, oe, vs, T, oT, ts, he, hz, hd, hv1, hnT, hTe, hT, hdT, hv3⟩ := hh1
  have notC : ∀ {b : Addr} {o : Obj} {ws : Array Value}, h1.get? b = some o → o.data = .fields ws → b ≠ ce.locals := fun {b o ws} e q z => by
    rw [z, C1] at e
    rw [← Option.some.inj e, hdC] at q
    cases q
  have aC := notC he hd
  have TC := notC hT hdT
  have he2 : h2.get? a = some oe := (hs2.2 a aC).trans he
  have hT2 : h2.get? T = some oT := (hs2.2 T TC).trans hT
  have st2 : B2.StaysIn h2 := fun b o e => by
    obtain ⟨z, e⟩ := b2B b o e
    exact (hs2.2 b z).trans (f1 b o e)
  have bnn : ∀ b, B.get? b = none → B2.get? b = none := fun b e => by
    cases q : B2.get? b with
    | none => rfl
    | some o => exact absurd ((b2B b o q).2) (by rw [e]; exact fun z => nomatch z)
  have ff2 : h2.FunFrames B2 (X.env :: X.outer) := funFrames_none (Heap.FunFrames.sameBut hs2 hn2 f3) fun L hL => bnn L (by
    rw [← hs] at hL f3
    exact (f3.mem hL).1)
  have hh2 : HandSPX.HeldZ B2 (X.env :: X.outer) a (Zc cls d) X.env.locals h2 := ⟨st2, bnn a f2, ff2, oe, vs, T, oT, ts, he2, hz, hd, hv1, bnn T hnT, hTe, hT2, hdT, hv3⟩
  unfold PySem.passOn
  refine wpAny_bind (wpAny_field he2 hd hv1 ?_)
  rw [if_neg (show ¬ ((Value.ref T == Value.none) = true) from by simp)]
  have fin : wpAny (model X.prog X.w) X.A (setFlight (.ref a) ce.frame) (fun _ s4 => wpAny (model X.prog X.w) X.A (throw (.ref a) : Sem Value) (fun _ _ => False) X.xe s4) X.xe { s' with heap := h2 } := by
    rw [hcf, hf]
    refine HandSPX.setFlight_onZ hh2 fun h3 hh3 up3 => wpAny_throw (tk _ _ ?_)
    refine ⟨a, B2, { sI with heap := G }, pins, σ, H', cls, d, rfl, J2, fun b o e hb => ?_, fun b o e hnf => ?_, .inr (.inr (by rw [hs]; exact hh3)), na, os, ag, hW _ _ _ hE⟩
    · have z : b ≠ ce.locals := fun z => by rw [z, gn] at e; cases e
      exact (bk b z).trans (nb b o ((gk b z).symm.trans e) hb)
    · have z : b ≠ ce.locals := fun z => by rw [z, gn] at e; cases e
      obtain ⟨sl1, q1⟩ := up b o ((gk b z).symm.trans e) hnf
      obtain ⟨sl2, q2⟩ := up1 b _ q1 hnf
      obtain ⟨sl3, q3⟩ := up3 b _ ((hs2.2 b z).trans q2) hnf
      exact ⟨sl3, q3⟩
  first
    | exact wpAny_bind (wpAny_pure (wpAny_bind fin))
    | exact wpAny_bind fin
end

/-! ### a turn of a comprehension's loop -/
/-- at a turn's head: the walk stands at item i, its records fp are not tracked, W tells the rest by the measure n -/
def At (Y : Cx) (pl : List (Addr × Obj)) (τ : L2.St) (tn : Nat → Heap → Prop) (fp : List Addr) (W : Nat → Nat → Hp → Prop) (n : Nat) (s : Shared) : Prop := ∃ i H, Inv Y pl τ H s ∧ tn i s.heap ∧ (∀ b ∈ fp, H b = none) ∧ W i n H
/-- a turn's reading: the walk is over, or an item is told, the targets are set, the tests asked; then the body's reading, or the next turn -/
abbrev TurnR (J : It) (g : TG) (tt : TT) (vs : List Nat) (τ : L2.St) (Stop : Hp → Prop) (Body : (Hp → Prop) → L2.St → Hp → Prop) (W : Nat → Nat → Hp → Prop) : Prop :=
  ∀ i m H, W i m H → (J.stop i H ∧ Stop H) ∨
    (J.go i H ∧ ∃ Nx : Hp → Prop, (∀ H', Nx H' → ∃ m', m' < m ∧ W (i + 1) m' H') ∧ ∀ x H', J.yld i H x H' → g x τ H' fun σ2 H2 => wipe σ2 vs = τ ∧ tt σ2 H2 fun b H3 => if b = true then Body Nx σ2 H3 else Nx H3)
/-- a clause's tests, one after another -/
abbrev TestsT (ifs : List Expr) (env : Env) : Sem Bool := forIn ifs true fun c r => if r = true then do let ok ← isTrue c env (eval c env); pure (ForInStep.yield ok) else pure (ForInStep.yield r)
/-- σ' knows what τ knows -/
def Knows (τ σ' : L2.St) : Prop := τ.length = σ'.length ∧ ∀ (j : Nat) v, τ[j]? = some (some v) → σ'[j]? = some (some v)
theorem Knows.wiped (σ : L2.St) (vs : List Nat) : Knows (wipe σ vs) σ := ⟨wipe_length σ vs, fun _ _ e => (wipe_some e).1⟩
/-- a rule within a block of X -/
abbrev InBlk (X : Cx) (scope : Scope) (P : Cx → Prop) : Prop := ∀ (s : Shared) (H : Hp) (C : Addr) (cl : List (Str × Addr)) (fp : List Addr), P (X.blk s H scope (compEnvC scope cl C X.env) fp)
section
variable {X : Cx} {s0 : Shared} {H0 : Hp} {scope : Scope} {ce : Env} {fo fp : List Addr} {tg : Expr} {ifs : List Expr} {it : Addr} {J : It} {tn : Nat → Heap → Prop} {g : TG} {tt : TT} {vs : List Nat} {τ : L2.St} {pl : List (Addr × Obj)}
variable {W : Nat → Nat → Hp → Prop} {Stop : Hp → Prop} {Body : (Hp → Prop) → L2.St → Hp → Prop} {E : Value → Shared → Prop} {Rn : Shared → Prop} {Rb : Nat → Shared → Prop} {n : Nat} {s : Shared}
theorem turn_at (T : Turn X.prog X.w X.K tg J fp it tn) (calm : X.calm = true) (own : ∀ H, (∀ b ∈ fp, H b = none) → ∀ b ∈ fp, FpOk (X.blk s0 H0 scope ce fo) pl H b) (pg : PG (X.blk s0 H0 scope ce fo) tg g) (pt : PTs (X.blk s0 H0 scope ce fo) ifs tt)
    (turn : TurnR J g tt vs τ Stop Body W) (stop : ∀ H s, Inv (X.blk s0 H0 scope ce fo) pl τ H s → Stop H → Rn s)
    (body : ∀ (n : Nat) (Nx : Hp → Prop) (pq : List (Addr × Obj)) (σ2 : L2.St) (H2 : Hp) (s2 : Shared), Knows τ σ2 → wipe σ2 vs = τ → Inv (X.blk s0 H0 scope ce fo) (pl ++ pq) σ2 H2 s2 → Body Nx σ2 H2 →
      (∀ σ3 H3 s3, Inv (X.blk s0 H0 scope ce fo) (pl ++ pq) σ3 H3 s3 → Knows τ σ3 → Nx H3 → ∃ m, m < n ∧ At (X.blk s0 H0 scope ce fo) pl τ tn fp W m s3) → Rb n s2)
    (a : At (X.blk s0 H0 scope ce fo) pl τ tn fp W n s) :
    wpAny (model X.prog X.w) X.A (pyNext (.ref it)) (fun r s1 => match r with
      | none => Rn s1
      | some v => wpAny (model X.prog X.w) X.A (letOwnedTupleGo tg (.ref it) v) (fun _ s2 => wpAny (model X.prog X.w) X.A (assign tg ce v) (fun _ s3 => wpAny (model X.prog X.w) X.A (TestsT ifs ce)
          (fun ok s4 => if ok = true then Rb n s4 else ∃ m, m < n ∧ At (X.blk s0 H0 scope ce fo) pl τ tn fp W m s4) E s3) E s2) E s1) E s := by
  obtain ⟨i, H, I, st, no, w⟩ := a
  rcases turn i n H w with ⟨over, q⟩ | ⟨goes, Nx, less, step⟩
  · refine thnF (T.done (X.blk s0 H0 scope ce fo) rfl rfl rfl calm i pl s τ H _ I (own H no) st over) ?_
    rintro _ s1 ⟨rfl, J1⟩
    exact stop H s1 J1 q
  · refine thnF (T.item (X.blk s0 H0 scope ce fo) rfl rfl rfl calm i pl s τ H _ I (own H no) st goes) ?_
    rintro _ s1 ⟨v, rfl, z⟩
    refine thnF z fun _ s2 ⟨x, H2, I2, rx, y2, st2, no2⟩ => thnF (pg.run _ s2 τ H2 x v _ (I2.pinned (own H2 no2) (T.obj _ _ st2)) rx (step x H2 y2)) fun _ s3 ⟨σ3, H3, I3, wi, q3⟩ => ?_
    have back : ∀ σ4 H4 s4, Inv (X.blk s0 H0 scope ce fo) (pl ++ pinsAt fp s2.heap) σ4 H4 s4 → Knows τ σ4 → Nx H4 → ∃ m, m < n ∧ At (X.blk s0 H0 scope ce fo) pl τ tn fp W m s4 := fun σ4 H4 s4 I4 k nx => by
      have pin : ∀ b ∈ fp, ∀ o, s2.heap.get? b = some o → s4.heap.get? b = some o ∧ H4 b = none := fun b hb o e => by
        have z := I4.pin (b, o) (List.mem_append_right _ (List.mem_append_right _ (mem_pinsAt hb e)))
        exact ⟨z.1, z.2.1⟩
      obtain ⟨m, lt, w4⟩ := less H4 nx
      refine ⟨m, lt, i + 1, H4, (I4.unpinned).weak k.1 k.2, T.keep _ _ _ st2 fun b hb o e => (pin b hb o e).1, fun b hb => ?_, w4⟩
      obtain ⟨o, e, _⟩ := T.obj _ _ st2 b hb
      exact (pin b hb o e).2
    have k3 : Knows τ σ3 := by
      rw [← wi]
      exact Knows.wiped σ3 vs
    refine thnF (pt.run _ s3 σ3 H3 _ I3 q3) fun b s4 ⟨H4, I4, q4⟩ => ?_
    cases b with
    | true => exact body n Nx _ σ3 H4 s4 k3 wi I4 q4 back
    | false => exact back σ3 H4 s4 I4 k3 q4
end

/-! ### a comprehension's block -/
/-- the frame of a block that starts at s -/
abbrev blkEnv (X : Cx) (scope : Scope) (s : Shared) : Env := compEnvC scope (cellsFrom (s.heap.objs.size + 1) scope.names (cloFrom X.env.cells scope.names [])) s.heap.objs.size X.env
/-- its first state -/
abbrev blkAt (scope : Scope) (s : Shared) : Shared := { s with heap := pushCells (s.heap.push { cls := .type "dict", data := .dict #[] }) scope.names }
/-- the thing that is built lies at s, the iterator's records at fp; the block is begun -/
structure BlockAt (X : Cx) (pins : List (Addr × Obj)) (σ : L2.St) (H : Hp) (s : Shared) (scope : Scope) (vs : List Nat) (fp : List Addr) (tn : Nat → Heap → Prop) : Prop where
  inv : Inv X pins σ H s
  free : ∀ b ∈ fp, FpOk X pins H b
  blk : Inv (X.blk s H scope (blkEnv X scope s) fp) [] (wipe σ vs) H (blkAt scope s)
  st : tn 0 (blkAt scope s).heap
section
variable {X : Cx} {pins : List (Addr × Obj)} {σ : L2.St} {H : Hp} {s : Shared} {scope : Scope} {own : List (Str × Nat)} {fp : List Addr} {tn : Nat → Heap → Prop} {tg : Expr} {it : Addr} {J : It} {vs : List Nat}
theorem block_open {o : Obj} {u : HO} (I : Inv X pins σ H s) (T : Turn X.prog X.w X.K tg J fp it tn) (st : tn 0 s.heap) (f : ∀ b ∈ fp, FpOk X pins H b) (ok : BlkOk X.N X.env.scope scope own) (hN : X.N.Nodup)
    (new : ObjOk X.prog X.w (upd H s.heap.objs.size u) (s.heap.push o) s.heap.objs.size u) : BlockAt X pins σ (upd H s.heap.objs.size u) { s with heap := s.heap.push o } scope (own.map (·.2)) fp tn := by
  have old : ∀ b ∈ fp, b < s.heap.objs.size := fun b hb => let ⟨_, e, _⟩ := T.obj _ _ st b hb; Heap.lt_size e
  have free : ∀ b ∈ fp, FpOk X pins (upd H s.heap.objs.size u) b := fun b hb => ⟨by rw [upd_ne (Nat.ne_of_lt (old b hb))]; exact (f b hb).1, (f b hb).2⟩
  have J3 : Inv X pins σ (upd H s.heap.objs.size u) { s with heap := s.heap.push o } := I.laid (t' := s.toks) (fun _ _ e => Heap.get?_push_of_some _ e) (Nat.le_refl _) new
  exact ⟨J3, free, block_start J3 ok hN fun b hb => ⟨free b hb, by show b < (s.heap.push o).objs.size; rw [Heap.size_push]; exact Nat.lt_succ_of_lt (old b hb)⟩,
    T.keep _ _ _ st fun b _ ob e => pushCells_keeps _ _ _ _ (Heap.get?_push_of_some _ (Heap.get?_push_of_some _ e))⟩
namespace BlockAt
variable (B : BlockAt X pins σ H s scope vs fp tn)
include B
theorem mine (H' : Hp) (no : ∀ b ∈ fp, H' b = none) : ∀ b ∈ fp, FpOk (X.blk s H scope (blkEnv X scope s) fp) [] H' b := fun b hb =>
  have ok := B.blk.ok
  ⟨no b hb, (ok.exf b hb).1, ok.exfs b hb, .inl hb, fun x c e => (ok.exf b hb).2 x c e, fun p hp => absurd (show p ∈ ([] : List (Addr × Obj)) from hp) (by simp)⟩
theorem begin {W : Nat → Nat → Hp → Prop} {m : Nat} (w : W 0 m H) : At (X.blk s H scope (blkEnv X scope s) fp) [] (wipe σ vs) tn fp W m (blkAt scope s) := ⟨0, H, B.blk, B.st, fun b hb => (B.free b hb).1, w⟩
/-- the block's names go -/
theorem close {τ : L2.St} {H' : Hp} {s' : Shared} (J : Inv (X.blk s H scope (blkEnv X scope s) fp) [] τ H' s') : ∃ m, s'.heap.Ns s.heap.objs.size m ∧ ∀ h, Heap.SameBut s.heap.objs.size s'.heap h → Inv X pins σ H' { s' with heap := h } := by
  have K : Inv X pins σ H' s' := B.inv.call' (ch := fp) J.os J.base J.hok J.bare fun b hb => by
    obtain ⟨_, f1, _, f3, f4, f5⟩ := B.free b hb
    exact ⟨f3, f1, f4, f5⟩
  obtain ⟨m, hn, _⟩ := J.loc
  obtain ⟨k0, k1, k2, k3, k4, k5⟩ := B.inv.fpOk (Nat.le_refl _) (show H' s.heap.objs.size = none from J.free)
  exact ⟨m, hn, fun h sb => K.turned (t' := s'.toks) (fun b o n e => (sb.2 b n).trans e) k0 k1 k3 k4 k5⟩
end BlockAt
theorem blk_closed (I : Inv X pins σ H s) (ok : BlkOk X.N X.env.scope scope own) : ∀ y ∈ scope.names, y.2 = .free → ∃ c, X.env.cells.lookup y.1 = some c := fun y hy e => by
  rcases ok.free y hy e with z | z
  · exact I.ok.has _ (.inl z)
  · exact I.ok.has _ (.inr z)
/-- the list comprehension's block, run -/
theorem lc_run {elt iter : Expr} {ifs : List Expr} {pos : Pos} {g : TG} {tt : TT} {te : TE} {Q : VK} {D : Addr} {W : Nat → Nat → Hp → Prop} {m : Nat} (B : BlockAt X pins σ H s scope vs fp tn) (T : Turn X.prog X.w X.K tg J fp it tn) (hc : X.calm = true)
    (pg : PG (X.blk s H scope (blkEnv X scope s) fp) tg g) (pt : PTs (X.blk s H scope (blkEnv X scope s) fp) ifs tt)
    (pe : PE ((X.blk s H scope (blkEnv X scope s) fp).wish (notedBy (model X.prog X.w) X.A (blkEnv X scope s) (CompFails (model X.prog X.w) X.A X.xe (blkEnv X scope s)))) elt te)
    (turn : TurnR J g tt vs (wipe σ vs) (Q (.ref D)) (fun Nx σ2 H2 => te σ2 H2 fun y H3 => ∃ acc, H3 D = some (.lst acc) ∧ acc.length < sizeLine ∧ Nx (upd H3 D (.lst (acc ++ [y])))) W) (w : W 0 m H) :
    codeAny (model X.prog X.w) X.A (.compStart (.ListComp elt [⟨tg, iter, ifs, 0⟩] scope pos) 0 (.ref it) (.ref D) (blkEnv X scope s)) (compEnds (model X.prog X.w) X.A X.xe none (EP X pins σ Q) (.ref D) (blkEnv X scope s)) (blkAt scope s) := by
  have loop : codeAny (model X.prog X.w) X.A (.compLoop (.ListComp elt [⟨tg, iter, ifs, 0⟩] scope pos) 0 (.ref it) (.ref D) (blkEnv X scope s)) (compEnds (model X.prog X.w) X.A X.xe none (EP X pins σ Q) (.ref D) (blkEnv X scope s)) (blkAt scope s) := by
    refine compLoop_any (At (X.blk s H scope (blkEnv X scope s) fp) [] (wipe σ vs) tn fp W) (fun n s1 a => turn_at (Rn := fun s2 => compEnds (model X.prog X.w) X.A X.xe none (EP X pins σ Q) (.ref D) (blkEnv X scope s) (.ok .next) s2)
      (Rb := fun n s2 => wpAny (model X.prog X.w) X.A (eval elt (blkEnv X scope s)) (fun z s3 => wpAny (model X.prog X.w) X.A (call (.builtin "list.append") [.ref D, z]) (fun _ s4 => ∃ m, m < n ∧ At (X.blk s H scope (blkEnv X scope s) fp) [] (wipe σ vs) tn fp W m s4)
        (notedBy (model X.prog X.w) X.A (blkEnv X scope s) (CompFails (model X.prog X.w) X.A X.xe (blkEnv X scope s))) s3) (notedBy (model X.prog X.w) X.A (blkEnv X scope s) (CompFails (model X.prog X.w) X.A X.xe (blkEnv X scope s))) s2)
      T hc B.mine pg pt turn (fun H1 s2 J1 q => ?_) (fun n Nx pq σ2 H2 s2 k _ J2 q back => ?_) a) m (B.begin w)
    · obtain ⟨mA, hn, go⟩ := B.close J1
      exact ⟨mA, hn, fun h sb => ⟨.ref D, H1, go h sb, rfl, q⟩⟩
    · refine wpAny_mono (pe.run _ s2 σ2 H2 _ (J2.wish _) q) ?_ fun _ _ z => z
      rintro z s3 ⟨y, H3, J3, r3, acc, hD, few, nx⟩
      exact app_ok (X := X.blk s H scope (blkEnv X scope s) fp) J3.unwish hD few r3 fun s4 J4 => back σ2 _ s4 J4 k nx
  exact codeAny_compStart_list loop (T.self X.A 0 _ _ _ B.st loop)
/-- [elt for target in iter if ..], elt may raise by a call: he is told with the wish E of what its calls let out -/
theorem pe_lcX {elt iter : Expr} {ifs : List Expr} {pos : Pos} {wi : TI} {g : TG} {tt : TT} {te : TE} {E : XK} (hs : X.stack = X.env :: X.outer) (hf : X.env.frame = some X.env.locals) (tk : Takes X fun cls d _ H => E cls d H)
    (hc : X.calm = true) (hN : X.N.Nodup) (hi : PI X tg iter wi) (ok : BlkOk X.N X.env.scope scope own) (hg : InBlk X scope fun Y => PG Y tg g) (ht : InBlk X scope fun Y => PTs Y ifs tt)
    (he : ∀ (s : Shared) (H : Hp) (C : Addr) (cl : List (Str × Addr)) (fp : List Addr) (xe : Value → Shared → Prop), Passes (L2.CX X.prog X.w) ((X.blk s H scope (compEnvC scope cl C X.env) fp).wish xe) E → PE ((X.blk s H scope (compEnvC scope cl C X.env) fp).wish xe) elt te)
    (hfs : ∀ x, foldedSetIterable iter X.env x = pure x := by intro _; rfl) : PE X (.ListComp elt [⟨tg, iter, ifs, 0⟩] scope pos) (tLc wi g tt te (own.map (·.2))) := by
  refine ⟨fun pins s σ H Q I h => ?_⟩
  rw [eval_ListComp]
  refine comprehension_at (use := none) rfl hfs (closure_ok (blk_closed I ok)) ok.kind (fun y hy e => by rw [ok.uniq y hy, e]) (thn (hi.run pins s σ H _ I h) fun xv s1 hx => thn hx ?_)
  rintro _ s2 ⟨it, fp, tn, J, H2, rfl, I2, T, st2, f2, q⟩
  obtain ⟨W, ⟨m, w⟩, turn⟩ := q s2.heap.objs.size (I2.hok.fresh (Nat.le_refl _))
  refine wpAny_newObj_type (newEnv_comp ?_) (by show 0 ≤ sizeLine; decide)
  have B := block_open (o := { cls := .type "list", data := .seq ([] : List Value).toArray }) (u := .lst []) I2 T st2 f2 ok hN ⟨Nat.zero_le _, [], 0, .nil, Heap.get?_push_size _ rfl⟩
  exact lc_run B T hc (hg _ _ _ _ _) (ht _ _ _ _ _) (he _ _ _ _ _ _ (blk_passes hs hf tk (fun _ _ _ z => z) B.inv B.free rfl rfl)) turn w
end
end EV
end

section
set_option Elab.async false
set_option linter.all false
set_option maxRecDepth 100000
set_option maxHeartbeats 4000000
/-! a dict comprehension of two clauses, its keys tuples -/
namespace EV
open PySem PySem.Spec PyProof.Rows L2

/-- the dict comprehension of two clauses -/
abbrev dc2 (kx vx t0 i0 : Expr) (ifs0 : List Expr) (t1 i1 : Expr) (ifs1 : List Expr) (scope : Scope) (pos : Pos) : Expr := .DictComp kx vx [⟨t0, i0, ifs0, 0⟩, ⟨t1, i1, ifs1, 0⟩] scope pos
section
variable {prog : Program} {w : World} {A : Around} {R : Result → Shared → Prop} {s : Shared}
/-- a comprehension's turn, b where the tests have held -/
abbrev turnOf (e : Expr) (k : Nat) (it acc : Value) (env : Env) (t : Expr) (at_ : Pos) (ifs : List Expr) (b : Sem Fin) : Sem Fin :=
  standAt at_ >>= fun _ => pyNext it >>= fun r => match r with
    | none => pure (.done .next)
    | some v => letOwnedTupleGo t it v >>= fun _ => assign t env v >>= fun _ => TestsT ifs env >>= fun ok => if ok = true then b else again (.compLoop e k it acc env)
/-- the loop by such turns: I falls with each; P is what b asks so as to come to Q and go on -/
theorem loop_by {kx vx t0 i0 t1 i1 : Expr} {ifs0 ifs1 : List Expr} {scope : Scope} {pos : Pos} {k : Nat} {it acc : Value} {env : Env} {t : Expr} {at_ : Pos} {ifs : List Expr} {b : Sem Fin} {P : (Shared → Prop) → Shared → Prop} (he : compTurn (dc2 kx vx t0 i0 ifs0 t1 i1 ifs1 scope pos) k it acc env = turnOf (dc2 kx vx t0 i0 ifs0 t1 i1 ifs1 scope pos) k it acc env t at_ ifs b)
    (hb : ∀ Q s, P Q s → wpAny (model prog w) A b (fun fin s' => fin = .again (.compLoop (dc2 kx vx t0 i0 ifs0 t1 i1 ifs1 scope pos) k it acc env) ∧ Q s') (fun _ _ => False) s) (I : Nat → Shared → Prop)
    (turn : ∀ n s, I n s → wpAny (model prog w) A (pyNext it) (fun r s1 => match r with
      | none => R (.ok .next) s1
      | some v => wpAny (model prog w) A (letOwnedTupleGo t it v) (fun _ s2 => wpAny (model prog w) A (assign t env v) (fun _ s3 => wpAny (model prog w) A (TestsT ifs env)
          (fun ok s4 => if ok = true then P (fun s5 => ∃ m, m < n ∧ I m s5) s4 else ∃ m, m < n ∧ I m s4) (fun _ _ => False) s3) (fun _ _ => False) s2) (fun _ _ => False) s1) (fun _ _ => False) s)
    (n : Nat) (h : I n s) : codeAny (model prog w) A (.compLoop (dc2 kx vx t0 i0 ifs0 t1 i1 ifs1 scope pos) k it acc env) R s := by
  refine codeAny_loop rfl I (fun n s hI => ?_) n h
  show wpAny (model prog w) A ((compTurn (dc2 kx vx t0 i0 ifs0 t1 i1 ifs1 scope pos) k it acc env).onRaise _) _ _ s
  refine wpAny_noted ?_
  rw [he]
  refine wpAny_bind (wpAny_standAt (wpAny_bind (thnF (turn n s hI) ?_)))
  rintro (_ | v) s1 h1
  · exact wpAny_pure h1
  · refine wpAny_bind (thnF h1 fun _ s2 h2 => wpAny_bind (thnF h2 fun _ s3 h3 => wpAny_bind (thnF h3 ?_)))
    rintro (_ | _) s4 h4
    · exact wpAny_pure ⟨rfl, h4⟩
    · refine thnF (hb _ s4 h4) ?_
      rintro _ s5 ⟨rfl, z⟩
      exact ⟨rfl, z⟩
end
section
variable {prog : Program} {w : World} {A : Around} {R : Result → Shared → Prop} {s : Shared} {kx vx t0 i0 t1 i1 : Expr} {ifs0 ifs1 : List Expr} {scope : Scope} {pos : Pos} {it acc : Value} {D : Addr} {env : Env}
/-- the outer turn's body: the inner loop, then on -/
abbrev outBody (e i1 : Expr) (acc : Value) (env : Env) (next : Sem Fin) : Sem Fin :=
  eval i1 env >>= fun x => standAt i1.pos >>= fun _ => foldedSetIterable i1 env x >>= fun x => holding [x] (pyIter x) >>= fun jt => runOwn (.compStart e 1 jt acc env) env >>= fun _ => next
/-- what it asks -/
abbrev OutP (prog : Program) (w : World) (A : Around) (e i1 : Expr) (acc : Value) (env : Env) (Q : Shared → Prop) (s : Shared) : Prop :=
  wpAny (model prog w) A (eval i1 env) (fun x s1 => wpAny (model prog w) A (pyIter x) (fun jt s2 => codeAny (model prog w) A (.compStart e 1 jt acc env) (fun r s3 => match r with
    | .ok _ => Q s3
    | .error _ => False) s2) (fun _ _ => False) s1) (fun _ _ => False) s
/-- the inner turn's body: a pair is put, then on -/
abbrev inBody (kx vx : Expr) (D : Addr) (env : Env) (next : Sem Fin) : Sem Fin :=
  (eval kx env >>= fun y => holding [y] (eval vx env) >>= fun z => standAt { kx.pos with endLine := vx.pos.endLine, endCol := vx.pos.endCol } >>= fun _ => holding [y, z] (dictSet D y z)) >>= fun _ => next
/-- what it asks -/
abbrev InP (prog : Program) (w : World) (A : Around) (kx vx : Expr) (D : Addr) (env : Env) (Q : Shared → Prop) (s : Shared) : Prop :=
  wpAny (model prog w) A (eval kx env) (fun y s1 => wpAny (model prog w) A (eval vx env) (fun z s2 => wpAny (model prog w) A (dictSet D y z) (fun _ s3 => Q s3) (fun _ _ => False) s2) (fun _ _ => False) s1) (fun _ _ => False) s
theorem turn_out : compTurn (dc2 kx vx t0 i0 ifs0 t1 i1 ifs1 scope pos) 0 it acc env =
    turnOf (dc2 kx vx t0 i0 ifs0 t1 i1 ifs1 scope pos) 0 it acc env t0 i0.pos ifs0 (outBody (dc2 kx vx t0 i0 ifs0 t1 i1 ifs1 scope pos) i1 acc env (again (.compLoop (dc2 kx vx t0 i0 ifs0 t1 i1 ifs1 scope pos) 0 it acc env))) := by rfl
theorem turn_in : compTurn (dc2 kx vx t0 i0 ifs0 t1 i1 ifs1 scope pos) 1 it (.ref D) env =
    turnOf (dc2 kx vx t0 i0 ifs0 t1 i1 ifs1 scope pos) 1 it (.ref D) env t1 i1.pos ifs1 (inBody kx vx D env (again (.compLoop (dc2 kx vx t0 i0 ifs0 t1 i1 ifs1 scope pos) 1 it (.ref D) env))) := by rfl
theorem out_body {e : Expr} {c : Code} (hs : ∀ x, foldedSetIterable i1 env x = pure x) (Q : Shared → Prop) (s : Shared) (h : OutP prog w A e i1 acc env Q s) :
    wpAny (model prog w) A (outBody e i1 acc env (again c)) (fun fin s' => fin = .again c ∧ Q s') (fun _ _ => False) s := by
  refine wpAny_bind (thnF h fun x s1 h1 => wpAny_bind (wpAny_standAt (wpAny_bind (wpAny_of_eq (hs x) (wpAny_bind (wpAny_holding (thnF h1 fun jt s2 h2 => wpAny_bind (wpAny_runOwn ?_))))))))
  rw [Around.mark_none]
  refine codeAny_mono h2 ?_
  rintro (er | fl) s3 z
  · exact z.elim
  · exact wpAny_pure ⟨rfl, z⟩
theorem in_body {c : Code} (Q : Shared → Prop) (s : Shared) (h : InP prog w A kx vx D env Q s) : wpAny (model prog w) A (inBody kx vx D env (again c)) (fun fin s' => fin = .again c ∧ Q s') (fun _ _ => False) s :=
  wpAny_bind (wpAny_bind (thnF h fun _ _ h1 => wpAny_bind (wpAny_holding (thnF h1 fun _ _ h2 => wpAny_bind (wpAny_standAt (wpAny_holding (thnF h2 fun _ _ q => wpAny_pure ⟨rfl, q⟩)))))))
theorem dcStart1 (direct : codeAny (model prog w) A (.compLoop (dc2 kx vx t0 i0 ifs0 t1 i1 ifs1 scope pos) 1 it acc env) R s)
    (begun : wpAny (model prog w) A (pyIter it) (fun jt s' => codeAny (model prog w) A (.compLoop (dc2 kx vx t0 i0 ifs0 t1 i1 ifs1 scope pos) 1 jt acc env) R s') (fun _ _ => False) s) :
    codeAny (model prog w) A (.compStart (dc2 kx vx t0 i0 ifs0 t1 i1 ifs1 scope pos) 1 it acc env) R s := by
  refine codeAny_of_tree (wpAny_notedAt (m := compStart (dc2 kx vx t0 i0 ifs0 t1 i1 ifs1 scope pos) 1 it acc env) ?_)
  unfold compStart
  refine wpAny_bind (m := ask) (wpAny_askSetting (wpAny_ite ?_))
  split
  · first
      | exact wpAny_pure ⟨rfl, direct⟩
      | exact wpAny_bind (wpAny_pure (wpAny_pure ⟨rfl, direct⟩))
  · exact wpAny_bind (wpAny_rule (wpAny_bind (m := standAt i1.pos) (wpAny_standAt (wpAny_bind (thnF begun fun jt s' z => wpAny_pure ⟨rfl, z⟩)))))
end

section
variable {X : Cx} {pins : List (Addr × Obj)} {σ : L2.St} {H : Hp} {s : Shared}
/-- d[k] = v by a comprehension, k a tuple -/
theorem d_dictSetT {E : Value → Shared → Prop} {a b : Addr} {kvs : List (List Key × V)} {k : List Key} {v : V} {r : Value} {Q : Unit → Shared → Prop} (hu : X.A.units < cLine) (I : Inv X pins σ H s) (e : H a = some (.dT kvs)) (eb : H b = some (.tup (k.map kV)))
    (few : kvs.length < sizeLine) (rv : RelV v r) (h : ∀ s', Inv X pins σ (upd H a (.dT (putK kvs k v))) s' → Q () s') : wpAny (model X.prog X.w) X.A (dictSet a (.ref b) r) Q E s := by
  obtain ⟨_, nm, xs, rel, at_⟩ := dt_of I.hok e
  have more : (putK kvs k v).length ≤ sizeLine := by
    have := length_putK kvs k v
    omega
  refine wpAny_dictSet_heap (hsz := rel.length ▸ Nat.le_of_lt few) (show (tupleKind (mixKind X.prog X.w)).room X.A from hu) (key_of I.hok eb) at_ fun h' at' sb => h _ ?_
  obtain ⟨q, es, ep, hq, d1, d2, d3, _, d4⟩ := at'
  have rel' := (rel.put k eb rv).keeps (H' := upd H a (.dT (putK kvs k v))) fun c ys ec => by
    rw [upd_ne (ne_of ec e fun z => nomatch z)]
    exact ec
  exact d_write I (by rw [e]; exact True.intro) sb ⟨q, hq⟩ ⟨more, nm, _, rel', q, es, ep, hq, d1, d2, d3, d4⟩
end
/-- the body of the inner loop: a tuple is the key -/
abbrev PutR (D : Addr) (tk tv : TE) (Nx : Hp → Prop) (σ : L2.St) (H : Hp) : Prop := tk σ H fun y H1 => tv σ H1 fun z H2 =>
  ∃ (kvs : List (List Key × V)) (k : List Key) (c : Addr), y = .ref c ∧ H2 c = some (.tup (k.map kV)) ∧ H2 D = some (.dT kvs) ∧ kvs.length < sizeLine ∧ Nx (upd H2 D (.dT (putK kvs k z)))
/-- the inner loop, whole -/
abbrev InnerR (D : Addr) (wi1 : TI) (g1 : TG) (tt1 : TT) (tk tv : TE) (vs1 : List Nat) (Nx : Hp → Prop) (σ : L2.St) (H : Hp) : Prop := wi1 σ H fun J1 H1 =>
  ∃ W1 : Nat → Nat → Hp → Prop, (∃ m, W1 0 m H1) ∧ TurnR J1 g1 tt1 vs1 (wipe σ vs1) Nx (fun Nx1 σ2 H2 => PutR D tk tv Nx1 σ2 H2) W1
/-- {k: v for tg in iter if .. for tg1 in iter1 if ..}, k a tuple: D the new dict -/
def tDc2 (wi : TI) (g : TG) (tt : TT) (wi1 : TI) (g1 : TG) (tt1 : TT) (tk tv : TE) (vs vs1 : List Nat) : TE := fun σ H Q => wi σ H fun J H1 => ∀ D, H1 D = none →
  ∃ W : Nat → Nat → Hp → Prop, (∃ m, W 0 m (upd H1 D (.dT []))) ∧ TurnR J g tt vs (wipe σ vs) (Q (.ref D)) (fun Nx σ2 H2 => InnerR D wi1 g1 tt1 tk tv vs1 Nx σ2 H2) W
section
variable {X : Cx} {kx vx tg iter tg1 iter1 : Expr} {ifs ifs1 : List Expr} {scope : Scope} {own : List (Str × Nat)} {vs vs1 : List Nat} {pos : Pos} {wi wi1 : TI} {g g1 : TG} {tt tt1 : TT} {tk tv : TE}
/-- the inner loop, from its iterable on: what the outer turn is to reach is G -/
theorem dc_inner {s0 : Shared} {H0 : Hp} {ce : Env} {fo : List Addr} {pl : List (Addr × Obj)} {σ : L2.St} {H : Hp} {s : Shared} {D : Addr} {Nx : Hp → Prop} {G : Shared → Prop} (hu : X.A.units < cLine) (hc : X.calm = true)
    (pi1 : PI (X.blk s0 H0 scope ce fo) tg1 iter1 wi1) (pg1 : PG (X.blk s0 H0 scope ce fo) tg1 g1) (pt1 : PTs (X.blk s0 H0 scope ce fo) ifs1 tt1) (pk : PE (X.blk s0 H0 scope ce fo) kx tk) (pv : PE (X.blk s0 H0 scope ce fo) vx tv)
    (I : Inv (X.blk s0 H0 scope ce fo) pl σ H s) (h : InnerR D wi1 g1 tt1 tk tv vs1 Nx σ H) (done : ∀ H1 s1, Inv (X.blk s0 H0 scope ce fo) pl (wipe σ vs1) H1 s1 → Nx H1 → G s1) :
    wpAny (model X.prog X.w) X.A (eval iter1 ce) (fun x s1 => wpAny (model X.prog X.w) X.A (pyIter x) (fun jt s2 => codeAny (model X.prog X.w) X.A (.compStart (dc2 kx vx tg iter ifs tg1 iter1 ifs1 scope pos) 1 jt (.ref D) ce)
      (fun r s3 => match r with
        | .ok _ => G s3
        | .error _ => False) s2) (fun _ _ => False) s1) (fun _ _ => False) s := by
  refine thnF (pi1.run pl s σ H _ I h) fun x s1 hx => thnF hx ?_
  rintro _ s2 ⟨jt, fp, tn, J, H2, rfl, I2, T, st, f, W, ⟨m, w⟩, turn⟩
  have loop : codeAny (model X.prog X.w) X.A (.compLoop (dc2 kx vx tg iter ifs tg1 iter1 ifs1 scope pos) 1 (.ref jt) (.ref D) ce) (fun r s3 => match r with
      | .ok _ => G s3
      | .error _ => False) s2 := by
    refine loop_by turn_in in_body (At (X.blk s0 H0 scope ce fo) pl (wipe σ vs1) tn fp W) (fun n s3 a => turn_at (Rn := G) (Rb := fun n => InP X.prog X.w X.A kx vx D ce fun s4 => ∃ m, m < n ∧ At (X.blk s0 H0 scope ce fo) pl (wipe σ vs1) tn fp W m s4)
      T hc (fun H' no b hb => ⟨no b hb, (f b hb).2⟩) pg1 pt1 turn done (fun n Nx1 pq σ3 H3 s3 k _ I3 q back => ?_) a) m ⟨0, H2, I2.weak (wipe_length σ vs1) fun _ _ e => (wipe_some e).1, st, fun b hb => (f b hb).1, w⟩
    refine thnF (pk.run _ s3 σ3 H3 _ I3 q) ?_
    rintro y s4 ⟨_, H4, I4, ry, q4⟩
    refine thnF (pv.run _ s4 σ3 H4 _ I4 q4) ?_
    rintro z s5 ⟨zv, H5, I5, rz, kvs, kk, c, rfl, hc5, hD5, few, nx⟩
    cases (show y = Value.ref c from ry)
    exact d_dictSetT (X := X.blk s0 H0 scope ce fo) hu I5 hD5 hc5 few rz fun s6 I6 => back σ3 _ s6 I6 k nx
  exact dcStart1 loop (T.self X.A 0 _ _ _ st loop)
/-- the dict comprehension's block, run -/
theorem dc_run {pins : List (Addr × Obj)} {σ : L2.St} {H : Hp} {s : Shared} {fp : List Addr} {tn : Nat → Heap → Prop} {it : Addr} {J : It} {Q : VK} {D : Addr} {W : Nat → Nat → Hp → Prop} {m : Nat} (hu : X.A.units < cLine) (hc : X.calm = true) (B : BlockAt X pins σ H s scope vs fp tn)
    (T : Turn X.prog X.w X.K tg J fp it tn) (pg : PG (X.blk s H scope (blkEnv X scope s) fp) tg g) (pt : PTs (X.blk s H scope (blkEnv X scope s) fp) ifs tt) (pi1 : PI (X.blk s H scope (blkEnv X scope s) fp) tg1 iter1 wi1) (pg1 : PG (X.blk s H scope (blkEnv X scope s) fp) tg1 g1)
    (pt1 : PTs (X.blk s H scope (blkEnv X scope s) fp) ifs1 tt1) (pk : PE (X.blk s H scope (blkEnv X scope s) fp) kx tk) (pv : PE (X.blk s H scope (blkEnv X scope s) fp) vx tv) (hs1 : ∀ env x, foldedSetIterable iter1 env x = pure x) (sub : ∀ i ∈ vs1, i ∈ vs)
    (turn : TurnR J g tt vs (wipe σ vs) (Q (.ref D)) (fun Nx σ2 H2 => InnerR D wi1 g1 tt1 tk tv vs1 Nx σ2 H2) W) (w : W 0 m H) :
    codeAny (model X.prog X.w) X.A (.compStart (dc2 kx vx tg iter ifs tg1 iter1 ifs1 scope pos) 0 (.ref it) (.ref D) (blkEnv X scope s)) (compPost (model X.prog X.w) X.A X.xe none (EP X pins σ Q) (.ref D) s.heap.objs.size) (blkAt scope s) := by
  have loop : codeAny (model X.prog X.w) X.A (.compLoop (dc2 kx vx tg iter ifs tg1 iter1 ifs1 scope pos) 0 (.ref it) (.ref D) (blkEnv X scope s)) (compPost (model X.prog X.w) X.A X.xe none (EP X pins σ Q) (.ref D) s.heap.objs.size) (blkAt scope s) := by
    refine loop_by turn_out (out_body (hs1 _)) (At (X.blk s H scope (blkEnv X scope s) fp) [] (wipe σ vs) tn fp W) (fun n s1 a => turn_at (Rn := fun s2 => compPost (model X.prog X.w) X.A X.xe none (EP X pins σ Q) (.ref D) s.heap.objs.size (.ok .next) s2)
      (Rb := fun n => OutP X.prog X.w X.A (dc2 kx vx tg iter ifs tg1 iter1 ifs1 scope pos) iter1 (.ref D) (blkEnv X scope s) fun s3 => ∃ m, m < n ∧ At (X.blk s H scope (blkEnv X scope s) fp) [] (wipe σ vs) tn fp W m s3)
      T hc B.mine pg pt turn (fun H1 s2 J1 q => ?_) (fun n Nx pq σ2 H2 s2 k wi2 J2 q back => ?_) a) m (B.begin w)
    · obtain ⟨mA, hn, go⟩ := B.close J1
      exact ⟨mA, hn, fun h sb => ⟨.ref D, H1, go h sb, rfl, q⟩⟩
    · refine dc_inner hu hc pi1 pg1 pt1 pk pv J2 q fun H3 s3 J3 nx => back _ H3 s3 J3 ⟨k.1.trans (wipe_length σ2 vs1).symm, fun j v e => ?_⟩ nx
      rw [← wi2] at e
      obtain ⟨e1, off⟩ := wipe_some e
      rw [wipe_out fun z => off (sub j z)]
      exact e1
  exact codeAny_compStart_dict loop (T.self X.A 0 _ _ _ B.st loop)
theorem pe_dc2 (hu : X.A.units < cLine) (hc : X.calm = true) (hN : X.N.Nodup) (hi : PI X tg iter wi) (ok : BlkOk X.N X.env.scope scope own) (hv : ∀ i ∈ vs1, i ∈ own.map (·.2)) (hg : InBlk X scope fun Y => PG Y tg g) (ht : InBlk X scope fun Y => PTs Y ifs tt)
    (hi1 : InBlk X scope fun Y => PI Y tg1 iter1 wi1) (hg1 : InBlk X scope fun Y => PG Y tg1 g1) (ht1 : InBlk X scope fun Y => PTs Y ifs1 tt1) (hk : InBlk X scope fun Y => PE Y kx tk) (he : InBlk X scope fun Y => PE Y vx tv)
    (hs : ∀ x, foldedSetIterable iter X.env x = pure x := by intro _; rfl) (hs1 : ∀ env x, foldedSetIterable iter1 env x = pure x := by intro _ _; rfl) :
    PE X (.DictComp kx vx [⟨tg, iter, ifs, 0⟩, ⟨tg1, iter1, ifs1, 0⟩] scope pos) (tDc2 wi g tt wi1 g1 tt1 tk tv (own.map (·.2)) vs1) := by
  refine ⟨fun pins s σ H Q I h => ?_⟩
  rw [arm_eval_DictComp]
  refine wpAny_comprehension_free (use := none) rfl hs (closure_ok (blk_closed I ok)) ok.kind (fun y hy e => by rw [ok.uniq y hy, e]) (thn (hi.run pins s σ H _ I h) fun xv s1 hx => thn hx ?_)
  rintro _ s2 ⟨it, fp, tn, J, H2, rfl, I2, T, st2, f2, q⟩
  obtain ⟨W, ⟨m, w⟩, turn⟩ := q s2.heap.objs.size (I2.hok.fresh (Nat.le_refl _))
  refine wpAny_newObj_type (newEnv_comp ?_)
  exact dc_run hu hc (block_open I2 T st2 f2 ok hN (dt_empty s2.heap I2.big)) T (hg _ _ _ _ _) (ht _ _ _ _ _) (hi1 _ _ _ _ _) (hg1 _ _ _ _ _) (ht1 _ _ _ _ _) (hk _ _ _ _ _) (he _ _ _ _ _) hs1 hv turn w
end
end EV
end

section
set_option Elab.async false
set_option linter.all false
set_option maxRecDepth 100000
set_option maxHeartbeats 4000000
/-! sets of texts: set(a list), len, sorted -/
namespace EV
open PySem PySem.Spec PyProof.Rows L2

/-! ### a set by its payload -/
/-- the world's sets can be walked over the table t -/
def Walkable (w : World) (t : SetTable) : Prop := Ris t.place.toList ∧ (w.params.followText "set-order" = true ∨ t.led = true)
/-- at a: a set, its members l (each once, the newest first) -/
def TxtSet (w : World) (h : Heap) (a : Addr) (l : List Str) : Prop :=
  ∃ D : PySem.Froz.SD, h.get? a = some (PySem.Froz.sObj "set" D) ∧ (∀ P : Program, PySem.Froz.TxOk P w D l) ∧ Walkable w D.2.2 ∧ l.Nodup ∧ l.length < scanBound
/-- the new set of the world w -/
abbrev emptySet (w : World) : Obj := { cls := .type "set", dict := none, data := .set #[] 0 (.fresh 0 0 (!w.params.followText "set-order")) }
theorem walk_tail {w : World} {ep : Nat} {es : Array (Int × Value)} {t : SetTable} {b : Bool} (k : Walkable w t) : Walkable w (PySem.Froz.tailTx ep es t b).2.2 := by
  unfold PySem.Froz.tailTx
  split
  · exact ⟨relayAll_ris t es _, by rw [relayAll_led]; exact k.2⟩
  · exact k
theorem walk_add {w : World} {i : Int} {v : Value} {D : PySem.Froz.SD} (k : Walkable w D.2.2) : Walkable w (PySem.Froz.addTx i v D).2.2 := by
  have k' : Walkable w (layNew D.2.2 D.1 i v).2.1 := ⟨layNew_ris D.2.2 D.1 i v k.1, by rw [layNew_led]; exact k.2⟩
  unfold PySem.Froz.addTx
  refine walk_tail ?_
  split <;> exact k'
section
variable {P : Program} {w : World} {A : Around} {E : Value → Shared → Prop} {s : Shared} {h h' : Heap} {a : Addr} {l : List Str}
theorem TxtSet.at (R : TxtSet w h a l) (k : ∀ o, h.get? a = some o → h'.get? a = some o) : TxtSet w h' a l := R.imp fun _ r => ⟨k _ r.1, r.2⟩
theorem TxtSet.start (e : h.get? a = some (emptySet w)) : TxtSet w h a [] :=
  ⟨(#[], 0, .fresh 0 0 (!w.params.followText "set-order")), e, fun _ => .nil (by rfl), ⟨.nil, by
    by_cases q : w.params.followText "set-order" = true
    · exact .inl q
    · exact .inr (by show (!w.params.followText "set-order") = true; simp [q])⟩, .nil, by decide⟩
/-- a member is met again: nothing is laid -/
theorem add_old {D : PySem.Froz.SD} {x : Str} {tk : Tok} {Q : Bool → Shared → Prop} (ho : s.heap.get? a = some (PySem.Froz.sObj "set" D)) (F : PySem.Froz.TxOk P w D l) (few : l.length < scanBound) (m : x ∈ l) (q : Q false s) :
    wpAny (model P w) A (setAddHashed a (.str x tk) (hashStr w x)) Q E s := by
  have hd : (PySem.Froz.sObj "set" D).data = .set D.1 D.2.1 D.2.2 := rfl
  have is := PySem.Froz.is_str (P := P) (w := w) x tk
  obtain ⟨e, he, hx⟩ := (F.mem x).mp m
  cases found : List.findIdx? (fun e => (strKind P w).is x e.2) D.1.toList with
  | none =>
    have z := List.findIdx?_eq_none_iff.mp found e he
    rw [hx] at z
    cases z
  | some j =>
    unfold setAddHashed setAddHashedIn
    refine wpAny_holding (wpAny_bind (wpAny_setState_of ho hd F.fit ?_))
    simp only [byScan_of (x := Value.str x tk) rfl (F.sz ▸ few) F.el, ↓reduceIte]
    unfold setAddByScan
    refine wpAny_bind (wpAny_bind (wpAny_rule ?_))
    refine wpAny_bind (wpAny_setScan_of (knd := strKind P w) (k := x) is ho hd F.fit F.el ?_)
    rw [found]
    exact wpAny_pure (wpAny_pure q)
/-- a text is added: l' are the members then -/
theorem add_text {x : Str} {tk : Tok} {Q : Bool → Shared → Prop} (R : TxtSet w s.heap a l) (room : l.length + 1 < scanBound)
    (q : ∀ (b : Bool) (h' : Heap) (l' : List Str), Heap.SameBut a s.heap h' → TxtSet w h' a l' → (∀ y, y ∈ l' ↔ y = x ∨ y ∈ l) → l'.length ≤ l.length + 1 → Q b { s with heap := h' }) :
    wpAny (model P w) A (setAddHashed a (.str x tk) (hashStr w x)) Q E s := by
  obtain ⟨D, e, F, k, nd, few⟩ := id R
  by_cases m : x ∈ l
  · exact add_old e (F P) few m (q false s.heap l (Heap.SameBut.refl a s.heap) R (fun y => ⟨.inr, fun z => z.elim (fun z => z ▸ m) id⟩) (Nat.le_succ _))
  · exact PySem.Froz.add_x e (F P) m room (q true _ (x :: l) (Heap.SameBut.update s.heap a _) ⟨_, PySem.Froz.get_upd _ e rfl, fun P' => PySem.Froz.add_ok tk (F P'), walk_add k, List.nodup_cons.mpr ⟨m, nd⟩, room⟩ (fun y => List.mem_cons) (Nat.le_refl _))
/-- the loop of set.update over a walk of texts: i of xs have gone in -/
theorem fill_loop {I : Addr} {fp wr : List Addr} {G : Array GenState → Array GenState → Prop} {n : Nat} {Pv : Nat → Value → Prop} {St : Nat → Shared → Prop} {R : Result → Shared → Prop} {xs : List Str} (W : WalksS P w A.in1 I fp wr G n Pv St) (apart : a ∉ fp)
    (hn : n = xs.length) (few : xs.length + 1 < scanBound) (texts : ∀ i v, Pv i v → ∃ x tk, xs[i]? = some x ∧ v = .str x tk) : ∀ (left i : Nat) (s : Shared) (l : List Str), i + left = n → St i s → TxtSet w s.heap a l → l.length ≤ i → (∀ y, y ∈ l ↔ y ∈ xs.take i) →
      (∀ s' l', Moved (a :: wr) G s s' → TxtSet w s'.heap a l' → (∀ y, y ∈ l' ↔ y ∈ xs) → R (.ok (.ret .none)) s') → codeAny (model P w) A (.builtin "set.update.loop" ⟨[.ref a, .ref I], []⟩) R s := by
  have out : a ∉ wr := fun m => apart (W.sub _ m)
  have wide : ∀ {s1 s2 : Shared}, Moved wr G s1 s2 → Moved (a :: wr) G s1 s2 := fun m => m.mono fun _ => List.mem_cons_of_mem _
  intro left
  induction left with
  | zero =>
    intro i s l e st R0 _ mem fin
    obtain rfl : i = n := e
    refine codeAny_builtin F.entry_set_update_loop ?_
    rw [Around.under_plainId F.plain_set_update_loop _]
    refine wpAny_bind (m := pyNext (.ref I)) (W.done s _ _ st fun s' mv => wpAny_pure (fin s' l (wide mv) (R0.at fun o q => mv.heap a o out q) fun y => ?_))
    rw [mem y, hn, List.take_length]
  | succ left next =>
    intro i s l e st R0 short mem fin
    refine codeAny_builtin F.entry_set_update_loop ?_
    rw [Around.under_plainId F.plain_set_update_loop _]
    refine wpAny_bind (m := pyNext (.ref I)) (W.item i s _ _ (by omega) st fun v s1 pv st1 mv => ?_)
    obtain ⟨x, tk, hx, rfl⟩ := texts i v pv
    refine wpAny_bind (m := holding [Value.str x tk] (setAdd a (.str x tk))) (wpAny_holding ?_)
    unfold setAdd
    refine wpAny_holding (wpAny_bind ((strKind P w).pyHash (k := x) (PySem.Froz.is_str x tk) ?_))
    refine add_text (s := { s1 with toks := s1.toks + 1 }) (R0.at fun o q => mv.heap a o out q) (by omega) fun _ h2 l2 sb R2 mem2 short2 => wpAny_pure ⟨plainId_quiet F.plain_set_update_loop _, ?_⟩
    refine next (i + 1) _ l2 (by omega) (W.frame _ s1 _ _ st1 (Nat.le_succ _) fun b m o q => (sb.2 b fun z => apart (z ▸ m)).trans q) R2 (Nat.le_trans short2 (Nat.succ_le_succ short)) (fun y => ?_) fun s3 l3 mv3 =>
      fin s3 l3 (Moved.trans W.gtrans ((wide mv).then_heap (Nat.le_succ _) fun b o off q => (sb.2 b fun z => off (z ▸ List.mem_cons_self)).trans q) mv3)
    rw [mem2, mem, List.take_add_one, hx]
    exact ⟨fun z => List.mem_append.mpr (z.elim (fun z => .inr (List.mem_singleton.mpr z)) .inl), fun z => (List.mem_append.mp z).elim .inr fun z => .inl (List.mem_singleton.mp z)⟩
/-- T(..): made by its own __new__, then laid by its own __init__ -/
theorem type_by_init {T newId initId : String} {args : List Value} {Q Q1 : Value → Shared → Prop} (ft : TypeCalled T newId initId) (hct : checkTypeCall T ⟨args, []⟩ = pure ()) (made : codeAny (model P w) A.in1 (.call (.builtin newId) ⟨.type T :: args, []⟩) (wants Q1 E) s)
    (laid : ∀ obj s1, Q1 obj s1 → codeAny (model P w) A.in1 (.call (.builtin initId) ⟨obj :: args, []⟩) (wants (fun r s2 => r = .none ∧ Q obj s2) E) s1) (is : ∀ obj s1, Q1 obj s1 → s1.TypeIs obj T) : wpAny (model P w) A (call (.type T) args) Q E s := by
  have notType := ft.notType
  have creates := ft.canCreate
  have byNew := ft.made
  have self := ft.sub
  obtain ⟨c, tl, order⟩ := ft.mro
  refine wpAny_call (codeAny_of_tree ?_)
  show wpAny _ _ (callAny (.type T) ⟨args, []⟩) _ _ s
  refine wpAny_pure ⟨Code.quiet_builtin _ (by decide +kernel), codeAny_builtin F.entry_type_call ?_⟩
  rw [Around.under_plain (weight_type_call_type T args []) rfl]
  repeat (any_goals (first | assumption | wp_step))
  refine codeAny_mono made ?_
  rintro (e | fl) s1 z
  · exact z
  cases fl with
  | next => exact False.elim z
  | brk => exact False.elim z
  | cont => exact False.elim z
  | ret obj =>
    have typed := is obj s1 z
    have found := ft.init.lookup
    have bound := ft.init.bind obj
    repeat (any_goals (first | assumption | wp_step))
    refine codeAny_mono (laid obj s1 z) ?_
    rintro (e | fl2) s2 y
    · exact y
    cases fl2 with
    | next => exact False.elim y
    | brk => exact False.elim y
    | cont => exact False.elim y
    | ret r =>
      obtain ⟨rfl, q⟩ := y
      repeat (any_goals (first | assumption | wp_step))
set_option maxHeartbeats 8000000 in
/-- set(xs), a list of texts -/
theorem call_set_strs {b : Addr} {items : Array Value} {xs : List Str} {Q : Value → Shared → Prop} (free : A.handled = none) (hl : s.heap.IsList b items) (are : StrsAre items.toList xs) (few : xs.length + 1 < scanBound)
    (q : ∀ (h' : Heap) (tk : Nat) (l : List Str), TxtSet w h' s.heap.objs.size l → (∀ y, y ∈ l ↔ y ∈ xs) → (∀ c o, s.heap.get? c = some o → h'.get? c = some o) → Q (.ref s.heap.objs.size) { s with heap := h', toks := tk }) :
    wpAny (model P w) A (call (.type "set") [.ref b]) Q E s := by
  have new : (s.heap.push (emptySet w)).get? s.heap.objs.size = some (emptySet w) := Heap.get?_push_size _ rfl
  refine type_by_init F.called_set (F.typeCall_set_1 _) (code_set_led1 (.ref b) (Q₁ := fun obj s1 => obj = .ref s.heap.objs.size ∧ s1 = { s with heap := s.heap.push (emptySet w) }) ⟨rfl, rfl⟩) ?_ (by rintro _ _ ⟨rfl, rfl⟩; exact ⟨_, new, rfl⟩)
  rintro _ _ ⟨rfl, rfl⟩
  refine codeAny_call_builtin F.called_set.init.plain F.entry_set_init (check_set_init_1 ⟨_, new, rfl⟩ ?_)
  have old : b < s.heap.objs.size := let ⟨_, e, _⟩ := hl; Heap.lt_size e
  have hl1 : (s.heap.push (emptySet w)).IsList b items := hl.push _
  obtain ⟨⟨c0, d0, da, sl⟩, ho, hc, n, hd⟩ := id hl1
  cases hc
  cases hd
  have sub1 := F.sub_list_set
  have sub2 := F.sub_list_frozenset
  have other : (Value.type "list" == Value.type "dict") = false := by decide
  unfold Builtin.«set.__init__» noKeywords Builtin.Frozenset.updateFrom
  generalize it : pyIter = begins
  wp_walk
  subst it
  have size : (s.heap.push (emptySet w)).objs.size = s.heap.objs.size + 1 := Heap.size_push ..
  refine wpAny_pyIter_list hl1 (wpAny_bind (wpAny_runValue ?_))
  have len : items.size = xs.length := by rw [← StrsAre.len_eq are, Array.length_toList]
  refine fill_loop ((Walks.list (by simp [free]) _ b (by rw [size]; exact Nat.ne_of_lt (Nat.lt_succ_of_lt old)) items).toS) (by rw [size]; simp only [List.mem_cons, List.not_mem_nil, or_false, not_or]; exact ⟨Nat.ne_of_lt (Nat.lt_succ_self _), Nat.ne_of_gt old⟩)
    len few (fun i v e => ?_) items.size 0 _ [] (Nat.zero_add _) ⟨⟨_, Heap.get?_push_size _ rfl, rfl, rfl⟩, hl1.push _⟩ ((TxtSet.start new).at fun o e => Heap.get?_push_of_some _ e) (Nat.le_refl _) (fun y => by simp) fun s' l mv R mem => ?_
  · obtain ⟨y, t, e1, e2⟩ := StrsAre.item are i v (by rw [Array.getElem?_toList]; exact e)
    exact ⟨y, t, e2, e1⟩
  · have keep : ∀ c o, s.heap.get? c = some o → s'.heap.get? c = some o := fun c o e => by
      have lt := Heap.lt_size e
      refine mv.heap c o ?_ (Heap.get?_push_of_some _ (Heap.get?_push_of_some _ e))
      rw [size]
      simp only [List.mem_cons, List.not_mem_nil, or_false, not_or]
      exact ⟨Nat.ne_of_lt lt, Nat.ne_of_lt (Nat.lt_succ_of_lt lt)⟩
    have e := Moved.eq_with mv
    refine wpAny_pure (wpAny_pure ⟨rfl, ?_⟩)
    rw [e]
    exact q s'.heap s'.toks l R mem keep
end

/-! ### sorted -/
theorem perm_of_sub : ∀ {l m : List Str}, l.Nodup → (∀ x ∈ l, x ∈ m) → m.length ≤ l.length → l.Perm m
  | [], m, _, _, e => by
    obtain rfl : m = [] := List.eq_nil_of_length_eq_zero (Nat.le_zero.mp e)
    exact .nil
  | x :: l, m, nd, sub, e => by
    obtain ⟨n1, n2⟩ := List.nodup_cons.mp nd
    obtain ⟨m1, m2, rfl⟩ := List.append_of_mem (sub x List.mem_cons_self)
    have p : l.Perm (m1 ++ m2) := perm_of_sub n2 (fun y hy => by
      rcases List.mem_append.mp (sub y (List.mem_cons_of_mem _ hy)) with z | z
      · exact List.mem_append_left _ z
      · rcases List.mem_cons.mp z with z | z
        · exact absurd (z ▸ hy) n1
        · exact List.mem_append_right _ z) (by
      simp only [List.length_append, List.length_cons] at e ⊢
      omega)
    exact (p.cons x).trans List.perm_middle.symm
section
variable {P : Program} {w : World} {A : Around} {E : Value → Shared → Prop} {s : Shared} {a : Addr} {l : List Str}
/-- the things of the payload are the members' texts -/
theorem texts_of {D : PySem.Froz.SD} (F : PySem.Froz.TxOk P w D l) (nd : l.Nodup) {vs : List Value} (p : vs.Perm (D.1.toList.map (·.2))) : StrsAre vs (vs.map strOf) ∧ l.Perm (vs.map strOf) := by
  have str : ∀ e ∈ D.1.toList, ∃ x t, e.2 = Value.str x t := fun e he => by
    obtain ⟨⟨k, hk, _⟩, _⟩ := F.el e he
    cases q : e.2 with
    | str x t => exact ⟨x, t, rfl⟩
    | _ =>
      rw [q] at hk
      cases hk
  refine ⟨strsAre_map vs fun v hv => ?_, perm_of_sub nd (fun x hx => ?_) ?_⟩
  · obtain ⟨e, he, rfl⟩ := List.mem_map.mp (p.mem_iff.mp hv)
    exact str e he
  · obtain ⟨e, he, q⟩ := (F.mem x).mp hx
    obtain ⟨y, t, z⟩ := str e he
    refine List.mem_map.mpr ⟨e.2, p.mem_iff.mpr (List.mem_map.mpr ⟨e, he, rfl⟩), ?_⟩
    rw [z] at q ⊢
    exact (strKind P w).inj (.str y t) y x (PySem.Froz.is_str y t) q
  · rw [List.length_map, p.length_eq, List.length_map, Array.length_toList, F.sz]
    exact Nat.le_refl _
/-- sorted(a set of texts) -/
theorem sorted_txt {Q : Value → Shared → Prop} (R : TxtSet w s.heap a l) (free : A.handled = none) (h64 : l.length < 64)
    (q : ∀ s' p (out : Array Value) (c : Nat) (ns : List Str), (∀ b o, s.heap.get? b = some o → s'.heap.get? b = some o) → s'.gens = s.gens → s'.os = s.os → s.heap.objs.size ≤ p →
      s'.heap.get? p = some (seqObj "list" out c) → StrsAre out.toList ns → sortedS ns = true → ns.Perm l → Q (.ref p) s') : wpAny (model P w) A (call (.builtin "sorted") [.ref a]) Q E s := by
  obtain ⟨D, e, F, k, nd, few⟩ := R
  refine Calls.call_function_entry kind_sorted plain_sorted entry_sorted (args_sorted1 _) (wpAny_bind (m := checkCount "sorted" 1 1 _) (wpAny_pure ?_))
  refine wpAny_bind (collect_set (A := A.in1) free ⟨_, e, rfl, rfl⟩ (F P).fit ((F P).sz ▸ few) k.1 k.2 fun s1 vs keep grown g1 o1 pm => ?_)
  obtain ⟨are, same⟩ := texts_of (F P) nd pm
  have n : vs.length = l.length := by rw [same.length_eq, List.length_map]
  have at_ : (s1.heap.push (seqObj "list" vs.toArray 0)).get? s1.heap.objs.size = some (seqObj "list" vs.toArray 0) := Heap.get?_push_size _ rfl
  refine wpAny_bind (wpAny_newList (wpAny_bind (wpAny_holding (wpAny_call_entry slot_list_sort ⟨_, at_, rfl⟩ entry_list_sort
    (list_sort_treeK strKind_oneLt at_ are.keysOf (fun v₁ v₂ rest z => keyKind_strs (by rw [← z]; exact are)) (by rw [n]; exact h64) fun st p1 p2 => ⟨_, rfl, ?_⟩) (args_list_sort _)))) (by rw [n, sizeLine_eq]; omega))
  obtain ⟨ns, a1, a2, a3⟩ := sorted_out_str are p1 p2
  obtain ⟨c, hc⟩ := sortedHeap_at (vs := vs) (out := (arrOf st).map (·.2)) at_
  refine wpAny_pure ⟨_, rfl, q _ s1.heap.objs.size _ c ns (fun b o z => ?_) g1 o1 grown hc a1 a3 (a2.trans same.symm)⟩
  have z1 := keep b o z
  have lt := Heap.lt_size z1
  exact (sortedHeap_old (Nat.ne_of_lt lt) (by rw [size_push']; exact Nat.lt_succ_of_lt lt)).trans (Heap.get?_push_of_some _ z1)
end

/-! ### the readings -/
/-- the set of texts at a: S its members, n their number -/
def SetX (w : World) (h : Heap) (a : Addr) (S : Str → Bool) (n : Nat) : Prop := ∃ l, TxtSet w h a l ∧ (∀ k, k ∈ l ↔ S k = true) ∧ l.length = n
def SetXO (w : World) (a : Addr) (S : Str → Bool) (n : Nat) : HO := .ext fun h => SetX w h a S n
section
variable {X : Cx} {pins : List (Addr × Obj)} {σ : L2.St} {H : Hp} {s : Shared} {a : Addr} {S : Str → Bool} {n : Nat}
theorem setXO_new {w : World} {P : Program} {h : Heap} (R : SetX w h a S n) : ObjOk P w H h a (SetXO w a S n) :=
  ⟨R, let ⟨_, ⟨_, e, _⟩, _⟩ := R; ⟨_, e⟩, fun _ _ p k => p.imp fun _ r => ⟨r.1.at k, r.2⟩⟩
theorem setXO_get (I : Inv X pins σ H s) (ha : H a = some (SetXO X.w a S n)) : SetX X.w s.heap a S n := (show ObjOk X.prog X.w H s.heap a (.ext _) from I.hok a _ ha).1
/-- set(xs), a list of texts -/
def rSetStrs (X : Cx) : List V → Hp → VK → Prop := fun vs H Q => ∃ (l : Addr) (xs : List Str), vs = [V.ref l] ∧ SqL X.K H l (xs.map V.str) ∧ xs.length + 1 < scanBound ∧
  ∀ (p : Addr) (ks : List Str), H p = none → ks.Nodup → (∀ k, k ∈ ks ↔ k ∈ xs) → Q (.ref p) (upd H p (SetXO X.w p (fun y => decide (y ∈ xs)) ks.length))
theorem cr_setStrs (hc : X.calm = true) : CallR X (.type "set") (rSetStrs X) := by
  rintro pins s σ H _ us Q I r ⟨b, xs, rfl, hq, few, q⟩
  rw [Vals.ref1 r]
  obtain ⟨its, rv, pl, _⟩ := I.list hq
  refine call_set_strs (I.ok.hd hc) pl.isList (by simpa using strsAre_of rv) few fun h' tk ks R mem keep => ?_
  have nd : ks.Nodup := let ⟨_, _, _, _, z, _⟩ := R; z
  exact ⟨.ref _, _, I.laid (t' := tk) keep (Nat.le_refl _) (setXO_new ⟨ks, R, fun k => (mem k).trans (by simp), rfl⟩), rfl, q _ ks (I.hok.fresh (Nat.le_refl _)) nd mem⟩
/-- len(a set of texts) -/
def rLenSet (w : World) : List V → Hp → VK → Prop := fun vs H Q => ∃ (a : Addr) (S : Str → Bool) (n : Nat), vs = [V.ref a] ∧ H a = some (SetXO w a S n) ∧ Q (.int n) H
theorem cr_lenSet : CallR X (.builtin "len") (rLenSet X.w) := by
  rintro pins s σ H _ us Q I r ⟨a, S, n, rfl, ha, q⟩
  rw [Vals.ref1 r]
  obtain ⟨l, ⟨D, e, F, k, nd, few⟩, _, rfl⟩ := setXO_get I ha
  have z := (F X.prog).sz
  exact call_len_set e ⟨rfl, rfl, rfl⟩ rfl (F X.prog).fit (by unfold scanBound at few; omega) ⟨.int l.length, H, I.tok _, ⟨_, by rw [z]⟩, q⟩
/-- sorted(a set of texts), fewer than 64 members -/
def rSortedSetX (w : World) : List V → Hp → VK → Prop := fun vs H Q => ∃ (a : Addr) (S : Str → Bool) (n : Nat), vs = [V.ref a] ∧ H a = some (SetXO w a S n) ∧ n < 64 ∧
  ∀ (ns : List Str) (p : Addr), sortedS ns = true → ns.Nodup → (∀ k : Str, k ∈ ns ↔ S k = true) → H p = none → Q (.ref p) (upd H p (.lst (ns.map V.str)))
theorem cr_sortedSetX (hc : X.calm = true) : CallR X (.builtin "sorted") (rSortedSetX X.w) := by
  rintro pins s σ H _ us Q I r ⟨a, S, n, rfl, ha, h64, q⟩
  obtain ⟨l, R, mem, rfl⟩ := setXO_get I ha
  have nd : l.Nodup := let ⟨_, _, _, _, z, _⟩ := R; z
  rw [Vals.ref1 r]
  refine sorted_txt R (I.ok.hd hc) h64 fun s' p out c ns keep g o grown hp are sorted same => ?_
  have new : H p = none := I.hok.fresh grown
  have J := I.call (h' := s'.heap) (g' := s'.gens) (t' := s'.toks) (d' := s'.drawn) (ch := []) (Un.laid keep grown new)
    (I.hok.laid keep grown (o := .lst (ns.map V.str)) ⟨by rw [List.length_map, same.length_eq, sizeLine_eq]; omega, out.toList, c, vals_of_strs are, hp⟩) (by rw [g]; exact I.bare) (fun _ z => nomatch z)
  obtain ⟨h1, g1, d1, t1, o1⟩ := s'
  cases (show o1 = s.os from o)
  exact ⟨.ref p, _, J, rfl, q ns p sorted (same.nodup_iff.mpr nd) (fun k => (same.mem_iff).trans (mem k)) new⟩
end
end EV
end

section
set_option Elab.async false
set_option linter.all false
set_option maxRecDepth 100000
set_option maxHeartbeats 4000000
/-! dict(d), min of two tuples, comparison with an empty one, repr -/
namespace EV
open PySem PySem.Spec PyProof.Rows L2
section
variable {X : Cx}
/-- dict(d) -/
def rDict1 : List V → Hp → VK → Prop := fun vs H Q => ∃ (a : Addr) (kvs : List (Key × V)), vs = [V.ref a] ∧ Rd H a (.dK kvs) ∧ ∀ p, H p = none → Q (.ref p) (upd H p (.dK kvs))
theorem cr_dict1 : CallR X (.type "dict") rDict1 := by
  intro pins s σ H vs us Q I r h
  obtain ⟨a, kvs, rfl, e, q⟩ := h
  rw [Vals.ref1 r]
  exact d_copyOf I e fun p s' hp J => ⟨.ref p, _, J, rfl, q p hp⟩
/-- t == () and l == [] -/
def rEqE (K : PySem.W.Frag) : R2 := fun x y H Q => ∃ a b xs, x = .ref a ∧ y = .ref b ∧ ((SqT K H a xs ∧ SqT K H b []) ∨ (SqL K H a xs ∧ SqL K H b [])) ∧ Q (.bl xs.isEmpty) H
theorem op_eqE (hu : X.A.units < cLine) : OpR X (compareOp .Eq) (rEqE X.K) := by
  intro pins s σ H x y v u Q I rx ry h
  obtain ⟨a, b, xs, rfl, rfl, h, q⟩ := h
  cases rx
  cases ry
  rcases h with ⟨ha, hb⟩ | ⟨ha, hb⟩
  · obtain ⟨its, r1, p1, _⟩ := I.tuple ha
    obtain ⟨its2, r2, p2, _⟩ := I.tuple hb
    cases r2
    refine SeqAt.eq_tupleAt (e := fun _ => false) p1 p2 hu (fun j h1 h2 => absurd h2 (Nat.not_lt_zero _)) ⟨.bl _, H, I, ?_, q⟩
    cases r1 with
    | nil => rfl
    | cons h t => rfl
  · obtain ⟨its, r1, p1, _⟩ := I.list ha
    obtain ⟨its2, r2, p2, _⟩ := I.list hb
    cases r2
    cases r1 with
    | nil => exact SeqAt.eq_listAt (e := fun _ => false) p1.isList p2.isList rfl hu (fun j h1 h2 => absurd h2 (Nat.not_lt_zero _)) ⟨.bl _, H, I, rfl, q⟩
    | cons h t => exact SeqAt.eq_list_lengthsAt p1.isList p2.isList rfl hu ⟨.bl _, H, I, rfl, q⟩
/-- repr(data) -/
def rRepr (K : PySem.W.Frag) : List V → Hp → VK → Prop := fun vs H Q => ∃ (a : Addr) (d : PyData), vs = [V.ref a] ∧ Dp K H (.ref a) d ∧ d.showable = true ∧ d.hasDict = false ∧ d.depth ≤ 60 ∧ d.shown.length ≤ sizeLine ∧ Q (.str d.shown) H
theorem cr_repr (hg : X.A.guards = some []) (hu : X.A.units + 64 < cLine) : CallR X (.builtin "repr") (rRepr X.K) := by
  intro pins s σ H vs us Q I r h
  obtain ⟨a, d, rfl, hd, hs, hn, hdep, hz, q⟩ := h
  rw [Vals.ref1 r]
  obtain ⟨as, rd⟩ := Dp.reads I d (.ref a) (.ref a) hd rfl
  exact repr_of_reads' rd hs (fun z => by rw [hn] at z; cases z) hg (by omega) (fun _ _ e => e) (fun h' u tk hk => ⟨.str d.shown, H, I.kept (t' := tk) hk, ⟨_, rfl⟩, q⟩) hz
end
section
variable {prog : Program} {w : World} {A : Around} {E : Value → Shared → Prop} {s : Shared}
/-- min(u, v) of two values that the heap compares: bt 1 0 tells whether v is less -/
theorem min_two_in {u v : Value} {bt : Nat → Nat → Bool} {Q : Value → Shared → Prop} (free : A.handled = none) (less : CmpIn prog w A.in1 .Lt s.heap (fun i x => (#[u, v] : Array Value)[i]? = some x) bt)
    (q : ∀ h' tk, (∀ c o, s.heap.get? c = some o → h'.get? c = some o) → Q (if bt 1 0 = true then v else u) { s with heap := h', toks := tk }) : wpAny (model prog w) A (call (.builtin "min") [u, v]) Q E s := by
  have pair : (s.heap.push { cls := .type "tuple", data := .seq #[u, v] }).IsTuple s.heap.objs.size #[u, v] := ⟨_, Heap.get?_push_size _ rfl, rfl, 0, rfl⟩
  refine call_function_tree F.kind_min F.plain_min F.entry_min (F.args_min2 _ _) (wpAny_bind (m := Builtin.Builtins.bindParams "min" ["key", "default"] 0 ⟨[], []⟩) (wpAny_of_eq (a := [none, none]) rfl ?_))
  refine wpAny_bind (m := newTuple [u, v]) (wpAny_newObj_type (wpAny_bind (wpAny_pyIter_tuple pair (wpAny_bind (wpAny_newObj_type ?_)))))
  rw [show (toString "min" ++ toString ".loop" : String) = "min.loop" by decide]
  refine wpAny_pure ⟨plainId_quiet F.plain_min_loop _, ?_⟩
  -- three new things: the pair at z, its iterator at z + 1, the list at z + 2
  generalize hz : s.heap.objs.size = z at pair ⊢
  generalize h1 : s.heap.push { cls := .type "tuple", data := .seq #[u, v] } = g1 at pair ⊢
  have z1 : g1.objs.size = z + 1 := by rw [← h1, Heap.size_push, hz]
  generalize h2 : g1.push { cls := .type "tuple_iterator", data := .fields #[.ref z, .int 0 0] } = g2
  have z2 : g2.objs.size = z + 2 := by rw [← h2, Heap.size_push, z1]
  have old : ∀ {b : Addr} {o : Obj}, s.heap.get? b = some o → b < z ∧ g2.get? b = some o := fun {b o} e => ⟨hz ▸ Heap.lt_size e, by rw [← h2, ← h1]; exact Heap.get?_push_of_some _ (Heap.get?_push_of_some _ e)⟩
  have fresh : ∀ {b : Addr} {o : Obj}, s.heap.get? b = some o → b ≠ g1.objs.size ∧ b ≠ g2.objs.size := fun {b o} e => by
    have lt : b < z := (old e).1
    exact ⟨fun y => by rw [y, z1] at lt; exact absurd lt (Nat.not_lt_of_le (Nat.le_add_right z 1)), fun y => by rw [y, z2] at lt; exact absurd lt (Nat.not_lt_of_le (Nat.le_add_right z 2))⟩
  have walk := (Walks.tuple (prog := prog) (w := w) (A := A.in1) free g1.objs.size z (by rw [z1]; exact Nat.ne_of_lt (Nat.lt_succ_self z)) #[u, v]).toS
  refine codeAny_min_loop_firstH walk s.heap (fun b o e m => (fresh e).1 (List.mem_singleton.mp m)) bt less g2.objs.size ?_ ?_ [] (by show 0 < 2; decide) (fun b o e => Heap.get?_push_of_some _ (old e).2) ⟨?_, ?_⟩ (Heap.get?_push_size _ rfl) fun x s' px mv => ?_
  · rw [z1, z2]
    simp only [List.mem_cons, List.not_mem_nil, or_false, not_or]
    exact ⟨Nat.ne_of_gt (Nat.lt_succ_self (z + 1)), Nat.ne_of_gt (Nat.lt_add_of_pos_right (by decide))⟩
  · cases e : s.heap.get? g2.objs.size with
    | none => rfl
    | some o => exact absurd rfl (fresh e).2
  · exact ⟨_, Heap.get?_push_of_some _ (by rw [← h2]; exact Heap.get?_push_size _ rfl), rfl, rfl⟩
  · rw [← h2]
    exact (pair.push _).push _
  · have best : x = if bt 1 0 = true then v else u := by
      have e : (#[u, v] : Array Value)[if bt 1 0 = true then 1 else 0]? = some x := px
      revert e
      cases bt 1 0 <;> exact fun e => (Option.some.inj e).symm
    rw [best, Moved.eq_with mv]
    refine q s'.heap s'.toks fun c o e => mv.heap c o ?_ (Heap.get?_push_of_some _ (old e).2)
    simp only [List.mem_cons, List.not_mem_nil, or_false, not_or]
    exact ⟨(fresh e).2, (fresh e).1⟩
end
section
variable {X : Cx}
/-- min(t, u), tuples of ints -/
def rMin2T (K : PySem.W.Frag) : List V → Hp → VK → Prop := fun vs H Q => ∃ (a b : Addr) (ns ms : List Int), vs = [V.ref a, V.ref b] ∧ SqT K H a (ns.map V.int) ∧ SqT K H b (ms.map V.int) ∧ Q (.ref (if HT.lexLt ms ns = true then b else a)) H
theorem cr_min2T (hc : X.calm = true) (hu : X.A.units + 8 < cLine) : CallR X (.builtin "min") (rMin2T X.K) := by
  rintro pins s σ H _ us Q I r ⟨a, b, ns, ms, rfl, ha, hb, q⟩
  obtain ⟨x, y, rfl, rx, ry⟩ := vals2 r
  cases (show x = Value.ref a from rx)
  cases (show y = Value.ref b from ry)
  -- what stands at each place of the pair
  have at_ : ∀ (i : Nat) (x : Value), (#[.ref a, .ref b] : Array Value)[i]? = some x → ∃ (c : Addr) (its : Array Value), x = .ref c ∧ s.heap.IsTuple c its ∧ IntsAre its.toList (if i = 0 then ns else ms) := fun i x e => by
    obtain ⟨its, rv1, p1, _⟩ := I.tuple ha
    obtain ⟨its2, rv2, p2, _⟩ := I.tuple hb
    match i, e with
    | 0, e =>
      cases e
      exact ⟨a, its.toArray, rfl, p1, intsAre_of rv1⟩
    | 1, e =>
      cases e
      exact ⟨b, its2.toArray, rfl, p2, intsAre_of rv2⟩
    | i + 2, e => cases e
  refine min_two_in (bt := fun i j => HT.lexLt (if i = 0 then ns else ms) (if j = 0 then ns else ms)) (I.ok.hd hc) (fun i j vi vj s' Q' E' k ei ej q' => ?_) fun h' tk k => ?_
  · obtain ⟨c, its, rfl, p1, i1⟩ := at_ i vi ei
    obtain ⟨d, its2, rfl, p2, i2⟩ := at_ j vj ej
    exact HT.lt_tupInts (p1.imp fun o z => ⟨k _ _ z.1, z.2⟩) (p2.imp fun o z => ⟨k _ _ z.1, z.2⟩) i1 i2 (by show X.A.units + 1 < cLine; omega) q'
  · refine ⟨.ref (if HT.lexLt ms ns = true then b else a), H, I.kept (t' := tk) k, ?_, q⟩
    show RelV _ (if HT.lexLt ms ns = true then Value.ref b else Value.ref a)
    split <;> rfl
end
end EV
end

section
set_option Elab.async false
set_option linter.all false
set_option maxRecDepth 100000
set_option maxHeartbeats 4000000
/-! o.m(e, ..), what it lets out is told at the slots -/
namespace EV
open PySem PySem.Spec PyProof.Rows L2
def tMethS (C : Addr) (m : Str) (sp : Sp) (E : L2.St → XK) (ta : TE) (t : TA) : TE := fun σ H Q => ta σ H fun x H1 => ∃ a dx fs, x = .ref a ∧ H1 a = some (.ins C dx fs) ∧ fs.lookup m = none ∧
  t σ H1 fun vs H2 => sp (x :: vs) H2 Q (E σ)
/-- a call of an attribute is read as a method's call -/
abbrev MethOf (env : Env) (o : Expr) (m : Str) (apos pos : Pos) (args : List Expr) (pl : Sem Bool) : Prop :=
  eval (.Call (.Attribute o m apos) args [] pos) env = (eval o env >>= fun ov => standAt apos.atName >>= fun _ => holding [ov] (getMethod ov m pl) >>= fun fx => callWith pos fx.1 fx.2 (backTo pos (starEach args env)) (backToKw pos (keywordEach [] env)))
section
variable {X : Cx} {CX : CXT} {k : Nat} {f C : Addr} {fd : FuncData} {ps : List Str} {sp : Sp} {E : L2.St → XK} {m : Str} {pos apos : Pos} {e o : Expr} {es : List Expr} {ta : TE} {t : TA} {pl : Sem Bool}
theorem pe_methT (he : PE X o ta) (c : Cls X.K C) (hm : Meth X.K C m f) (F : FnOk X.prog X.w X.K X.mg X.base CX k f fd ps sp) (hr : Room k X.A) (hb : Binds X.K fd ps []) (hx : ∀ σ, PassesAt CX X σ (E σ)) (ha : PA X (e :: es) t)
    (hst : starEach (e :: es) X.env = (false, eval e X.env) :: starEach es X.env := by rfl) (hpl : (backTo pos (starEach es X.env)).any (·.1) = false := by rfl) (ht : MethOf X.env o m apos pos (e :: es) pl := by rfl) :
    PE X (.Call (.Attribute o m apos) (e :: es) [] pos) (tMethS C m sp E ta t) := by
  refine ⟨fun pins s σ H Q I h => PySem.W.methodCall_KW (pl := pl) (thn (he.run pins s σ H _ I h) ?_) ht⟩
  rintro u s1 ⟨_, H1, I1, ru, a, dx, fs, rfl, ea, l, q⟩
  cases (show u = Value.ref a from ru)
  refine getmeth_ok I1 ea c hm l (PySem.W.callWith_K (first := [.ref a]) (h₀ := X.base) I.ok.mod.kin hm.kp (thn (ha.run pos pins s1 σ H1 _ I1 q) ?_) hst hpl)
  rintro us s2 ⟨vs, H2, I2, r, q2⟩
  exact ⟨I2.kIn, run_fnS (us := .ref a :: us) (vs := .ref a :: vs) F hr hb (hx σ) I2 (.cons rfl r) q2⟩
end
end EV
end

section
set_option Elab.async false
set_option linter.all false
set_option maxRecDepth 100000
set_option maxHeartbeats 4000000
/-! the mirror: texts, rows, runs -/
namespace EV
open PySem
inductive Kd | dash | plus | ask | eq
  deriving DecidableEq
inductive Sg | no | op (h : Bool) (k : Kd)
  deriving DecidableEq
def Kd.str : Kd → Str | .dash => "-" | .plus => "+" | .ask => "?" | .eq => "="
def Sg.str : Sg → Str
  | .no => ""
  | .op false .dash => "-" | .op true .dash => ":-" | .op false .plus => "+" | .op true .plus => ":+"
  | .op false .ask => "?" | .op true .ask => ":?" | .op false .eq => "=" | .op true .eq => ":="
inductive Txt | nil | lit (s : Str) (r : Txt) | part (n : Str) (g : Sg) (t r : Txt)
inductive Row | set (n : Str) (t : Txt) | give (n : Str) (t : Txt) | drop (n : Str) | check (t : Txt)
abbrev File := List Row
abbrev Spot := List Int
abbrev Mp := Str → Option Str
abbrev e0 : Str := Str.empty
def Mp.put (m : Mp) (n s : Str) : Mp := fun x => if x = n then some s else m x
def Mp.del (m : Mp) (n : Str) : Mp := fun x => if x = n then none else m x
def Txt.len : Txt → Nat
  | .nil => 0 | .lit _ r => r.len + 1 | .part _ _ _ r => r.len + 1
def Txt.names : Txt → List Str
  | .nil => [] | .lit _ r => r.names | .part n _ t r => n :: (t.names ++ r.names)
def Txt.spots : Txt → Spot → Nat → List Spot
  | .nil, _, _ => []
  | .lit _ r, s, i => r.spots s (i + 1)
  | .part _ .no _ r, s, i => r.spots s (i + 1)
  | .part _ (.op _ _) t r, s, i => (s ++ [(i : Int)]) :: (t.spots (s ++ [(i : Int)]) 0 ++ r.spots s (i + 1))
def Row.text : Row → Txt | .set _ t => t | .give _ t => t | .drop _ => .nil | .check t => t
def Row.head : Row → List Str | .set n _ => [n] | .give n _ => [n] | .drop n => [n] | .check _ => []
def spotsFrom : Nat → File → List Spot
  | _, [] => []
  | i, r :: F => r.text.spots [(i : Int)] 0 ++ spotsFrom (i + 1) F
def allSpots (F : File) : List Spot := spotsFrom 0 F
def rawNames (F : File) : List Str := F.flatMap Row.head ++ F.flatMap fun r => r.text.names
/-- a part lacks: its name is unset, or empty where the sign is hard -/
def lacks (m : Mp) (n : Str) (h : Bool) : Bool := match m n with | none => true | some s => h && decide (s = e0)
/-- a part's way: its own worth, nothing, or its text -/
inductive Way | own | nothing | deep
  deriving DecidableEq
def way (m : Mp) (n : Str) : Sg → Way
  | .no => .own
  | .op h k => if k = .plus then (if lacks m n h = true then .nothing else .deep) else (if lacks m n h = true then .deep else .own)
def worth (m : Mp) (n : Str) : Str := (m n).getD e0
def Sg.isK (k : Kd) : Sg → Bool | .no => false | .op _ k' => decide (k' = k)
inductive Res | long | stop (m : Mp) (tr : List Spot) | ok (m : Mp) (tr : List Spot) (w : Str)
def Mp.putIf (m : Mp) (c : Bool) (n s : Str) : Mp := if c = true then m.put n s else m
def run : Txt → Mp → List Spot → Spot → Nat → Str → Res
  | .nil, m, tr, _, _, acc => if 400 < acc.length then .long else .ok m tr acc
  | .lit s r, m, tr, sp, i, acc => run r m tr sp (i + 1) (acc ++ s)
  | .part n g t r, m, tr, sp, i, acc => match way m n g with
    | .own => run r m tr sp (i + 1) (acc ++ worth m n)
    | .nothing => run r m tr sp (i + 1) acc
    | .deep => match run t m (tr ++ [sp ++ [(i : Int)]]) (sp ++ [(i : Int)]) 0 e0 with
      | .long => .long
      | .stop m tr => .stop m tr
      | .ok m tr w => if g.isK .ask = true then .stop m tr else run r (m.putIf (g.isK .eq) n w) tr sp (i + 1) (acc ++ w)
/-- a row's text is worked out -/
def Row.works (m : Mp) : Row → Bool | .drop _ => false | .give n _ => (m n).isNone | _ => true
def Row.store (m : Mp) (w : Str) : Row → Mp | .set n _ => m.put n w | .give n _ => m.put n w | _ => m
def Row.pass (m : Mp) : Row → Mp | .drop n => m.del n | _ => m
/-- the spots met; none: too long -/
def runRows : List Row → Mp → List Spot → Nat → Option (List Spot)
  | [], _, tr, _ => some tr
  | r :: F, m, tr, i => if r.works m = true then (match run r.text m tr [(i : Int)] 0 e0 with
      | .long => none
      | .stop _ tr => some tr
      | .ok m tr w => runRows F (r.store m w) tr (i + 1))
    else runRows F (r.pass m) tr (i + 1)
def met (F : File) (m : Mp) : Option (List Spot) := runRows F m [] 0
/-! the law's run with its lengths -/
structure LR where
  over : Bool
  m : Mp
  se : List Nat
  w : Str
def cut (s : Str) : Str := ⟨s.cps.extract 0 100000⟩
def lw : Txt → Mp → List Nat → Str → LR
  | .nil, m, se, acc => ⟨false, m, se ++ [acc.length], cut acc⟩
  | .lit s r, m, se, acc => lw r m se (acc ++ s)
  | .part n g t r, m, se, acc => match way m n g with
    | .own => lw r m se (acc ++ worth m n)
    | .nothing => lw r m se acc
    | .deep =>
      let a := lw t m se e0
      if (a.over || g.isK .ask) = true then ⟨true, a.m, a.se, a.w⟩ else lw r (a.m.putIf (g.isK .eq) n a.w) a.se (acc ++ a.w)
def lwRows : List Row → Mp → List Nat → List Nat
  | [], _, se => se
  | r :: F, m, se => if r.works m = true then
      let a := lw r.text m se e0
      if a.over = true then a.se else lwRows F (r.store a.m a.w) a.se
    else lwRows F (r.pass m) se
/-! cases -/
abbrev Case := List (Str × Option Str)
def states : List (Option Str) := [none, some e0, some "a"]
def caseStep (found : List Case) (n : Str) : List Case := found.flatMap fun c => states.map fun s => c ++ [(n, s)]
def cases (ns : List Str) : List Case := ns.foldl caseStep [[]]
def mpOf (c : Case) : Mp := fun n => (c.find? fun p => decide (p.1 = n)).bind (·.2)
def envOf : Case → List (Str × Str)
  | [] => []
  | (n, some s) :: r => (n, s) :: envOf r
  | (_, none) :: r => envOf r
def lens (e : List (Str × Str)) : Nat := (e.map fun p => p.2.length).sum
abbrev Sz := Nat × Nat
def envSize (e : List (Str × Str)) : Sz := (e.length, lens e)
def szLt (a b : Sz) : Bool := decide (a.1 < b.1 ∨ (a.1 = b.1 ∧ a.2 < b.2))
/-- insertion, no twice -/
def sLt (a b : Str) : Bool := decide (a.cps.toList < b.cps.toList)
def insName (x : Str) : List Str → List Str
  | [] => [x]
  | y :: r => if sLt x y = true then x :: y :: r else if x = y then y :: r else y :: insName x r
def sortNames (l : List Str) : List Str := l.foldr insName []
def namesIn (F : File) : List Str := sortNames (rawNames F)
/-- a file's cases with their spots; none: some case is too long -/
def byCase (F : File) (cs : List Case) : Option (List (Case × List Spot)) := cs.mapM fun c => (met F (mpOf c)).map fun s => (c, s)
def table (F : File) : Option (List (Case × List Spot)) := byCase F (cases (namesIn F))
def isMet (T : List (Case × List Spot)) (s : Spot) : Bool := T.any fun p => p.2.contains s
def deadM (F : File) : Option (List Spot) := (table F).map fun T => (allSpots F).filter fun s => !isMet T s
/-- the first of the least -/
def bestStep (b : Option (List (Str × Str))) (e : List (Str × Str)) : Option (List (Str × Str)) := match b with
  | none => some e
  | some x => if szLt (envSize e) (envSize x) = true then some e else some x
def best (l : List (List (Str × Str))) : Option (List (Str × Str)) := l.foldl bestStep none
def takerM (F : File) (s : Spot) : Option (Option (List (Str × Str))) := (table F).map fun T => best ((T.filter fun p => p.2.contains s).map fun p => envOf p.1)
/-! what a good file is -/
def capital (c : Nat) : Bool := decide (65 ≤ c ∧ c ≤ 90) || decide (c = 95)
def nameOk (n : Str) : Bool := decide (1 ≤ n.cps.toList.length ∧ n.cps.toList.length ≤ 8) && n.cps.toList.all capital && decide (n.cps.toList.head? ≠ some 95)
def plainCps : List Nat := "abcdefghijklmnopqrstuvwxyz0123456789 _./:=,@-".toList.map Char.toNat
def plainOk (s : Str) : Bool := decide (1 ≤ s.cps.toList.length ∧ s.cps.toList.length ≤ 20) && s.cps.toList.all fun c => plainCps.contains c
def Txt.isLit : Txt → Bool | .lit _ _ => true | _ => false
def Txt.isNil : Txt → Bool | .nil => true | _ => false
/-- the pieces of a text at levels lv -/
def Txt.good : Txt → Nat → Bool
  | .nil, _ => true
  | .lit s r, lv => plainOk s && !r.isLit && r.good lv
  | .part n .no t r, lv => nameOk n && t.isNil && r.good lv
  | .part n (.op _ _) t r, lv => nameOk n && (match lv with | 0 => false | lv + 1 => decide (t.len ≤ 8) && (decide (0 < lv) && t.good lv)) && r.good lv
def Txt.wf (t : Txt) (lv : Nat) : Bool := decide (t.len ≤ 8) && t.good lv
end EV
end

section
set_option Elab.async false
namespace EV
open PySem
abbrev pr (a b : Str) : Str × Str := (a, b)
/-! the written files -/
def inner : Txt := .part "B" (.op false .plus) (.lit "x" .nil) .nil
def fileA : File := [.set "A" (.lit "a" (.part "B" (.op false .dash) inner .nil)), .check (.part "A" (.op true .dash) (.part "C" .no .nil inner) (.part "A" (.op false .plus) .nil .nil))]
def fileB : File := [.give "A" (.part "B" (.op true .plus) (.part "C" (.op false .ask) (.lit "m" .nil) (.part "C" (.op true .ask) (.lit "n" .nil) .nil)) .nil), .drop "A"]
def fileC : File := [.check (.part "B" (.op true .plus) (.part "A" (.op false .eq) .nil .nil) .nil), .check (.part "A" (.op false .plus) (.part "A" (.op true .dash) (.lit "x" .nil) .nil) .nil)]
def fileD : File := [.check (.part "B" (.op false .plus) (.lit "a" (.part "C" (.op false .plus) (.part "D" (.op true .plus) (.lit "x" .nil) .nil) .nil)) .nil)]
theorem deadA : deadM fileA = some [[0, 1, 0], [1, 0], [1, 0, 1]] := by decide +kernel
theorem takerA1 : takerM fileA [0, 1] = some (some []) := by decide +kernel
theorem takerA2 : takerM fileA [1, 0] = some none := by decide +kernel
theorem takerB1 : takerM fileB [0, 0] = some (some [pr "B" "a"]) := by decide +kernel
theorem takerB2 : takerM fileB [0, 0, 0] = some (some [pr "B" "a"]) := by decide +kernel
theorem takerB3 : takerM fileB [0, 0, 1] = some (some [pr "B" "a", pr "C" ""]) := by decide +kernel
theorem deadB : deadM fileB = some [] := by decide +kernel
theorem dead0 : deadM [] = some [] := by decide +kernel
theorem takerC1 : takerM fileC [1, 0, 0] = some (some [pr "A" ""]) := by decide +kernel
theorem takerC2 : takerM fileC [0, 0, 0] = some (some [pr "B" "a"]) := by decide +kernel
theorem takerD1 : takerM fileD [0, 0] = some (some [pr "B" ""]) := by decide +kernel
theorem takerD2 : takerM fileD [0, 0, 1] = some (some [pr "B" "", pr "C" ""]) := by decide +kernel
theorem takerD3 : takerM fileD [0, 0, 1, 0] = some (some [pr "B" "", pr "C" "", pr "D" "a"]) := by decide +kernel
theorem deadD : deadM fileD = some [] := by decide +kernel
theorem goodA : fileA.all (fun r => r.text.wf 4 && r.head.all nameOk) = true := by decide +kernel
theorem goodB : fileB.all (fun r => r.text.wf 4 && r.head.all nameOk) = true := by decide +kernel
theorem goodC : fileC.all (fun r => r.text.wf 4 && r.head.all nameOk) = true := by decide +kernel
theorem goodD : fileD.all (fun r => r.text.wf 4 && r.head.all nameOk) = true := by decide +kernel
end EV
end

section
set_option Elab.async false
set_option linter.all false
set_option maxRecDepth 100000
set_option maxHeartbeats 4000000
/-! the law's run against the program's; runs see the file's names alone -/
namespace EV
open PySem
theorem str_len (s : Str) : s.length = s.cps.toList.length := by
  show s.cps.size = _
  rw [Array.length_toList]
theorem str_ext {a b : Str} (h : a.cps.toList = b.cps.toList) : a = b := by
  have hc : a.cps = b.cps := Array.toList_inj.mp h
  cases a; cases b
  simp only [Str.mk.injEq]
  exact hc
theorem app_cps (a b : Str) : (a ++ b).cps.toList = a.cps.toList ++ b.cps.toList := by
  show (a.cps ++ b.cps).toList = _
  rw [Array.toList_append]
theorem app_len (a b : Str) : (a ++ b).length = a.length + b.length := by
  rw [str_len, str_len, str_len, app_cps, List.length_append]
theorem app_assoc (a b c : Str) : a ++ b ++ c = a ++ (b ++ c) := str_ext (by simp [app_cps])
theorem e0_app (a : Str) : e0 ++ a = a := str_ext (by rw [app_cps]; rfl)
theorem app_e0 (a : Str) : a ++ e0 = a := str_ext (by rw [app_cps]; simp [e0, Str.empty])
theorem e0_len : e0.length = 0 := rfl
theorem cut_small {s : Str} (h : s.length ≤ 100000) : cut s = s := by
  refine str_ext ?_
  show (s.cps.extract 0 100000).toList = _
  rw [Array.toList_extract]
  simp only [List.extract_eq_drop_take, List.drop_zero, Nat.sub_zero]
  exact List.take_of_length_le (by rw [← str_len]; exact h)
theorem cut_len (s : Str) : (cut s).length ≤ 100000 := by
  rw [str_len]
  show (s.cps.extract 0 100000).toList.length ≤ _
  rw [Array.toList_extract]
  simp only [List.extract_eq_drop_take, List.drop_zero, Nat.sub_zero, List.length_take]
  exact Nat.min_le_left _ _
/-- seen only grows -/
theorem lw_grows : ∀ (t : Txt) (m : Mp) (se : List Nat) (acc : Str), ∃ l, (lw t m se acc).se = se ++ l
  | .nil, m, se, acc => ⟨_, rfl⟩
  | .lit s r, m, se, acc => by
    show ∃ l, (lw r m se (acc ++ s)).se = se ++ l
    exact lw_grows r m se _
  | .part n g t r, m, se, acc => by
    unfold lw
    cases hw : way m n g with
    | own => exact lw_grows r m se _
    | nothing => exact lw_grows r m se _
    | deep =>
      dsimp only
      obtain ⟨l, hl⟩ := lw_grows t m se e0
      split
      · exact ⟨l, hl⟩
      · obtain ⟨l', hl'⟩ := lw_grows r ((lw t m se e0).m.putIf (g.isK .eq) n (lw t m se e0).w) (lw t m se e0).se (acc ++ (lw t m se e0).w)
        exact ⟨l ++ l', by rw [hl', hl, List.append_assoc]⟩
def Small (l : List Nat) : Prop := ∀ x ∈ l, x ≤ 400
theorem Small.app {l l' : List Nat} (a : Small l) (b : Small l') : Small (l ++ l') := fun x h => (List.mem_append.mp h).elim (a x) (b x)
def Big (l : List Nat) : Prop := ∃ x ∈ l, 400 < x
theorem Big.left {l l' : List Nat} (a : Big l) : Big (l ++ l') := let ⟨x, h, g⟩ := a; ⟨x, List.mem_append_left _ h, g⟩
def LwIs (a : LR) (se : List Nat) : Res → Prop
  | .ok m' _ w => a.over = false ∧ a.m = m' ∧ a.w = w ∧ ∃ l, a.se = se ++ l ∧ Small l
  | .stop _ _ => a.over = true ∧ ∃ l, a.se = se ++ l ∧ Small l
  | .long => Big a.se
theorem LwIs.more {a : LR} {se l : List Nat} (hl : Small l) : ∀ {r : Res}, LwIs a (se ++ l) r → LwIs a se r
  | .ok m' _ w, ⟨h1, h2, h3, l', e, s⟩ => ⟨h1, h2, h3, l ++ l', by rw [e, List.append_assoc], hl.app s⟩
  | .stop _ _, ⟨h1, l', e, s⟩ => ⟨h1, l ++ l', by rw [e, List.append_assoc], hl.app s⟩
  | .long, h => h
theorem lw_run : ∀ (t : Txt) (m : Mp) (tr : List Spot) (sp : Spot) (i : Nat) (acc : Str) (se : List Nat), LwIs (lw t m se acc) se (run t m tr sp i acc)
  | .nil, m, tr, sp, i, acc, se => by
    unfold run lw
    by_cases h : 400 < acc.length
    · rw [if_pos h]
      exact ⟨acc.length, List.mem_append_right _ (List.mem_singleton.mpr rfl), h⟩
    · rw [if_neg h]
      exact ⟨rfl, rfl, cut_small (by omega), [acc.length], rfl, fun x hx => by rw [List.mem_singleton.mp hx]; omega⟩
  | .lit s r, m, tr, sp, i, acc, se => lw_run r m tr sp (i + 1) (acc ++ s) se
  | .part n g t r, m, tr, sp, i, acc, se => by
    unfold run lw
    cases hw : way m n g with
    | own => exact lw_run r m tr sp (i + 1) _ se
    | nothing => exact lw_run r m tr sp (i + 1) _ se
    | deep =>
      dsimp only
      have h1 := lw_run t m (tr ++ [sp ++ [(i : Int)]]) (sp ++ [(i : Int)]) 0 e0 se
      cases hr : run t m (tr ++ [sp ++ [(i : Int)]]) (sp ++ [(i : Int)]) 0 e0 with
      | long =>
        rw [hr] at h1
        dsimp only
        show Big _
        split
        · exact h1
        · obtain ⟨l, hl⟩ := lw_grows r ((lw t m se e0).m.putIf (g.isK .eq) n (lw t m se e0).w) (lw t m se e0).se (acc ++ (lw t m se e0).w)
          rw [hl]
          exact Big.left h1
      | stop m' tr' =>
        rw [hr] at h1
        obtain ⟨h2, l, e, s⟩ := h1
        rw [h2]
        exact ⟨rfl, l, e, s⟩
      | ok m' tr' w =>
        rw [hr] at h1
        obtain ⟨h2, h3, h4, l, e, s⟩ := h1
        rw [h2, h3, h4]
        dsimp only
        cases hk : g.isK .ask with
        | true => exact ⟨rfl, l, e, s⟩
        | false =>
          simp only [Bool.or_self, Bool.false_eq_true, if_false]
          rw [e]
          exact (lw_run r _ tr' sp (i + 1) _ (se ++ l)).more s
theorem lwRows_grows : ∀ (F : List Row) (m : Mp) (se : List Nat), ∃ l, lwRows F m se = se ++ l
  | [], m, se => ⟨[], by simp [lwRows]⟩
  | r :: F, m, se => by
    unfold lwRows
    split
    · obtain ⟨l, hl⟩ := lw_grows r.text m se e0
      dsimp only
      split
      · exact ⟨l, hl⟩
      · obtain ⟨l', hl'⟩ := lwRows_grows F (r.store (lw r.text m se e0).m (lw r.text m se e0).w) (lw r.text m se e0).se
        exact ⟨l ++ l', by rw [hl', hl, List.append_assoc]⟩
    · exact lwRows_grows F _ se
theorem lwRows_run : ∀ (F : List Row) (m : Mp) (tr : List Spot) (i : Nat) (se : List Nat), (runRows F m tr i = none → Big (lwRows F m se)) ∧ (runRows F m tr i ≠ none → ∃ l, lwRows F m se = se ++ l ∧ Small l)
  | [], m, tr, i, se => ⟨fun h => (nomatch h), fun _ => ⟨[], by simp [lwRows], fun x hx => by cases hx⟩⟩
  | r :: F, m, tr, i, se => by
    unfold runRows lwRows
    split
    · have h1 := lw_run r.text m tr [(i : Int)] 0 e0 se
      cases hr : run r.text m tr [(i : Int)] 0 e0 with
      | long =>
        rw [hr] at h1
        dsimp only
        refine ⟨fun _ => ?_, fun z => absurd rfl z⟩
        split
        · exact h1
        · obtain ⟨l, hl⟩ := lwRows_grows F (r.store (lw r.text m se e0).m (lw r.text m se e0).w) (lw r.text m se e0).se
          rw [hl]
          exact Big.left h1
      | stop m' tr' =>
        rw [hr] at h1
        obtain ⟨h2, l, e, s⟩ := h1
        dsimp only
        rw [h2]
        exact ⟨fun z => (nomatch z), fun _ => ⟨l, e, s⟩⟩
      | ok m' tr' w =>
        rw [hr] at h1
        obtain ⟨h2, h3, h4, l, e, s⟩ := h1
        dsimp only
        rw [h2, h3, h4, e]
        obtain ⟨a, b⟩ := lwRows_run F (r.store m' w) tr' (i + 1) (se ++ l)
        refine ⟨a, fun z => ?_⟩
        obtain ⟨l', e', s'⟩ := b z
        exact ⟨l ++ l', by simp only [Bool.false_eq_true, if_false]; rw [e', List.append_assoc], s.app s'⟩
    · exact lwRows_run F _ tr (i + 1) se

/-! the names alone count -/
def Agree (S : Str → Prop) (m m' : Mp) : Prop := ∀ n, S n → m n = m' n
theorem Agree.put {S : Str → Prop} {m m' : Mp} (a : Agree S m m') (n s : Str) : Agree S (m.put n s) (m'.put n s) := fun x hx => by
  unfold Mp.put; split
  · rfl
  · exact a x hx
theorem Agree.del {S : Str → Prop} {m m' : Mp} (a : Agree S m m') (n : Str) : Agree S (m.del n) (m'.del n) := fun x hx => by
  unfold Mp.del; split
  · rfl
  · exact a x hx
theorem Agree.putIf {S : Str → Prop} {m m' : Mp} (a : Agree S m m') (c : Bool) (n s : Str) : Agree S (m.putIf c n s) (m'.putIf c n s) := by
  unfold Mp.putIf; split
  · exact a.put n s
  · exact a
theorem Agree.way {S : Str → Prop} {m m' : Mp} (a : Agree S m m') {n : Str} (h : S n) (g : Sg) : EV.way m n g = EV.way m' n g := by
  cases g with
  | no => rfl
  | op hd k => unfold EV.way lacks; rw [a n h]
theorem Agree.worth {S : Str → Prop} {m m' : Mp} (a : Agree S m m') {n : Str} (h : S n) : EV.worth m n = EV.worth m' n := by unfold EV.worth; rw [a n h]
def ResAgree (S : Str → Prop) : Res → Res → Prop
  | .long, .long => True
  | .stop _ tr, .stop _ tr' => tr = tr'
  | .ok m tr w, .ok m' tr' w' => Agree S m m' ∧ tr = tr' ∧ w = w'
  | _, _ => False
theorem run_agree {S : Str → Prop} : ∀ (t : Txt) (m m' : Mp) (tr : List Spot) (sp : Spot) (i : Nat) (acc : Str), (∀ n ∈ t.names, S n) → Agree S m m' → ResAgree S (run t m tr sp i acc) (run t m' tr sp i acc)
  | .nil, m, m', tr, sp, i, acc, _, a => by
    unfold run; split
    · trivial
    · exact ⟨a, rfl, rfl⟩
  | .lit s r, m, m', tr, sp, i, acc, h, a => run_agree r m m' tr sp (i + 1) _ h a
  | .part n g t r, m, m', tr, sp, i, acc, h, a => by
    have hn : S n := h n (List.mem_cons_self ..)
    have ht : ∀ x ∈ t.names, S x := fun x hx => h x (List.mem_cons_of_mem _ (List.mem_append_left _ hx))
    have hrn : ∀ x ∈ r.names, S x := fun x hx => h x (List.mem_cons_of_mem _ (List.mem_append_right _ hx))
    unfold run
    rw [a.way hn g]
    cases hw : way m' n g with
    | own => dsimp only; rw [a.worth hn]; exact run_agree r m m' tr sp (i + 1) _ hrn a
    | nothing => exact run_agree r m m' tr sp (i + 1) _ hrn a
    | deep =>
      dsimp only
      have h1 := run_agree t m m' (tr ++ [sp ++ [(i : Int)]]) (sp ++ [(i : Int)]) 0 e0 ht a
      cases hr : run t m (tr ++ [sp ++ [(i : Int)]]) (sp ++ [(i : Int)]) 0 e0 <;> cases hr' : run t m' (tr ++ [sp ++ [(i : Int)]]) (sp ++ [(i : Int)]) 0 e0 <;> rw [hr, hr'] at h1 <;> first | exact h1.elim | skip
      · trivial
      · exact h1
      · obtain ⟨b, e1, e2⟩ := h1
        subst e1 e2
        dsimp only
        split
        · exact rfl
        · exact run_agree r _ _ _ sp (i + 1) _ hrn (b.putIf _ n _)
theorem works_agree {S : Str → Prop} {m m' : Mp} (a : Agree S m m') {r : Row} (h : ∀ n ∈ r.head, S n) : r.works m = r.works m' := by
  cases r with
  | give n t => show (m n).isNone = (m' n).isNone; rw [a n (h n (List.mem_singleton.mpr rfl))]
  | _ => rfl
theorem runRows_agree {S : Str → Prop} : ∀ (F : List Row) (m m' : Mp) (tr : List Spot) (i : Nat), (∀ r ∈ F, (∀ n ∈ r.head, S n) ∧ ∀ n ∈ r.text.names, S n) → Agree S m m' → runRows F m tr i = runRows F m' tr i
  | [], _, _, _, _, _, _ => rfl
  | r :: F, m, m', tr, i, h, a => by
    obtain ⟨h1, h2⟩ := h r (List.mem_cons_self ..)
    have hF : ∀ r ∈ F, (∀ n ∈ r.head, S n) ∧ ∀ n ∈ r.text.names, S n := fun x hx => h x (List.mem_cons_of_mem _ hx)
    unfold runRows
    rw [works_agree a h1]
    split
    · have q := run_agree r.text m m' tr [(i : Int)] 0 e0 h2 a
      cases hr : run r.text m tr [(i : Int)] 0 e0 <;> cases hr' : run r.text m' tr [(i : Int)] 0 e0 <;> rw [hr, hr'] at q <;> first | exact q.elim | skip
      · exact congrArg some q
      · obtain ⟨b, e1, e2⟩ := q
        subst e1 e2
        dsimp only
        refine runRows_agree F _ _ _ _ hF ?_
        cases r with
        | set n t => exact b.put _ _
        | give n t => exact b.put _ _
        | drop n => exact b
        | check t => exact b
    · refine runRows_agree F _ _ _ _ hF ?_
      cases r with
      | drop n => exact a.del _
      | _ => exact a
theorem met_agree {F : File} {m m' : Mp} (a : Agree (· ∈ rawNames F) m m') : met F m = met F m' :=
  runRows_agree F m m' [] 0 (fun r hr => ⟨fun n hn => List.mem_append_left _ (List.mem_flatMap.mpr ⟨r, hr, hn⟩), fun n hn => List.mem_append_right _ (List.mem_flatMap.mpr ⟨r, hr, hn⟩)⟩) a
end EV
end

section
set_option Elab.async false
set_option linter.all false
set_option maxRecDepth 100000
set_option maxHeartbeats 4000000
/-! names in order; cases and worlds; sizes -/
namespace EV
open PySem
/-! ### names in order -/
def SL (a b : Str) : Prop := a.cps.toList < b.cps.toList
theorem sLt_iff {a b : Str} : sLt a b = true ↔ SL a b := decide_eq_true_iff
theorem SL.trans {a b c : Str} (h : SL a b) (g : SL b c) : SL a c := List.lt_trans h g
theorem SL.irr {a : Str} : ¬ SL a a := List.lt_irrefl _
theorem SL.total {a b : Str} (h : ¬ SL a b) (g : a ≠ b) : SL b a := by
  rcases Classical.em (SL b a) with q | q
  · exact q
  · exact absurd (str_ext (List.le_antisymm (List.not_lt.mp q) (List.not_lt.mp h))) g
theorem mem_ins {x y : Str} : ∀ {l : List Str}, y ∈ insName x l ↔ y = x ∨ y ∈ l
  | [] => by simp [insName]
  | z :: r => by
    unfold insName
    split
    · simp
    · split
      · rename_i h; subst h; simp
      · rw [List.mem_cons, mem_ins, List.mem_cons]
        constructor
        · rintro (h | h | h)
          · exact .inr (.inl h)
          · exact .inl h
          · exact .inr (.inr h)
        · rintro (h | h | h)
          · exact .inr (.inl h)
          · exact .inl h
          · exact .inr (.inr h)
theorem mem_sort {y : Str} : ∀ {l : List Str}, y ∈ sortNames l ↔ y ∈ l
  | [] => by simp [sortNames]
  | x :: l => by
    show y ∈ insName x (sortNames l) ↔ _
    rw [mem_ins, mem_sort, List.mem_cons]
theorem ins_rise {x : Str} : ∀ {l : List Str}, l.Pairwise SL → (insName x l).Pairwise SL
  | [], _ => by simp [insName]
  | z :: r, h => by
    obtain ⟨h1, h2⟩ := List.pairwise_cons.mp h
    unfold insName
    split
    · rename_i q
      have q := sLt_iff.mp q
      exact List.pairwise_cons.mpr ⟨fun y hy => (List.mem_cons.mp hy).elim (fun e => e ▸ q) fun e => q.trans (h1 y e), h⟩
    · rename_i q
      split
      · exact h
      · rename_i ne
        have q' := SL.total (fun z => q (sLt_iff.mpr z)) ne
        exact List.pairwise_cons.mpr ⟨fun y hy => (mem_ins.mp hy).elim (fun e => e ▸ q') (h1 y), ins_rise h2⟩
theorem sort_rise : ∀ (l : List Str), (sortNames l).Pairwise SL
  | [] => List.Pairwise.nil
  | x :: l => ins_rise (sort_rise l)
theorem rise_nodup {l : List Str} (h : l.Pairwise SL) : l.Nodup := by
  refine List.Pairwise.imp (R := SL) (S := fun a b => a ≠ b) (fun {a b} q e => ?_) h
  subst e
  exact SL.irr q
theorem rise_unique : ∀ {l l' : List Str}, l.Pairwise SL → l'.Pairwise SL → (∀ x, x ∈ l ↔ x ∈ l') → l = l'
  | [], [], _, _, _ => rfl
  | [], y :: r, _, _, h => absurd ((h y).mpr (List.mem_cons_self ..)) (by simp)
  | x :: r, [], _, _, h => absurd ((h x).mp (List.mem_cons_self ..)) (by simp)
  | x :: r, y :: r', h, h', e => by
    obtain ⟨a1, a2⟩ := List.pairwise_cons.mp h
    obtain ⟨b1, b2⟩ := List.pairwise_cons.mp h'
    have exy : x = y := by
      rcases List.mem_cons.mp ((e x).mp (List.mem_cons_self ..)) with q | q
      · exact q
      · rcases List.mem_cons.mp ((e y).mpr (List.mem_cons_self ..)) with p | p
        · exact p.symm
        · exact absurd ((a1 y p).trans (b1 x q)) SL.irr
    subst exy
    refine congrArg (x :: ·) (rise_unique a2 b2 fun z => ?_)
    have q := e z
    rw [List.mem_cons, List.mem_cons] at q
    constructor
    · intro hz
      exact (q.mp (.inr hz)).elim (fun e => absurd (a1 z hz) (e ▸ SL.irr)) id
    · intro hz
      exact (q.mpr (.inr hz)).elim (fun e => absurd (b1 z hz) (e ▸ SL.irr)) id
theorem sorted_le : ∀ (p : Str) (l : List Str), PyProof.Rows.risingS p l = true → (p :: l).Pairwise fun a b => ¬ SL b a
  | p, [], _ => by simp
  | p, x :: r, h => by
    obtain ⟨h1, h2⟩ := Bool.and_eq_true_iff.mp (show (!PySem.Spec.ltCps x.cps.toList p.cps.toList && PyProof.Rows.risingS x r) = true from h)
    have ih := sorted_le x r h2
    have h1' : ¬ SL x p := fun z => by
      rw [PyProof.Rows.ltCps_eq, decide_eq_true (show x.cps.toList < p.cps.toList from z)] at h1
      cases h1
    refine List.pairwise_cons.mpr ⟨fun y hy => ?_, ih⟩
    rcases List.mem_cons.mp hy with e | hy
    · exact e ▸ h1'
    · have h3 := (List.pairwise_cons.mp ih).1 y hy
      exact fun z => h1' (List.lt_of_le_of_lt (List.not_lt.mp h3) z)
theorem sorted_is {ns l : List Str} (h : PyProof.Rows.sortedS ns = true) (nd : ns.Nodup) (hm : ∀ k, k ∈ ns ↔ k ∈ l) : ns = sortNames l := by
  refine rise_unique ?_ (sort_rise l) fun x => (hm x).trans mem_sort.symm
  cases ns with
  | nil => exact List.Pairwise.nil
  | cons x r =>
    have q := sorted_le x r h
    exact (q.and nd).imp fun {a b} ⟨h1, h2⟩ => SL.total h1 fun e => h2 e.symm
/-! ### sums over names -/
theorem sum_le {f : Str → Nat} : ∀ {N D : List Str}, N.Nodup → (∀ x ∈ N, f x ≠ 0 → x ∈ D) → (N.map f).sum ≤ (D.map f).sum
  | [], _, _, _ => Nat.zero_le _
  | x :: N, D, nd, h => by
    obtain ⟨h1, h2⟩ := List.nodup_cons.mp nd
    rw [List.map_cons, List.sum_cons]
    by_cases hx : f x = 0
    · rw [hx, Nat.zero_add]
      exact sum_le h2 fun y hy => h y (List.mem_cons_of_mem _ hy)
    · have hD := h x (List.mem_cons_self ..) hx
      have p := List.perm_cons_erase hD
      rw [(p.map f).sum_nat, List.map_cons, List.sum_cons]
      have ih := sum_le (f := f) (D := D.erase x) h2 fun y hy hne => (List.mem_erase_of_ne (fun (e : y = x) => h1 (e ▸ hy))).mpr (h y (List.mem_cons_of_mem _ hy) hne)
      omega
/-! ### cases -/
def caseOf (ns : List Str) (f : Mp) : Case := ns.map fun n => (n, f n)
theorem mem_fold : ∀ (ns : List Str) (F : List Case) (c : Case), c ∈ ns.foldl caseStep F ↔ ∃ a ∈ F, ∃ b : Case, c = a ++ b ∧ b.map (·.1) = ns ∧ ∀ p ∈ b, p.2 ∈ states
  | [], F, c => by
    constructor
    · intro h
      exact ⟨c, h, [], by simp, rfl, fun p hp => by cases hp⟩
    · rintro ⟨a, ha, b, e, eb, _⟩
      have : b = [] := by cases b with | nil => rfl | cons x y => cases eb
      subst this
      rw [e, List.append_nil]
      exact ha
  | n :: ns, F, c => by
    show c ∈ ns.foldl caseStep (caseStep F n) ↔ _
    rw [mem_fold ns (caseStep F n) c]
    constructor
    · rintro ⟨a, ha, b, e, eb, hb⟩
      obtain ⟨a0, h0, hs⟩ := List.mem_flatMap.mp ha
      obtain ⟨s, hs', e2⟩ := List.mem_map.mp hs
      subst e2
      refine ⟨a0, h0, (n, s) :: b, by rw [e, List.append_assoc]; rfl, by rw [List.map_cons, eb], fun p hp => ?_⟩
      rcases List.mem_cons.mp hp with q | q
      · rw [q]; exact hs'
      · exact hb p q
    · rintro ⟨a, ha, b, e, eb, hb⟩
      cases b with
      | nil => cases eb
      | cons p b =>
        rw [List.map_cons] at eb
        obtain ⟨e1, e2⟩ := List.cons.inj eb
        refine ⟨a ++ [p], List.mem_flatMap.mpr ⟨a, ha, List.mem_map.mpr ⟨p.2, hb p (List.mem_cons_self ..), ?_⟩⟩, b, by rw [e, List.append_assoc]; rfl, e2, fun q hq => hb q (List.mem_cons_of_mem _ hq)⟩
        rw [← e1]
theorem mem_cases {ns : List Str} {c : Case} : c ∈ cases ns ↔ c.map (·.1) = ns ∧ ∀ p ∈ c, p.2 ∈ states := by
  unfold cases
  rw [mem_fold]
  constructor
  · rintro ⟨a, ha, b, e, r⟩
    rw [List.mem_singleton.mp ha, List.nil_append] at e
    subst e
    exact r
  · intro r
    exact ⟨[], List.mem_singleton.mpr rfl, c, rfl, r⟩
theorem caseOf_mem {ns : List Str} {f : Mp} (h : ∀ n ∈ ns, f n ∈ states) : caseOf ns f ∈ cases ns := by
  refine mem_cases.mpr ⟨by simp [caseOf, Function.comp_def], fun p hp => ?_⟩
  obtain ⟨n, hn, e⟩ := List.mem_map.mp hp
  subst e
  exact h n hn
theorem map_in : ∀ {c : Case} {p : Str × Option Str}, (c.map (·.1)).Nodup → p ∈ c → mpOf c p.1 = p.2
  | [], _, _, h => by cases h
  | q :: c, p, nd, h => by
    rw [List.map_cons] at nd
    obtain ⟨h1, h2⟩ := List.nodup_cons.mp nd
    unfold mpOf
    rw [List.find?_cons]
    rcases List.mem_cons.mp h with e | h
    · subst e
      simp
    · have ne : q.1 ≠ p.1 := fun e => h1 (e ▸ List.mem_map.mpr ⟨p, h, rfl⟩)
      rw [decide_eq_false ne]
      exact map_in (c := c) h2 h
theorem map_out : ∀ {c : Case} {n : Str}, n ∉ c.map (·.1) → mpOf c n = none
  | [], _, _ => rfl
  | q :: c, n, h => by
    rw [List.map_cons, List.mem_cons, not_or] at h
    unfold mpOf
    rw [List.find?_cons, decide_eq_false (fun e => h.1 e.symm)]
    exact map_out (c := c) h.2
theorem caseOf_map {ns : List Str} {f : Mp} (nd : ns.Nodup) {n : Str} (h : n ∈ ns) : mpOf (caseOf ns f) n = f n := by
  have q := map_in (c := caseOf ns f) (p := (n, f n)) (by simpa [caseOf, Function.comp_def] using nd) (List.mem_map.mpr ⟨n, h, rfl⟩)
  exact q
theorem caseOf_out {ns : List Str} {f : Mp} {n : Str} (h : n ∉ ns) : mpOf (caseOf ns f) n = none := map_out (by simpa [caseOf, Function.comp_def] using h)
theorem case_is {ns : List Str} {c : Case} (nd : ns.Nodup) (h : c ∈ cases ns) : c = caseOf ns (mpOf c) := by
  obtain ⟨h1, _⟩ := mem_cases.mp h
  subst h1
  have : ∀ (d : Case), (∀ p ∈ d, p ∈ c) → d = (d.map (·.1)).map fun n => (n, mpOf c n) := by
    intro d
    induction d with
    | nil => intro _; rfl
    | cons p d ih =>
      intro hd
      rw [List.map_cons, List.map_cons, ← ih fun q hq => hd q (List.mem_cons_of_mem _ hq), map_in nd (hd p (List.mem_cons_self ..))]
  exact this c fun _ hp => hp
theorem case_state {ns : List Str} {c : Case} (nd : ns.Nodup) (h : c ∈ cases ns) (n : Str) : mpOf c n ∈ states := by
  obtain ⟨h1, h2⟩ := mem_cases.mp h
  by_cases hn : n ∈ ns
  · rw [← h1] at hn nd
    obtain ⟨p, hp, e⟩ := List.mem_map.mp hn
    rw [← e, map_in nd hp]
    exact h2 p hp
  · rw [map_out (by rw [h1]; exact hn)]
    exact List.mem_cons_self ..
/-! ### sizes -/
def one (o : Option Str) : Nat := match o with | none => 0 | some _ => 1
def oLen (o : Option Str) : Nat := match o with | none => 0 | some s => s.length
theorem env_len : ∀ c : Case, (envOf c).length = (c.map fun p => one p.2).sum
  | [] => rfl
  | (n, none) :: c => by
    show (envOf c).length = _
    rw [env_len c, List.map_cons, List.sum_cons]
    show _ = 0 + _
    omega
  | (n, some s) :: c => by
    show (envOf c).length + 1 = _
    rw [env_len c, List.map_cons, List.sum_cons]
    show _ = 1 + _
    omega
theorem env_lens : ∀ c : Case, lens (envOf c) = (c.map fun p => oLen p.2).sum
  | [] => rfl
  | (n, none) :: c => by
    show lens (envOf c) = _
    rw [env_lens c, List.map_cons, List.sum_cons]
    show _ = 0 + _
    omega
  | (n, some s) :: c => by
    show s.length + lens (envOf c) = _
    rw [env_lens c, List.map_cons, List.sum_cons]
    rfl
theorem caseOf_size (ns : List Str) (f : Mp) : envSize (envOf (caseOf ns f)) = ((ns.map fun n => one (f n)).sum, (ns.map fun n => oLen (f n)).sum) := by
  unfold envSize
  rw [env_len, env_lens]
  unfold caseOf
  rw [List.map_map, List.map_map]
  rfl
/-- every world of D has a case of N that runs alike and is no larger -/
theorem to_case {F : File} {N D : List Str} (hN : N.Nodup) (hD : D.Nodup) (hF : ∀ n ∈ rawNames F, n ∈ N) (hs : ∀ n ∈ N, n ∈ D) {c : Case} (h : c ∈ cases D) :
    ∃ c' ∈ cases N, met F (mpOf c') = met F (mpOf c) ∧ (envSize (envOf c')).1 ≤ (envSize (envOf c)).1 ∧ (envSize (envOf c')).2 ≤ (envSize (envOf c)).2 := by
  refine ⟨caseOf N (mpOf c), caseOf_mem fun n _ => case_state hD h n, met_agree fun n hn => caseOf_map hN (hF n hn), ?_⟩
  rw [case_is hD h, caseOf_size, caseOf_size]
  have e : ∀ n ∈ N, mpOf (caseOf D (mpOf c)) n = mpOf c n := fun n hn => caseOf_map hD (hs n hn)
  refine ⟨?_, ?_⟩
  · dsimp only
    rw [show (N.map fun n => one (mpOf (caseOf D (mpOf c)) n)) = N.map fun n => one (mpOf c n) from List.map_congr_left fun n hn => by rw [e n hn]]
    exact sum_le hN fun x hx _ => hs x hx
  · dsimp only
    rw [show (N.map fun n => oLen (mpOf (caseOf D (mpOf c)) n)) = N.map fun n => oLen (mpOf c n) from List.map_congr_left fun n hn => by rw [e n hn]]
    exact sum_le hN fun x hx _ => hs x hx
/-- every case of N is a world of D of the same size -/
theorem to_world {F : File} {N D : List Str} (hN : N.Nodup) (hD : D.Nodup) (hF : ∀ n ∈ rawNames F, n ∈ N) (hs : ∀ n ∈ N, n ∈ D) {c : Case} (h : c ∈ cases N) :
    ∃ c' ∈ cases D, met F (mpOf c') = met F (mpOf c) ∧ envSize (envOf c') = envSize (envOf c) := by
  have h1 := (mem_cases.mp h).1
  have out : ∀ n, n ∉ N → mpOf c n = none := fun n hn => map_out (by rw [h1]; exact hn)
  refine ⟨caseOf D (mpOf c), caseOf_mem fun n _ => case_state hN h n, met_agree fun n hn => caseOf_map hD (hs n (hF n hn)), ?_⟩
  rw [case_is hN h, caseOf_size, caseOf_size]
  have e : ∀ n ∈ D, mpOf (caseOf N (mpOf c)) n = mpOf c n := fun n _ => by
    by_cases hn : n ∈ N
    · exact caseOf_map hN hn
    · rw [caseOf_out hn, out n hn]
  have inN : ∀ (f : Option Str → Nat), f none = 0 → (D.map fun n => f (mpOf (caseOf N (mpOf c)) n)).sum = (N.map fun n => f (mpOf c n)).sum := fun f f0 => by
    rw [show (D.map fun n => f (mpOf (caseOf N (mpOf c)) n)) = D.map fun n => f (mpOf c n) from List.map_congr_left fun n hn => by rw [e n hn]]
    refine Nat.le_antisymm (sum_le hD fun x _ hne => ?_) (sum_le hN fun x hx _ => hs x hx)
    rcases Classical.em (x ∈ N) with q | q
    · exact q
    · exact absurd (by rw [out x q]; exact f0) hne
  exact Prod.ext (inN one rfl) (inN oLen rfl)
/-! ### the least -/
theorem szLt_iff {a b : Sz} : szLt a b = true ↔ a.1 < b.1 ∨ (a.1 = b.1 ∧ a.2 < b.2) := decide_eq_true_iff
def szLe (a b : Sz) : Prop := a.1 < b.1 ∨ (a.1 = b.1 ∧ a.2 ≤ b.2)
theorem szLe_of_not {a b : Sz} (h : szLt a b = false) : szLe b a := by
  have h' : ¬ (a.1 < b.1 ∨ (a.1 = b.1 ∧ a.2 < b.2)) := fun z => by rw [szLt_iff.mpr z] at h; cases h
  unfold szLe; omega
theorem szLe.trans {a b c : Sz} (h : szLe a b) (g : szLe b c) : szLe a c := by unfold szLe at *; omega
theorem szLe.refl (a : Sz) : szLe a a := by unfold szLe; omega
theorem szLe.anti {a b : Sz} (h : szLe a b) (g : szLe b a) : a = b := by
  unfold szLe at *
  exact Prod.ext (by omega) (by omega)
theorem szLe.comp {a b : Sz} (h : a.1 ≤ b.1) (g : a.2 ≤ b.2) : szLe a b := by unfold szLe; omega
theorem szLe_of_lt {a b : Sz} (h : szLt a b = true) : szLe a b := by
  have := szLt_iff.mp h
  unfold szLe; omega
theorem best_go : ∀ (l : List (List (Str × Str))) (e : List (Str × Str)), ∃ x, l.foldl bestStep (some e) = some x ∧ (x = e ∨ x ∈ l) ∧ szLe (envSize x) (envSize e) ∧ ∀ y ∈ l, szLe (envSize x) (envSize y)
  | [], e => ⟨e, rfl, .inl rfl, szLe.refl _, fun y hy => by cases hy⟩
  | z :: l, e => by
    show ∃ x, l.foldl bestStep (bestStep (some e) z) = some x ∧ _
    unfold bestStep
    dsimp only
    cases h : szLt (envSize z) (envSize e) with
    | true =>
      rw [if_pos rfl]
      obtain ⟨x, h1, h2, h3, h4⟩ := best_go l z
      refine ⟨x, h1, .inr (h2.elim (fun q => q ▸ List.mem_cons_self ..) (List.mem_cons_of_mem _)), h3.trans (szLe_of_lt h), fun y hy => ?_⟩
      rcases List.mem_cons.mp hy with q | q
      · rw [q]; exact h3
      · exact h4 y q
    | false =>
      rw [if_neg Bool.false_ne_true]
      obtain ⟨x, h1, h2, h3, h4⟩ := best_go l e
      refine ⟨x, h1, h2.imp id (List.mem_cons_of_mem _), h3, fun y hy => ?_⟩
      rcases List.mem_cons.mp hy with q | q
      · rw [q]; exact h3.trans (szLe_of_not h)
      · exact h4 y q
theorem best_none {l : List (List (Str × Str))} (h : best l = none) : l = [] := by
  cases l with
  | nil => rfl
  | cons e l =>
    obtain ⟨x, h1, _⟩ := best_go l e
    have : best (e :: l) = some x := h1
    rw [h] at this; cases this
theorem best_some {l : List (List (Str × Str))} {x : List (Str × Str)} (h : best l = some x) : x ∈ l ∧ ∀ y ∈ l, szLe (envSize x) (envSize y) := by
  cases l with
  | nil => cases h
  | cons e l =>
    obtain ⟨z, h1, h2, h3, h4⟩ := best_go l e
    have h5 : best (e :: l) = some z := h1
    rw [h] at h5; cases h5
    refine ⟨h2.elim (fun q => q ▸ List.mem_cons_self ..) (List.mem_cons_of_mem _), fun y hy => ?_⟩
    rcases List.mem_cons.mp hy with q | q
    · rw [q]; exact h3
    · exact h4 y q
/-! ### the table -/
theorem byCase_cons (F : File) (c : Case) (cs : List Case) : byCase F (c :: cs) = (match met F (mpOf c) with | none => none | some s => match byCase F cs with | none => none | some T => some ((c, s) :: T)) := by
  unfold byCase
  rw [List.mapM_cons]
  cases met F (mpOf c) with
  | none => rfl
  | some s => cases List.mapM (fun c => (met F (mpOf c)).map fun s => (c, s)) cs <;> rfl
theorem byCase_none {F : File} : ∀ {cs : List Case}, byCase F cs = none ↔ ∃ c ∈ cs, met F (mpOf c) = none
  | [] => by
    constructor
    · intro h; cases h
    · rintro ⟨c, h, _⟩; cases h
  | c :: cs => by
    rw [byCase_cons]
    cases h : met F (mpOf c) with
    | none => simp [h]
    | some s =>
      have ih := byCase_none (F := F) (cs := cs)
      cases h2 : byCase F cs with
      | none =>
        obtain ⟨d, hd, e⟩ := ih.mp h2
        simp only [true_iff]
        exact ⟨d, List.mem_cons_of_mem _ hd, e⟩
      | some T =>
        simp only [reduceCtorEq, false_iff]
        rintro ⟨d, hd, e⟩
        rcases List.mem_cons.mp hd with q | q
        · subst q; rw [h] at e; cases e
        · rw [ih.mpr ⟨d, q, e⟩] at h2; cases h2
theorem byCase_mem {F : File} : ∀ {cs : List Case} {T : List (Case × List Spot)}, byCase F cs = some T → ∀ p : Case × List Spot, p ∈ T ↔ p.1 ∈ cs ∧ met F (mpOf p.1) = some p.2
  | [], T, h, p => by
    cases h
    simp
  | c :: cs, T, h, p => by
    rw [byCase_cons] at h
    cases h1 : met F (mpOf c) with
    | none => rw [h1] at h; cases h
    | some s =>
      rw [h1] at h
      cases h2 : byCase F cs with
      | none => rw [h2] at h; cases h
      | some T' =>
        rw [h2] at h
        cases h
        rw [List.mem_cons, byCase_mem h2 p, List.mem_cons]
        constructor
        · rintro (q | ⟨q, r⟩)
          · subst q; exact ⟨.inl rfl, h1⟩
          · exact ⟨.inr q, r⟩
        · rintro ⟨q | q, r⟩
          · refine .inl (Prod.ext q ?_)
            rw [q, h1] at r
            exact (Option.some.inj r).symm
          · exact .inr ⟨q, r⟩
end EV
end

section
set_option Elab.async false
set_option linter.all false
set_option maxRecDepth 100000
set_option maxHeartbeats 4000000
/-! bounds of a run -/
namespace EV
open PySem
/-- every worth is at most B long -/
def Mp.few (B : Nat) (m : Mp) : Prop := ∀ n s, m n = some s → s.length ≤ B
theorem Mp.few.put {B : Nat} {m : Mp} (h : m.few B) {n s : Str} (hs : s.length ≤ B) : (m.put n s).few B := fun x z e => by
  unfold Mp.put at e
  by_cases q : x = n
  · rw [if_pos q] at e; cases e; exact hs
  · rw [if_neg q] at e; exact h x z e
theorem Mp.few.putIf {B : Nat} {m : Mp} (h : m.few B) {n s : Str} {c : Bool} (hs : s.length ≤ B) : (m.putIf c n s).few B := by
  unfold Mp.putIf
  split
  · exact h.put hs
  · exact h
theorem Mp.few.del {B : Nat} {m : Mp} (h : m.few B) {n : Str} : (m.del n).few B := fun x z e => by
  unfold Mp.del at e
  by_cases q : x = n
  · rw [if_pos q] at e; cases e
  · rw [if_neg q] at e; exact h x z e
theorem worth_few {B : Nat} {m : Mp} (h : m.few B) (n : Str) : (worth m n).length ≤ B := by
  unfold worth
  cases e : m n with
  | none => exact Nat.zero_le _
  | some s => exact h n s e
/-- what a run of at most c new spots ends with -/
def ResB (k : Nat) : Res → Prop
  | .long => True
  | .stop m tr => m.few 400 ∧ tr.length ≤ k
  | .ok m tr w => m.few 400 ∧ tr.length ≤ k ∧ w.length ≤ 400
theorem ResB.mono {k l : Nat} (h : k ≤ l) : ∀ {r : Res}, ResB k r → ResB l r
  | .long, _ => trivial
  | .stop _ _, ⟨a, b⟩ => ⟨a, Nat.le_trans b h⟩
  | .ok _ _ _, ⟨a, b, c⟩ => ⟨a, Nat.le_trans b h, c⟩
theorem run_few : ∀ (t : Txt) (m : Mp) (tr : List Spot) (sp : Spot) (i : Nat) (acc : Str), m.few 400 → ResB (tr.length + t.names.length) (run t m tr sp i acc)
  | .nil, m, tr, sp, i, acc, h => by
    unfold run
    split
    · trivial
    · exact ⟨h, Nat.le_refl _, by omega⟩
  | .lit s r, m, tr, sp, i, acc, h => run_few r m tr sp (i + 1) (acc ++ s) h
  | .part n g t r, m, tr, sp, i, acc, h => by
    have e : (Txt.part n g t r).names.length = 1 + t.names.length + r.names.length := by
      show (n :: (t.names ++ r.names)).length = _
      rw [List.length_cons, List.length_append]; omega
    rw [e]
    unfold run
    cases way m n g with
    | own => exact (run_few r m tr sp (i + 1) _ h).mono (by omega)
    | nothing => exact (run_few r m tr sp (i + 1) _ h).mono (by omega)
    | deep =>
      have h1 := run_few t m (tr ++ [sp ++ [(i : Int)]]) (sp ++ [(i : Int)]) 0 e0 h
      rw [List.length_append] at h1
      simp only [List.length_cons, List.length_nil] at h1
      dsimp only
      cases hr : run t m (tr ++ [sp ++ [(i : Int)]]) (sp ++ [(i : Int)]) 0 e0 with
      | long => trivial
      | stop m' tr' =>
        rw [hr] at h1
        exact ⟨h1.1, by have := h1.2; omega⟩
      | ok m' tr' w =>
        rw [hr] at h1
        obtain ⟨a, b, c⟩ := h1
        dsimp only
        split
        · exact ⟨a, by omega⟩
        · exact (run_few r _ tr' sp (i + 1) _ (a.putIf c)).mono (by omega)
/-- a part's run -/
def partRes (n : Str) (g : Sg) (t : Txt) (m : Mp) (tr : List Spot) (sp : Spot) : Res := match way m n g with
  | .own => .ok m tr (worth m n)
  | .nothing => .ok m tr e0
  | .deep => match run t m (tr ++ [sp]) sp 0 e0 with
    | .long => .long
    | .stop m tr => .stop m tr
    | .ok m tr w => if g.isK .ask = true then .stop m tr else .ok (m.putIf (g.isK .eq) n w) tr w
/-- what comes behind -/
def Res.then (r : Res) (f : Mp → List Spot → Str → Res) : Res := match r with
  | .long => .long
  | .stop m tr => .stop m tr
  | .ok m tr w => f m tr w
theorem run_part (n : Str) (g : Sg) (t r : Txt) (m : Mp) (tr : List Spot) (sp : Spot) (i : Nat) (acc : Str) :
    run (.part n g t r) m tr sp i acc = (partRes n g t m tr (sp ++ [(i : Int)])).then fun m' tr' w => run r m' tr' sp (i + 1) (acc ++ w) := by
  show (match way m n g with
    | .own => run r m tr sp (i + 1) (acc ++ worth m n)
    | .nothing => run r m tr sp (i + 1) acc
    | .deep => match run t m (tr ++ [sp ++ [(i : Int)]]) (sp ++ [(i : Int)]) 0 e0 with
      | .long => .long
      | .stop m tr => .stop m tr
      | .ok m tr w => if g.isK .ask = true then .stop m tr else run r (m.putIf (g.isK .eq) n w) tr sp (i + 1) (acc ++ w)) = _
  unfold partRes
  cases way m n g with
  | own => rfl
  | nothing =>
    show run r m tr sp (i + 1) acc = run r m tr sp (i + 1) (acc ++ e0)
    rw [app_e0]
  | deep =>
    dsimp only
    cases run t m (tr ++ [sp ++ [(i : Int)]]) (sp ++ [(i : Int)]) 0 e0 with
    | long => rfl
    | stop m' tr' => rfl
    | ok m' tr' w =>
      dsimp only
      split <;> rfl
theorem part_few {n : Str} {g : Sg} {t : Txt} {m : Mp} {tr : List Spot} {sp : Spot} (h : m.few 400) : ResB (tr.length + 1 + t.names.length) (partRes n g t m tr sp) := by
  unfold partRes
  cases way m n g with
  | own => exact ⟨h, by omega, worth_few h n⟩
  | nothing => exact ⟨h, by omega, by rw [e0_len]; omega⟩
  | deep =>
    have h1 := run_few t m (tr ++ [sp]) sp 0 e0 h
    rw [List.length_append] at h1
    simp only [List.length_cons, List.length_nil] at h1
    dsimp only
    cases hr : run t m (tr ++ [sp]) sp 0 e0 with
    | long => trivial
    | stop m' tr' =>
      rw [hr] at h1
      exact h1
    | ok m' tr' w =>
      rw [hr] at h1
      obtain ⟨a, b, c⟩ := h1
      dsimp only
      split
      · exact ⟨a, b⟩
      · exact ⟨a.putIf c, b, c⟩
end EV
end

section
set_option Elab.async false
set_option linter.all false
set_option maxRecDepth 100000
set_option maxHeartbeats 4000000
/-! bounds of the law's run -/
namespace EV
open PySem
theorem cut_max (s : Str) : (cut s).length ≤ 100000 := by
  unfold cut
  rw [str_len]
  show (s.cps.extract 0 100000).toList.length ≤ _
  simp
  omega
theorem cut_le (s : Str) : (cut s).length ≤ s.length := by
  unfold cut
  rw [str_len, str_len]
  show (s.cps.extract 0 100000).toList.length ≤ _
  simp
  exact Nat.min_le_right _ _
theorem lw_few : ∀ (t : Txt) (m : Mp) (se : List Nat) (acc : Str), m.few 100000 → (lw t m se acc).m.few 100000 ∧ (lw t m se acc).w.length ≤ 100000 ∧ (lw t m se acc).se.length ≤ se.length + 1 + t.names.length
  | .nil, m, se, acc, h => ⟨h, cut_max acc, by show (se ++ [acc.length]).length ≤ _; rw [List.length_append]; simp only [List.length_cons, List.length_nil]; omega⟩
  | .lit s r, m, se, acc, h => lw_few r m se (acc ++ s) h
  | .part n g t r, m, se, acc, h => by
    have e : (Txt.part n g t r).names.length = 1 + t.names.length + r.names.length := by
      show (n :: (t.names ++ r.names)).length = _
      rw [List.length_cons, List.length_append]; omega
    rw [e]
    unfold lw
    cases way m n g with
    | own => obtain ⟨a, b, c⟩ := lw_few r m se (acc ++ worth m n) h; exact ⟨a, b, by dsimp only; omega⟩
    | nothing => obtain ⟨a, b, c⟩ := lw_few r m se acc h; exact ⟨a, b, by dsimp only; omega⟩
    | deep =>
      obtain ⟨a, b, c⟩ := lw_few t m se e0 h
      dsimp only
      split
      · exact ⟨a, b, by show _ ≤ _; dsimp only; omega⟩
      · obtain ⟨a2, b2, c2⟩ := lw_few r ((lw t m se e0).m.putIf (g.isK .eq) n (lw t m se e0).w) (lw t m se e0).se (acc ++ (lw t m se e0).w) (a.putIf b)
        exact ⟨a2, b2, by omega⟩
/-- one part of the law's run -/
theorem lw_part (n : Str) (g : Sg) (t r : Txt) (m : Mp) (se : List Nat) (acc : Str) : lw (.part n g t r) m se acc = (match way m n g with
    | .own => lw r m se (acc ++ worth m n)
    | .nothing => lw r m se acc
    | .deep => if ((lw t m se e0).over || g.isK .ask) = true then ⟨true, (lw t m se e0).m, (lw t m se e0).se, (lw t m se e0).w⟩ else lw r ((lw t m se e0).m.putIf (g.isK .eq) n (lw t m se e0).w) (lw t m se e0).se (acc ++ (lw t m se e0).w)) := rfl
end EV
end

section
set_option Elab.async false
set_option linter.all false
set_option maxRecDepth 100000
set_option maxHeartbeats 4000000
/-! the law's worlds against the file's cases -/
namespace EV
open PySem
/-- the world c meets s -/
def Meets (F : File) (ns : List Str) (c : Case) (s : Spot) : Prop := c ∈ cases ns ∧ ∃ tr, met F (mpOf c) = some tr ∧ s ∈ tr
section
variable {F : File} {ns : List Str} (nd : ns.Nodup) (hF : ∀ n ∈ rawNames F, n ∈ ns)
include nd hF
theorem in_names : ∀ n ∈ rawNames F, n ∈ namesIn F := fun n hn => mem_sort.mpr hn
theorem names_in : ∀ n ∈ namesIn F, n ∈ ns := fun n hn => hF n (mem_sort.mp hn)
theorem table_some : (∀ c ∈ cases ns, met F (mpOf c) ≠ none) → ∃ T, table F = some T := fun h => by
  cases e : table F with
  | some T => exact ⟨T, rfl⟩
  | none =>
    obtain ⟨c, hc, hm⟩ := byCase_none.mp e
    obtain ⟨c', hc', hm', _⟩ := to_world (F := F) (N := namesIn F) (D := ns) (rise_nodup (sort_rise _)) nd (in_names nd hF) (names_in nd hF) hc
    exact absurd (hm'.trans hm) (h c' hc')
theorem table_none {c : Case} (hc : c ∈ cases ns) (hm : met F (mpOf c) = none) : table F = none := by
  obtain ⟨c', hc', hm', _⟩ := to_case (F := F) (N := namesIn F) (D := ns) (rise_nodup (sort_rise _)) nd (in_names nd hF) (names_in nd hF) hc
  exact byCase_none.mpr ⟨c', hc', hm'.trans hm⟩
theorem isMet_iff {T : List (Case × List Spot)} (hT : table F = some T) (s : Spot) : isMet T s = true ↔ ∃ c, Meets F ns c s := by
  unfold isMet
  rw [List.any_eq_true]
  constructor
  · rintro ⟨p, hp, h⟩
    obtain ⟨h1, h2⟩ := (byCase_mem hT p).mp hp
    obtain ⟨c', hc', hm', _⟩ := to_world (F := F) (N := namesIn F) (D := ns) (rise_nodup (sort_rise _)) nd (in_names nd hF) (names_in nd hF) h1
    exact ⟨c', hc', p.2, hm'.trans h2, List.contains_iff_mem.mp h⟩
  · rintro ⟨c, hc, tr, hm, hs⟩
    obtain ⟨c', hc', hm', _⟩ := to_case (F := F) (N := namesIn F) (D := ns) (rise_nodup (sort_rise _)) nd (in_names nd hF) (names_in nd hF) hc
    exact ⟨(c', tr), (byCase_mem hT (c', tr)).mpr ⟨hc', hm'.trans hm⟩, List.contains_iff_mem.mpr hs⟩
/-- who takes a spot that is never met -/
theorem taker_none {T : List (Case × List Spot)} (hT : table F = some T) {s : Spot} (h : best ((T.filter fun p => p.2.contains s).map fun p => envOf p.1) = none) : ∀ c, ¬ Meets F ns c s := fun c hm => by
  have e := best_none h
  obtain ⟨p, hp, hc⟩ := List.any_eq_true.mp ((isMet_iff nd hF hT s).mpr ⟨c, hm⟩)
  have : envOf p.1 ∈ (T.filter fun p => p.2.contains s).map fun p => envOf p.1 := List.mem_map.mpr ⟨p, List.mem_filter.mpr ⟨hp, hc⟩, rfl⟩
  rw [e] at this
  cases this
/-- who takes a spot that is met: a case of the file that meets it, and no world is less -/
theorem taker_some {T : List (Case × List Spot)} (hT : table F = some T) {s : Spot} {e : List (Str × Str)} (h : best ((T.filter fun p => p.2.contains s).map fun p => envOf p.1) = some e) :
    ∃ c0 tr, c0 ∈ cases (namesIn F) ∧ e = envOf c0 ∧ met F (mpOf c0) = some tr ∧ s ∈ tr ∧ (∃ c, Meets F ns c s ∧ envSize (envOf c) = envSize e) ∧ ∀ c, Meets F ns c s → szLe (envSize e) (envSize (envOf c)) := by
  obtain ⟨h1, h2⟩ := best_some h
  obtain ⟨p, hp, rfl⟩ := List.mem_map.mp h1
  obtain ⟨hp1, hp2⟩ := List.mem_filter.mp hp
  obtain ⟨h3, h4⟩ := (byCase_mem hT p).mp hp1
  refine ⟨p.1, p.2, h3, rfl, h4, List.contains_iff_mem.mp hp2, ?_, ?_⟩
  · obtain ⟨c', hc', hm', hz⟩ := to_world (F := F) (N := namesIn F) (D := ns) (rise_nodup (sort_rise _)) nd (in_names nd hF) (names_in nd hF) h3
    exact ⟨c', ⟨hc', p.2, hm'.trans h4, List.contains_iff_mem.mp hp2⟩, hz⟩
  · rintro c ⟨hc, tr, hm, hs⟩
    obtain ⟨c', hc', hm', hz1, hz2⟩ := to_case (F := F) (N := namesIn F) (D := ns) (rise_nodup (sort_rise _)) nd (in_names nd hF) (names_in nd hF) hc
    have := h2 (envOf c') (List.mem_map.mpr ⟨(c', tr), List.mem_filter.mpr ⟨(byCase_mem hT (c', tr)).mpr ⟨hc', hm'.trans hm⟩, List.contains_iff_mem.mpr hs⟩, rfl⟩)
    exact szLe.trans this (szLe.comp hz1 hz2)
end
end EV
end

section
set_option Elab.async false
set_option linter.all false
set_option maxRecDepth 100000
set_option maxHeartbeats 4000000
/-! how the mirror lies on the heap -/
namespace EV
open PySem PySem.Spec PyProof.Rows L2
/-! ### what is kept -/
/-- all but what stands at L is as it was; at L stand things that may be written -/
structure Kp (L : List Addr) (H H' : Hp) : Prop where
  keep : ∀ b o, b ∉ L → H b = some o → H' b = some o
  wr : ∀ d ∈ L, Mut (H d)
  wr' : ∀ d ∈ L, Mut (H' d)
theorem Kp.refl {L : List Addr} {H : Hp} (m : ∀ d ∈ L, Mut (H d)) : Kp L H H := ⟨fun _ _ _ e => e, m, m⟩
theorem Kp.nil (H : Hp) : Kp [] H H := ⟨fun _ _ _ e => e, fun _ h => (nomatch h), fun _ h => (nomatch h)⟩
theorem Kp.trans {L : List Addr} {H H1 H2 : Hp} (a : Kp L H H1) (b : Kp L H1 H2) : Kp L H H2 := ⟨fun c o n e => b.keep c o n (a.keep c o n e), a.wr, b.wr'⟩
theorem Kp.same {H H' : Hp} (a : Kp [] H H') : Same H H' := fun b o e => a.keep b o (fun z => nomatch z) e
theorem Kp.of {H H' : Hp} (a : Same H H') : Kp [] H H' := ⟨fun b o _ e => a b o e, fun _ h => (nomatch h), fun _ h => (nomatch h)⟩
/-- a new object -/
theorem Kp.new {L : List Addr} {H H' : Hp} (a : Kp L H H') {p : Addr} (o : HO) (n : H' p = none) : Kp L H (upd H' p o) := by
  have ne : ∀ d ∈ L, d ≠ p := fun d hd z => by
    have := a.wr' d hd
    rw [z, n] at this
    exact this
  exact ⟨fun b u hb e => by rw [upd_ne (ne_of_none (a.keep b u hb e) n)]; exact a.keep b u hb e, a.wr, fun d hd => by rw [upd_ne (ne d hd)]; exact a.wr' d hd⟩
/-- an object of our own, not there at the start, is written -/
theorem Kp.own {L : List Addr} {H H' : Hp} (a : Kp L H H') {p : Addr} {o : HO} (n : H p = none) : Kp L H (upd H' p o) := by
  have ne : ∀ d ∈ L, d ≠ p := fun d hd z => by
    have := a.wr d hd
    rw [z, n] at this
    exact this
  exact ⟨fun b u hb e => by rw [upd_ne (ne_of_none e n)]; exact a.keep b u hb e, a.wr, fun d hd => by rw [upd_ne (ne d hd)]; exact a.wr' d hd⟩
/-- one of L is written -/
theorem Kp.put {L : List Addr} {H H' : Hp} (a : Kp L H H') {d : Addr} {o : HO} (hd : d ∈ L) (m : Mut (some o)) : Kp L H (upd H' d o) := by
  refine ⟨fun b u hb e => ?_, a.wr, fun c hc => ?_⟩
  · rw [upd_ne (fun z => hb (by rw [z]; exact hd))]; exact a.keep b u hb e
  · by_cases z : c = d
    · rw [z, upd_same]; exact m
    · rw [upd_ne z]; exact a.wr' c hc
theorem Kp.more {L L' : List Addr} {H H' : Hp} (a : Kp L H H') (h : ∀ d ∈ L, d ∈ L') (m : ∀ d ∈ L', Mut (H d)) : Kp L' H H' := by
  refine ⟨fun b o hb e => a.keep b o (fun z => hb (h b z)) e, m, fun d hd => ?_⟩
  by_cases z : d ∈ L
  · exact a.wr' d z
  · have q := m d hd
    cases e : H d with
    | none => rw [e] at q; exact q.elim
    | some o => rw [a.keep d o z e, ← e]; exact q
/-- what was not there at the start is not among what is written -/
theorem Kp.fresh {L : List Addr} {H H' : Hp} (a : Kp L H H') {p : Addr} (n : H p = none) : p ∉ L := fun z => by
  have := a.wr p z
  rw [n] at this
  exact this
/-- a call's change seen from an earlier start: it writes L and things of our own -/
theorem Kp.call {L L' : List Addr} {H H1 H2 : Hp} (a : Kp L H H1) (b : Kp L' H1 H2) (h : ∀ d ∈ L', d ∈ L ∨ H d = none) : Kp L H H2 := by
  refine ⟨fun c o hc e => ?_, a.wr, fun d hd => ?_⟩
  · refine b.keep c o (fun z => ?_) (a.keep c o hc e)
    rcases h c z with q | q
    · exact hc q
    · rw [q] at e; cases e
  · by_cases z : d ∈ L'
    · exact b.wr' d z
    · have q := a.wr' d hd
      cases e : H1 d with
      | none => rw [e] at q; exact q.elim
      | some o => rw [b.keep d o z e, ← e]; exact q
theorem notMut_tup {xs : List V} : ¬ Mut (some (.tup xs)) := fun z => z
theorem notMut_frz {o : Obj} {u : HO} : ¬ Mut (some (.frz o u)) := fun z => z
theorem Kp.tup {L : List Addr} {H H' : Hp} (a : Kp L H H') {b : Addr} {xs : List V} (e : H b = some (.tup xs)) : H' b = some (.tup xs) :=
  a.keep b _ (fun z => notMut_tup (e ▸ a.wr b z)) e
section
variable {K : PySem.W.Frag} {L : List Addr} {H H' : Hp} {a : Addr} {xs : List V}
theorem Kp.sqt (k : Kp L H H') (h : SqT K H a xs) : SqT K H' a xs := by
  rcases h with (h | ⟨o, h⟩) | h
  · exact .inl (.inl (k.tup h))
  · exact .inl (.inr ⟨o, k.keep a _ (fun z => notMut_frz (h ▸ k.wr a z)) h⟩)
  · exact .inr h
theorem Kp.sql (k : Kp L H H') (n : a ∉ L) (h : SqL K H a xs) : SqL K H' a xs := by
  rcases h with (h | ⟨o, h⟩) | h
  · exact .inl (.inl (k.keep a _ n h))
  · exact .inl (.inr ⟨o, k.keep a _ n h⟩)
  · exact .inr h
end
/-! ### texts, rows, files -/
def PcAt (K : PySem.W.Frag) (H : Hp) : Txt → List V → Prop
  | .nil, xs => xs = []
  | .lit s r, xs => ∃ ys, xs = .str s :: ys ∧ PcAt K H r ys
  | .part n g t r, xs => ∃ (a c : Addr) (ts ys : List V), xs = .ref a :: ys ∧ SqT K H a [.str n, .str g.str, .ref c] ∧ SqT K H c ts ∧ PcAt K H t ts ∧ PcAt K H r ys
def TextAt (K : PySem.W.Frag) (H : Hp) (a : Addr) (t : Txt) : Prop := ∃ xs, SqT K H a xs ∧ PcAt K H t xs
theorem PcAt.kp {K : PySem.W.Frag} {L : List Addr} {H H' : Hp} (k : Kp L H H') : ∀ {t : Txt} {xs : List V}, PcAt K H t xs → PcAt K H' t xs
  | .nil, _, h => h
  | .lit s r, _, ⟨ys, e, h⟩ => ⟨ys, e, PcAt.kp k h⟩
  | .part n g t r, _, ⟨a, c, ts, ys, e, h1, h2, h3, h4⟩ => ⟨a, c, ts, ys, e, k.sqt h1, k.sqt h2, PcAt.kp k h3, PcAt.kp k h4⟩
theorem TextAt.kp {K : PySem.W.Frag} {L : List Addr} {H H' : Hp} {a : Addr} {t : Txt} (h : TextAt K H a t) (k : Kp L H H') : TextAt K H' a t := let ⟨xs, h1, h2⟩ := h; ⟨xs, k.sqt h1, h2.kp k⟩
theorem PcAt.len {K : PySem.W.Frag} {H : Hp} : ∀ {t : Txt} {xs : List V}, PcAt K H t xs → xs.length = t.len
  | .nil, _, h => by rw [show _ = [] from h]; rfl
  | .lit s r, _, ⟨ys, e, h⟩ => by rw [e, List.length_cons, PcAt.len h]; rfl
  | .part n g t r, _, ⟨a, c, ts, ys, e, h1, h2, h3, h4⟩ => by rw [e, List.length_cons, PcAt.len h4]; rfl
/-- the text from its i-th piece on -/
def Txt.drop : Nat → Txt → Txt
  | 0, t => t
  | _ + 1, .nil => .nil
  | i + 1, .lit _ r => r.drop i
  | i + 1, .part _ _ _ r => r.drop i
inductive Pc | lit (s : Str) | part (n : Str) (g : Sg) (t : Txt)
def Pc.cons : Pc → Txt → Txt | .lit s, r => .lit s r | .part n g t, r => .part n g t r
/-- a piece as it lies -/
def PieceAt (K : PySem.W.Frag) (H : Hp) : Pc → V → Prop
  | .lit s, x => x = .str s
  | .part n g t, x => ∃ a c : Addr, x = .ref a ∧ SqT K H a [.str n, .str g.str, .ref c] ∧ TextAt K H c t
theorem PieceAt.kp {K : PySem.W.Frag} {L : List Addr} {H H' : Hp} {p : Pc} {x : V} (h : PieceAt K H p x) (k : Kp L H H') : PieceAt K H' p x := by
  cases p with
  | lit s => exact h
  | part n g t =>
    obtain ⟨a, c, e, h1, h2⟩ := h
    exact ⟨a, c, e, k.sqt h1, h2.kp k⟩
theorem PcAt.get {K : PySem.W.Frag} {H : Hp} : ∀ {t : Txt} {xs : List V} {i : Nat} {x : V}, PcAt K H t xs → xs[i]? = some x → ∃ p, PieceAt K H p x ∧ t.drop i = p.cons (t.drop (i + 1))
  | .nil, _, i, x, h, e => by rw [show _ = [] from h] at e; cases i <;> cases e
  | .lit s r, _, 0, x, ⟨ys, e1, h⟩, e => by
    rw [e1] at e; cases e
    refine ⟨.lit s, rfl, ?_⟩
    cases r <;> rfl
  | .lit s r, _, i + 1, x, ⟨ys, e1, h⟩, e => by
    rw [e1] at e
    exact PcAt.get (t := r) (i := i) h e
  | .part n g t r, _, 0, x, ⟨a, c, ts, ys, e1, h1, h2, h3, h4⟩, e => by
    rw [e1] at e; cases e
    refine ⟨.part n g t, ⟨a, c, rfl, h1, ts, h2, h3⟩, ?_⟩
    cases r <;> rfl
  | .part n g t r, _, i + 1, x, ⟨a, c, ts, ys, e1, h1, h2, h3, h4⟩, e => by
    rw [e1] at e
    exact PcAt.get (t := r) (i := i) h4 e
theorem drop_len : ∀ (t : Txt), t.drop t.len = .nil
  | .nil => rfl
  | .lit _ r => drop_len r
  | .part _ _ _ r => drop_len r
theorem good_drop : ∀ {t : Txt} {lv : Nat} (i : Nat), t.good lv = true → (t.drop i).good lv = true
  | t, lv, 0, h => by cases t <;> exact h
  | .nil, lv, i + 1, h => rfl
  | .lit s r, lv, i + 1, h => good_drop (t := r) i (Bool.and_eq_true_iff.mp h).2
  | .part n .no t r, lv, i + 1, h => good_drop (t := r) i (Bool.and_eq_true_iff.mp h).2
  | .part n (.op _ _) t r, lv, i + 1, h => good_drop (t := r) i (Bool.and_eq_true_iff.mp h).2
/-- what a good text's piece is -/
def Pc.good (lv : Nat) : Pc → Prop
  | .lit s => plainOk s = true
  | .part n .no t => nameOk n = true ∧ t = .nil
  | .part n (.op _ _) t => nameOk n = true ∧ ∃ l, lv = l + 1 ∧ 0 < l ∧ t.wf l = true
theorem good_piece {t : Txt} {lv i : Nat} {p : Pc} (h : t.good lv = true) (e : t.drop i = p.cons (t.drop (i + 1))) : p.good lv := by
  have g := good_drop i h
  rw [e] at g
  cases p with
  | lit s =>
    obtain ⟨g1, _⟩ := Bool.and_eq_true_iff.mp (show (plainOk s && !(t.drop (i + 1)).isLit && (t.drop (i + 1)).good lv) = true from g)
    exact (Bool.and_eq_true_iff.mp g1).1
  | part n sg u =>
    cases sg with
    | no =>
      obtain ⟨g1, _⟩ := Bool.and_eq_true_iff.mp (show (nameOk n && u.isNil && (t.drop (i + 1)).good lv) = true from g)
      obtain ⟨g2, g3⟩ := Bool.and_eq_true_iff.mp g1
      refine ⟨g2, ?_⟩
      cases u with
      | nil => rfl
      | lit _ _ => cases g3
      | part _ _ _ _ => cases g3
    | op hd k =>
      cases lv with
      | zero =>
        obtain ⟨g1, _⟩ := Bool.and_eq_true_iff.mp (show (nameOk n && false && (t.drop (i + 1)).good 0) = true from g)
        obtain ⟨_, g3⟩ := Bool.and_eq_true_iff.mp g1
        cases g3
      | succ l =>
        obtain ⟨g1, _⟩ := Bool.and_eq_true_iff.mp (show (nameOk n && (decide (u.len ≤ 8) && (decide (0 < l) && u.good l)) && (t.drop (i + 1)).good (l + 1)) = true from g)
        obtain ⟨g2, g3⟩ := Bool.and_eq_true_iff.mp g1
        obtain ⟨g4, g5⟩ := Bool.and_eq_true_iff.mp g3
        obtain ⟨g6, g7⟩ := Bool.and_eq_true_iff.mp g5
        exact ⟨g2, l, rfl, of_decide_eq_true g6, Bool.and_eq_true_iff.mpr ⟨g4, g7⟩⟩
/-- texts by how deep they go: at 0 the empty one -/
def Txt.wb : Nat → Txt → Bool | 0, t => t.isNil | l + 1, t => t.wf l
theorem wb_nil : ∀ l : Nat, Txt.nil.wb l = true
  | 0 => rfl
  | _ + 1 => rfl
theorem isNil_eq {t : Txt} (h : t.isNil = true) : t = .nil := by
  cases t with
  | nil => rfl
  | lit _ _ => cases h
  | part _ _ _ _ => cases h
def Pc.ok (l : Nat) : Pc → Prop
  | .lit s => plainOk s = true
  | .part n g u => nameOk n = true ∧ u.wb l = true ∧ (g = .no → u = .nil)
theorem wb_piece {t : Txt} {l i : Nat} {p : Pc} (h : t.wb l = true) (e : t.drop i = p.cons (t.drop (i + 1))) : ∃ l', l = l' + 1 ∧ p.ok l' := by
  cases l with
  | zero =>
    have z := isNil_eq h
    subst z
    cases i <;> cases p <;> cases e
  | succ l =>
    refine ⟨l, rfl, ?_⟩
    have g := good_piece (Bool.and_eq_true_iff.mp h).2 e
    cases p with
    | lit s => exact g
    | part n sg u =>
      cases sg with
      | no =>
        obtain ⟨h1, h2⟩ := g
        subst h2
        exact ⟨h1, wb_nil l, fun _ => rfl⟩
      | op hd k =>
        obtain ⟨h1, l', h2, _, h4⟩ := g
        subst h2
        exact ⟨h1, h4, fun z => by cases z⟩
theorem wb_len : ∀ {l : Nat} {t : Txt}, t.wb l = true → t.len ≤ 8
  | 0, t, h => by rw [isNil_eq h]; exact Nat.zero_le _
  | l + 1, t, h => of_decide_eq_true (Bool.and_eq_true_iff.mp h).1
def Pc.names : Pc → List Str | .lit _ => [] | .part n _ u => n :: u.names
theorem names_piece {t : Txt} {i : Nat} {p : Pc} (e : t.drop i = p.cons (t.drop (i + 1))) : (t.drop i).names = p.names ++ (t.drop (i + 1)).names := by
  rw [e]
  cases p with
  | lit s => rfl
  | part n g u => rfl
/-- two literals never stand side by side -/
theorem good_apart {t : Txt} {lv i : Nat} {s : Str} (h : t.good lv = true) (e : t.drop i = .lit s (t.drop (i + 1))) : (t.drop (i + 1)).isLit = false := by
  have g := good_drop i h
  rw [e] at g
  obtain ⟨g1, _⟩ := Bool.and_eq_true_iff.mp (show (plainOk s && !(t.drop (i + 1)).isLit && (t.drop (i + 1)).good lv) = true from g)
  have := (Bool.and_eq_true_iff.mp g1).2
  cases q : (t.drop (i + 1)).isLit with
  | false => rfl
  | true => rw [q] at this; cases this
def RowAt (K : PySem.W.Frag) (H : Hp) (a : Addr) : Row → Prop
  | .set n t => ∃ c, SqT K H a [.str "set", .str n, .ref c] ∧ TextAt K H c t
  | .give n t => ∃ c, SqT K H a [.str "give", .str n, .ref c] ∧ TextAt K H c t
  | .drop n => SqT K H a [.str "drop", .str n]
  | .check t => ∃ c, SqT K H a [.str "check", .ref c] ∧ TextAt K H c t
theorem RowAt.kp {K : PySem.W.Frag} {L : List Addr} {H H' : Hp} (k : Kp L H H') : ∀ {r : Row} {a : Addr}, RowAt K H a r → RowAt K H' a r
  | .set _ _, _, ⟨c, h1, h2⟩ => ⟨c, k.sqt h1, h2.kp k⟩
  | .give _ _, _, ⟨c, h1, h2⟩ => ⟨c, k.sqt h1, h2.kp k⟩
  | .drop _, _, h => k.sqt h
  | .check _, _, ⟨c, h1, h2⟩ => ⟨c, k.sqt h1, h2.kp k⟩
def FileAt (K : PySem.W.Frag) (H : Hp) (a : Addr) (F : File) : Prop := ∃ as : List Addr, SqT K H a (as.map V.ref) ∧ Paired (RowAt K H) as F
theorem FileAt.kp {K : PySem.W.Frag} {L : List Addr} {H H' : Hp} {a : Addr} {F : File} (h : FileAt K H a F) (k : Kp L H H') : FileAt K H' a F :=
  let ⟨as, h1, h2⟩ := h; ⟨as, k.sqt h1, Paired.mapP h2 fun _ _ r => r.kp k⟩
theorem paired_at {α β : Type} {R : α → β → Prop} : ∀ {as : List α} {bs : List β} {i : Nat} {a : α}, Paired R as bs → as[i]? = some a → ∃ b, bs[i]? = some b ∧ R a b
  | _, _, i, a, .nil, e => by cases i <;> cases e
  | _, _, 0, a, .cons r t, e => by cases e; exact ⟨_, rfl, r⟩
  | _, _, i + 1, a, .cons r t, e => paired_at (i := i) t e
theorem drop_cons {α : Type} : ∀ {l : List α} {i : Nat} {x : α}, l[i]? = some x → l.drop i = x :: l.drop (i + 1)
  | [], i, x, e => by cases i <;> cases e
  | y :: l, 0, x, e => by cases e; rfl
  | y :: l, i + 1, x, e => drop_cons (l := l) (i := i) e
/-! ### spots -/
def SpAt (H : Hp) (v : V) (s : Spot) : Prop := ∃ b, v = .ref b ∧ H b = some (.tup (s.map V.int))
theorem SpAt.kp {L : List Addr} {H H' : Hp} {v : V} {s : Spot} (h : SpAt H v s) (k : Kp L H H') : SpAt H' v s := let ⟨b, e, h⟩ := h; ⟨b, e, k.tup h⟩
def LsAt (H : Hp) (l : Addr) (tr : List Spot) : Prop := ∃ vs, H l = some (.lst vs) ∧ Paired (SpAt H) vs tr
theorem spots_kp {L : List Addr} {H H' : Hp} {vs : List V} {tr : List Spot} (h : Paired (SpAt H) vs tr) (k : Kp L H H') : Paired (SpAt H') vs tr := Paired.mapP h fun _ _ r => r.kp k
theorem LsAt.kp {L : List Addr} {H H' : Hp} {l : Addr} {tr : List Spot} (h : LsAt H l tr) (k : Kp L H H') (n : l ∉ L) : LsAt H' l tr := let ⟨vs, e, h⟩ := h; ⟨vs, k.keep l _ n e, spots_kp h k⟩
theorem paired_app {α β : Type} {R : α → β → Prop} : ∀ {as : List α} {bs : List β} {cs : List α} {ds : List β}, Paired R as bs → Paired R cs ds → Paired R (as ++ cs) (bs ++ ds)
  | _, _, _, _, .nil, h => h
  | _, _, _, _, .cons r t, h => .cons r (paired_app t h)
/-! ### words -/
def ItAt (K : PySem.W.Frag) (H : Hp) (x : V) (y : Str) : Prop := (x = .str y ∧ y ≠ e0) ∨ ∃ (b : Addr) (n : Str), x = .ref b ∧ SqT K H b [.str n] ∧ y = "a"
def ItsAt (K : PySem.W.Frag) (H : Hp) : List V → Str → Prop
  | [], s => s = e0
  | x :: xs, s => ∃ y r, s = y ++ r ∧ ItAt K H x y ∧ ItsAt K H xs r
def WordAt (K : PySem.W.Frag) (H : Hp) (v : V) (s : Str) : Prop := ∃ a xs, v = .ref a ∧ SqT K H a xs ∧ ItsAt K H xs s
theorem ItAt.kp {K : PySem.W.Frag} {L : List Addr} {H H' : Hp} {x : V} {y : Str} (h : ItAt K H x y) (k : Kp L H H') : ItAt K H' x y := h.imp id fun ⟨b, n, e, h, r⟩ => ⟨b, n, e, k.sqt h, r⟩
theorem ItsAt.kp {K : PySem.W.Frag} {L : List Addr} {H H' : Hp} (k : Kp L H H') : ∀ {xs : List V} {s : Str}, ItsAt K H xs s → ItsAt K H' xs s
  | [], _, h => h
  | x :: xs, _, ⟨y, r, e, h1, h2⟩ => ⟨y, r, e, h1.kp k, ItsAt.kp k h2⟩
theorem WordAt.kp {K : PySem.W.Frag} {L : List Addr} {H H' : Hp} {v : V} {s : Str} (h : WordAt K H v s) (k : Kp L H H') : WordAt K H' v s := let ⟨a, xs, e, h1, h2⟩ := h; ⟨a, xs, e, k.sqt h1, h2.kp k⟩
theorem ItAt.pos {K : PySem.W.Frag} {H : Hp} {x : V} {y : Str} (h : ItAt K H x y) : 1 ≤ y.length := by
  rcases h with ⟨_, h⟩ | ⟨_, _, _, _, h⟩
  · rw [str_len]
    cases q : y.cps.toList with
    | nil => exact absurd (str_ext (by rw [q]; rfl)) h
    | cons _ _ => simp
  · rw [h]; decide
theorem ItsAt.le {K : PySem.W.Frag} {H : Hp} : ∀ {xs : List V} {s : Str}, ItsAt K H xs s → xs.length ≤ s.length
  | [], _, _ => Nat.zero_le _
  | x :: xs, _, ⟨y, r, e, h1, h2⟩ => by
    have := h1.pos
    have := ItsAt.le h2
    rw [e, app_len, List.length_cons]; omega
theorem ItsAt.empty {K : PySem.W.Frag} {H : Hp} {xs : List V} {s : Str} (h : ItsAt K H xs s) : xs.isEmpty = decide (s = e0) := by
  cases xs with
  | nil => rw [show s = e0 from h]; rfl
  | cons x xs =>
    have := h.le
    rw [List.length_cons] at this
    have ne : s ≠ e0 := fun z => by rw [z] at this; exact absurd this (by rw [e0_len]; omega)
    rw [decide_eq_false ne]; rfl
theorem ItsAt.app {K : PySem.W.Frag} {H : Hp} : ∀ {xs ys : List V} {s r : Str}, ItsAt K H xs s → ItsAt K H ys r → ItsAt K H (xs ++ ys) (s ++ r)
  | [], _, _, _, h, g => by rw [show _ = e0 from h, e0_app]; exact g
  | x :: xs, _, _, _, ⟨y, z, e, h1, h2⟩, g => ⟨y, _, by rw [e, app_assoc], h1, ItsAt.app h2 g⟩
/-! ### dicts by names -/
def NmAt (NS : List Str) (kvs : List (Key × V)) : Prop := (kvs.map (·.1)).Nodup ∧ ∀ p ∈ kvs, ∃ n ∈ NS, p.1 = Sum.inr n
/-- the dict at d maps the names as m does; P tells what lies at a name -/
def DcAt (P : Hp → V → Str → Prop) (NS : List Str) (H : Hp) (d : Addr) (m : Mp) : Prop := ∃ kvs, H d = some (.dK kvs) ∧ NmAt NS kvs ∧ ∀ n, match valV kvs (.inr n), m n with
  | none, none => True
  | some v, some s => P H v s
  | _, _ => False
theorem DcAt.kp {P : Hp → V → Str → Prop} {NS : List Str} {L : List Addr} {H H' : Hp} {d : Addr} {m : Mp} (h : DcAt P NS H d m) (k : Kp L H H') (n : d ∉ L) (hP : ∀ v s, P H v s → P H' v s) : DcAt P NS H' d m := by
  obtain ⟨kvs, e, nm, h⟩ := h
  refine ⟨kvs, k.keep d _ n e, nm, fun x => ?_⟩
  have q := h x
  cases h1 : valV kvs (.inr x) <;> cases h2 : m x <;> rw [h1, h2] at q <;> first | exact q | exact hP _ _ q
theorem DcAt.get {P : Hp → V → Str → Prop} {NS : List Str} {H : Hp} {d : Addr} {m : Mp} (h : DcAt P NS H d m) (n : Str) : ∃ o, DGet H d (.str n) o ∧ ((o = none ∧ m n = none) ∨ ∃ v s, o = some v ∧ m n = some s ∧ P H v s) := by
  obtain ⟨kvs, e, nm, h⟩ := h
  refine ⟨valV kvs (.inr n), DGet.k (k := .inr n) e, ?_⟩
  have q := h n
  cases h1 : valV kvs (.inr n) <;> cases h2 : m n <;> rw [h1, h2] at q
  · exact .inl ⟨rfl, rfl⟩
  · exact q.elim
  · exact q.elim
  · exact .inr ⟨_, _, rfl, rfl, q⟩
theorem DcAt.isD {P : Hp → V → Str → Prop} {NS : List Str} {H : Hp} {d : Addr} {m : Mp} (h : DcAt P NS H d m) : IsD H d := let ⟨kvs, e, _⟩ := h; .inl ⟨kvs, .inl e⟩
theorem DcAt.wrt {P : Hp → V → Str → Prop} {NS : List Str} {H : Hp} {d : Addr} {m : Mp} (h : DcAt P NS H d m) : Mut (H d) := by obtain ⟨kvs, e, _⟩ := h; rw [e]; trivial
theorem nodup_le {α : Type} [DecidableEq α] : ∀ {l l' : List α}, l.Nodup → (∀ x ∈ l, x ∈ l') → l.length ≤ l'.length
  | [], _, _, _ => Nat.zero_le _
  | x :: l, l', nd, h => by
    obtain ⟨h1, h2⟩ := List.nodup_cons.mp nd
    have hx := h x (List.mem_cons_self ..)
    have p := (List.perm_cons_erase hx).length_eq
    have ih := nodup_le (l := l) (l' := l'.erase x) h2 fun y hy => (List.mem_erase_of_ne (fun (e : y = x) => h1 (e ▸ hy))).mpr (h y (List.mem_cons_of_mem _ hy))
    rw [List.length_cons] at p ⊢
    omega
theorem NmAt.le {NS : List Str} {kvs : List (Key × V)} (h : NmAt NS kvs) : kvs.length ≤ NS.length := by
  have q := nodup_le (l := kvs.map (·.1)) (l' := NS.map Sum.inr) h.1 fun x hx => by
    obtain ⟨p, hp, e⟩ := List.mem_map.mp hx
    obtain ⟨n, hn, e2⟩ := h.2 p hp
    exact List.mem_map.mpr ⟨n, hn, by rw [← e, e2]⟩
  rw [List.length_map, List.length_map] at q
  exact q
theorem keys_put (kvs : List (Key × V)) (k : Key) (v : V) : (k ∈ kvs.map (·.1) ∧ (putK kvs k v).map (·.1) = kvs.map (·.1)) ∨ (k ∉ kvs.map (·.1) ∧ (putK kvs k v).map (·.1) = kvs.map (·.1) ++ [k]) := by
  unfold putK
  have e : (kvs.any fun kv => decide (kv.1 = k)) = true ↔ k ∈ kvs.map (·.1) := by
    rw [List.any_eq_true, List.mem_map]
    exact ⟨fun ⟨p, h, q⟩ => ⟨p, h, of_decide_eq_true q⟩, fun ⟨p, h, q⟩ => ⟨p, h, decide_eq_true q⟩⟩
  by_cases h : (kvs.any fun kv => decide (kv.1 = k)) = true
  · refine .inl ⟨e.mp h, ?_⟩
    rw [if_pos h, List.map_map]
    refine List.map_congr_left fun p _ => ?_
    show (if p.1 = k then (p.1, v) else p).1 = p.1
    split <;> rfl
  · refine .inr ⟨fun z => h (e.mpr z), ?_⟩
    rw [if_neg h, List.map_append]
    rfl
theorem NmAt.put {NS : List Str} {kvs : List (Key × V)} (h : NmAt NS kvs) {n : Str} (hn : n ∈ NS) (v : V) : NmAt NS (putK kvs (.inr n) v) := by
  have old : ∀ k ∈ kvs.map (·.1), ∃ x ∈ NS, k = Sum.inr x := fun k hk => by
    obtain ⟨p, hp, q⟩ := List.mem_map.mp hk
    obtain ⟨x, hx, q2⟩ := h.2 p hp
    exact ⟨x, hx, by rw [← q, q2]⟩
  rcases keys_put kvs (.inr n) v with ⟨_, e⟩ | ⟨q, e⟩
  · refine ⟨by rw [e]; exact h.1, fun p hp => old p.1 ?_⟩
    rw [← e]
    exact List.mem_map.mpr ⟨p, hp, rfl⟩
  · refine ⟨?_, fun p hp => ?_⟩
    · rw [e, List.nodup_append]
      exact ⟨h.1, by simp, fun a ha b hb z => q (by rw [List.mem_singleton.mp hb] at z; rw [← z]; exact ha)⟩
    · have hk : p.1 ∈ (putK kvs (.inr n) v).map (·.1) := List.mem_map.mpr ⟨p, hp, rfl⟩
      rw [e] at hk
      rcases List.mem_append.mp hk with z | z
      · exact old _ z
      · exact ⟨n, hn, List.mem_singleton.mp z⟩
theorem NmAt.drop {NS : List Str} {kvs : List (Key × V)} (h : NmAt NS kvs) (k : Key) : NmAt NS (dropK kvs k) := by
  unfold dropK
  exact ⟨h.1.sublist (List.filter_sublist.map _), fun p hp => h.2 p (List.mem_filter.mp hp).1⟩
theorem valV_drop (kvs : List (Key × V)) (k j : Key) : valV (dropK kvs k) j = if j = k then none else valV kvs j := by
  unfold valV dropK
  rw [List.find?_filter]
  by_cases h : j = k
  · subst h
    rw [if_pos rfl]
    have : (kvs.find? fun kv => decide (decide (kv.1 ≠ j) = true ∧ decide (kv.1 = j) = true)) = none := by
      rw [List.find?_eq_none]
      intro p _
      simp
    first
      | (rw [this]; rfl)
      | (simp; done)
      | (simp_all; done)
  · rw [if_neg h]
    congr 1
    congr 1
    funext kv
    by_cases e : kv.1 = j
    · simp [e, h]
    · simp [e]
/-- d[n] = v -/
theorem DcAt.put {P : Hp → V → Str → Prop} {NS : List Str} {H : Hp} {d : Addr} {m : Mp} (h : DcAt P NS H d m) {n s : Str} {v : V} (hn : n ∈ NS) (hz : NS.length < sizeLine) (hv : P H v s)
    (hP : ∀ o v s, Mut (some o) → P H v s → P (upd H d o) v s) : ∃ H', DPut H d (.str n) v H' ∧ DcAt P NS H' d (m.put n s) ∧ ∃ o, H' = upd H d o ∧ Mut (some o) := by
  obtain ⟨kvs, e, nm, h⟩ := h
  refine ⟨_, DPut.k (k := .inr n) (v := v) e (Nat.lt_of_le_of_lt nm.le hz), ⟨_, upd_same, nm.put hn v, fun x => ?_⟩, _, rfl, True.intro⟩
  rw [valV_put]
  unfold Mp.put
  by_cases q : x = n
  · subst q
    rw [if_pos rfl, if_pos rfl]
    exact hP _ _ _ True.intro hv
  · have q' : ¬ (Sum.inr x : Key) = Sum.inr n := fun z => q (Sum.inr.inj z)
    rw [if_neg q', if_neg q]
    have z := h x
    cases h1 : valV kvs (.inr x) <;> cases h2 : m x <;> rw [h1, h2] at z <;> first | exact z | exact hP _ _ _ True.intro z
theorem DcAt.putK {P : Hp → V → Str → Prop} {NS : List Str} {H : Hp} {d : Addr} {m : Mp} (h : DcAt P NS H d m) {n s : Str} {v : V} (hn : n ∈ NS) (hz : NS.length < sizeLine) (hv : P H v s)
    (hP : ∀ o v s, Mut (some o) → P H v s → P (upd H d o) v s) : ∃ kvs, H d = some (.dK kvs) ∧ kvs.length < sizeLine ∧ DcAt P NS (upd H d (.dK (L2.putK kvs (.inr n) v))) d (m.put n s) := by
  obtain ⟨kvs, e, nm, h⟩ := h
  refine ⟨kvs, e, Nat.lt_of_le_of_lt nm.le hz, ⟨_, upd_same, nm.put hn v, fun x => ?_⟩⟩
  rw [valV_put]
  unfold Mp.put
  by_cases q : x = n
  · subst q
    rw [if_pos rfl, if_pos rfl]
    exact hP _ _ _ True.intro hv
  · have q' : ¬ (Sum.inr x : Key) = Sum.inr n := fun z => q (Sum.inr.inj z)
    rw [if_neg q', if_neg q]
    have z := h x
    cases h1 : valV kvs (.inr x) <;> cases h2 : m x <;> rw [h1, h2] at z <;> first | exact z | exact hP _ _ _ True.intro z
/-- what a word is stays, when a dict or a list is written -/
theorem Kp.wr1 {H : Hp} {d : Addr} {o u : HO} (e : H d = some u) (m : Mut (some u)) (m' : Mut (some o)) : Kp [d] H (upd H d o) := (Kp.refl (fun c hc => by rw [List.mem_singleton.mp hc, e]; exact m)).put (List.mem_singleton.mpr rfl) m'
/-- d.pop(n, None) -/
theorem DcAt.del {P : Hp → V → Str → Prop} {NS : List Str} {H : Hp} {d : Addr} {m : Mp} (h : DcAt P NS H d m) (n : Str) (hP : ∀ o v s, Mut (some o) → P H v s → P (upd H d o) v s) :
    ∃ kvs, H d = some (.dK kvs) ∧ DcAt P NS (upd H d (.dK (dropK kvs (.inr n)))) d (m.del n) ∧ (valV kvs (.inr n) = none → DcAt P NS H d (m.del n)) := by
  obtain ⟨kvs, e, nm, h⟩ := h
  refine ⟨kvs, e, ⟨_, upd_same, nm.drop _, fun x => ?_⟩, fun hn => ⟨kvs, e, nm, fun x => ?_⟩⟩
  · rw [valV_drop]
    unfold Mp.del
    by_cases q : x = n
    · subst q
      rw [if_pos rfl, if_pos rfl]
      trivial
    · have q' : ¬ (Sum.inr x : Key) = Sum.inr n := fun z => q (Sum.inr.inj z)
      rw [if_neg q', if_neg q]
      have z := h x
      cases h1 : valV kvs (.inr x) <;> cases h2 : m x <;> rw [h1, h2] at z <;> first | exact z | exact hP _ _ _ True.intro z
  · unfold Mp.del
    by_cases q : x = n
    · subst q
      rw [if_pos rfl, hn]
      trivial
    · rw [if_neg q]
      exact h x
end EV
end

section
set_option Elab.async false
set_option linter.all false
set_option maxRecDepth 100000
set_option maxHeartbeats 4000000
/-! scopes and bindings -/
namespace EV
open PySem PySem.Spec PyProof.Rows L2
theorem sc_TooLong_init : FnScope ["self", "most"] ["self", "most"] (defScope s_TooLong_init) := ⟨rfl, rfl, rfl, by decide +kernel, rfl, by decide +kernel, by decide +kernel⟩
theorem b_TooLong_init {K : PySem.W.Frag} {mg : Str → Option Value} (T : Top K mg) : Binds K T.d_TooLong_init ["self", "most"] [] := T.F_TooLong_init.bindsN fun _ _ _ _ _ _ us hl => match us, hl with | [_, _], _ => rfl
theorem sc_is_name : FnScope ["thing", "sign"] ["thing"] (defScope s_is_name) := ⟨rfl, rfl, rfl, by decide +kernel, rfl, by decide +kernel, by decide +kernel⟩
theorem b_is_name {K : PySem.W.Frag} {mg : Str → Option Value} (T : Top K mg) : Binds K T.d_is_name ["thing"] [] := T.F_is_name.bindsN fun _ _ _ _ _ _ us hl => match us, hl with | [_], _ => rfl
theorem sc_is_plain : FnScope ["thing", "sign"] ["thing"] (defScope s_is_plain) := ⟨rfl, rfl, rfl, by decide +kernel, rfl, by decide +kernel, by decide +kernel⟩
theorem b_is_plain {K : PySem.W.Frag} {mg : Str → Option Value} (T : Top K mg) : Binds K T.d_is_plain ["thing"] [] := T.F_is_plain.bindsN fun _ _ _ _ _ _ us hl => match us, hl with | [_], _ => rfl
theorem sc_is_part : FnScope ["thing", "levels"] ["thing", "levels"] (defScope s_is_part) := ⟨rfl, rfl, rfl, by decide +kernel, rfl, by decide +kernel, by decide +kernel⟩
theorem b_is_part {K : PySem.W.Frag} {mg : Str → Option Value} (T : Top K mg) : Binds K T.d_is_part ["thing", "levels"] [] := T.F_is_part.bindsN fun _ _ _ _ _ _ us hl => match us, hl with | [_, _], _ => rfl
theorem sc_is_text_of : FnScope ["thing", "levels", "at", "piece"] ["thing", "levels"] (defScope s_is_text_of) := ⟨rfl, rfl, rfl, by decide +kernel, rfl, by decide +kernel, by decide +kernel⟩
theorem b_is_text_of {K : PySem.W.Frag} {mg : Str → Option Value} (T : Top K mg) : Binds K T.d_is_text_of ["thing", "levels"] [] := T.F_is_text_of.bindsN fun _ _ _ _ _ _ us hl => match us, hl with | [_, _], _ => rfl
theorem sc_is_text : FnScope ["thing"] ["thing"] (defScope s_is_text) := ⟨rfl, rfl, rfl, by decide +kernel, rfl, by decide +kernel, by decide +kernel⟩
theorem b_is_text {K : PySem.W.Frag} {mg : Str → Option Value} (T : Top K mg) : Binds K T.d_is_text ["thing"] [] := T.F_is_text.bindsN fun _ _ _ _ _ _ us hl => match us, hl with | [_], _ => rfl
theorem sc_is_row : FnScope ["thing"] ["thing"] (defScope s_is_row) := ⟨rfl, rfl, rfl, by decide +kernel, rfl, by decide +kernel, by decide +kernel⟩
theorem b_is_row {K : PySem.W.Frag} {mg : Str → Option Value} (T : Top K mg) : Binds K T.d_is_row ["thing"] [] := T.F_is_row.bindsN fun _ _ _ _ _ _ us hl => match us, hl with | [_], _ => rfl
theorem sc_text_of_row : FnScope ["row"] ["row"] (defScope s_text_of_row) := ⟨rfl, rfl, rfl, by decide +kernel, rfl, by decide +kernel, by decide +kernel⟩
theorem b_text_of_row {K : PySem.W.Frag} {mg : Str → Option Value} (T : Top K mg) : Binds K T.d_text_of_row ["row"] [] := T.F_text_of_row.bindsN fun _ _ _ _ _ _ us hl => match us, hl with | [_], _ => rfl
theorem sc_names_in_text : FnScope ["text", "found", "piece"] ["text"] (defScope s_names_in_text) := ⟨rfl, rfl, rfl, by decide +kernel, rfl, by decide +kernel, by decide +kernel⟩
theorem b_names_in_text {K : PySem.W.Frag} {mg : Str → Option Value} (T : Top K mg) : Binds K T.d_names_in_text ["text"] [] := T.F_names_in_text.bindsN fun _ _ _ _ _ _ us hl => match us, hl with | [_], _ => rfl
theorem sc_names_in : FnScope ["rows", "found", "row"] ["rows"] (defScope s_names_in) := ⟨rfl, rfl, rfl, by decide +kernel, rfl, by decide +kernel, by decide +kernel⟩
theorem b_names_in {K : PySem.W.Frag} {mg : Str → Option Value} (T : Top K mg) : Binds K T.d_names_in ["rows"] [] := T.F_names_in.bindsN fun _ _ _ _ _ _ us hl => match us, hl with | [_], _ => rfl
theorem sc_need_file : FnScope ["thing", "number", "row"] ["thing"] (defScope s_need_file) := ⟨rfl, rfl, rfl, by decide +kernel, rfl, by decide +kernel, by decide +kernel⟩
theorem b_need_file {K : PySem.W.Frag} {mg : Str → Option Value} (T : Top K mg) : Binds K T.d_need_file ["thing"] [] := T.F_need_file.bindsN fun _ _ _ _ _ _ us hl => match us, hl with | [_], _ => rfl
theorem sc_kind_of : FnScope ["sign"] ["sign"] (defScope s_kind_of) := ⟨rfl, rfl, rfl, by decide +kernel, rfl, by decide +kernel, by decide +kernel⟩
theorem b_kind_of {K : PySem.W.Frag} {mg : Str → Option Value} (T : Top K mg) : Binds K T.d_kind_of ["sign"] [] := T.F_kind_of.bindsN fun _ _ _ _ _ _ us hl => match us, hl with | [_], _ => rfl
theorem sc_is_hard : FnScope ["sign"] ["sign"] (defScope s_is_hard) := ⟨rfl, rfl, rfl, by decide +kernel, rfl, by decide +kernel, by decide +kernel⟩
theorem b_is_hard {K : PySem.W.Frag} {mg : Str → Option Value} (T : Top K mg) : Binds K T.d_is_hard ["sign"] [] := T.F_is_hard.bindsN fun _ _ _ _ _ _ us hl => match us, hl with | [_], _ => rfl
theorem sc_all_names : FnScope ["files", "names", "found", "file"] ["files", "names"] (defScope s_all_names) := ⟨rfl, rfl, rfl, by decide +kernel, rfl, by decide +kernel, by decide +kernel⟩
theorem b_all_names {K : PySem.W.Frag} {mg : Str → Option Value} (T : Top K mg) : Binds K T.d_all_names ["files", "names"] [] := T.F_all_names.bindsN fun _ _ _ _ _ _ us hl => match us, hl with | [_, _], _ => rfl
theorem sc_all_cases : FnScope ["names", "found", "name", "case", "state"] ["names"] (defScope s_all_cases) := ⟨rfl, rfl, rfl, by decide +kernel, rfl, by decide +kernel, by decide +kernel⟩
theorem b_all_cases {K : PySem.W.Frag} {mg : Str → Option Value} (T : Top K mg) : Binds K T.d_all_cases ["names"] [] := T.F_all_cases.bindsN fun _ _ _ _ _ _ us hl => match us, hl with | [_], _ => rfl
theorem sc_begun : FnScope ["case", "name", "state"] ["case"] (defScope s_begun) := ⟨rfl, rfl, rfl, by decide +kernel, rfl, by decide +kernel, by decide +kernel⟩
theorem b_begun {K : PySem.W.Frag} {mg : Str → Option Value} (T : Top K mg) : Binds K T.d_begun ["case"] [] := T.F_begun.bindsN fun _ _ _ _ _ _ us hl => match us, hl with | [_], _ => rfl
theorem sc_length_of : FnScope ["word", "item"] ["word"] (defScope s_length_of) := ⟨rfl, rfl, rfl, by decide +kernel, rfl, by decide +kernel, by decide +kernel⟩
theorem b_length_of {K : PySem.W.Frag} {mg : Str → Option Value} (T : Top K mg) : Binds K T.d_length_of ["word"] [] := T.F_length_of.bindsN fun _ _ _ _ _ _ us hl => match us, hl with | [_], _ => rfl
theorem sc_put_together : FnScope ["one", "other"] ["one", "other"] (defScope s_put_together) := ⟨rfl, rfl, rfl, by decide +kernel, rfl, by decide +kernel, by decide +kernel⟩
theorem b_put_together {K : PySem.W.Frag} {mg : Str → Option Value} (T : Top K mg) : Binds K T.d_put_together ["one", "other"] [] := T.F_put_together.bindsN fun _ _ _ _ _ _ us hl => match us, hl with | [_, _], _ => rfl
theorem sc_Stop_init : FnScope ["self", "message"] ["self", "message"] (defScope s_Stop_init) := ⟨rfl, rfl, rfl, by decide +kernel, rfl, by decide +kernel, by decide +kernel⟩
theorem b_Stop_init {K : PySem.W.Frag} {mg : Str → Option Value} (T : Top K mg) : Binds K T.d_Stop_init ["self", "message"] [] := T.F_Stop_init.bindsN fun _ _ _ _ _ _ us hl => match us, hl with | [_, _], _ => rfl
theorem sc_Runner_init : FnScope ["self", "values"] ["self", "values"] (defScope s_Runner_init) := ⟨rfl, rfl, rfl, by decide +kernel, rfl, by decide +kernel, by decide +kernel⟩
theorem b_Runner_init {K : PySem.W.Frag} {mg : Str → Option Value} (T : Top K mg) : Binds K T.d_Runner_init ["self", "values"] [] := T.F_Runner_init.bindsN fun _ _ _ _ _ _ us hl => match us, hl with | [_, _], _ => rfl
theorem sc_Runner_part : FnScope ["self", "piece", "spot", "name", "sign", "text", "is_set", "own", "lacks", "kind", "worth"] ["self", "piece", "spot"] (defScope s_Runner_part) := ⟨rfl, rfl, rfl, by decide +kernel, rfl, by decide +kernel, by decide +kernel⟩
theorem b_Runner_part {K : PySem.W.Frag} {mg : Str → Option Value} (T : Top K mg) : Binds K T.d_Runner_part ["self", "piece", "spot"] [] := T.F_Runner_part.bindsN fun _ _ _ _ _ _ us hl => match us, hl with | [_, _, _], _ => rfl
theorem sc_Runner_worked : FnScope ["self", "text", "spot", "found", "at", "piece", "more"] ["self", "text", "spot"] (defScope s_Runner_worked) := ⟨rfl, rfl, rfl, by decide +kernel, rfl, by decide +kernel, by decide +kernel⟩
theorem b_Runner_worked {K : PySem.W.Frag} {mg : Str → Option Value} (T : Top K mg) : Binds K T.d_Runner_worked ["self", "text", "spot"] [] := T.F_Runner_worked.bindsN fun _ _ _ _ _ _ us hl => match us, hl with | [_, _, _], _ => rfl
theorem sc_Runner_done_row : FnScope ["self", "number", "row", "worth"] ["self", "number", "row"] (defScope s_Runner_done_row) := ⟨rfl, rfl, rfl, by decide +kernel, rfl, by decide +kernel, by decide +kernel⟩
theorem b_Runner_done_row {K : PySem.W.Frag} {mg : Str → Option Value} (T : Top K mg) : Binds K T.d_Runner_done_row ["self", "number", "row"] [] := T.F_Runner_done_row.bindsN fun _ _ _ _ _ _ us hl => match us, hl with | [_, _, _], _ => rfl
theorem sc_Runner_run_rows : FnScope ["self", "rows", "number", "row", "e", "name"] ["self", "rows"] (defScope s_Runner_run_rows) := ⟨rfl, rfl, rfl, by decide +kernel, rfl, by decide +kernel, by decide +kernel⟩
theorem b_Runner_run_rows {K : PySem.W.Frag} {mg : Str → Option Value} (T : Top K mg) : Binds K T.d_Runner_run_rows ["self", "rows"] [] := T.F_Runner_run_rows.bindsN fun _ _ _ _ _ _ us hl => match us, hl with | [_, _], _ => rfl
theorem sc_spots_in : FnScope ["rows", "case", "runner"] ["rows", "case"] (defScope s_spots_in) := ⟨rfl, rfl, rfl, by decide +kernel, rfl, by decide +kernel, by decide +kernel⟩
theorem b_spots_in {K : PySem.W.Frag} {mg : Str → Option Value} (T : Top K mg) : Binds K T.d_spots_in ["rows", "case"] [] := T.F_spots_in.bindsN fun _ _ _ _ _ _ us hl => match us, hl with | [_, _], _ => rfl
theorem sc_environment_of : FnScope ["case", "name", "state"] ["case"] (defScope s_environment_of) := ⟨rfl, rfl, rfl, by decide +kernel, rfl, by decide +kernel, by decide +kernel⟩
theorem b_environment_of {K : PySem.W.Frag} {mg : Str → Option Value} (T : Top K mg) : Binds K T.d_environment_of ["case"] [] := T.F_environment_of.bindsN fun _ _ _ _ _ _ us hl => match us, hl with | [_], _ => rfl
theorem sc_least_environment : FnScope ["pairs", "found", "least", "case", "environment", "size", "name"] ["pairs"] (defScope s_least_environment) := ⟨rfl, rfl, rfl, by decide +kernel, rfl, by decide +kernel, by decide +kernel⟩
theorem b_least_environment {K : PySem.W.Frag} {mg : Str → Option Value} (T : Top K mg) : Binds K T.d_least_environment ["pairs"] [] := T.F_least_environment.bindsN fun _ _ _ _ _ _ us hl => match us, hl with | [_], _ => rfl
theorem sc_spots_of : FnScope ["text", "spot", "found", "at", "piece"] ["text", "spot"] (defScope s_spots_of) := ⟨rfl, rfl, rfl, by decide +kernel, rfl, by decide +kernel, by decide +kernel⟩
theorem b_spots_of {K : PySem.W.Frag} {mg : Str → Option Value} (T : Top K mg) : Binds K T.d_spots_of ["text", "spot"] [] := T.F_spots_of.bindsN fun _ _ _ _ _ _ us hl => match us, hl with | [_, _], _ => rfl
theorem sc_all_spots : FnScope ["rows", "found", "number", "row"] ["rows"] (defScope s_all_spots) := ⟨rfl, rfl, rfl, by decide +kernel, rfl, by decide +kernel, by decide +kernel⟩
theorem b_all_spots {K : PySem.W.Frag} {mg : Str → Option Value} (T : Top K mg) : Binds K T.d_all_spots ["rows"] [] := T.F_all_spots.bindsN fun _ _ _ _ _ _ us hl => match us, hl with | [_], _ => rfl
theorem sc_need_spot : FnScope ["spot", "rows", "at"] ["spot", "rows"] (defScope s_need_spot) := ⟨rfl, rfl, rfl, by decide +kernel, rfl, by decide +kernel, by decide +kernel⟩
theorem b_need_spot {K : PySem.W.Frag} {mg : Str → Option Value} (T : Top K mg) : Binds K T.d_need_spot ["spot", "rows"] [] := T.F_need_spot.bindsN fun _ _ _ _ _ _ us hl => match us, hl with | [_, _], _ => rfl
theorem sc_spots_by_case : FnScope ["file", "case"] ["file"] (defScope s_spots_by_case) := ⟨rfl, rfl, rfl, by decide +kernel, rfl, by decide +kernel, by decide +kernel⟩
theorem b_spots_by_case {K : PySem.W.Frag} {mg : Str → Option Value} (T : Top K mg) : Binds K T.d_spots_by_case ["file"] [] := T.F_spots_by_case.bindsN fun _ _ _ _ _ _ us hl => match us, hl with | [_], _ => rfl
theorem sc_dead : FnScope ["file", "met", "case", "spots", "spot"] ["file"] (defScope s_dead) := ⟨rfl, rfl, rfl, by decide +kernel, rfl, by decide +kernel, by decide +kernel⟩
theorem b_dead {K : PySem.W.Frag} {mg : Str → Option Value} (T : Top K mg) : Binds K T.d_dead ["file"] [] := T.F_dead.bindsN fun _ _ _ _ _ _ us hl => match us, hl with | [_], _ => rfl
theorem sc_taker : FnScope ["file", "spot", "case", "spots"] ["file", "spot"] (defScope s_taker) := ⟨rfl, rfl, rfl, by decide +kernel, rfl, by decide +kernel, by decide +kernel⟩
theorem b_taker {K : PySem.W.Frag} {mg : Str → Option Value} (T : Top K mg) : Binds K T.d_taker ["file", "spot"] [] := T.F_taker.bindsN fun _ _ _ _ _ _ us hl => match us, hl with | [_, _], _ => rfl
theorem sc_law_mixed : FnScope ["cell", "k"] ["cell", "k"] (defScope s_law_mixed) := ⟨rfl, rfl, rfl, by decide +kernel, rfl, by decide +kernel, by decide +kernel⟩
theorem b_law_mixed {K : PySem.W.Frag} {mg : Str → Option Value} (T : Top K mg) : Binds K T.d_law_mixed ["cell", "k"] [] := T.F_law_mixed.bindsN fun _ _ _ _ _ _ us hl => match us, hl with | [_, _], _ => rfl
theorem sc_law_begin : FnScope ["script", "cells", "cell"] ["script"] (defScope s_law_begin) := ⟨rfl, rfl, rfl, by decide +kernel, rfl, by decide +kernel, by decide +kernel⟩
theorem b_law_begin {K : PySem.W.Frag} {mg : Str → Option Value} (T : Top K mg) : Binds K T.d_law_begin ["script"] [] := T.F_law_begin.bindsN fun _ _ _ _ _ _ us hl => match us, hl with | [_], _ => rfl
theorem sc_law_draw : FnScope ["state", "many", "at", "place", "left", "number"] ["state", "many"] (defScope s_law_draw) := ⟨rfl, rfl, rfl, by decide +kernel, rfl, by decide +kernel, by decide +kernel⟩
theorem b_law_draw {K : PySem.W.Frag} {mg : Str → Option Value} (T : Top K mg) : Binds K T.d_law_draw ["state", "many"] [] := T.F_law_draw.bindsN fun _ _ _ _ _ _ us hl => match us, hl with | [_, _], _ => rfl
theorem sc_law_of : FnScope ["state", "some"] ["state", "some"] (defScope s_law_of) := ⟨rfl, rfl, rfl, by decide +kernel, rfl, by decide +kernel, by decide +kernel⟩
theorem b_law_of {K : PySem.W.Frag} {mg : Str → Option Value} (T : Top K mg) : Binds K T.d_law_of ["state", "some"] [] := T.F_law_of.bindsN fun _ _ _ _ _ _ us hl => match us, hl with | [_, _], _ => rfl
theorem sc_law_worked : FnScope ["env", "text", "seen", "found", "piece", "name", "sign", "inner", "is_lacking", "worked", "is_over"] ["env", "text", "seen"] (defScope s_law_worked) := ⟨rfl, rfl, rfl, by decide +kernel, rfl, by decide +kernel, by decide +kernel⟩
theorem b_law_worked {K : PySem.W.Frag} {mg : Str → Option Value} (T : Top K mg) : Binds K T.d_law_worked ["env", "text", "seen"] [] := T.F_law_worked.bindsN fun _ _ _ _ _ _ us hl => match us, hl with | [_, _, _], _ => rfl
theorem sc_law_run_seen : FnScope ["env", "rows", "seen", "row", "worked", "is_over"] ["env", "rows", "seen"] (defScope s_law_run_seen) := ⟨rfl, rfl, rfl, by decide +kernel, rfl, by decide +kernel, by decide +kernel⟩
theorem b_law_run_seen {K : PySem.W.Frag} {mg : Str → Option Value} (T : Top K mg) : Binds K T.d_law_run_seen ["env", "rows", "seen"] [] := T.F_law_run_seen.bindsN fun _ _ _ _ _ _ us hl => match us, hl with | [_, _, _], _ => rfl
theorem sc_law_names : FnScope ["state", "many", "some", "found", "k"] ["state", "many"] (defScope s_law_names) := ⟨rfl, rfl, rfl, by decide +kernel, rfl, by decide +kernel, by decide +kernel⟩
theorem b_law_names {K : PySem.W.Frag} {mg : Str → Option Value} (T : Top K mg) : Binds K T.d_law_names ["state", "many"] [] := T.F_law_names.bindsN fun _ _ _ _ _ _ us hl => match us, hl with | [_, _], _ => rfl
theorem sc_law_plain : FnScope ["state"] ["state"] (defScope s_law_plain) := ⟨rfl, rfl, rfl, by decide +kernel, rfl, by decide +kernel, by decide +kernel⟩
theorem b_law_plain {K : PySem.W.Frag} {mg : Str → Option Value} (T : Top K mg) : Binds K T.d_law_plain ["state"] [] := T.F_law_plain.bindsN fun _ _ _ _ _ _ us hl => match us, hl with | [_], _ => rfl
theorem sc_law_text : FnScope ["state", "names", "deep", "found", "k", "name", "sign"] ["state", "names", "deep"] (defScope s_law_text) := ⟨rfl, rfl, rfl, by decide +kernel, rfl, by decide +kernel, by decide +kernel⟩
theorem b_law_text {K : PySem.W.Frag} {mg : Str → Option Value} (T : Top K mg) : Binds K T.d_law_text ["state", "names", "deep"] [] := T.F_law_text.bindsN fun _ _ _ _ _ _ us hl => match us, hl with | [_, _, _], _ => rfl
theorem sc_law_row : FnScope ["state", "names", "way", "name"] ["state", "names"] (defScope s_law_row) := ⟨rfl, rfl, rfl, by decide +kernel, rfl, by decide +kernel, by decide +kernel⟩
theorem b_law_row {K : PySem.W.Frag} {mg : Str → Option Value} (T : Top K mg) : Binds K T.d_law_row ["state", "names"] [] := T.F_law_row.bindsN fun _ _ _ _ _ _ us hl => match us, hl with | [_, _], _ => rfl
theorem sc_law_file : FnScope ["state", "names", "most", "k"] ["state", "names", "most"] (defScope s_law_file) := ⟨rfl, rfl, rfl, by decide +kernel, rfl, by decide +kernel, by decide +kernel⟩
theorem b_law_file {K : PySem.W.Frag} {mg : Str → Option Value} (T : Top K mg) : Binds K T.d_law_file ["state", "names", "most"] [] := T.F_law_file.bindsN fun _ _ _ _ _ _ us hl => match us, hl with | [_, _, _], _ => rfl
theorem sc_law_worlds : FnScope ["names", "values", "found", "name", "more", "env", "value", "fresh"] ["names", "values"] (defScope s_law_worlds) := ⟨rfl, rfl, rfl, by decide +kernel, rfl, by decide +kernel, by decide +kernel⟩
theorem b_law_worlds {K : PySem.W.Frag} {mg : Str → Option Value} (T : Top K mg) : Binds K T.d_law_worlds ["names", "values"] [] := T.F_law_worlds.bindsN fun _ _ _ _ _ _ us hl => match us, hl with | [_, _], _ => rfl
theorem sc_law_is_long : FnScope ["names", "rows", "env", "seen"] ["names", "rows"] (defScope s_law_is_long) := ⟨rfl, rfl, rfl, by decide +kernel, rfl, by decide +kernel, by decide +kernel⟩
theorem b_law_is_long {K : PySem.W.Frag} {mg : Str → Option Value} (T : Top K mg) : Binds K T.d_law_is_long ["names", "rows"] [] := T.F_law_is_long.bindsN fun _ _ _ _ _ _ us hl => match us, hl with | [_, _], _ => rfl
theorem sc_law_is_refused : FnScope ["call", "caught", "e"] ["call"] (defScope s_law_is_refused) := ⟨rfl, rfl, rfl, by decide +kernel, rfl, by decide +kernel, by decide +kernel⟩
theorem b_law_is_refused {K : PySem.W.Frag} {mg : Str → Option Value} (T : Top K mg) : Binds K T.d_law_is_refused ["call"] [] := T.F_law_is_refused.bindsN fun _ _ _ _ _ _ us hl => match us, hl with | [_], _ => rfl
theorem sc_law_traced : FnScope ["env", "text", "spot", "met", "found", "at", "piece", "name", "sign", "inner", "is_lacking", "worked", "is_over"] ["env", "text", "spot", "met"] (defScope s_law_traced) := ⟨rfl, rfl, rfl, by decide +kernel, rfl, by decide +kernel, by decide +kernel⟩
theorem b_law_traced {K : PySem.W.Frag} {mg : Str → Option Value} (T : Top K mg) : Binds K T.d_law_traced ["env", "text", "spot", "met"] [] := T.F_law_traced.bindsN fun _ _ _ _ _ _ us hl => match us, hl with | [_, _, _, _], _ => rfl
theorem sc_law_met : FnScope ["env", "rows", "met", "number", "row", "worked", "is_over"] ["env", "rows"] (defScope s_law_met) := ⟨rfl, rfl, rfl, by decide +kernel, rfl, by decide +kernel, by decide +kernel⟩
theorem b_law_met {K : PySem.W.Frag} {mg : Str → Option Value} (T : Top K mg) : Binds K T.d_law_met ["env", "rows"] [] := T.F_law_met.bindsN fun _ _ _ _ _ _ us hl => match us, hl with | [_, _], _ => rfl
theorem sc_law_spots : FnScope ["text", "spot", "found", "at", "piece"] ["text", "spot"] (defScope s_law_spots) := ⟨rfl, rfl, rfl, by decide +kernel, rfl, by decide +kernel, by decide +kernel⟩
theorem b_law_spots {K : PySem.W.Frag} {mg : Str → Option Value} (T : Top K mg) : Binds K T.d_law_spots ["text", "spot"] [] := T.F_law_spots.bindsN fun _ _ _ _ _ _ us hl => match us, hl with | [_, _], _ => rfl
theorem sc_law_size : FnScope ["env", "value"] ["env"] (defScope s_law_size) := ⟨rfl, rfl, rfl, by decide +kernel, rfl, by decide +kernel, by decide +kernel⟩
theorem b_law_size {K : PySem.W.Frag} {mg : Str → Option Value} (T : Top K mg) : Binds K T.d_law_size ["env"] [] := T.F_law_size.bindsN fun _ _ _ _ _ _ us hl => match us, hl with | [_], _ => rfl
theorem sc_law_file_right : FnScope ["names", "rows", "every", "least", "number", "row", "env", "spot", "due", "found", "name"] ["names", "rows"] (defScope s_law_file_right) := ⟨rfl, rfl, rfl, by decide +kernel, rfl, by decide +kernel, by decide +kernel⟩
theorem b_law_file_right {K : PySem.W.Frag} {mg : Str → Option Value} (T : Top K mg) : Binds K T.d_law_file_right ["names", "rows"] [] := T.F_law_file_right.bindsN fun _ _ _ _ _ _ us hl => match us, hl with | [_, _], _ => rfl
theorem sc_law : FnScope ["script", "state", "turn", "names", "inner", "row", "rows", "some", "found", "spot", "env"] ["script"] (defScope s_law) := ⟨rfl, rfl, rfl, by decide +kernel, rfl, by decide +kernel, by decide +kernel⟩
theorem b_law {K : PySem.W.Frag} {mg : Str → Option Value} (T : Top K mg) : Binds K T.d_law ["script"] [] := T.F_law.bindsN fun _ _ _ _ _ _ us hl => match us, hl with | [_], _ => rfl
end EV
end

section
set_option Elab.async false
set_option linter.all false
set_option maxRecDepth 100000
set_option maxHeartbeats 4000000
/-! words used in every body -/
namespace EV
open PySem PySem.Spec PyProof.Rows L2
theorem bt_len : bootBuiltins "len" = some (.builtin "len") := by decide +kernel
theorem bt_isinstance : bootBuiltins "isinstance" = some (.builtin "isinstance") := by decide +kernel
theorem bt_all : bootBuiltins "all" = some (.builtin "all") := by decide +kernel
theorem bt_sum : bootBuiltins "sum" = some (.builtin "sum") := by decide +kernel
theorem bt_max : bootBuiltins "max" = some (.builtin "max") := by decide +kernel
theorem bt_min : bootBuiltins "min" = some (.builtin "min") := by decide +kernel
theorem bt_sorted : bootBuiltins "sorted" = some (.builtin "sorted") := by decide +kernel
theorem bt_repr : bootBuiltins "repr" = some (.builtin "repr") := by decide +kernel
theorem bt_str : bootBuiltins "str" = some (.type "str") := by decide +kernel
theorem bt_int : bootBuiltins "int" = some (.type "int") := by decide +kernel
theorem bt_bool : bootBuiltins "bool" = some (.type "bool") := by decide +kernel
theorem bt_dict : bootBuiltins "dict" = some (.type "dict") := by decide +kernel
theorem bt_list : bootBuiltins "list" = some (.type "list") := by decide +kernel
theorem bt_tuple : bootBuiltins "tuple" = some (.type "tuple") := by decide +kernel
theorem bt_set : bootBuiltins "set" = some (.type "set") := by decide +kernel
theorem ty_tup {K : PySem.W.Frag} {H : Hp} {a : Addr} {xs : List V} (h : SqT K H a xs) : TyX K H (.ref a) (.type "tuple") := by
  rcases h with (h | ⟨o, h⟩) | ⟨o, its, n, h, c, _⟩
  · exact .base (.tup h)
  · exact .fTuple h
  · exact .kTuple h c
theorem ki_ss {K : PySem.W.Frag} : PySem.W.kitOne K (.type "str") (.type "str") = some true := by kernel_rfl
theorem ki_ts {K : PySem.W.Frag} : PySem.W.kitOne K (.type "tuple") (.type "str") = some false := by kernel_rfl
theorem ki_st {K : PySem.W.Frag} : PySem.W.kitOne K (.type "str") (.type "tuple") = some false := by kernel_rfl
theorem ki_tt {K : PySem.W.Frag} : PySem.W.kitOne K (.type "tuple") (.type "tuple") = some true := by kernel_rfl
theorem ki_ii {K : PySem.W.Frag} : PySem.W.kitOne K (.type "int") (.type "int") = some true := by kernel_rfl
theorem ki_ib {K : PySem.W.Frag} : PySem.W.kitOne K (.type "int") (.type "bool") = some false := by kernel_rfl
theorem ki_dd {K : PySem.W.Frag} : PySem.W.kitOne K (.type "dict") (.type "dict") = some true := by kernel_rfl
section
variable {K : PySem.W.Frag} {H : Hp} {x : Str} {a : Addr} {xs : List V} {Q : VK}
/-- isinstance: a text, a tuple -/
theorem is_ss (q : Q (.bl true) H) : rIsi K [.str x, .ty "str"] H Q := ⟨_, _, _, _, _, rfl, .ty _, .base (.str x), ki_ss, q⟩
theorem is_ts (h : SqT K H a xs) (q : Q (.bl false) H) : rIsi K [.ref a, .ty "str"] H Q := ⟨_, _, _, _, _, rfl, .ty _, ty_tup h, ki_ts, q⟩
theorem is_st (q : Q (.bl false) H) : rIsi K [.str x, .ty "tuple"] H Q := ⟨_, _, _, _, _, rfl, .ty _, .base (.str x), ki_st, q⟩
theorem is_tt (h : SqT K H a xs) (q : Q (.bl true) H) : rIsi K [.ref a, .ty "tuple"] H Q := ⟨_, _, _, _, _, rfl, .ty _, ty_tup h, ki_tt, q⟩
end
def rLenS : List V → Hp → VK → Prop := fun vs H Q => ∃ s : Str, vs = [.str s] ∧ s.length ≤ sizeLine ∧ Q (.int (s.length : Nat)) H
theorem cr_lenS {X : Cx} : CallR X (.builtin "len") rLenS := by
  intro pins s σ H xs us Q I r h
  obtain ⟨x, rfl, hz, q⟩ := h
  exact call_len pins s σ H _ us Q I r ⟨.str x, x.length, rfl, ⟨hz, rfl⟩, q⟩
def rLenQ (K : PySem.W.Frag) : List V → Hp → VK → Prop := fun vs H Q => ∃ (p : Addr) (xs : List V), vs = [.ref p] ∧ (SqL K H p xs ∨ SqT K H p xs) ∧ Q (.int (xs.length : Nat)) H
theorem cr_lenQ {X : Cx} : CallR X (.builtin "len") (rLenQ X.K) := by
  intro pins s σ H xs us Q I r h
  obtain ⟨p, ys, rfl, hq, q⟩ := h
  exact call_len pins s σ H _ us Q I r ⟨.ref p, ys.length, rfl, hq.imp (fun z => ⟨ys, z, rfl⟩) (fun z => ⟨ys, z, rfl⟩), q⟩
def rLenAny (K : PySem.W.Frag) : List V → Hp → VK → Prop := fun vs H Q => ∃ (x : V) (n : Nat), vs = [x] ∧ LenV K x H n ∧ Q (.int n) H
theorem cr_lenAny {X : Cx} : CallR X (.builtin "len") (rLenAny X.K) := call_len
section
variable {K : PySem.W.Frag} {H : Hp} {a b : Addr} {xs ys : List V} {Q : VK}
/-- t + u -/
theorem catA (ha : SqT K H a xs) (hb : SqT K H b ys) (hz : xs.length + ys.length ≤ sizeLine) (q : ∀ p H', Kp [] H H' → SqT K H' p (xs ++ ys) → Q (.ref p) H') : rCatA K (.ref a) (.ref b) H Q :=
  ⟨a, b, xs, ys, rfl, rfl, ha, hb, hz, fun e => q b H (Kp.nil H) (by rw [e]; exact hb), fun _ e => q a H (Kp.nil H) (by rw [e, List.append_nil]; exact ha), fun _ _ p hp => q p _ ((Kp.nil H).new _ hp) (.inl (.inl upd_same))⟩
/-- .. of tuples that are tracked -/
theorem catH (ha : H a = some (.tup xs)) (hb : H b = some (.tup ys)) (hz : xs.length + ys.length ≤ sizeLine) (q : ∀ p H', Kp [] H H' → H' p = some (.tup (xs ++ ys)) → Q (.ref p) H') : rCatA K (.ref a) (.ref b) H Q :=
  ⟨a, b, xs, ys, rfl, rfl, .inl (.inl ha), .inl (.inl hb), hz, fun e => q b H (Kp.nil H) (by rw [e]; exact hb), fun _ e => q a H (Kp.nil H) (by rw [e, List.append_nil]; exact ha), fun _ _ p hp => q p _ ((Kp.nil H).new _ hp) upd_same⟩
/-- t[lo:hi] -/
theorem slA {lo hi : Option Int} (ha : SqT K H a xs) (q : ∀ p H', Kp [] H H' → SqT K H' p (cutV xs lo hi) → Q (.ref p) H') : rSlA K (.ref a) lo hi H Q :=
  ⟨a, xs, rfl, ha, fun ⟨e1, e2⟩ => q a H (Kp.nil H) (by unfold cutV; rw [e1, e2, List.drop_zero, Nat.sub_zero, List.take_length]; exact ha), fun _ p hp => q p _ ((Kp.nil H).new _ hp) (.inl (.inl upd_same))⟩
end
theorem cut_init (xs : List V) (v : V) : cutV (xs ++ [v]) none (some (-1)) = xs := by
  unfold cutV
  rw [HT.sIx_none, List.drop_zero, Nat.sub_zero]
  have e : HT.sIx (xs ++ [v]).length (xs ++ [v]).length (some (-1)) = xs.length := by
    unfold HT.sIx
    rw [List.length_append]
    simp
    omega
  rw [e, List.take_left]
theorem cut_tail (x : V) (xs : List V) : cutV (x :: xs) (some 1) none = xs := by
  unfold cutV
  rw [HT.sIx_none, show HT.sIx (x :: xs).length 0 (some 1) = min 1 (x :: xs).length from HT.sIx_nat _ 0 1, List.length_cons, show min 1 (xs.length + 1) = 1 by omega]
  show List.take (xs.length + 1 - 1) xs = xs
  rw [Nat.add_sub_cancel, List.take_length]
theorem sz1 {a : V} : [a].length ≤ sizeLine := by rw [sizeLine_eq]; simp only [List.length_cons, List.length_nil]; omega
theorem sz2 {a b : V} : [a, b].length ≤ sizeLine := by rw [sizeLine_eq]; simp only [List.length_cons, List.length_nil]; omega
theorem sz3 {a b c : V} : [a, b, c].length ≤ sizeLine := by rw [sizeLine_eq]; simp only [List.length_cons, List.length_nil]; omega
/-- a walk within a comprehension, whatever its turn is -/
theorem lc_gen {J : It} {n : Nat} {G : Hp → Prop} {Y : Nat → Hp → V → Hp → Prop} (w : Walk J n G Y) {B : (Hp → Prop) → V → Hp → Prop} {H0 : Hp} {Qd : Hp → Prop} (Pv : Nat → Hp → Prop) (h0 : Pv 0 H0) (hG : ∀ i H, i ≤ n → Pv i H → G H)
    (hs : ∀ i x H H', i < n → Pv i H → Y i H x H' → B (Pv (i + 1)) x H') (hd : ∀ H, Pv n H → Qd H) :
    ∃ W : Nat → Nat → Hp → Prop, (∃ m, W 0 m H0) ∧ ∀ i m H, W i m H →
      (J.stop i H ∧ Qd H) ∨ (J.go i H ∧ ∃ Nx : Hp → Prop, (∀ H', Nx H' → ∃ m', m' < m ∧ W (i + 1) m' H') ∧ ∀ x H', J.yld i H x H' → B Nx x H') := by
  refine ⟨fun i m H => i + m = n ∧ Pv i H, ⟨n, Nat.zero_add n, h0⟩, fun i m H p => ?_⟩
  have q := hG i H (by omega) p.2
  cases m with
  | zero =>
    obtain rfl : i = n := p.1
    exact .inl ⟨w.stops H q, hd H p.2⟩
  | succ m =>
    have lt : i < n := by omega
    exact .inr ⟨w.goes i H lt q, Pv (i + 1), fun H' p' => ⟨m, Nat.lt_succ_self m, by omega, p'⟩, fun x H' y => hs i x H H' lt p.2 (w.yields i H x H' lt q y)⟩
/-- what is never reached -/
theorem pe_never {X : Cx} {e : Expr} : PE X e fun _ _ _ => False := ⟨fun _ _ _ _ _ _ h => h.elim⟩
theorem pt_never {X : Cx} {e : Expr} : PT X e fun _ _ _ => False := ⟨fun _ _ _ _ _ _ h => h.elim⟩
theorem pe_k {X : Cx} {x : Str} {v : V} {pos : Pos} (hg : Gl X x) (h : ∃ u, X.mg x = some u ∧ RelV v u) (hd : (x == ("__debug__" : Str)) = false := by decide) : PE X (.Name x pos) (tC v) := let ⟨_, hm, r⟩ := h; pe_glob hg hm r hd
theorem rm_cl {k : Nat} {A : Around} (r : Room k A) {n : Nat} (h : n ≤ 200) : A.units + n < cLine := by have := r.un; omega
theorem rm_cl0 {k : Nat} {A : Around} (r : Room k A) : A.units < cLine := by have := r.un; omega
theorem if_t {c : Bool} {A B : Prop} (hc : c = true) (h : A) : if c = true then A else B := by rw [if_pos hc]; exact h
theorem if_f {c : Bool} {A B : Prop} (hc : c = false) (h : B) : if c = true then A else B := by rw [hc, if_neg Bool.false_ne_true]; exact h
end EV
end

section
set_option Elab.async false
set_option linter.all false
set_option maxRecDepth 100000
set_option maxHeartbeats 4000000
/-! bodies: signs, names, plain texts -/
namespace EV
open PySem PySem.Spec PyProof.Rows L2
def Sg.kind : Sg → Str | .no => "" | .op _ k => k.str
def Sg.hard : Sg → Bool | .no => false | .op h _ => h
section
variable {P : Program} {w : World} {K : PySem.W.Frag} {mg : Str → Option Value} {base : Heap}
def spKind : Sp := fun vs H Q _ => ∃ g : Sg, vs = [.str g.str] ∧ Q (.str g.kind) H
theorem kind_cut (g : Sg) : cutS g.str (some (-1)) none = g.kind := by
  cases g with
  | no => decide +kernel
  | op h k => cases h <;> cases k <;> decide +kernel
theorem sg_small (g : Sg) : g.str.length ≤ sizeLine := by
  cases g with
  | no => decide +kernel
  | op h k => cases h <;> cases k <;> decide +kernel
theorem ok_kind_of (T : Top K mg) : FnOk P w K mg base CX0 1 T.a_kind_of T.d_kind_of ["sign"] spKind := by
  refine T.F_kind_of.ok sc_kind_of (fun vs H Q E h => ?_) (fun cdv A outer s H vs Q E hr h => ?_)
  · obtain ⟨g, rfl, _⟩ := h
    rfl
  · obtain ⟨g, rfl, q⟩ := h
    refine ⟨_, PSs.nox (pss_one (ps_ret (pe_slice sl_str (pv 0) (po_some (pe_un un_neg pe_int)) po_none))), ?_⟩
    refine ⟨_, rfl, 1, rfl, -1, rfl, g.str, rfl, sg_small g, ?_⟩
    rw [kind_cut]
    exact q
def spHard : Sp := fun vs H Q _ => ∃ g : Sg, vs = [.str g.str] ∧ Q (.bl g.hard) H
theorem hard_cut (g : Sg) : decide (V.str (cutS g.str none (some 1)) = V.str ":") = g.hard := by
  cases g with
  | no => decide +kernel
  | op h k => cases h <;> cases k <;> decide +kernel
theorem ok_is_hard (T : Top K mg) : FnOk P w K mg base CX0 1 T.a_is_hard T.d_is_hard ["sign"] spHard := by
  refine T.F_is_hard.ok sc_is_hard (fun vs H Q E h => ?_) (fun cdv A outer s H vs Q E hr h => ?_)
  · obtain ⟨g, rfl, _⟩ := h
    rfl
  · obtain ⟨g, rfl, q⟩ := h
    refine ⟨_, PSs.nox (pss_one (ps_ret (pe_cmpR (op_eq) (pe_slice sl_str (pv 0) po_none (po_some pe_int)) pe_str (nomark _)))), ?_⟩
    refine ⟨_, rfl, 1, rfl, g.str, rfl, sg_small g, rfl, ?_⟩
    rw [hard_cut]
    exact q
/-! names and plain texts -/
theorem all_true {l : List Bool} (h : ∀ b ∈ l, b = true) : l.all id = true := List.all_eq_true.mpr h
/-- the signs of a text, each asked by p, in a new list -/
def spName : Sp := fun vs H Q _ => ∃ n : Str, vs = [.str n] ∧ nameOk n = true ∧ ∀ H', Kp [] H H' → Q (.bl true) H'
theorem caps : (("ABCDEFGHIJKLMNOPQRSTUVWXYZ" : Str) ++ "_").cps.toList = [65, 66, 67, 68, 69, 70, 71, 72, 73, 74, 75, 76, 77, 78, 79, 80, 81, 82, 83, 84, 85, 86, 87, 88, 89, 90, 95] := by decide +kernel
theorem cap_mem {c : Nat} (h : capital c = true) : c ∈ [65, 66, 67, 68, 69, 70, 71, 72, 73, 74, 75, 76, 77, 78, 79, 80, 81, 82, 83, 84, 85, 86, 87, 88, 89, 90, 95] := by
  simp only [capital, Bool.or_eq_true, decide_eq_true_eq] at h
  simp only [List.mem_cons, List.not_mem_nil, or_false]
  omega
theorem ok_is_name (T : Top K mg) : FnOk P w K mg base CX0 1 T.a_is_name T.d_is_name ["thing"] spName := by
  refine T.F_is_name.ok sc_is_name (fun vs H Q E h => ?_) (fun cdv A outer s H vs Q E hr h => ?_)
  · obtain ⟨g, rfl, _⟩ := h
    rfl
  · obtain ⟨n, rfl, hn, q⟩ := h
    refine ⟨_, PSs.nox (pss_cons (ps_if (PW.pt (pw_or (pt_not (pt_val (pe_callB (r := rIsi K) call_isi rfl T.n_isinstance bt_isinstance (pa_cons (pv 0) (pa_cons (pe_bltn (v := .ty "str") rfl T.n_str bt_str rfl) pa_nil))))) (pw_or1 (pt_not (pt_chain (op_le) (op_le) pe_int (pe_callB cr_lenS rfl T.n_len bt_len (pa_cons (pv 0) pa_nil)) (pe_k rfl T.k_MOST_IN_NAME)))))) (pss_one (ps_ret pe_bl)) pss_nil) (pss_one (ps_ret (pe_and (pe_cmpR (op_ne) (pe_ix ix_str (pv 0) pe_int (fun _ _ => rfl)) pe_str (nomark _)) (pe_one (pe_callB (r := rAll K) (cr_all rfl) rfl T.n_all bt_all (pa_cons (pe_lc rfl sc_is_name.nd (pi_str (pv 0)) (blkOk_by (own := [("sign", 1)]) (by kernel_rfl)) (fun _ _ _ _ _ => (pg_name (i := 1) sc_is_name.nd rfl (.inl rfl))) (fun _ _ _ _ _ => pts_nil) (fun _ _ _ _ _ => (pe_cmpR (op_in_sign) (pv 1) (pe_op (op_add_str) (pe_k rfl T.k_CAPITALS) pe_str) rfl))) pa_nil))))))), ?_⟩
    obtain ⟨h1, h3⟩ := Bool.and_eq_true_iff.mp hn
    obtain ⟨h1, h2⟩ := Bool.and_eq_true_iff.mp h1
    have h1 := of_decide_eq_true h1
    have h3 := of_decide_eq_true h3
    have hl : n.length = n.cps.toList.length := str_len n
    -- if not isinstance(thing, str) or not 1 <= len(thing) <= 8
    refine ⟨_, rfl, _, _, _, _, _, rfl, .ty _, .base (.str _), ki_ss, _, rfl, if_f rfl ?_⟩
    refine ⟨_, rfl, n, rfl, by rw [hl, sizeLine_eq]; omega, 1, n.length, rfl, rfl, _, rfl, if_t (decide_eq_true (by rw [hl]; omega)) ?_⟩
    refine ⟨n.length, 8, rfl, rfl, _, rfl, ?_⟩
    rw [decide_eq_true (show (n.length : Int) ≤ 8 by rw [hl]; omega)]
    refine if_f rfl ?_
    -- return thing[0] != '_' and all(..)
    obtain ⟨c, cs, hc⟩ : ∃ c cs, n.cps.toList = c :: cs := by
      cases e : n.cps.toList with
      | nil => rw [e] at h1; exact absurd h1.1 (by decide)
      | cons c cs => exact ⟨c, cs, rfl⟩
    refine ⟨_, rfl, n, 0, c, rfl, rfl, by rw [hl, sizeLine_eq]; omega, by rw [hc]; exact atI_nat (j := 0) rfl, rfl, _, rfl, ?_⟩
    have hc2 : c ≠ 95 := fun z => h3 (by rw [hc, z]; rfl)
    refine if_t ?_ ?_
    · have ne : ¬ V.str ⟨#[c]⟩ = V.str "_" := fun z => hc2 (by
        have e := congrArg (fun s : Str => s.cps.toList) (V.str.inj z)
        have e2 : ([c] : List Nat) = [95] := e.trans (by decide +kernel)
        exact (List.cons.inj e2).1)
      rw [decide_eq_false ne]; rfl
    refine ⟨_, rfl, n, rfl, fun D hD => lc_it walk_str (fun i H' => ∃ bs : List Bool, bs.length = i ∧ (∀ b ∈ bs, b = true) ∧ Kp [] H H' ∧ H' D = some (.lst (bs.map V.bl)))
      ⟨[], rfl, (fun _ hb => nomatch hb), (Kp.nil H).new _ hD, upd_same⟩ (fun _ _ _ _ => trivial) ?_ ?_⟩
    · rintro i x H1 H2 hi ⟨bs, hlen, hbs, kp, hb⟩ ⟨rfl, c, hcc, rfl⟩
      have hm : c ∈ n.cps.toList := List.mem_of_getElem? (by rw [Array.getElem?_toList]; exact hcc)
      have hcap := List.all_eq_true.mp h2 c hm
      refine ⟨rfl, _, rfl, _, _, rfl, rfl, by decide +kernel, c, _, rfl, rfl, _, hb, ?_, ?_⟩
      · rw [List.length_map, hlen, sizeLine_eq]
        have : n.cps.size = n.cps.toList.length := (Array.length_toList).symm
        omega
      · refine ⟨bs ++ [true], by rw [List.length_append, hlen]; rfl, fun b hb => ?_, kp.own hD, ?_⟩
        · rcases List.mem_append.mp hb with z | z
          · exact hbs b z
          · exact List.mem_singleton.mp z
        · rw [upd_same, List.map_append, caps, decide_eq_true (cap_mem hcap)]
          rfl
    · rintro H1 ⟨bs, hlen, hbs, kp, hb⟩
      refine ⟨D, bs, rfl, .inl (.inl hb), ?_⟩
      rw [all_true hbs]
      exact q H1 kp
def spPlain (K : PySem.W.Frag) : Sp := fun vs H Q _ => (∃ s : Str, vs = [.str s] ∧ plainOk s = true ∧ ∀ H', Kp [] H H' → Q (.bl true) H') ∨ ∃ (a : Addr) (xs : List V), vs = [.ref a] ∧ SqT K H a xs ∧ Q (.bl false) H
theorem plains : ("abcdefghijklmnopqrstuvwxyz0123456789 _./:=,@-" : Str).cps.toList = plainCps := by decide +kernel
theorem ok_is_plain (T : Top K mg) : FnOk P w K mg base CX0 1 T.a_is_plain T.d_is_plain ["thing"] (spPlain K) := by
  refine T.F_is_plain.ok sc_is_plain (fun vs H Q E h => ?_) (fun cdv A outer s H vs Q E hr h => ?_)
  · rcases h with ⟨g, rfl, _⟩ | ⟨a, xs, rfl, _⟩ <;> rfl
  · refine ⟨_, PSs.nox (pss_cons (ps_if (PW.pt (pw_or (pt_not (pt_val (pe_callB (r := rIsi K) call_isi rfl T.n_isinstance bt_isinstance (pa_cons (pv 0) (pa_cons (pe_bltn (v := .ty "str") rfl T.n_str bt_str rfl) pa_nil))))) (pw_or1 (pt_not (pt_chain (op_le) (op_le) pe_int (pe_callB cr_lenS rfl T.n_len bt_len (pa_cons (pv 0) pa_nil)) (pe_k rfl T.k_MOST_PLAIN)))))) (pss_one (ps_ret pe_bl)) pss_nil) (pss_one (ps_ret (pe_callB (r := rAll K) (cr_all rfl) rfl T.n_all bt_all (pa_cons (pe_lc rfl sc_is_plain.nd (pi_str (pv 0)) (blkOk_by (own := [("sign", 1)]) (by kernel_rfl)) (fun _ _ _ _ _ => (pg_name (i := 1) sc_is_plain.nd rfl (.inl rfl))) (fun _ _ _ _ _ => pts_nil) (fun _ _ _ _ _ => (pe_cmpR (op_in_sign) (pv 1) (pe_k rfl T.k_PLAIN_SIGNS) rfl))) pa_nil))))), ?_⟩
    rcases h with ⟨n, rfl, hn, q⟩ | ⟨a, xs, rfl, hq, q⟩
    · obtain ⟨h1, h2⟩ := Bool.and_eq_true_iff.mp hn
      have h1 := of_decide_eq_true h1
      have hl : n.length = n.cps.toList.length := str_len n
      refine ⟨_, rfl, _, _, _, _, _, rfl, .ty _, .base (.str _), ki_ss, _, rfl, if_f rfl ?_⟩
      refine ⟨_, rfl, n, rfl, by rw [hl, sizeLine_eq]; omega, 1, n.length, rfl, rfl, _, rfl, if_t (decide_eq_true (by rw [hl]; omega)) ?_⟩
      refine ⟨n.length, 20, rfl, rfl, _, rfl, ?_⟩
      rw [decide_eq_true (show (n.length : Int) ≤ 20 by rw [hl]; omega)]
      refine if_f rfl ?_
      refine ⟨_, rfl, n, rfl, fun D hD => lc_it walk_str (fun i H' => ∃ bs : List Bool, bs.length = i ∧ (∀ b ∈ bs, b = true) ∧ Kp [] H H' ∧ H' D = some (.lst (bs.map V.bl)))
        ⟨[], rfl, (fun _ hb => nomatch hb), (Kp.nil H).new _ hD, upd_same⟩ (fun _ _ _ _ => trivial) ?_ ?_⟩
      · rintro i x H1 H2 hi ⟨bs, hlen, hbs, kp, hb⟩ ⟨rfl, c, hcc, rfl⟩
        have hm : c ∈ n.cps.toList := List.mem_of_getElem? (by rw [Array.getElem?_toList]; exact hcc)
        have hcap := List.all_eq_true.mp h2 c hm
        refine ⟨rfl, _, rfl, c, _, rfl, rfl, _, hb, ?_, ?_⟩
        · rw [List.length_map, hlen, sizeLine_eq]
          have : n.cps.size = n.cps.toList.length := (Array.length_toList).symm
          omega
        · refine ⟨bs ++ [true], by rw [List.length_append, hlen]; rfl, fun b hb => ?_, kp.own hD, ?_⟩
          · rcases List.mem_append.mp hb with z | z
            · exact hbs b z
            · exact List.mem_singleton.mp z
          · rw [upd_same, List.map_append, plains, decide_eq_true (List.contains_iff_mem.mp hcap)]
            rfl
      · rintro H1 ⟨bs, hlen, hbs, kp, hb⟩
        refine ⟨D, bs, rfl, .inl (.inl hb), ?_⟩
        rw [all_true hbs]
        exact q H1 kp
    · refine ⟨_, rfl, _, _, _, _, _, rfl, .ty _, ty_tup hq, ki_ts, _, rfl, if_t rfl (if_t rfl q)⟩
/-! a row's text -/
theorem nil_text {K : PySem.W.Frag} {H : Hp} {c : Addr} (h : SqT K H c []) : TextAt K H c .nil := ⟨[], h, rfl⟩
def spTextOf (K : PySem.W.Frag) : Sp := fun vs H Q _ => ∃ (a : Addr) (r : Row), vs = [.ref a] ∧ RowAt K H a r ∧ ∀ (c : Addr) (H' : Hp), Kp [] H H' → TextAt K H' c r.text → Q (.ref c) H'
theorem ok_text_of_row (T : Top K mg) : FnOk P w K mg base CX0 1 T.a_text_of_row T.d_text_of_row ["row"] (spTextOf K) := by
  refine T.F_text_of_row.ok sc_text_of_row (fun vs H Q E h => ?_) (fun cdv A outer s H vs Q E hr h => ?_)
  · obtain ⟨a, r, rfl, _⟩ := h
    rfl
  · obtain ⟨a, r, rfl, hr1, q⟩ := h
    refine ⟨_, PSs.nox (pss_one (ps_ret (pe_ifExp (pt_cmpR (op_eq) (pe_ix (r := rIxT K) ix_tup (pv 0) pe_int (fun _ _ => rfl)) (pe_k rfl T.k_DROP) (nomark _)) (pe_tup pa_nil) (pe_ix (r := rIxT K) ix_tup (pv 0) (pe_un un_neg pe_int) (fun _ _ => rfl))))), ?_⟩
    cases r with
    | drop n =>
      refine ⟨_, rfl, a, _, 0, _, rfl, rfl, hr1, atI_nat (j := 0) rfl, rfl, _, rfl, if_t (by decide) ⟨Nat.zero_le _, fun p hp => ?_⟩⟩
      exact q p _ ((Kp.nil H).new _ hp) (nil_text (.inl (.inl upd_same)))
    | set n t =>
      obtain ⟨c, h1, h2⟩ := hr1
      exact ⟨_, rfl, a, _, 0, _, rfl, rfl, h1, atI_nat (j := 0) rfl, rfl, _, rfl, if_f (by decide) ⟨_, rfl, 1, rfl, a, _, -1, .ref c, rfl, rfl, h1, atI_last [_, _] _, q c H (Kp.nil H) h2⟩⟩
    | give n t =>
      obtain ⟨c, h1, h2⟩ := hr1
      exact ⟨_, rfl, a, _, 0, _, rfl, rfl, h1, atI_nat (j := 0) rfl, rfl, _, rfl, if_f (by decide) ⟨_, rfl, 1, rfl, a, _, -1, .ref c, rfl, rfl, h1, atI_last [_, _] _, q c H (Kp.nil H) h2⟩⟩
    | check t =>
      obtain ⟨c, h1, h2⟩ := hr1
      exact ⟨_, rfl, a, _, 0, _, rfl, rfl, h1, atI_nat (j := 0) rfl, rfl, _, rfl, if_f (by decide) ⟨_, rfl, 1, rfl, a, _, -1, .ref c, rfl, rfl, h1, atI_last [_] _, q c H (Kp.nil H) h2⟩⟩
end
end EV
end

section
set_option Elab.async false
set_option linter.all false
set_option maxRecDepth 100000
set_option maxHeartbeats 4000000
/-! bodies: is it a text -/
namespace EV
open PySem PySem.Spec PyProof.Rows L2
section
variable {P : Program} {w : World} {K : PySem.W.Frag} {mg : Str → Option Value} {base : Heap}
theorem ok_none {CX : CXT} {k : Nat} {f : Addr} {fd : FuncData} {ps : List Str} : FnOk P w K mg base CX k f fd ps fun _ _ _ _ => False := ⟨fun _ _ _ _ h => h.elim, fun _ _ _ _ _ _ _ _ _ _ _ _ _ h => h.elim⟩
def spTextOk (K : PySem.W.Frag) (lv : Nat) : Sp := fun vs H Q _ => ∃ (a : Addr) (t : Txt), vs = [.ref a, .int (lv : Int)] ∧ TextAt K H a t ∧ t.wf lv = true ∧ ∀ H', Kp [] H H' → Q (.bl true) H'
def spBelow (K : PySem.W.Frag) : Nat → Sp | 0 => fun _ _ _ _ => False | l + 1 => spTextOk K l
def spPart (K : PySem.W.Frag) (lv : Nat) : Sp := fun vs H Q _ => ∃ (a : Addr) (n : Str) (g : Sg) (t : Txt), vs = [.ref a, .int ((lv : Int) - 1)] ∧ PieceAt K H (.part n g t) (.ref a) ∧ (Pc.part n g t).good lv ∧ ∀ H', Kp [] H H' → Q (.bl true) H'
theorem signs_in (T : Top K mg) {H : Hp} : SqT K H T.a_SIGNS (["", "-", ":-", "+", ":+", "?", ":?", "=", ":="].map fun s => V.str (Str.ofString s)) := .inr T.t_SIGNS
theorem sign_known (g : Sg) : inV (.str g.str) (["", "-", ":-", "+", ":+", "?", ":?", "=", ":="].map fun s => V.str (Str.ofString s)) = true := by
  cases g with
  | no => decide +kernel
  | op h k => cases h <;> cases k <;> decide +kernel
theorem ok_is_part_of (T : Top K mg) (lv : Nat) (ih : FnOk P w K mg base CX0 (1 + 2 * lv) T.a_is_text_of T.d_is_text_of ["thing", "levels"] (spBelow K lv)) : FnOk P w K mg base CX0 (1 + 2 * lv + 1) T.a_is_part T.d_is_part ["thing", "levels"] (spPart K lv) := by
  refine T.F_is_part.ok sc_is_part (fun vs H Q E h => ?_) (fun cdv A outer s H vs Q E hr h => ?_)
  · obtain ⟨a, n, g, t, rfl, _⟩ := h
    rfl
  · obtain ⟨a, n, g, t, rfl, ⟨a', c, ea, hq, hc⟩, hg, q⟩ := h
    cases ea
    refine ⟨_, PSs.nox (pss_cons (ps_if (PW.pt (pw_or (pt_not (pt_val (pe_callB (r := rIsi K) call_isi rfl T.n_isinstance bt_isinstance (pa_cons (pv 0) (pa_cons (pe_bltn (v := .ty "tuple") rfl T.n_tuple bt_tuple rfl) pa_nil))))) (pw_or (pt_cmpR (op_ne) (pe_callB (r := rLenQ K) cr_lenQ rfl T.n_len bt_len (pa_cons (pv 0) pa_nil)) pe_int (nomark _)) (pw_or1 (pt_not (pt_val (pe_call (ok_is_name T) (hr.mono (by omega)) rfl T.g_is_name T.F_is_name.kp (b_is_name T) .nil pass0 (pa_cons (pe_ix (r := rIxT K) ix_tup (pv 0) pe_int (fun _ _ => rfl)) pa_nil)))))))) (pss_one (ps_ret pe_bl)) pss_nil) (pss_cons (ps_if (PW.pt (pw_or (pt_not (pt_val (pe_callB (r := rIsi K) call_isi rfl T.n_isinstance bt_isinstance (pa_cons (pe_ix (r := rIxT K) ix_tup (pv 0) pe_int (fun _ _ => rfl)) (pa_cons (pe_bltn (v := .ty "str") rfl T.n_str bt_str rfl) pa_nil))))) (pw_or1 (pt_cmpR (r := rIn K true) (op_notIn_seq) (pe_ix (r := rIxT K) ix_tup (pv 0) pe_int (fun _ _ => rfl)) (pe_glob (v := .ref T.a_SIGNS) rfl T.g_SIGNS rfl) rfl)))) (pss_one (ps_ret pe_bl)) pss_nil) (pss_cons (ps_if (pt_cmpR (op_eq) (pe_ix (r := rIxT K) ix_tup (pv 0) pe_int (fun _ _ => rfl)) pe_str (nomark _)) (pss_one (ps_ret (pe_and (pe_callB (r := rIsi K) call_isi rfl T.n_isinstance bt_isinstance (pa_cons (pe_ix (r := rIxT K) ix_tup (pv 0) pe_int (fun _ _ => rfl)) (pa_cons (pe_bltn (v := .ty "tuple") rfl T.n_tuple bt_tuple rfl) pa_nil))) (pe_one (pe_cmpR (op_eq) (pe_callB (r := rLenQ K) cr_lenQ rfl T.n_len bt_len (pa_cons (pe_ix (r := rIxT K) ix_tup (pv 0) pe_int (fun _ _ => rfl)) pa_nil)) pe_int (nomark _)))))) pss_nil) (pss_one (ps_ret (pe_and (pe_cmpR (op_gt) (pv 1) pe_int (nomark _)) (pe_one (pe_call ih hr rfl T.g_is_text_of T.F_is_text_of.kp (b_is_text_of T) .nil pass0 (pa_cons (pe_ix (r := rIxT K) ix_tup (pv 0) pe_int (fun _ _ => rfl)) (pa_cons (pv 1) pa_nil)))))))))), ?_⟩
    have hn : nameOk n = true := by
      cases g with
      | no => exact hg.1
      | op _ _ => exact hg.1
    -- if not isinstance(thing, tuple) or len(thing) != 3 or not is_name(thing[0])
    refine ⟨_, rfl, _, _, _, _, _, rfl, .ty _, ty_tup hq, ki_tt, _, rfl, if_f rfl ?_⟩
    refine ⟨_, rfl, a, _, rfl, .inr hq, rfl, _, rfl, if_f rfl ?_⟩
    refine ⟨_, rfl, a, _, 0, _, rfl, rfl, hq, atI_nat (j := 0) rfl, n, rfl, hn, fun H1 k1 => ⟨_, rfl, if_f rfl ?_⟩⟩
    have hq1 := k1.sqt hq
    -- if not isinstance(thing[1], str) or thing[1] not in SIGNS
    refine ⟨_, rfl, a, _, 1, _, rfl, rfl, hq1, atI_nat (j := 1) rfl, _, _, _, _, _, rfl, .ty _, .base (.str _), ki_ss, _, rfl, if_f rfl ?_⟩
    refine ⟨_, rfl, a, _, 1, _, rfl, rfl, hq1, atI_nat (j := 1) rfl, T.a_SIGNS, _, rfl, .inr (signs_in T), rfl, rfl, _, rfl, ?_⟩
    rw [sign_known]
    refine if_f rfl ?_
    -- if thing[1] == ''
    refine ⟨_, rfl, a, _, 1, _, rfl, rfl, hq1, atI_nat (j := 1) rfl, rfl, _, rfl, ?_⟩
    cases g with
    | no =>
      obtain ⟨_, et⟩ := hg
      subst et
      obtain ⟨xs, hx, ex⟩ := hc.kp k1
      have ex : xs = [] := ex
      subst ex
      refine if_t (by decide) ?_
      refine ⟨_, rfl, a, _, 2, _, rfl, rfl, hq1, atI_nat (j := 2) rfl, _, _, _, _, _, rfl, .ty _, ty_tup hx, ki_tt, _, rfl, if_t rfl ?_⟩
      exact ⟨_, rfl, a, _, 2, _, rfl, rfl, hq1, atI_nat (j := 2) rfl, c, _, rfl, .inr hx, rfl, q _ k1⟩
    | op hd k =>
      obtain ⟨_, l, el, l0, wf⟩ := hg
      subst el
      refine if_f (by cases hd <;> cases k <;> decide) ?_
      refine ⟨_, rfl, _, 0, rfl, rfl, _, rfl, if_t (decide_eq_true (by omega)) ?_⟩
      refine ⟨_, rfl, a, _, 2, _, rfl, rfl, hq1, atI_nat (j := 2) rfl, _, rfl, c, t, ?_, hc.kp k1, wf, fun H' k' => q _ (k1.trans k')⟩
      rw [show ((l + 1 : Nat) : Int) - 1 = (l : Int) by omega]
      rfl
theorem ok_is_text_of_of (T : Top K mg) (lv : Nat) (ih : FnOk P w K mg base CX0 (2 + 2 * lv) T.a_is_part T.d_is_part ["thing", "levels"] (spPart K lv)) : FnOk P w K mg base CX0 (2 + 2 * lv + 1) T.a_is_text_of T.d_is_text_of ["thing", "levels"] (spTextOk K lv) := by
  refine T.F_is_text_of.ok sc_is_text_of (fun vs H Q E h => ?_) (fun cdv A outer s H vs Q E hr h => ?_)
  · obtain ⟨a, t, rfl, _⟩ := h
    rfl
  · obtain ⟨a, t, rfl, ⟨xs, hq, hx⟩, wf, q⟩ := h
    obtain ⟨w1, w2⟩ := Bool.and_eq_true_iff.mp wf
    have w1 := of_decide_eq_true w1
    have hlen := hx.len
    refine ⟨_, PSs.nox (pss_cons (ps_if (PW.pt (pw_or (pt_not (pt_val (pe_callB (r := rIsi K) call_isi rfl T.n_isinstance bt_isinstance (pa_cons (pv 0) (pa_cons (pe_bltn (v := .ty "tuple") rfl T.n_tuple bt_tuple rfl) pa_nil))))) (pw_or1 (pt_cmpR (op_gt) (pe_callB (r := rLenQ K) cr_lenQ rfl T.n_len bt_len (pa_cons (pv 0) pa_nil)) (pe_k rfl T.k_MOST_PIECES) (nomark _))))) (pss_one (ps_ret pe_bl)) pss_nil) (pss_cons (ps_for PassesOwn.never rfl (pi_enumT rfl T.n_enumerate (pa_cons (pv 0) pa_nil)) (pg_tup rfl (pgs_cons (pg_name (i := 2) sc_is_text_of.nd rfl (.inl rfl)) (pgs_cons (pg_name (i := 3) sc_is_text_of.nd rfl (.inl rfl)) pgs_nil))) (pss_cons (ps_if (PW.pt (pw_and (pt_not (pt_val (pe_call (ok_is_plain T) (hr.mono (by omega)) rfl T.g_is_plain T.F_is_plain.kp (b_is_plain T) .nil pass0 (pa_cons (pv 3) pa_nil)))) (pw_and1 (pt_not (pt_val (pe_call ih hr rfl T.g_is_part T.F_is_part.kp (b_is_part T) .nil pass0 (pa_cons (pv 3) (pa_cons (pe_op (op_sub) (pv 1) pe_int) pa_nil)))))))) (pss_one (ps_ret pe_bl)) pss_nil) (pss_one (ps_if (PW.pt (pw_and (pt_cmpR (op_gt) (pv 2) pe_int (nomark _)) (pw_and (pt_val (pe_callB (r := rIsi K) call_isi rfl T.n_isinstance bt_isinstance (pa_cons (pv 3) (pa_cons (pe_bltn (v := .ty "str") rfl T.n_str bt_str rfl) pa_nil)))) (pw_and1 (pt_val (pe_callB (r := rIsi K) call_isi rfl T.n_isinstance bt_isinstance (pa_cons (pe_ix (r := rIxT K) ix_tup (pv 0) (pe_op (op_sub) (pv 2) pe_int) (fun _ _ => rfl)) (pa_cons (pe_bltn (v := .ty "str") rfl T.n_str bt_str rfl) pa_nil)))))))) (pss_one (ps_ret pe_bl)) pss_nil)))) (pss_one (ps_ret pe_bl)))), ?_⟩
    -- if not isinstance(thing, tuple) or len(thing) > MOST_PIECES
    refine ⟨_, rfl, _, _, _, _, _, rfl, .ty _, ty_tup hq, ki_tt, _, rfl, if_f rfl ?_⟩
    refine ⟨_, rfl, a, _, rfl, .inr hq, _, _, rfl, rfl, _, rfl, ?_⟩
    rw [decide_eq_false (show ¬ (8 : Int) < (xs.length : Nat) by rw [hlen]; omega)]
    refine if_f rfl ?_
    -- for at, piece in enumerate(thing)
    refine ⟨_, rfl, a, xs, rfl, hq, for_enumT (K := K) (a := a) (xs := xs) (fun i σ H' => ∃ u v, σ = [some (.ref a), some (.int (lv : Int)), u, v] ∧ Kp [] H H') ⟨none, none, rfl, Kp.nil H⟩ (fun i σ H' _ ⟨_, _, _, k⟩ => k.sqt hq) ?_ ?_⟩
    · rintro i x σ H1 Tt hi ⟨u, v, rfl, k1⟩ hT
      obtain ⟨p, hp, ep⟩ := hx.get hi
      have k2 := k1.new (.tup [.int (i : Nat), x]) hT
      refine ⟨Tt, _, rfl, .inl (.inl upd_same), rfl, _, _, rfl, _, _, rfl, rfl, ?_⟩
      have hg := good_piece w2 ep
      have hp2 := hp.kp k2
      cases p with
      | lit z =>
        have ex : x = .str z := hp
        subst ex
        refine ⟨_, rfl, .inl ⟨z, rfl, hg, fun H2 k3 => ⟨_, rfl, if_f rfl (if_f rfl ?_)⟩⟩⟩
        have k4 := k2.trans k3
        refine ⟨_, rfl, _, 0, rfl, rfl, _, rfl, ?_⟩
        by_cases h0 : (0 : Int) < (i : Nat)
        · rw [decide_eq_true h0]
          refine if_t rfl ⟨_, rfl, _, _, _, _, _, rfl, .ty _, .base (.str _), ki_ss, _, rfl, if_t rfl ?_⟩
          -- the piece ahead
          obtain ⟨i', rfl⟩ : ∃ i', i = i' + 1 := ⟨i - 1, by omega⟩
          have hlt := (List.getElem?_eq_some_iff.mp hi).1
          have hi' : xs[i']? = some xs[i'] := List.getElem?_eq_getElem (by omega)
          obtain ⟨p', hp', ep'⟩ := hx.get hi'
          cases p' with
          | lit z' =>
            have z1 := good_apart w2 ep'
            rw [ep] at z1
            cases z1
          | part n' g' t' =>
            obtain ⟨a', c', ea', hq', _⟩ := hp'.kp k4
            refine ⟨_, rfl, _, rfl, _, 1, rfl, rfl, a, xs, _, _, rfl, rfl, k4.sqt hq, ?_, _, _, _, _, _, rfl, .ty _, ty_tup hq', ki_ts, _, rfl, if_f rfl ⟨_, _, rfl, k4⟩⟩
            rw [show ((i' + 1 : Nat) : Int) - 1 = (i' : Nat) by omega, ← ea']
            exact atI_nat hi'
        · rw [decide_eq_false h0]
          exact if_f rfl (if_f rfl ⟨_, _, rfl, k4⟩)
      | part n g u' =>
        obtain ⟨b, c, ex, hb, hc⟩ := hp2
        subst ex
        refine ⟨_, rfl, .inr ⟨b, _, rfl, hb, _, rfl, if_t rfl ?_⟩⟩
        refine ⟨_, rfl, _, rfl, _, 1, rfl, rfl, b, n, g, u', rfl, ⟨b, c, rfl, hb, hc⟩, hg, fun H2 k3 => ⟨_, rfl, if_f rfl ?_⟩⟩
        have k4 := k2.trans k3
        refine ⟨_, rfl, _, 0, rfl, rfl, _, rfl, ?_⟩
        by_cases h0 : (0 : Int) < (i : Nat)
        · rw [decide_eq_true h0]
          exact if_t rfl ⟨_, rfl, _, _, _, _, _, rfl, .ty _, ty_tup (k3.sqt hb), ki_ts, _, rfl, if_f rfl (if_f rfl ⟨_, _, rfl, k4⟩)⟩
        · rw [decide_eq_false h0]
          exact if_f rfl (if_f rfl ⟨_, _, rfl, k4⟩)
    · rintro σ H1 ⟨u, v, rfl, k1⟩
      exact q _ k1
theorem ok_text_both (T : Top K mg) : ∀ lv : Nat, FnOk P w K mg base CX0 (2 + 2 * lv) T.a_is_part T.d_is_part ["thing", "levels"] (spPart K lv) ∧ FnOk P w K mg base CX0 (3 + 2 * lv) T.a_is_text_of T.d_is_text_of ["thing", "levels"] (spTextOk K lv)
  | 0 => by
    have h : FnOk P w K mg base CX0 2 T.a_is_part T.d_is_part ["thing", "levels"] (spPart K 0) := ok_is_part_of T 0 ok_none
    exact ⟨h, ok_is_text_of_of T 0 h⟩
  | lv + 1 => by
    have ih := (ok_text_both T lv).2
    have h := ok_is_part_of T (lv + 1) (ih.mono (by omega))
    have h' : FnOk P w K mg base CX0 (2 + 2 * (lv + 1)) T.a_is_part T.d_is_part ["thing", "levels"] (spPart K (lv + 1)) := h.mono (by omega)
    exact ⟨h', (ok_is_text_of_of T (lv + 1) h').mono (by omega)⟩
def spIsText (K : PySem.W.Frag) : Sp := fun vs H Q _ => ∃ (a : Addr) (t : Txt), vs = [.ref a] ∧ TextAt K H a t ∧ t.wf 4 = true ∧ ∀ H', Kp [] H H' → Q (.bl true) H'
theorem ok_is_text_of (T : Top K mg) : FnOk P w K mg base CX0 11 T.a_is_text_of T.d_is_text_of ["thing", "levels"] (spTextOk K 4) := (ok_text_both T 4).2
theorem ok_is_text (T : Top K mg) : FnOk P w K mg base CX0 12 T.a_is_text T.d_is_text ["thing"] (spIsText K) := by
  refine T.F_is_text.ok sc_is_text (fun vs H Q E h => ?_) (fun cdv A outer s H vs Q E hr h => ?_)
  · obtain ⟨a, t, rfl, _⟩ := h
    rfl
  · obtain ⟨a, t, rfl, ht, wf, q⟩ := h
    refine ⟨_, PSs.nox (pss_one (ps_ret (pe_call (ok_is_text_of T) (hr.mono (by omega)) rfl T.g_is_text_of T.F_is_text_of.kp (b_is_text_of T) .nil pass0 (pa_cons (pv 0) (pa_cons (pe_k rfl T.k_MOST_LEVELS) pa_nil))))), ?_⟩
    exact ⟨_, rfl, a, t, rfl, ht, wf, q⟩
end
end EV
end

section
set_option Elab.async false
set_option linter.all false
set_option maxRecDepth 100000
set_option maxHeartbeats 4000000
/-! bodies: rows, names, files -/
namespace EV
open PySem PySem.Spec PyProof.Rows L2
def Row.good (r : Row) : Bool := r.text.wf 4 && r.head.all nameOk
def nCap : Nat → Nat | 0 => 1 | l + 1 => 1 + 8 * nCap l
theorem names_cap : ∀ (t : Txt) (lv : Nat), t.good lv = true → t.names.length ≤ t.len * nCap lv
  | .nil, _, _ => Nat.zero_le _
  | .lit s r, lv, h => by
    have ih := names_cap r lv (Bool.and_eq_true_iff.mp h).2
    show r.names.length ≤ (r.len + 1) * nCap lv
    exact Nat.le_trans ih (Nat.mul_le_mul_right _ (Nat.le_succ _))
  | .part n .no t r, lv, h => by
    obtain ⟨h1, h2⟩ := Bool.and_eq_true_iff.mp h
    have ih := names_cap r lv h2
    have ht := (Bool.and_eq_true_iff.mp h1).2
    have e : t.names = [] := by
      cases t with
      | nil => rfl
      | lit _ _ => cases ht
      | part _ _ _ _ => cases ht
    have p : 1 ≤ nCap lv := by cases lv <;> unfold nCap <;> omega
    show (n :: (t.names ++ r.names)).length ≤ (r.len + 1) * nCap lv
    rw [e, List.nil_append, List.length_cons, Nat.add_mul]
    omega
  | .part n (.op hd k) t r, 0, h => by
    obtain ⟨h1, h2⟩ := Bool.and_eq_true_iff.mp h
    have := (Bool.and_eq_true_iff.mp h1).2
    cases this
  | .part n (.op hd k) t r, lv + 1, h => by
    obtain ⟨h1, h2⟩ := Bool.and_eq_true_iff.mp h
    have ih := names_cap r (lv + 1) h2
    obtain ⟨h3, h4⟩ := Bool.and_eq_true_iff.mp (Bool.and_eq_true_iff.mp h1).2
    have h3 := of_decide_eq_true h3
    have it := names_cap t lv (Bool.and_eq_true_iff.mp h4).2
    have : t.names.length ≤ 8 * nCap lv := Nat.le_trans it (Nat.mul_le_mul_right _ h3)
    show (n :: (t.names ++ r.names)).length ≤ (r.len + 1) * nCap (lv + 1)
    rw [List.length_cons, List.length_append, Nat.add_mul]
    show _ ≤ r.len * nCap (lv + 1) + 1 * (1 + 8 * nCap lv)
    omega
theorem nCap_le {lv : Nat} (h : lv ≤ 4) : nCap lv ≤ 4681 := by
  rcases (by omega : lv = 0 ∨ lv = 1 ∨ lv = 2 ∨ lv = 3 ∨ lv = 4) with e | e | e | e | e <;> subst e <;> decide
theorem names_few {t : Txt} {lv : Nat} (h : t.wf lv = true) (hl : lv ≤ 4) : t.names.length ≤ 37448 := by
  obtain ⟨h1, h2⟩ := Bool.and_eq_true_iff.mp h
  have h1 := of_decide_eq_true h1
  have := names_cap t lv h2
  have c := nCap_le hl
  have : t.len * nCap lv ≤ 8 * 4681 := Nat.mul_le_mul h1 c
  omega
section
variable {P : Program} {w : World} {K : PySem.W.Frag} {mg : Str → Option Value} {base : Heap}
def spIsRow (K : PySem.W.Frag) : Sp := fun vs H Q _ => ∃ (a : Addr) (r : Row), vs = [.ref a] ∧ RowAt K H a r ∧ r.good = true ∧ ∀ H', Kp [] H H' → Q (.bl true) H'
theorem ok_is_row (T : Top K mg) : FnOk P w K mg base CX0 13 T.a_is_row T.d_is_row ["thing"] (spIsRow K) := by
  refine T.F_is_row.ok sc_is_row (fun vs H Q E h => ?_) (fun cdv A outer s H vs Q E hr h => ?_)
  · obtain ⟨a, t, rfl, _⟩ := h
    rfl
  · obtain ⟨a, r, rfl, hr1, hg, q⟩ := h
    refine ⟨_, PSs.nox (pss_cons (ps_if (PW.pt (pw_or (pt_not (pt_val (pe_callB (r := rIsi K) call_isi rfl T.n_isinstance bt_isinstance (pa_cons (pv 0) (pa_cons (pe_bltn (v := .ty "tuple") rfl T.n_tuple bt_tuple rfl) pa_nil))))) (pw_or (pt_cmpR (op_eq) (pe_callB (r := rLenQ K) cr_lenQ rfl T.n_len bt_len (pa_cons (pv 0) pa_nil)) pe_int (nomark _)) (pw_or1 (pt_not (pt_val (pe_callB (r := rIsi K) call_isi rfl T.n_isinstance bt_isinstance (pa_cons (pe_ix (r := rIxT K) ix_tup (pv 0) pe_int (fun _ _ => rfl)) (pa_cons (pe_bltn (v := .ty "str") rfl T.n_str bt_str rfl) pa_nil))))))))) (pss_one (ps_ret pe_bl)) pss_nil) (pss_cons (ps_if (pt_cmpR (r := rIn K false) (op_in_seq) (pe_ix (r := rIxT K) ix_tup (pv 0) pe_int (fun _ _ => rfl)) (pe_tup (pa_cons (pe_k rfl T.k_SET) (pa_cons (pe_k rfl T.k_GIVE) pa_nil))) rfl) (pss_one (ps_ret (pe_and (pe_cmpR (op_eq) (pe_callB (r := rLenQ K) cr_lenQ rfl T.n_len bt_len (pa_cons (pv 0) pa_nil)) pe_int (nomark _)) (pe_and (pe_call (ok_is_name T) (hr.mono (by omega)) rfl T.g_is_name T.F_is_name.kp (b_is_name T) .nil pass0 (pa_cons (pe_ix (r := rIxT K) ix_tup (pv 0) pe_int (fun _ _ => rfl)) pa_nil)) (pe_one (pe_call (ok_is_text T) (hr.mono (by omega)) rfl T.g_is_text T.F_is_text.kp (b_is_text T) .nil pass0 (pa_cons (pe_ix (r := rIxT K) ix_tup (pv 0) pe_int (fun _ _ => rfl)) pa_nil))))))) pss_nil) (pss_cons (ps_if (pt_cmpR (op_eq) (pe_ix (r := rIxT K) ix_tup (pv 0) pe_int (fun _ _ => rfl)) (pe_k rfl T.k_DROP) (nomark _)) (pss_one (ps_ret (pe_and (pe_cmpR (op_eq) (pe_callB (r := rLenQ K) cr_lenQ rfl T.n_len bt_len (pa_cons (pv 0) pa_nil)) pe_int (nomark _)) (pe_one (pe_call (ok_is_name T) (hr.mono (by omega)) rfl T.g_is_name T.F_is_name.kp (b_is_name T) .nil pass0 (pa_cons (pe_ix (r := rIxT K) ix_tup (pv 0) pe_int (fun _ _ => rfl)) pa_nil)))))) pss_nil) (pss_one (ps_ret (pe_and (pe_cmpR (op_eq) (pe_ix (r := rIxT K) ix_tup (pv 0) pe_int (fun _ _ => rfl)) (pe_k rfl T.k_CHECK) (nomark _)) (pe_and (pe_cmpR (op_eq) (pe_callB (r := rLenQ K) cr_lenQ rfl T.n_len bt_len (pa_cons (pv 0) pa_nil)) pe_int (nomark _)) (pe_one (pe_call (ok_is_text T) (hr.mono (by omega)) rfl T.g_is_text T.F_is_text.kp (b_is_text T) .nil pass0 (pa_cons (pe_ix (r := rIxT K) ix_tup (pv 0) pe_int (fun _ _ => rfl)) pa_nil)))))))))), ?_⟩
    obtain ⟨wf, hn⟩ := Bool.and_eq_true_iff.mp hg
    cases r with
    | set n t =>
      obtain ⟨c, hq, hc⟩ := hr1
      have hn := List.all_eq_true.mp hn n (List.mem_singleton.mpr rfl)
      refine ⟨_, rfl, _, _, _, _, _, rfl, .ty _, ty_tup hq, ki_tt, _, rfl, if_f rfl ?_⟩
      refine ⟨_, rfl, a, _, rfl, .inr hq, rfl, _, rfl, if_f rfl ?_⟩
      refine ⟨_, rfl, a, _, 0, _, rfl, rfl, hq, atI_nat (j := 0) rfl, _, _, _, _, _, rfl, .ty _, .base (.str _), ki_ss, _, rfl, if_f rfl ?_⟩
      refine ⟨_, rfl, a, _, 0, _, rfl, rfl, hq, atI_nat (j := 0) rfl, by decide, fun p hp => ?_⟩
      have k1 := (Kp.nil H).new (.tup [.str "set", .str "give"]) hp
      refine ⟨p, _, rfl, .inr (.inl (.inl upd_same)), rfl, rfl, _, rfl, if_t (by decide +kernel) ?_⟩
      have hq1 := k1.sqt hq
      refine ⟨_, rfl, a, _, rfl, .inr hq1, rfl, _, rfl, if_t rfl ?_⟩
      refine ⟨_, rfl, a, _, 1, _, rfl, rfl, hq1, atI_nat (j := 1) rfl, n, rfl, hn, fun H2 k2 => ⟨_, rfl, if_t rfl ?_⟩⟩
      have k3 := k1.trans k2
      exact ⟨_, rfl, a, _, 2, _, rfl, rfl, k2.sqt hq1, atI_nat (j := 2) rfl, c, t, rfl, hc.kp k3, wf, fun H4 k4 => q _ (k3.trans k4)⟩
    | give n t =>
      obtain ⟨c, hq, hc⟩ := hr1
      have hn := List.all_eq_true.mp hn n (List.mem_singleton.mpr rfl)
      refine ⟨_, rfl, _, _, _, _, _, rfl, .ty _, ty_tup hq, ki_tt, _, rfl, if_f rfl ?_⟩
      refine ⟨_, rfl, a, _, rfl, .inr hq, rfl, _, rfl, if_f rfl ?_⟩
      refine ⟨_, rfl, a, _, 0, _, rfl, rfl, hq, atI_nat (j := 0) rfl, _, _, _, _, _, rfl, .ty _, .base (.str _), ki_ss, _, rfl, if_f rfl ?_⟩
      refine ⟨_, rfl, a, _, 0, _, rfl, rfl, hq, atI_nat (j := 0) rfl, by decide, fun p hp => ?_⟩
      have k1 := (Kp.nil H).new (.tup [.str "set", .str "give"]) hp
      refine ⟨p, _, rfl, .inr (.inl (.inl upd_same)), rfl, rfl, _, rfl, if_t (by decide +kernel) ?_⟩
      have hq1 := k1.sqt hq
      refine ⟨_, rfl, a, _, rfl, .inr hq1, rfl, _, rfl, if_t rfl ?_⟩
      refine ⟨_, rfl, a, _, 1, _, rfl, rfl, hq1, atI_nat (j := 1) rfl, n, rfl, hn, fun H2 k2 => ⟨_, rfl, if_t rfl ?_⟩⟩
      have k3 := k1.trans k2
      exact ⟨_, rfl, a, _, 2, _, rfl, rfl, k2.sqt hq1, atI_nat (j := 2) rfl, c, t, rfl, hc.kp k3, wf, fun H4 k4 => q _ (k3.trans k4)⟩
    | drop n =>
      have hq := hr1
      have hn := List.all_eq_true.mp hn n (List.mem_singleton.mpr rfl)
      refine ⟨_, rfl, _, _, _, _, _, rfl, .ty _, ty_tup hq, ki_tt, _, rfl, if_f rfl ?_⟩
      refine ⟨_, rfl, a, _, rfl, .inr hq, rfl, _, rfl, if_f rfl ?_⟩
      refine ⟨_, rfl, a, _, 0, _, rfl, rfl, hq, atI_nat (j := 0) rfl, _, _, _, _, _, rfl, .ty _, .base (.str _), ki_ss, _, rfl, if_f rfl ?_⟩
      refine ⟨_, rfl, a, _, 0, _, rfl, rfl, hq, atI_nat (j := 0) rfl, by decide, fun p hp => ?_⟩
      have k1 := (Kp.nil H).new (.tup [.str "set", .str "give"]) hp
      refine ⟨p, _, rfl, .inr (.inl (.inl upd_same)), rfl, rfl, _, rfl, if_f (by decide +kernel) ?_⟩
      have hq1 := k1.sqt hq
      refine ⟨_, rfl, a, _, 0, _, rfl, rfl, hq1, atI_nat (j := 0) rfl, rfl, _, rfl, if_t (by decide) ?_⟩
      refine ⟨_, rfl, a, _, rfl, .inr hq1, rfl, _, rfl, if_t rfl ?_⟩
      exact ⟨_, rfl, a, _, 1, _, rfl, rfl, hq1, atI_nat (j := 1) rfl, n, rfl, hn, fun H2 k2 => q _ (k1.trans k2)⟩
    | check t =>
      obtain ⟨c, hq, hc⟩ := hr1
      refine ⟨_, rfl, _, _, _, _, _, rfl, .ty _, ty_tup hq, ki_tt, _, rfl, if_f rfl ?_⟩
      refine ⟨_, rfl, a, _, rfl, .inr hq, rfl, _, rfl, if_f rfl ?_⟩
      refine ⟨_, rfl, a, _, 0, _, rfl, rfl, hq, atI_nat (j := 0) rfl, _, _, _, _, _, rfl, .ty _, .base (.str _), ki_ss, _, rfl, if_f rfl ?_⟩
      refine ⟨_, rfl, a, _, 0, _, rfl, rfl, hq, atI_nat (j := 0) rfl, by decide, fun p hp => ?_⟩
      have k1 := (Kp.nil H).new (.tup [.str "set", .str "give"]) hp
      refine ⟨p, _, rfl, .inr (.inl (.inl upd_same)), rfl, rfl, _, rfl, if_f (by decide +kernel) ?_⟩
      have hq1 := k1.sqt hq
      refine ⟨_, rfl, a, _, 0, _, rfl, rfl, hq1, atI_nat (j := 0) rfl, rfl, _, rfl, if_f (by decide) ?_⟩
      refine ⟨_, rfl, a, _, 0, _, rfl, rfl, hq1, atI_nat (j := 0) rfl, rfl, _, rfl, if_t (by decide) ?_⟩
      refine ⟨_, rfl, a, _, rfl, .inr hq1, rfl, _, rfl, if_t rfl ?_⟩
      exact ⟨_, rfl, a, _, 1, _, rfl, rfl, hq1, atI_nat (j := 1) rfl, c, t, rfl, hc.kp k1, wf, fun H2 k2 => q _ (k1.trans k2)⟩
/-! names in a text -/
def NewL (H H' : Hp) (p : Addr) (l : List Str) : Prop := Kp [] H H' ∧ H p = none ∧ H' p = some (.lst (l.map V.str))
def spNames (K : PySem.W.Frag) (l : Nat) : Sp := fun vs H Q _ => ∃ (a : Addr) (t : Txt), vs = [.ref a] ∧ TextAt K H a t ∧ t.wb l = true ∧ l ≤ 5 ∧ ∀ p H', NewL H H' p t.names → Q (.ref p) H'
/-- the promise one step below -/
def below (sp : Nat → Sp) : Nat → Sp | 0 => fun _ _ _ _ => False | l + 1 => sp l
theorem names_few' {t : Txt} {l : Nat} (h : t.wb l = true) (hl : l ≤ 5) : t.names.length ≤ 37448 := by
  cases l with
  | zero => rw [isNil_eq h]; exact Nat.zero_le _
  | succ l => exact names_few (lv := l) h (by omega)
theorem names_in_nil {t : Txt} {l : List Str} {n : Nat} (e : l ++ (t.drop n).names = t.names) (h : n = t.len) : l = t.names := by
  subst h
  rw [drop_len] at e
  rw [← e]
  exact (List.append_nil l).symm
theorem ok_names_in_text_of (T : Top K mg) (lv : Nat) (ih : FnOk P w K mg base CX0 (1 + lv) T.a_names_in_text T.d_names_in_text ["text"] (below (spNames K) lv)) : FnOk P w K mg base CX0 (1 + lv + 1) T.a_names_in_text T.d_names_in_text ["text"] (spNames K lv) := by
  refine T.F_names_in_text.ok sc_names_in_text (fun vs H Q E h => ?_) (fun cdv A outer s H vs Q E hr h => ?_)
  · obtain ⟨a, t, rfl, _⟩ := h
    rfl
  · obtain ⟨a, t, rfl, ⟨xs, hq, hx⟩, wf, hlv, q⟩ := h
    have hfew := names_few' wf hlv
    refine ⟨_, PSs.nox (pss_cons (ps_set (i := 1) sc_names_in_text.nd rfl (.inl rfl) (pe_lst pa_nil)) (pss_cons (ps_for PassesOwn.never rfl (pi_tup (pv 0)) (pg_name (i := 2) sc_names_in_text.nd rfl (.inl rfl)) (pss_one (ps_if (pt_val (pe_callB (r := rIsi K) call_isi rfl T.n_isinstance bt_isinstance (pa_cons (pv 2) (pa_cons (pe_bltn (v := .ty "tuple") rfl T.n_tuple bt_tuple rfl) pa_nil)))) (pss_cons (ps_expr (pe_bm PySem.F.plainAttrs_list PySem.F.slot_list_append PySem.F.type_list_append mt_append (pv 1) (pa_cons (pe_ix (r := rIxT K) ix_tup (pv 2) pe_int (fun _ _ => rfl)) pa_nil))) (pss_one (ps_expr (pe_bm PySem.F.plainAttrs_list PySem.F.slot_list_extend PySem.F.type_list_extend mt_extend (pv 1) (pa_cons (pe_call ih hr rfl T.g_names_in_text T.F_names_in_text.kp (b_names_in_text T) .nil pass0 (pa_cons (pe_ix (r := rIxT K) ix_tup (pv 2) pe_int (fun _ _ => rfl)) pa_nil)) pa_nil))))) pss_nil))) (pss_one (ps_ret (pv 1))))), ?_⟩
    refine ⟨Nat.zero_le _, fun f hf => ?_⟩
    have k0 := (Kp.nil H).new (.lst []) hf
    refine ⟨_, rfl, a, rfl, ⟨xs, k0.sqt hq⟩, for_it walk_tup (fun i σ H' => ∃ v l, σ = [some (.ref a), some (.ref f), v] ∧ Kp [] H H' ∧ H' f = some (.lst (l.map V.str)) ∧ l ++ (t.drop i).names = t.names)
      ⟨none, [], rfl, k0, upd_same, by cases t <;> rfl⟩ (fun i σ H' _ ⟨_, _, _, k, _⟩ => k.sqt hq) ?_ ?_⟩
    · rintro i x σ H1 H1' hi ⟨v, l, rfl, k1, hl, el⟩ ⟨rfl, hx1⟩
      obtain ⟨p, hp, ep⟩ := hx.get hx1
      have hp1 := hp.kp k1
      obtain ⟨l', el', hg⟩ := wb_piece wf ep
      subst el'
      rw [names_piece ep] at el
      cases p with
      | lit z =>
        have ex : x = .str z := hp
        subst ex
        exact ⟨_, rfl, _, _, _, _, _, rfl, .ty _, .base (.str _), ki_st, _, rfl, if_f rfl ⟨_, l, rfl, k1, hl, el⟩⟩
      | part n g u =>
        obtain ⟨b, c, ex, hb, hc⟩ := hp1
        subst ex
        have hlen : l.length + (1 + u.names.length) ≤ 37448 := by
          have := congrArg List.length el
          rw [List.length_append, List.length_append] at this
          have e2 : (Pc.part n g u).names.length = u.names.length + 1 := rfl
          omega
        refine ⟨_, rfl, _, _, _, _, _, rfl, .ty _, ty_tup hb, ki_tt, _, rfl, if_t rfl ?_⟩
        refine ⟨_, rfl, .inl ⟨rfl, _, .inl (.inl hl)⟩, _, rfl, b, _, 0, _, rfl, rfl, hb, atI_nat (j := 0) rfl, f, _, _, rfl, rfl, hl, by rw [List.length_map, sizeLine_eq]; omega, ?_⟩
        have k2 := k1.own (p := f) (o := .lst (l.map V.str ++ [.str n])) hf
        have hb2 := k1.own (p := f) (o := .lst (l.map V.str ++ [.str n])) hf
        have k2' : Kp [f] H1' (upd H1' f (.lst (l.map V.str ++ [.str n]))) := (Kp.refl (fun d hd => by rw [List.mem_singleton.mp hd, hl]; trivial)).put (List.mem_singleton.mpr rfl) trivial
        refine ⟨_, rfl, .inl ⟨rfl, _, .inl (.inl upd_same)⟩, _, rfl, b, _, 2, _, rfl, rfl, k2'.sqt hb, atI_nat (j := 2) rfl, c, u, rfl, hc.kp k2', hg.2.1, by omega, fun p H2 hN => ?_⟩
        obtain ⟨k3, hp, hL⟩ := hN
        have hf2 : H2 f = some (.lst (l.map V.str ++ [.str n])) := k3.keep f _ (fun z => nomatch z) upd_same
        refine ⟨f, p, _, _, rfl, rfl, hf2, hL, by rw [List.length_append, List.length_map, List.length_map, sizeLine_eq]; simp only [List.length_cons, List.length_nil]; omega, ?_⟩
        refine ⟨_, l ++ n :: u.names, rfl, (k2.call k3 fun _ z => nomatch z).own hf, ?_, by rw [← el, List.append_assoc]; rfl⟩
        rw [upd_same, List.map_append, List.append_assoc]
        rfl
    · rintro σ H1 ⟨v, l, rfl, k1, hl, el⟩
      have e := names_in_nil el hx.len
      subst e
      exact ⟨_, rfl, q f H1 ⟨k1, hf, hl⟩⟩
theorem ok_names_at (T : Top K mg) : ∀ l : Nat, FnOk P w K mg base CX0 (2 + l) T.a_names_in_text T.d_names_in_text ["text"] (spNames K l)
  | 0 => (ok_names_in_text_of T 0 ok_none).mono (by omega)
  | l + 1 => (ok_names_in_text_of T (l + 1) ((ok_names_at T l).mono (by omega))).mono (by omega)
theorem ok_names_in_text (T : Top K mg) : FnOk P w K mg base CX0 7 T.a_names_in_text T.d_names_in_text ["text"] (spNames K 5) := ok_names_at T 5
/-! names in a file -/
theorem paired_len {α β : Type} {R : α → β → Prop} {as : List α} {bs : List β} (h : Paired R as bs) : bs.length = as.length := (Paired.length h).symm
theorem file_row {H : Hp} {as : List Addr} {F : File} {i : Nat} {x : V} (hF : Paired (RowAt K H) as F) (h : (as.map V.ref)[i]? = some x) : ∃ b r, x = .ref b ∧ F[i]? = some r ∧ RowAt K H b r := by
  rw [List.getElem?_map] at h
  cases e : as[i]? with
  | none => rw [e] at h; cases h
  | some b =>
    rw [e] at h
    cases h
    obtain ⟨r, h1, h2⟩ := paired_at hF e
    exact ⟨b, r, rfl, h1, h2⟩
def Row.kind : Row → Str | .set _ _ => "set" | .give _ _ => "give" | .drop _ => "drop" | .check _ => "check"
theorem row_parts {H : Hp} {b : Addr} {r : Row} (h : RowAt K H b r) : ∃ ys, SqT K H b ys ∧ atI ys 0 = some (.str r.kind) ∧ ∀ n, r.head = [n] → atI ys 1 = some (.str n) := by
  cases r with
  | set n t => obtain ⟨c, h1, _⟩ := h; exact ⟨_, h1, atI_nat (j := 0) rfl, fun m e => by cases e; exact atI_nat (j := 1) rfl⟩
  | give n t => obtain ⟨c, h1, _⟩ := h; exact ⟨_, h1, atI_nat (j := 0) rfl, fun m e => by cases e; exact atI_nat (j := 1) rfl⟩
  | drop n => exact ⟨_, h, atI_nat (j := 0) rfl, fun m e => by cases e; exact atI_nat (j := 1) rfl⟩
  | check t => obtain ⟨c, h1, _⟩ := h; exact ⟨_, h1, atI_nat (j := 0) rfl, fun m e => by cases e⟩
theorem kind_check (r : Row) : r.head = [] ↔ r.kind = "check" := by cases r <;> simp [Row.head, Row.kind] <;> decide
theorem kind_other {r : Row} {n : Str} (h : r.head = [n]) : (!decide (V.str r.kind = V.str "check")) = true := by
  cases r with
  | check t => cases h
  | set n t => show (!decide (V.str "set" = V.str "check")) = true; decide
  | give n t => show (!decide (V.str "give" = V.str "check")) = true; decide
  | drop n => show (!decide (V.str "drop" = V.str "check")) = true; decide
def spNamesIn (K : PySem.W.Frag) : Sp := fun vs H Q _ => ∃ (a : Addr) (F : File), vs = [.ref a] ∧ FileAt K H a F ∧ (∀ r ∈ F, r.good = true) ∧ (rawNames F).length ≤ 4000 ∧ (namesIn F).length < 64 ∧ ∀ p H', NewL H H' p (namesIn F) → Q (.ref p) H'
theorem ok_names_in (T : Top K mg) : FnOk P w K mg base CX0 8 T.a_names_in T.d_names_in ["rows"] (spNamesIn K) := by
  refine T.F_names_in.ok sc_names_in (fun vs H Q E h => ?_) (fun cdv A outer s H vs Q E hr h => ?_)
  · obtain ⟨a, t, rfl, _⟩ := h
    rfl
  · obtain ⟨a, F, rfl, ⟨as, hq, hF⟩, hg, hfew, h64, q⟩ := h
    refine ⟨_, PSs.nox (pss_cons (ps_setLc (i := 1) rfl sc_names_in.nd rfl rfl rfl (pi_tup (pv 0)) (blkOk_by (own := [("row", 2)]) (by kernel_rfl)) (fun _ _ _ _ _ => (pg_name (i := 2) sc_names_in.nd rfl (.inl rfl))) (fun _ _ _ _ _ => (pts_one (pt_cmpR (op_ne) (pe_ix (r := rIxT K) ix_tup (pv 2) pe_int (fun _ _ => rfl)) (pe_k rfl T.k_CHECK) (nomark _)))) (fun _ _ _ _ _ => (pe_ix (r := rIxT K) ix_tup (pv 2) pe_int (fun _ _ => rfl)))) (pss_cons (ps_for PassesOwn.never rfl (pi_tup (pv 0)) (pg_name (i := 2) sc_names_in.nd rfl (.inl rfl)) (pss_one (ps_expr (pe_bm PySem.F.plainAttrs_list PySem.F.slot_list_extend PySem.F.type_list_extend mt_extend (pv 1) (pa_cons (pe_call (ok_names_in_text T) (hr.mono (by omega)) rfl T.g_names_in_text T.F_names_in_text.kp (b_names_in_text T) .nil pass0 (pa_cons (pe_call (ok_text_of_row T) (hr.mono (by omega)) rfl T.g_text_of_row T.F_text_of_row.kp (b_text_of_row T) .nil pass0 (pa_cons (pv 2) pa_nil)) pa_nil)) pa_nil))))) (pss_one (ps_ret (pe_callB (cr_sortedSetX rfl) rfl T.n_sorted bt_sorted (pa_cons (pe_callTy (cr_setStrs rfl) rfl T.n_set bt_set (pa_cons (pv 1) pa_nil)) pa_nil)))))), ?_⟩
    -- found = [row[1] for row in rows if row[0] != CHECK]
    refine ⟨_, rfl, a, rfl, ⟨_, hq⟩, fun D hD => lc_it walk_tup (fun i H' => ∃ l, Kp [] H H' ∧ H' D = some (.lst (l.map V.str)) ∧ l ++ (F.drop i).flatMap Row.head = F.flatMap Row.head)
      ⟨[], (Kp.nil H).new _ hD, upd_same, rfl⟩ (fun i H' _ ⟨_, k, _⟩ => k.sqt hq) ?_ ?_⟩
    · rintro i x H1 H2 hi ⟨l, k1, hl, el⟩ ⟨rfl, hx1⟩
      obtain ⟨b, r, eb, er, hb⟩ := file_row hF hx1
      subst eb
      have hb := hb.kp k1
      rw [drop_cons er, List.flatMap_cons] at el
      obtain ⟨ys, hy, h0, h1⟩ := row_parts hb
      have hlen : l.length ≤ 4000 := by
        have e1 : (rawNames F).length = (F.flatMap Row.head).length + (F.flatMap fun r => r.text.names).length := List.length_append
        have e2 := congrArg List.length el
        rw [List.length_append] at e2
        omega
      refine ⟨rfl, _, rfl, b, ys, 0, _, rfl, rfl, hy, h0, rfl, _, rfl, ?_⟩
      cases hk : r.head with
      | nil =>
        rw [(kind_check r).mp hk]
        refine if_f (by decide) ⟨l, k1, hl, ?_⟩
        rw [hk] at el
        exact el
      | cons n nr =>
        have e3 : nr = [] := by cases r <;> cases hk <;> rfl
        subst e3
        refine if_t (kind_other hk) ?_
        refine ⟨_, rfl, b, ys, 1, _, rfl, rfl, hy, h1 n hk, _, hl, by rw [List.length_map, sizeLine_eq]; omega, l ++ [n], k1.own hD, ?_, ?_⟩
        · rw [upd_same, List.map_append]; rfl
        · rw [List.append_assoc]
          rw [hk] at el
          exact el
    · rintro H1 ⟨l, k1, hl, el⟩
      rw [List.length_map, ← paired_len hF, List.drop_length, List.flatMap_nil, List.append_nil] at el
      subst el
      -- for row in rows: found.extend(names_in_text(text_of_row(row)))
      refine ⟨_, rfl, a, rfl, ⟨_, k1.sqt hq⟩, for_it walk_tup (fun i σ H' => ∃ v l, σ = [some (.ref a), some (.ref D), v] ∧ Kp [] H H' ∧ H' D = some (.lst (l.map V.str)) ∧ l ++ (F.drop i).flatMap (fun r => r.text.names) = rawNames F)
        ⟨none, _, rfl, k1, hl, rfl⟩ (fun i σ H' _ ⟨_, _, _, k, _⟩ => k.sqt hq) ?_ ?_⟩
      · rintro i x σ H2 H2' hi ⟨v, l, rfl, k2, hl2, el⟩ ⟨rfl, hx1⟩
        obtain ⟨b, r, eb, er, hb⟩ := file_row hF hx1
        subst eb
        have hb := hb.kp k2
        rw [drop_cons er, List.flatMap_cons] at el
        have hrow := hg r (List.mem_of_getElem? er)
        obtain ⟨wf, _⟩ := Bool.and_eq_true_iff.mp hrow
        refine ⟨_, rfl, .inl ⟨rfl, _, .inl (.inl hl2)⟩, _, rfl, b, r, rfl, hb, fun c H3 k3 hc => ?_⟩
        refine ⟨c, r.text, rfl, hc, wf, by omega, fun p H4 hN => ?_⟩
        obtain ⟨k4, hp, hL⟩ := hN
        have k34 := k3.trans k4
        have hD4 : H4 D = some (.lst (l.map V.str)) := k34.keep D _ (fun z => nomatch z) hl2
        have hlen : l.length + r.text.names.length ≤ 4000 := by
          have e2 := congrArg List.length el
          rw [List.length_append, List.length_append] at e2
          omega
        refine ⟨D, p, _, _, rfl, rfl, hD4, hL, by rw [List.length_map, List.length_map, sizeLine_eq]; omega, ?_⟩
        refine ⟨_, l ++ r.text.names, rfl, (k2.trans k34).own hD, ?_, by rw [List.append_assoc]; exact el⟩
        rw [upd_same, List.map_append]
      · rintro σ H2 ⟨v, l, rfl, k2, hl2, el⟩
        rw [List.length_map, ← paired_len hF, List.drop_length, List.flatMap_nil, List.append_nil] at el
        subst el
        -- return sorted(set(found))
        refine ⟨_, rfl, D, _, rfl, .inl (.inl hl2), by unfold scanBound; omega, fun p ks hp nd hm => ?_⟩
        have k3 := k2.new (SetXO w p (fun y => decide (y ∈ rawNames F)) ks.length) hp
        have hks : ks.length < 64 := Nat.lt_of_le_of_lt (nodup_le nd fun x hx => mem_sort.mpr ((hm x).mp hx)) h64
        refine ⟨p, _, ks.length, rfl, upd_same, hks, fun ns p' hs nd' hm' hp' => ?_⟩
        have e : ns = namesIn F := sorted_is hs nd' fun k => (hm' k).trans (by rw [decide_eq_true_eq])
        subst e
        exact q p' _ ⟨k3.new _ hp', k3.same.free hp', upd_same⟩
/-! the file is asked -/
def spNeed (K : PySem.W.Frag) : Sp := fun vs H Q _ => ∃ (a : Addr) (F : File), vs = [.ref a] ∧ FileAt K H a F ∧ F.length ≤ 40 ∧ (∀ r ∈ F, r.good = true) ∧ (rawNames F).length ≤ 4000 ∧ (namesIn F).length ≤ 6 ∧ ∀ H', Kp [] H H' → Q (.ref a) H'
theorem ok_need_file (T : Top K mg) : FnOk P w K mg base CX0 14 T.a_need_file T.d_need_file ["thing"] (spNeed K) := by
  refine T.F_need_file.ok sc_need_file (fun vs H Q E h => ?_) (fun cdv A outer s H vs Q E hr h => ?_)
  · obtain ⟨a, t, rfl, _⟩ := h
    rfl
  · obtain ⟨a, F, rfl, ⟨as, hq, hF⟩, hlen, hg, hfew, h6, q⟩ := h
    refine ⟨_, PSs.nox (pss_cons (ps_if (PW.pt (pw_or (pt_not (pt_val (pe_callB (r := rIsi K) call_isi rfl T.n_isinstance bt_isinstance (pa_cons (pv 0) (pa_cons (pe_bltn (v := .ty "tuple") rfl T.n_tuple bt_tuple rfl) pa_nil))))) (pw_or1 (pt_cmpR (op_gt) (pe_callB (r := rLenQ K) cr_lenQ rfl T.n_len bt_len (pa_cons (pv 0) pa_nil)) (pe_k rfl T.k_MOST_ROWS) (nomark _))))) (pss_one ps_never) pss_nil) (pss_cons (ps_for PassesOwn.never rfl (pi_enumT rfl T.n_enumerate (pa_cons (pv 0) pa_nil)) (pg_tup rfl (pgs_cons (pg_name (i := 1) sc_need_file.nd rfl (.inl rfl)) (pgs_cons (pg_name (i := 2) sc_need_file.nd rfl (.inl rfl)) pgs_nil))) (pss_one (ps_if (pt_not (pt_val (pe_call (ok_is_row T) (hr.mono (by omega)) rfl T.g_is_row T.F_is_row.kp (b_is_row T) .nil pass0 (pa_cons (pv 2) pa_nil)))) (pss_one ps_never) pss_nil))) (pss_cons (ps_if (pt_cmpR (op_gt) (pe_callB (r := rLenQ K) cr_lenQ rfl T.n_len bt_len (pa_cons (pe_call (ok_names_in T) (hr.mono (by omega)) rfl T.g_names_in T.F_names_in.kp (b_names_in T) .nil pass0 (pa_cons (pv 0) pa_nil)) pa_nil)) (pe_k rfl T.k_MOST_NAMES) (nomark _)) (pss_one ps_never) pss_nil) (pss_one (ps_ret (pv 0)))))), ?_⟩
    have hl : (as.map V.ref).length ≤ 40 := by rw [List.length_map, ← paired_len hF]; exact hlen
    refine ⟨_, rfl, _, _, _, _, _, rfl, .ty _, ty_tup hq, ki_tt, _, rfl, if_f rfl ?_⟩
    refine ⟨_, rfl, a, _, rfl, .inr hq, _, _, rfl, rfl, _, rfl, ?_⟩
    rw [decide_eq_false (show ¬ (40 : Int) < ((as.map V.ref).length : Nat) by omega)]
    refine if_f rfl ?_
    refine ⟨_, rfl, a, _, rfl, hq, for_enumT (K := K) (a := a) (xs := as.map V.ref) (fun i σ H' => ∃ u v, σ = [some (.ref a), u, v] ∧ Kp [] H H') ⟨none, none, rfl, Kp.nil H⟩ (fun i σ H' _ ⟨_, _, _, k⟩ => k.sqt hq) ?_ ?_⟩
    · rintro i x σ H1 Tt hi ⟨u, v, rfl, k1⟩ hT
      obtain ⟨b, r, eb, er, hb⟩ := file_row hF hi
      subst eb
      have k2 := k1.new (.tup [.int (i : Nat), .ref b]) hT
      refine ⟨Tt, _, rfl, .inl (.inl upd_same), rfl, _, _, rfl, _, _, rfl, rfl, ?_⟩
      exact ⟨_, rfl, b, r, rfl, hb.kp k2, hg r (List.mem_of_getElem? er), fun H3 k3 => ⟨_, rfl, if_f rfl ⟨_, _, rfl, k2.trans k3⟩⟩⟩
    · rintro σ H1 ⟨u, v, rfl, k1⟩
      refine ⟨_, rfl, a, F, rfl, ⟨as, k1.sqt hq, Paired.mapP hF fun _ _ r => r.kp k1⟩, hg, hfew, by omega, fun p H2 ⟨k2, hp, hL⟩ => ?_⟩
      refine ⟨p, _, rfl, .inl (.inl (.inl hL)), _, _, rfl, rfl, _, rfl, ?_⟩
      rw [decide_eq_false (show ¬ (12 : Int) < (((namesIn F).map V.str).length : Nat) by rw [List.length_map]; omega)]
      exact if_f rfl ⟨_, rfl, q H2 (k1.trans k2)⟩
/-! the names of the one file, a tuple -/
def spAll (K : PySem.W.Frag) : Sp := fun vs H Q _ => ∃ (l e a : Addr) (F : File), vs = [.ref l, .ref e] ∧ SqL K H l [.ref a] ∧ SqT K H e [] ∧ FileAt K H a F ∧ (∀ r ∈ F, r.good = true) ∧ (rawNames F).length ≤ 4000 ∧ (namesIn F).length ≤ 6 ∧
  ∀ p H', Kp [] H H' → SqT K H' p ((namesIn F).map V.str) → Q (.ref p) H'
theorem names_again (F : File) : sortNames (namesIn F) = namesIn F := rise_unique (sort_rise _) (sort_rise _) fun x => mem_sort
theorem ok_all_names (T : Top K mg) : FnOk P w K mg base CX0 9 T.a_all_names T.d_all_names ["files", "names"] (spAll K) := by
  refine T.F_all_names.ok sc_all_names (fun vs H Q E h => ?_) (fun cdv A outer s H vs Q E hr h => ?_)
  · obtain ⟨l, e, a, t, rfl, _⟩ := h
    rfl
  · obtain ⟨l, e, a, F, rfl, hl, he, hF, hg, hfew, h6, q⟩ := h
    refine ⟨_, PSs.nox (pss_cons (ps_set (i := 2) sc_all_names.nd rfl (.inl rfl) (pe_callTy call_list_of rfl T.n_list bt_list (pa_cons (pv 1) pa_nil))) (pss_cons (ps_for PassesOwn.never rfl (pi_list (pv 0)) (pg_name (i := 3) sc_all_names.nd rfl (.inl rfl)) (pss_one (ps_expr (pe_bm PySem.F.plainAttrs_list PySem.F.slot_list_extend PySem.F.type_list_extend mt_extend (pv 2) (pa_cons (pe_call (ok_names_in T) (hr.mono (by omega)) rfl T.g_names_in T.F_names_in.kp (b_names_in T) .nil pass0 (pa_cons (pv 3) pa_nil)) pa_nil))))) (pss_cons (ps_if (pt_cmpR (op_gt) (pe_callB cr_lenSet rfl T.n_len bt_len (pa_cons (pe_callTy (cr_setStrs rfl) rfl T.n_set bt_set (pa_cons (pv 2) pa_nil)) pa_nil)) (pe_k rfl T.k_MOST_ASKED) (nomark _)) (pss_one ps_never) pss_nil) (pss_one (ps_ret (pe_callTy call_tuple_of rfl T.n_tuple bt_tuple (pa_cons (pe_callB (cr_sortedSetX rfl) rfl T.n_sorted bt_sorted (pa_cons (pe_callTy (cr_setStrs rfl) rfl T.n_set bt_set (pa_cons (pv 2) pa_nil)) pa_nil)) pa_nil))))))), ?_⟩
    refine ⟨_, rfl, e, _, rfl, .inr he, fun f hf => ?_⟩
    have k0 := (Kp.nil H).new (.lst []) hf
    have nl : ∀ {H'}, Kp [] H H' → SqL K H' l [V.ref a] := fun k => k.sql (fun z => nomatch z) hl
    refine ⟨_, rfl, l, rfl, ⟨_, nl k0⟩, for_it walk_list (fun i σ H' => ∃ v, σ = [some (.ref l), some (.ref e), some (.ref f), v] ∧ Kp [] H H' ∧ H' f = some (.lst (if i = 0 then [] else (namesIn F).map V.str)))
      ⟨none, rfl, k0, upd_same⟩ (fun i σ H' _ ⟨_, _, k, _⟩ => nl k) ?_ ?_⟩
    · rintro i x σ H1 H1' hi ⟨v, rfl, k1, hf1⟩ ⟨rfl, hx⟩
      obtain rfl : i = 0 := by simp at hi; omega
      obtain rfl : V.ref a = x := Option.some.inj hx
      rw [if_pos rfl] at hf1
      refine ⟨_, rfl, .inl ⟨rfl, _, .inl (.inl hf1)⟩, _, rfl, a, F, rfl, hF.kp k1, hg, hfew, by omega, fun p H2 ⟨k2, hp, hL⟩ => ?_⟩
      have hf2 : H2 f = some (.lst []) := k2.keep f _ (fun z => nomatch z) hf1
      refine ⟨f, p, _, _, rfl, rfl, hf2, hL, by rw [List.length_map, sizeLine_eq, List.length_nil]; omega, ?_⟩
      exact ⟨_, rfl, (k1.trans k2).own hf, by rw [upd_same]; rfl⟩
    · rintro σ H1 ⟨v, rfl, k1, hf1⟩
      have hf1 : H1 f = some (.lst ((namesIn F).map V.str)) := hf1
      -- if len(set(found)) > MOST_ASKED
      refine ⟨_, rfl, f, _, rfl, .inl (.inl hf1), by unfold scanBound; omega, fun p ks hp nd hm => ?_⟩
      have k2 := k1.new (SetXO w p (fun y => decide (y ∈ namesIn F)) ks.length) hp
      have hks : ks.length ≤ 6 := Nat.le_trans (nodup_le nd fun x hx => (hm x).mp hx) h6
      refine ⟨p, _, ks.length, rfl, upd_same, _, _, rfl, rfl, _, rfl, ?_⟩
      rw [decide_eq_false (show ¬ (6 : Int) < (ks.length : Nat) by omega)]
      refine if_f rfl ?_
      -- return tuple(sorted(set(found)))
      have hf2 : (upd H1 p (SetXO w p (fun y => decide (y ∈ namesIn F)) ks.length)) f = some (.lst ((namesIn F).map V.str)) := by rw [upd_ne (ne_of_none hf1 hp)]; exact hf1
      refine ⟨_, rfl, f, _, rfl, .inl (.inl hf2), by unfold scanBound; omega, fun p2 ks2 hp2 nd2 hm2 => ?_⟩
      have k3 := k2.new (SetXO w p2 (fun y => decide (y ∈ namesIn F)) ks2.length) hp2
      have hks2 : ks2.length ≤ 6 := Nat.le_trans (nodup_le nd2 fun x hx => (hm2 x).mp hx) h6
      refine ⟨p2, _, ks2.length, rfl, upd_same, by omega, fun ns p' hs nd' hm' hp' => ?_⟩
      have en : ns = namesIn F := (sorted_is hs nd' fun k => (hm' k).trans (by rw [decide_eq_true_eq])).trans (names_again F)
      subst en
      have k4 := k3.new (.lst ((namesIn F).map V.str)) hp'
      refine ⟨p', _, rfl, .inl ⟨.inl (.inl upd_same), fun t ht => ?_⟩⟩
      exact q t _ (k4.new _ ht) (.inl (.inl upd_same))
end
end EV
end

section
set_option Elab.async false
set_option linter.all false
set_option maxRecDepth 100000
set_option maxHeartbeats 4000000
/-! bodies: words, cases -/
namespace EV
open PySem PySem.Spec PyProof.Rows L2
section
variable {P : Program} {w : World} {K : PySem.W.Frag} {mg : Str → Option Value} {base : Heap}
/-! the length of a word -/
def spLen (K : PySem.W.Frag) : Sp := fun vs H Q _ => ∃ (v : V) (z : Str), vs = [v] ∧ WordAt K H v z ∧ z.length ≤ 1000000 ∧ ∀ H', Kp [] H H' → Q (.int (z.length : Nat)) H'
theorem its_get {H : Hp} : ∀ {xs : List V} {z : Str} {i : Nat} {x : V}, ItsAt K H xs z → xs[i]? = some x → ∃ p y r, z = p ++ (y ++ r) ∧ ItAt K H x y ∧ ItsAt K H (xs.drop (i + 1)) r ∧ ItsAt K H (xs.take i) p
  | [], _, i, x, _, e => by cases i <;> cases e
  | x0 :: xs, _, 0, x, ⟨y, r, e1, h1, h2⟩, e => by
    cases e
    exact ⟨e0, y, r, by rw [e0_app, e1], h1, h2, rfl⟩
  | x0 :: xs, _, i + 1, x, ⟨y, r, e1, h1, h2⟩, e => by
    obtain ⟨p, y', r', e2, h3, h4, h5⟩ := its_get (xs := xs) (i := i) h2 e
    exact ⟨y ++ p, y', r', by rw [e1, e2, app_assoc], h3, h4, y, p, rfl, h1, h5⟩
theorem it_len {H : Hp} {x : V} {y : Str} (h : ItAt K H x y) (hz : y.length ≤ 1000000) : LenV K x H y.length := by
  rcases h with ⟨e, _⟩ | ⟨b, n, e, hq, ey⟩
  · subst e
    exact ⟨by rw [sizeLine_eq]; omega, rfl⟩
  · subst e
    exact .inr ⟨_, hq, by rw [ey]; rfl⟩
theorem ok_length_of (T : Top K mg) : FnOk P w K mg base CX0 1 T.a_length_of T.d_length_of ["word"] (spLen K) := by
  refine T.F_length_of.ok sc_length_of (fun vs H Q E h => ?_) (fun cdv A outer s H vs Q E hr h => ?_)
  · obtain ⟨v, z, rfl, _⟩ := h
    rfl
  · obtain ⟨v, z, rfl, ⟨a, xs, rfl, hq, hx⟩, hz, q⟩ := h
    refine ⟨_, PSs.nox (pss_one (ps_ret (pe_callB (r := rSum K) (cr_sum rfl) rfl T.n_sum bt_sum (pa_cons (pe_lc rfl sc_length_of.nd (pi_tup (pv 0)) (blkOk_by (own := [("item", 1)]) (by kernel_rfl)) (fun _ _ _ _ _ => (pg_name (i := 1) sc_length_of.nd rfl (.inl rfl))) (fun _ _ _ _ _ => pts_nil) (fun _ _ _ _ _ => (pe_callB (r := rLenAny K) cr_lenAny rfl T.n_len bt_len (pa_cons (pv 1) pa_nil)))) pa_nil)))), ?_⟩
    have hlen : xs.length ≤ 1000000 := Nat.le_trans hx.le hz
    refine ⟨_, rfl, a, rfl, ⟨_, hq⟩, fun D hD => lc_it walk_tup (fun i H' => ∃ (ns : List Int) (r p : Str), Kp [] H H' ∧ H' D = some (.lst (ns.map V.int)) ∧ ns.length = i ∧ z = p ++ r ∧ ns.sum = (p.length : Nat) ∧ ItsAt K H (xs.drop i) r)
      ⟨[], z, e0, (Kp.nil H).new _ hD, upd_same, rfl, (e0_app z).symm, rfl, hx⟩ (fun i H' _ ⟨_, _, _, k, _⟩ => k.sqt hq) ?_ ?_⟩
    · rintro i x H1 H2 hi ⟨ns, r, p, k1, hl, en, ez, es, hr1⟩ ⟨rfl, hx1⟩
      rw [drop_cons hx1] at hr1
      obtain ⟨y, r', e1, h1, h2⟩ := hr1
      have hy : y.length ≤ 1000000 := by
        rw [ez, e1, app_len, app_len] at hz
        omega
      refine ⟨rfl, _, rfl, x, y.length, rfl, it_len (h1.kp k1) hy, _, hl, by rw [List.length_map, en, sizeLine_eq]; omega, ns ++ [(y.length : Int)], r', p ++ y, k1.own hD, by rw [upd_same, List.map_append]; rfl, by rw [List.length_append, en]; rfl, by rw [ez, e1, app_assoc], ?_, h2⟩
      rw [List.sum_append, es, app_len]
      simp
    · rintro H1 ⟨ns, r, p, k1, hl, en, ez, es, hr1⟩
      rw [List.drop_length] at hr1
      refine ⟨D, ns, rfl, .inl (.inl hl), ?_⟩
      rw [es, show p = z by rw [ez, show r = e0 from hr1, app_e0]]
      exact q H1 k1
/-! two words put together -/
def spPut (K : PySem.W.Frag) : Sp := fun vs H Q _ => ∃ (v u : V) (y z : Str), vs = [v, u] ∧ WordAt K H v y ∧ WordAt K H u z ∧ y.length + z.length ≤ 1000000 ∧ ∀ v' H', Kp [] H H' → WordAt K H' v' (y ++ z) → Q v' H'
theorem ok_put_together (T : Top K mg) : FnOk P w K mg base CX0 1 T.a_put_together T.d_put_together ["one", "other"] (spPut K) := by
  refine T.F_put_together.ok sc_put_together (fun vs H Q E h => ?_) (fun cdv A outer s H vs Q E hr h => ?_)
  · obtain ⟨v, u, y, z, rfl, _⟩ := h
    rfl
  · obtain ⟨v, u, y, z, rfl, ⟨a, xs, rfl, ha, hx⟩, ⟨b, ys, rfl, hb, hy⟩, hz, q⟩ := h
    refine ⟨_, PSs.nox (pss_cons (ps_if (PW.pt (pw_and (pt_cmpR (op_gt) (pe_callB (r := rLenQ K) cr_lenQ rfl T.n_len bt_len (pa_cons (pv 0) pa_nil)) pe_int (nomark _)) (pw_and (pt_cmpR (op_gt) (pe_callB (r := rLenQ K) cr_lenQ rfl T.n_len bt_len (pa_cons (pv 1) pa_nil)) pe_int (nomark _)) (pw_and (pt_val (pe_callB (r := rIsi K) call_isi rfl T.n_isinstance bt_isinstance (pa_cons (pe_ix (r := rIxT K) ix_tup (pv 0) (pe_un un_neg pe_int) (fun _ _ => rfl)) (pa_cons (pe_bltn (v := .ty "str") rfl T.n_str bt_str rfl) pa_nil)))) (pw_and1 (pt_val (pe_callB (r := rIsi K) call_isi rfl T.n_isinstance bt_isinstance (pa_cons (pe_ix (r := rIxT K) ix_tup (pv 1) pe_int (fun _ _ => rfl)) (pa_cons (pe_bltn (v := .ty "str") rfl T.n_str bt_str rfl) pa_nil))))))))) (pss_one (ps_ret (pe_op (r := rCatA K) (op_catA) (pe_op (r := rCatA K) (op_catA) (pe_slice (r := rSlA K) sl_tupA (pv 0) po_none (po_some (pe_un un_neg pe_int))) (pe_tup (pa_cons (pe_op (op_add_str) (pe_ix (r := rIxT K) ix_tup (pv 0) (pe_un un_neg pe_int) (fun _ _ => rfl)) (pe_ix (r := rIxT K) ix_tup (pv 1) pe_int (fun _ _ => rfl))) pa_nil))) (pe_slice (r := rSlA K) sl_tupA (pv 1) (po_some pe_int) po_none)))) pss_nil) (pss_one (ps_ret (pe_op (r := rCatA K) (op_catA) (pv 0) (pv 1))))), ?_⟩
    have hxl := hx.le
    have hyl := hy.le
    have plus : ∀ {R : VK}, R = Q → tRet (tOp (rCatA K) (tVar 0) (tVar 1)) { nx := fun _ H' => Q .non H', rt := R } (L2.start ["one", "other"] [.ref a, .ref b]) H := fun e => by
      subst e
      exact ⟨_, rfl, _, rfl, catA ha hb (by rw [sizeLine_eq]; omega) fun p H' k h => q _ H' k ⟨p, _, rfl, h, (hx.kp k).app (hy.kp k)⟩⟩
    refine ⟨_, rfl, a, xs, rfl, .inr ha, _, _, rfl, rfl, _, rfl, ?_⟩
    rcases List.eq_nil_or_concat xs with e | ⟨init, lx, e⟩
    · subst e
      exact if_f rfl (if_f rfl (plus rfl))
    · rw [List.concat_eq_append] at e
      subst e
      rw [decide_eq_true (show (0 : Int) < ((init ++ [lx]).length : Nat) by rw [List.length_append]; simp only [List.length_cons, List.length_nil]; omega)]
      refine if_t rfl ⟨_, rfl, b, ys, rfl, .inr hb, _, _, rfl, rfl, _, rfl, ?_⟩
      cases ys with
      | nil => exact if_f rfl (if_f rfl (plus rfl))
      | cons fy rest =>
        rw [decide_eq_true (show (0 : Int) < ((fy :: rest).length : Nat) by rw [List.length_cons]; omega)]
        obtain ⟨p1, y1, r1, e1, h1, h2, h3⟩ := its_get hx (show (init ++ [lx])[init.length]? = some lx by simp)
        rw [show (init ++ [lx]).drop (init.length + 1) = [] from List.drop_of_length_le (by simp)] at h2
        rw [List.take_left] at h3
        have e2 : r1 = e0 := h2
        obtain ⟨y2, r2, e3, h4, h5⟩ := hy
        refine if_t rfl ⟨_, rfl, 1, rfl, a, _, -1, lx, rfl, rfl, ha, atI_last init lx, ?_⟩
        rcases h1 with ⟨el, n1⟩ | ⟨d, n, el, hd, _⟩
        · subst el
          refine ⟨_, _, _, _, _, rfl, .ty _, .base (.str _), ki_ss, _, rfl, if_t rfl ⟨_, rfl, b, _, 0, fy, rfl, rfl, hb, atI_nat (j := 0) rfl, ?_⟩⟩
          rcases h4 with ⟨ef, n2⟩ | ⟨d, n, ef, hd, _⟩
          · subst ef
            refine ⟨_, _, _, _, _, rfl, .ty _, .base (.str _), ki_ss, _, rfl, if_t rfl ?_⟩
            -- return one[:-1] + (one[-1] + other[0],) + other[1:]
            have c1 : y1.length + y2.length ≤ 1000000 := by
              have := congrArg Str.length e1
              have := congrArg Str.length e3
              rw [app_len, app_len] at *
              omega
            refine ⟨_, rfl, 1, rfl, -1, rfl, slA ha fun p H1 k1 hp => ?_⟩
            rw [cut_init] at hp
            refine ⟨_, rfl, 1, rfl, a, _, -1, _, rfl, rfl, k1.sqt ha, atI_last init _, _, rfl, b, _, 0, _, rfl, rfl, k1.sqt hb, atI_nat (j := 0) rfl, y1, y2, rfl, rfl, by rw [sizeLine_eq]; omega, by rw [sizeLine_eq]; simp only [List.length_cons, List.length_nil]; omega, fun p2 hp2 => ?_⟩
            have k2 := k1.new (.tup [.str (y1 ++ y2)]) hp2
            have k12 : Kp [] H1 (upd H1 p2 (.tup [.str (y1 ++ y2)])) := (Kp.nil H1).new _ hp2
            refine catA (k12.sqt hp) (.inl (.inl upd_same)) (by rw [List.length_append] at hxl; simp only [List.length_cons, List.length_nil] at hxl ⊢; rw [sizeLine_eq]; omega) fun p3 H3 k3 hp3 => ?_
            have k13 := k2.trans k3
            refine ⟨_, rfl, 1, rfl, ?_⟩
            dsimp only [tNoPart]
            refine slA (k13.sqt hb) fun p4 H4 k4 hp4 => ?_
            rw [cut_tail] at hp4
            have k14 := k13.trans k4
            refine catA (k4.sqt hp3) hp4 (by rw [List.length_append] at hxl ⊢; rw [List.length_cons] at hyl; simp only [List.length_cons, List.length_nil] at hxl ⊢; rw [sizeLine_eq]; omega) fun p5 H5 k5 hp5 => ?_
            have k15 := k14.trans k5
            refine q _ H5 k15 ⟨p5, _, rfl, hp5, ?_⟩
            have ew : y ++ z = p1 ++ (y1 ++ y2) ++ r2 := by rw [e1, e2, e3, app_e0]; simp only [app_assoc]
            rw [ew]
            have m : ItsAt K H5 [V.str (y1 ++ y2)] (y1 ++ y2) := ⟨_, e0, (app_e0 _).symm, .inl ⟨rfl, fun z => ?_⟩, rfl⟩
            · exact ((h3.kp k15).app m).app (h5.kp k15)
            · have := congrArg Str.length z
              rw [app_len] at this
              have : 1 ≤ y1.length := (show ItAt K H (.str y1) y1 from .inl ⟨rfl, n1⟩).pos
              have : e0.length = 0 := rfl
              omega
          · subst ef
            exact ⟨_, _, _, _, _, rfl, .ty _, ty_tup hd, ki_ts, _, rfl, if_f rfl (plus rfl)⟩
        · subst el
          exact ⟨_, _, _, _, _, rfl, .ty _, ty_tup hd, ki_ts, _, rfl, if_f rfl (if_f rfl (plus rfl))⟩
/-! cases -/
def stW : Option Str → Str | none => "unset" | some z => if z = e0 then "empty" else "full"
def PairAt (K : PySem.W.Frag) (H : Hp) (v : V) (p : Str × Option Str) : Prop := ∃ d, v = .ref d ∧ SqT K H d [.str p.1, .str (stW p.2)]
def CaseAt (K : PySem.W.Frag) (H : Hp) (v : V) (c : Case) : Prop := ∃ b vs, v = .ref b ∧ SqT K H b vs ∧ Paired (PairAt K H) vs c
def CasesAt (K : PySem.W.Frag) (H : Hp) (l : Addr) (cs : List Case) : Prop := ∃ vs, H l = some (.lst vs) ∧ Paired (CaseAt K H) vs cs
theorem PairAt.kp {L : List Addr} {H H' : Hp} {v : V} {p : Str × Option Str} (h : PairAt K H v p) (k : Kp L H H') : PairAt K H' v p := let ⟨d, e, h⟩ := h; ⟨d, e, k.sqt h⟩
theorem CaseAt.kp {L : List Addr} {H H' : Hp} {v : V} {c : Case} (h : CaseAt K H v c) (k : Kp L H H') : CaseAt K H' v c := let ⟨b, vs, e, h1, h2⟩ := h; ⟨b, vs, e, k.sqt h1, Paired.mapP h2 fun _ _ r => r.kp k⟩
theorem cases_kp {L : List Addr} {H H' : Hp} {vs : List V} {cs : List Case} (h : Paired (CaseAt K H) vs cs) (k : Kp L H H') : Paired (CaseAt K H') vs cs := Paired.mapP h fun _ _ r => r.kp k
theorem step_len (F : List Case) (n : Str) : (caseStep F n).length = F.length * 3 := by
  unfold caseStep
  induction F with
  | nil => rfl
  | cons c F ih =>
    rw [List.flatMap_cons, List.length_append, ih, List.length_cons, List.length_map]
    show 3 + _ = _
    omega
theorem fold_len : ∀ (ns : List Str) (F : List Case), (ns.foldl caseStep F).length = F.length * 3 ^ ns.length
  | [], F => by simp
  | n :: ns, F => by
    show (ns.foldl caseStep (caseStep F n)).length = _
    rw [fold_len ns, step_len, List.length_cons, Nat.pow_succ, Nat.mul_assoc, Nat.mul_comm 3]
/-- the cases so far are short -/
theorem fold_short : ∀ (ns : List Str) (F : List Case) (c : Case), c ∈ F → ∃ d ∈ ns.foldl caseStep F, d.length = c.length + ns.length
  | [], F, c, h => ⟨c, h, rfl⟩
  | n :: ns, F, c, h => by
    obtain ⟨d, hd, e⟩ := fold_short ns (caseStep F n) (c ++ [(n, none)]) (List.mem_flatMap.mpr ⟨c, h, List.mem_map.mpr ⟨none, List.mem_cons_self .., rfl⟩⟩)
    exact ⟨d, hd, by rw [e, List.length_append, List.length_cons]; simp only [List.length_cons, List.length_nil]; omega⟩
theorem case_short {ns : List Str} {i : Nat} {n : Str} {cs : List Case} {c : Case} (ec : (n :: ns.drop (i + 1)).foldl caseStep cs = cases ns) (hn : ns[i]? = some n) (h6 : ns.length ≤ 6) (hc : c ∈ cs) : c.length ≤ 6 := by
  obtain ⟨d, hd, e⟩ := fold_short _ cs c hc
  rw [ec] at hd
  have h1 := congrArg List.length (mem_cases.mp hd).1
  rw [List.length_map] at h1
  omega
def spCases (K : PySem.W.Frag) : Sp := fun vs H Q _ => ∃ (a : Addr) (ns : List Str), vs = [.ref a] ∧ SqT K H a (ns.map V.str) ∧ ns.length ≤ 6 ∧ ∀ p H', Kp [] H H' → H p = none → CasesAt K H' p (cases ns) → Q (.ref p) H'
theorem ok_all_cases (T : Top K mg) : FnOk P w K mg base CX0 1 T.a_all_cases T.d_all_cases ["names"] (spCases K) := by
  refine T.F_all_cases.ok sc_all_cases (fun vs H Q E h => ?_) (fun cdv A outer s H vs Q E hr h => ?_)
  · obtain ⟨v, z, rfl, _⟩ := h
    rfl
  · obtain ⟨a, ns, rfl, hq, h6, q⟩ := h
    refine ⟨_, PSs.nox (pss_cons (ps_set (i := 1) sc_all_cases.nd rfl (.inl rfl) (pe_lst (pa_cons (pe_tup pa_nil) pa_nil))) (pss_cons (ps_for PassesOwn.never rfl (pi_tup (pv 0)) (pg_name (i := 2) sc_all_cases.nd rfl (.inr rfl)) (pss_one (ps_setLc2 (i := 1) (vs1 := [4]) (wi1 := iTup K _) rfl sc_all_cases.nd rfl rfl rfl (pi_list (pv 1)) (blkOk_by (own := [("case", 3), ("state", 4)]) (by kernel_rfl)) (by decide) (fun _ _ _ _ _ => (pg_name (i := 3) sc_all_cases.nd rfl (.inl rfl))) (fun _ _ _ _ _ => pts_nil) (fun _ _ _ _ _ => (pi_tup (pe_tup (pa_cons (pe_k rfl T.k_UNSET) (pa_cons (pe_k rfl T.k_EMPTY) (pa_cons (pe_k rfl T.k_FULL) pa_nil)))))) (fun _ _ _ _ _ => (pg_name (i := 4) sc_all_cases.nd rfl (.inl rfl))) (fun _ _ _ _ _ => pts_nil) (fun _ _ _ _ _ => (pe_op (r := rCatA K) (op_catA) (pv 3) (pe_tup (pa_cons (pe_tup (pa_cons (pv 2) (pa_cons (pv 4) pa_nil))) pa_nil))))))) (pss_one (ps_ret (pv 1))))), ?_⟩
    -- found = [()]
    refine ⟨Nat.zero_le _, fun e he => ⟨sz1, fun f hf => ?_⟩⟩
    have k0 := (Kp.nil H).new (.tup []) he
    have k1 := k0.new (.lst [.ref e]) hf
    have he1 : (upd (upd H e (.tup [])) f (.lst [.ref e])) e = some (.tup []) := by rw [upd_ne (ne_of_none upd_same hf)]; exact upd_same
    refine ⟨_, rfl, a, rfl, ⟨_, k1.sqt hq⟩, for_it walk_tup (fun i σ H' => ∃ f' n' cs, σ = [some (.ref a), some (.ref f'), n', none, none] ∧ Kp [] H H' ∧ H f' = none ∧ CasesAt K H' f' cs ∧ (ns.drop i).foldl caseStep cs = cases ns)
      ⟨f, none, [[]], rfl, k1, k0.same.free hf, ⟨_, upd_same, .cons ⟨e, [], rfl, .inl (.inl he1), .nil⟩ .nil⟩, rfl⟩ (fun i σ H' _ ⟨_, _, _, _, k, _⟩ => k.sqt hq) ?_ ?_⟩
    · rintro i x σ H1 H1' hi ⟨f', n', cs, rfl, k2, hf', ⟨vs, hl, hp⟩, ec⟩ ⟨rfl, hx⟩
      obtain ⟨n, hn, rfl⟩ : ∃ n, ns[i]? = some n ∧ x = .str n := by
        rw [List.getElem?_map] at hx
        cases e : ns[i]? with
        | none => rw [e] at hx; cases hx
        | some n => rw [e] at hx; exact ⟨n, rfl, (Option.some.inj hx).symm⟩
      rw [drop_cons hn] at ec
      have few : (caseStep cs n).length ≤ 729 := by
        have e1 := congrArg List.length (show (ns.drop (i + 1)).foldl caseStep (caseStep cs n) = cases ns from ec)
        rw [fold_len] at e1
        have e2 : (cases ns).length = 3 ^ ns.length := by unfold cases; rw [fold_len]; simp
        have e3 : 3 ^ ns.length ≤ 3 ^ 6 := Nat.pow_le_pow_right (by decide) h6
        have e4 : 1 ≤ 3 ^ (ns.drop (i + 1)).length := Nat.pos_of_ne_zero (by simp)
        have e5 : (caseStep cs n).length * 1 ≤ (caseStep cs n).length * 3 ^ (ns.drop (i + 1)).length := Nat.mul_le_mul_left _ e4
        omega
      refine ⟨_, rfl, f', rfl, ⟨vs, .inl (.inl hl)⟩, fun D hD => lc_gen walk_list (fun j H' => ∃ vs' done, Kp [] H1' H' ∧ H' D = some (.lst vs') ∧ Paired (CaseAt K H') vs' done ∧ done ++ (cs.drop j).flatMap (fun c => states.map fun s => c ++ [(n, s)]) = caseStep cs n)
        ⟨[], [], (Kp.nil H1').new _ hD, upd_same, .nil, rfl⟩ (fun j H' _ ⟨_, _, k, _⟩ => k.sql (fun z => nomatch z) (.inl (.inl hl))) ?_ ?_⟩
      · rintro j x H2 H2' hj ⟨vs', done, k3, hD2, hp2, ed⟩ ⟨rfl, hx2⟩
        obtain ⟨c, ec2, hc⟩ := paired_at hp hx2
        have hc := hc.kp k3
        rw [drop_cons ec2, List.flatMap_cons] at ed
        refine ⟨rfl, by decide, fun p hp3 => ⟨p, rfl, ⟨_, .inl (.inl upd_same)⟩, ?_⟩⟩
        have k4 := k3.new (.tup [.str "unset", .str "empty", .str "full"]) hp3
        have hpt : (upd H2' p (.tup [.str "unset", .str "empty", .str "full"])) p = some (.tup (states.map fun s => V.str (stW s))) := upd_same
        refine lc_gen walk_tup (fun k H' => ∃ vs' done, Kp [] H1' H' ∧ H' p = some (.tup (states.map fun s => V.str (stW s))) ∧ H' D = some (.lst vs') ∧ Paired (CaseAt K H') vs' done ∧ CaseAt K H' x c ∧ done ++ ((states.drop k).map (fun s => c ++ [(n, s)]) ++ (cs.drop (j + 1)).flatMap (fun c => states.map fun s => c ++ [(n, s)])) = caseStep cs n)
          ⟨vs', done, k4, hpt, by rw [upd_ne (ne_of_none hD2 hp3)]; exact hD2, cases_kp hp2 ((Kp.nil H2').new _ hp3), hc.kp ((Kp.nil H2').new _ hp3), ed⟩ (fun k H' _ ⟨_, _, _, h, _⟩ => .inl (.inl h)) ?_ ?_
        · rintro k y H3 H3' hk ⟨vs2, done2, k5, hpt2, hD3, hp4, hc3, ed2⟩ ⟨rfl, hy⟩
          obtain ⟨s0, hs0, rfl⟩ : ∃ s0, states[k]? = some s0 ∧ y = .str (stW s0) := by
            rw [List.getElem?_map] at hy
            cases e : states[k]? with
            | none => rw [e] at hy; cases hy
            | some n => rw [e] at hy; exact ⟨n, rfl, (Option.some.inj hy).symm⟩
          rw [drop_cons hs0, List.map_cons] at ed2
          obtain ⟨b, cv, rfl, hb, hcv⟩ := hc3
          have hlc : done2.length ≤ 729 := by
            have := congrArg List.length ed2
            rw [List.length_append] at this
            omega
          have hcl : cv.length ≤ 1000 := by
            have h1 := Paired.length hcv
            have h2 : (cases ns).length ≠ 0 := by unfold cases; rw [fold_len]; simp
            have h3 : c.length ≤ 6 := case_short ec hn h6 (List.mem_of_getElem? ec2)
            omega
          refine ⟨rfl, _, rfl, _, rfl, _, rfl, sz2, fun p1 hp1 => ⟨sz1, fun p2 hp2' => ?_⟩⟩
          have k6 := (Kp.nil H3').new (.tup [.str n, .str (stW s0)]) hp1
          have k7 := k6.new (.tup [.ref p1]) hp2'
          have hp1' : (upd (upd H3' p1 (.tup [.str n, .str (stW s0)])) p2 (.tup [.ref p1])) p1 = some (.tup [.str n, .str (stW s0)]) := by rw [upd_ne (ne_of_none upd_same hp2')]; exact upd_same
          refine catA (k7.sqt hb) (.inl (.inl upd_same)) (by rw [sizeLine_eq]; simp only [List.length_cons, List.length_nil]; omega) fun p3 H4 k8 hp3' => ?_
          have k9 := k7.trans k8
          have hD4 : H4 D = some (.lst vs2) := k9.keep D _ (fun z => nomatch z) hD3
          have own : ∀ {H' : Hp}, Kp [] H1' H' → Kp [] H1' (upd H' D (.lst (vs2 ++ [.ref p3]))) := fun kk => kk.own hD
          have kD : Kp [D] H4 (upd H4 D (.lst (vs2 ++ [.ref p3]))) := (Kp.refl (fun d hd => by rw [List.mem_singleton.mp hd, hD4]; trivial)).put (List.mem_singleton.mpr rfl) trivial
          refine ⟨_, hD4, by rw [← Paired.length hp4] at hlc; rw [sizeLine_eq]; omega, vs2 ++ [.ref p3], done2 ++ [c ++ [(n, s0)]], own (k5.trans k9), ?_, upd_same, ?_, ?_, by rw [List.append_assoc]; exact ed2⟩
          · exact kD.tup (k9.tup hpt2)
          · refine paired_app (cases_kp (cases_kp hp4 k9) kD) (.cons ⟨p3, cv ++ [.ref p1], rfl, kD.sqt hp3', ?_⟩ .nil)
            refine paired_app (Paired.mapP hcv fun _ _ r => (r.kp k9).kp kD) (.cons ⟨p1, rfl, kD.sqt (.inl (.inl (k8.tup hp1')))⟩ .nil)
          · exact ⟨b, cv, rfl, kD.sqt (k9.sqt hb), Paired.mapP hcv fun _ _ r => (r.kp k9).kp kD⟩
        · rintro H3 ⟨vs2, done2, k5, hpt2, hD3, hp4, hc3, ed2⟩
          exact ⟨vs2, done2, k5, hD3, hp4, ed2⟩
      · rintro H2 ⟨vs', done, k3, hD2, hp2, ed⟩
        rw [Paired.length hp, List.drop_length, List.flatMap_nil, List.append_nil] at ed
        subst ed
        exact ⟨D, some (.str n), _, rfl, k2.trans k3, k2.same.free hD, ⟨vs', hD2, hp2⟩, ec⟩
    · rintro σ H1 ⟨f', n', cs, rfl, k2, hf', hc, ec⟩
      rw [List.length_map, List.drop_length] at ec
      have ec : cs = cases ns := ec
      subst ec
      exact ⟨_, rfl, q f' H1 k2 hf' hc⟩
end
end EV
end

section
set_option Elab.async false
set_option linter.all false
set_option maxRecDepth 100000
set_option maxHeartbeats 4000000
/-! bodies: what a case begins with; the spots of a file -/
namespace EV
open PySem PySem.Spec PyProof.Rows L2
theorem mp_snoc_some {l : Case} {n s : Str} (h : n ∉ l.map (·.1)) : mpOf (l ++ [(n, some s)]) = (mpOf l).put n s := by
  funext x
  unfold mpOf Mp.put
  rw [List.find?_append]
  by_cases e : x = n
  · subst e
    have : l.find? (fun p => decide (p.1 = x)) = none := List.find?_eq_none.mpr fun p hp z => h (List.mem_map.mpr ⟨p, hp, of_decide_eq_true z⟩)
    rw [this, if_pos rfl]
    simp
  · rw [if_neg e]
    show _ = (l.find? fun p => decide (p.1 = x)).bind (·.2)
    cases l.find? (fun p => decide (p.1 = x)) with
    | some q => rfl
    | none => simp [Ne.symm e]
theorem mp_snoc_none {l : Case} {n : Str} : mpOf (l ++ [(n, none)]) = mpOf l := by
  funext x
  unfold mpOf
  rw [List.find?_append]
  cases h : l.find? (fun p => decide (p.1 = x)) with
  | some q => rfl
  | none =>
    by_cases e : n = x
    · simp [e]
    · simp [e]
theorem env_snoc_some : ∀ (l : Case) (n s : Str), envOf (l ++ [(n, some s)]) = envOf l ++ [(n, s)]
  | [], _, _ => rfl
  | (m, none) :: l, n, s => env_snoc_some l n s
  | (m, some z) :: l, n, s => congrArg ((m, z) :: ·) (env_snoc_some l n s)
theorem env_snoc_none : ∀ (l : Case) (n : Str), envOf (l ++ [(n, none)]) = envOf l
  | [], _ => rfl
  | (m, none) :: l, n => env_snoc_none l n
  | (m, some z) :: l, n => congrArg ((m, z) :: ·) (env_snoc_none l n)
theorem take_snoc {α : Type} {l : List α} {i : Nat} {x : α} (h : l[i]? = some x) : l.take (i + 1) = l.take i ++ [x] := by rw [List.take_succ, h]; rfl
theorem nodup_next {α : Type} {l : List α} {i : Nat} {x : α} (nd : l.Nodup) (h : l[i]? = some x) : x ∉ l.take i := by
  intro hx
  obtain ⟨j, hj, e⟩ := List.mem_iff_getElem.mp hx
  have hlt := (List.getElem?_eq_some_iff.mp h).1
  rw [List.length_take] at hj
  rw [List.getElem_take] at e
  have e2 := (List.getElem?_eq_some_iff.mp h).2
  have := (List.nodup_iff_pairwise_ne.mp nd)
  rw [List.pairwise_iff_getElem] at this
  exact this j i (by omega) hlt (by omega) (e.trans e2.symm)
section
variable {P : Program} {w : World} {K : PySem.W.Frag} {mg : Str → Option Value} {base : Heap}
theorem CaseAt.get {H : Hp} {vs : List V} {c : Case} {i : Nat} {x : V} (h : Paired (PairAt K H) vs c) (e : vs[i]? = some x) : ∃ n o, c[i]? = some (n, o) ∧ PairAt K H x (n, o) := by
  obtain ⟨p, h1, h2⟩ := paired_at h e
  exact ⟨p.1, p.2, h1, h2⟩
/-- a good case -/
def CaseOk (c : Case) : Prop := (c.map (·.1)).Nodup ∧ c.length ≤ 6 ∧ ∀ p ∈ c, p.2 ∈ states
theorem st_unset {o : Option Str} (h : o ∈ states) : (!decide (V.str (stW o) = V.str "unset")) = o.isSome := by
  rcases List.mem_cons.mp h with e | h
  · subst e; decide
  rcases List.mem_cons.mp h with e | h
  · subst e; decide
  rw [List.mem_singleton.mp h]; decide
theorem st_empty {s : Str} (h : some s ∈ states) : (s = e0 ∧ decide (V.str (stW (some s)) = V.str "empty") = true) ∨ (s = "a" ∧ decide (V.str (stW (some s)) = V.str "empty") = false) := by
  rcases List.mem_cons.mp h with e | h
  · cases e
  rcases List.mem_cons.mp h with e | h
  · cases e; exact .inl ⟨rfl, by decide⟩
  cases List.mem_singleton.mp h; exact .inr ⟨rfl, by decide⟩
def spBegun (K : PySem.W.Frag) : Sp := fun vs H Q _ => ∃ (v : V) (c : Case) (NS : List Str), vs = [v] ∧ CaseAt K H v c ∧ CaseOk c ∧ (∀ p ∈ c, p.1 ∈ NS) ∧ NS.length ≤ 10000 ∧ ∀ p H', Kp [] H H' → H p = none → DcAt (WordAt K) NS H' p (mpOf c) → Q (.ref p) H'
theorem ok_begun (T : Top K mg) : FnOk P w K mg base CX0 1 T.a_begun T.d_begun ["case"] (spBegun K) := by
  refine T.F_begun.ok sc_begun (fun vs H Q E h => ?_) (fun cdv A outer s H vs Q E hr h => ?_)
  · obtain ⟨v, z, _, rfl, _⟩ := h
    rfl
  · obtain ⟨v, c, NS, rfl, ⟨b, vs, rfl, hq, hp⟩, ⟨nd, h6, hs⟩, hNS, hz, q⟩ := h
    refine ⟨_, PSs.nox (pss_one (ps_ret (pe_dc (g := gTup K 2 _) rfl sc_begun.nd (pi_tup (pv 0)) (blkOk_by (own := [("name", 1), ("state", 2)]) (by kernel_rfl)) (fun _ _ _ _ _ => (pg_tup rfl (pgs_cons (pg_name (i := 1) sc_begun.nd rfl (.inl rfl)) (pgs_cons (pg_name (i := 2) sc_begun.nd rfl (.inl rfl)) pgs_nil)))) (fun _ _ _ _ _ => (pts_one (pt_cmpR (op_ne) (pv 2) (pe_k rfl T.k_UNSET) (nomark _)))) (fun _ _ _ _ _ => (pv 1)) (fun _ _ _ _ _ => (pe_ifExp (pt_cmpR (op_eq) (pv 2) (pe_k rfl T.k_EMPTY) (nomark _)) (pe_tup pa_nil) (pe_tup (pa_cons (pe_tup (pa_cons (pv 1) pa_nil)) pa_nil))))))), ?_⟩
    refine ⟨_, rfl, b, rfl, ⟨_, hq⟩, fun D hD => lc_gen walk_tup (fun i H' => Kp [] H H' ∧ DcAt (WordAt K) NS H' D (mpOf (c.take i)))
      ⟨(Kp.nil H).new _ hD, ⟨[], upd_same, ⟨List.nodup_nil, fun _ h => nomatch h⟩, fun n => True.intro⟩⟩ (fun i H' _ ⟨k, _⟩ => k.sqt hq) ?_ ?_⟩
    · rintro i x H1 H1' hi ⟨k1, hd⟩ ⟨rfl, hx⟩
      obtain ⟨n, o, hc, hpr⟩ := CaseAt.get hp hx
      obtain ⟨d, rfl, hd2⟩ := hpr.kp k1
      rw [take_snoc hc]
      have hst := hs _ (List.mem_of_getElem? hc)
      have hnn : n ∉ (c.take i).map (·.1) := by
        have := nodup_next (l := c.map (·.1)) (i := i) (x := n) nd (by rw [List.getElem?_map, hc]; rfl)
        rw [List.map_take]; exact this
      refine ⟨d, _, rfl, hd2, rfl, _, _, rfl, _, _, rfl, rfl, rfl, _, rfl, rfl, _, rfl, ?_⟩
      rw [st_unset hst]
      cases o with
      | none =>
        refine if_f rfl ⟨k1, ?_⟩
        rw [mp_snoc_none]
        exact hd
      | some z =>
        refine if_t rfl ?_
        rw [mp_snoc_some hnn]
        have hnNS := hNS _ (List.mem_of_getElem? hc)
        have fin : ∀ {t : Addr} {ts : List V} {H2 : Hp}, Kp [] H1' H2 → SqT K H2 t ts → ItsAt K H2 ts z → ∃ kvs k, V.str n = kV k ∧ H2 D = some (.dK kvs) ∧ kvs.length < sizeLine ∧ (Kp [] H (upd H2 D (.dK (putK kvs k (.ref t)))) ∧ DcAt (WordAt K) NS (upd H2 D (.dK (putK kvs k (.ref t)))) D ((mpOf (c.take i)).put n z)) := fun {t ts H2} k2 h1 h2 => by
          have hd' : DcAt (WordAt K) NS H2 D (mpOf (c.take i)) := hd.kp k2 (fun z => nomatch z) fun v s h => h.kp k2
          obtain ⟨kvs, e1, e2, e3⟩ := hd'.putK (v := .ref t) (s := z) hnNS (by rw [sizeLine_eq]; omega) ⟨t, ts, rfl, h1, h2⟩ fun o v s m h => by
            obtain ⟨kvs, e, _⟩ := hd'
            exact h.kp (Kp.wr1 e trivial m)
          exact ⟨kvs, .inr n, rfl, e1, e2, (k1.trans k2).own hD, e3⟩
        rcases st_empty hst with ⟨ez, et⟩ | ⟨ez, et⟩
        · subst ez
          refine ⟨_, rfl, _, rfl, rfl, _, rfl, ?_⟩
          rw [et]
          exact if_t rfl ⟨Nat.zero_le _, fun t ht => fin ((Kp.nil H1').new _ ht) (.inl (.inl upd_same)) rfl⟩
        · subst ez
          refine ⟨_, rfl, _, rfl, rfl, _, rfl, ?_⟩
          rw [et]
          refine if_f rfl ⟨_, rfl, sz1, fun t1 ht1 => ⟨sz1, fun t ht => ?_⟩⟩
          have k2 := ((Kp.nil H1').new (.tup [.str n]) ht1).new (.tup [.ref t1]) ht
          refine fin k2 (.inl (.inl upd_same)) ⟨"a", e0, (app_e0 _).symm, .inr ⟨t1, n, rfl, .inl (.inl ?_), rfl⟩, rfl⟩
          rw [upd_ne (ne_of_none upd_same ht)]; exact upd_same
    · rintro H1 ⟨k1, hd⟩
      rw [Paired.length hp, List.take_length] at hd
      exact q D H1 k1 hD hd
/-! a case's environment -/
def kvsOf (e : List (Str × Str)) : List (Key × V) := e.map fun q => (Sum.inr q.1, V.str q.2)
def EnvAt (H : Hp) (p : Addr) (e : List (Str × Str)) : Prop := H p = some (.dK (kvsOf e))
theorem val_none {kvs : List (Key × V)} {k : Key} (h : k ∉ kvs.map (·.1)) : valV kvs k = none := by
  unfold valV
  rw [List.find?_eq_none.mpr fun p hp z => h (List.mem_map.mpr ⟨p, hp, of_decide_eq_true z⟩)]
  rfl
theorem env_sub : ∀ (c : Case) (p : Str × Str), p ∈ envOf c → (p.1, some p.2) ∈ c
  | (m, none) :: l, p, h => List.mem_cons_of_mem _ (env_sub l p h)
  | (m, some z) :: l, p, h => by
    rcases List.mem_cons.mp h with e | h
    · subst e; exact List.mem_cons_self ..
    · exact List.mem_cons_of_mem _ (env_sub l p h)
def spEnv (K : PySem.W.Frag) : Sp := fun vs H Q _ => ∃ (v : V) (c : Case), vs = [v] ∧ CaseAt K H v c ∧ CaseOk c ∧ ∀ p H', Kp [] H H' → H p = none → EnvAt H' p (envOf c) → Q (.ref p) H'
theorem ok_environment_of (T : Top K mg) : FnOk P w K mg base CX0 1 T.a_environment_of T.d_environment_of ["case"] (spEnv K) := by
  refine T.F_environment_of.ok sc_environment_of (fun vs H Q E h => ?_) (fun cdv A outer s H vs Q E hr h => ?_)
  · obtain ⟨v, z, rfl, _⟩ := h
    rfl
  · obtain ⟨v, c, rfl, ⟨b, vs, rfl, hq, hp⟩, ⟨nd, h6, hs⟩, q⟩ := h
    refine ⟨_, PSs.nox (pss_one (ps_ret (pe_dc (g := gTup K 2 _) rfl sc_environment_of.nd (pi_tup (pv 0)) (blkOk_by (own := [("name", 1), ("state", 2)]) (by kernel_rfl)) (fun _ _ _ _ _ => (pg_tup rfl (pgs_cons (pg_name (i := 1) sc_environment_of.nd rfl (.inl rfl)) (pgs_cons (pg_name (i := 2) sc_environment_of.nd rfl (.inl rfl)) pgs_nil)))) (fun _ _ _ _ _ => (pts_one (pt_cmpR (op_ne) (pv 2) (pe_k rfl T.k_UNSET) (nomark _)))) (fun _ _ _ _ _ => (pv 1)) (fun _ _ _ _ _ => (pe_ifExp (pt_cmpR (op_eq) (pv 2) (pe_k rfl T.k_EMPTY) (nomark _)) pe_str (pe_k rfl T.k_ONE_SIGN)))))), ?_⟩
    refine ⟨_, rfl, b, rfl, ⟨_, hq⟩, fun D hD => lc_gen walk_tup (fun i H' => Kp [] H H' ∧ EnvAt H' D (envOf (c.take i)))
      ⟨(Kp.nil H).new _ hD, upd_same⟩ (fun i H' _ ⟨k, _⟩ => k.sqt hq) ?_ ?_⟩
    · rintro i x H1 H1' hi ⟨k1, hd⟩ ⟨rfl, hx⟩
      obtain ⟨n, o, hc, hpr⟩ := CaseAt.get hp hx
      obtain ⟨d, rfl, hd2⟩ := hpr.kp k1
      rw [take_snoc hc]
      have hst := hs _ (List.mem_of_getElem? hc)
      have hnn : n ∉ (c.take i).map (·.1) := by
        have := nodup_next (l := c.map (·.1)) (i := i) (x := n) nd (by rw [List.getElem?_map, hc]; rfl)
        rw [List.map_take]; exact this
      refine ⟨d, _, rfl, hd2, rfl, _, _, rfl, _, _, rfl, rfl, rfl, _, rfl, rfl, _, rfl, ?_⟩
      rw [st_unset hst]
      cases o with
      | none =>
        refine if_f rfl ⟨k1, ?_⟩
        rw [env_snoc_none]
        exact hd
      | some z =>
        refine if_t rfl ?_
        rw [env_snoc_some]
        have fin : ∃ kvs k, V.str n = kV k ∧ H1' D = some (.dK kvs) ∧ kvs.length < sizeLine ∧ (Kp [] H (upd H1' D (.dK (putK kvs k (.str z)))) ∧ EnvAt (upd H1' D (.dK (putK kvs k (.str z)))) D (envOf (c.take i) ++ [(n, z)])) := by
          refine ⟨_, .inr n, rfl, hd, ?_, k1.own hD, ?_⟩
          · have h1 : (envOf (c.take i)).length ≤ 6 := by
              have := env_len (c.take i)
              have h2 : ∀ l : Case, (l.map fun p => one p.2).sum ≤ l.length := by
                intro l
                induction l with
                | nil => exact Nat.le_refl _
                | cons p l ih =>
                  rw [List.map_cons, List.sum_cons, List.length_cons]
                  have : one p.2 ≤ 1 := by cases p.2 <;> (unfold one; first | exact Nat.le_refl _ | exact Nat.zero_le _)
                  omega
              have h3 := h2 (c.take i)
              have h4 : (List.take i c).length ≤ List.length c := by rw [List.length_take]; omega
              omega
            unfold kvsOf
            rw [List.length_map, sizeLine_eq]; omega
          · show upd H1' D _ D = _
            rw [upd_same, putK_new _ (val_none fun hm => ?_)]
            · unfold kvsOf; rw [List.map_append]; rfl
            · obtain ⟨p, hp2, e⟩ := List.mem_map.mp hm
              obtain ⟨p', hp3, rfl⟩ := List.mem_map.mp hp2
              have := env_sub _ _ hp3
              exact hnn (List.mem_map.mpr ⟨_, this, Sum.inr.inj e⟩)
        rcases st_empty hst with ⟨ez, et⟩ | ⟨ez, et⟩
        · subst ez
          refine ⟨_, rfl, _, rfl, rfl, _, rfl, ?_⟩
          rw [et]
          exact if_t rfl fin
        · subst ez
          refine ⟨_, rfl, _, rfl, rfl, _, rfl, ?_⟩
          rw [et]
          exact if_f rfl fin
    · rintro H1 ⟨k1, hd⟩
      rw [Paired.length hp, List.take_length] at hd
      exact q D H1 k1 hD hd
/-! the spots of a text -/
def spSpots (K : PySem.W.Frag) (l : Nat) : Sp := fun vs H Q _ => ∃ (a b : Addr) (t : Txt) (sp : Spot), vs = [.ref a, .ref b] ∧ TextAt K H a t ∧ H b = some (.tup (sp.map V.int)) ∧ t.wb l = true ∧ l ≤ 5 ∧ sp.length + l ≤ 100 ∧
  ∀ p H', Kp [] H H' → H p = none → LsAt H' p (t.spots sp 0) → Q (.ref p) H'
def Pc.spots (sp : Spot) (i : Nat) : Pc → List Spot
  | .part _ (.op _ _) t => (sp ++ [(i : Int)]) :: t.spots (sp ++ [(i : Int)]) 0
  | _ => []
theorem spots_piece {t : Txt} {i : Nat} {p : Pc} (sp : Spot) (e : t.drop i = p.cons (t.drop (i + 1))) : (t.drop i).spots sp i = p.spots sp i ++ (t.drop (i + 1)).spots sp (i + 1) := by
  rw [e]
  cases p with
  | lit s => rfl
  | part n g u => cases g <;> rfl
theorem spots_le : ∀ (t : Txt) (sp : Spot) (i : Nat), (t.spots sp i).length ≤ t.names.length
  | .nil, _, _ => Nat.le_refl _
  | .lit _ r, sp, i => spots_le r sp (i + 1)
  | .part n .no t r, sp, i => by
    have := spots_le r sp (i + 1)
    show (r.spots sp (i + 1)).length ≤ (n :: (t.names ++ r.names)).length
    rw [List.length_cons, List.length_append]; omega
  | .part n (.op _ _) t r, sp, i => by
    have h1 := spots_le t (sp ++ [(i : Int)]) 0
    have h2 := spots_le r sp (i + 1)
    show (_ :: (t.spots _ 0 ++ r.spots sp (i + 1))).length ≤ (n :: (t.names ++ r.names)).length
    rw [List.length_cons, List.length_append, List.length_cons, List.length_append]; omega
theorem sg_ne (g : Sg) : (!decide (V.str g.str = V.str "")) = (match g with | .no => false | .op _ _ => true) := by
  cases g with
  | no => decide
  | op h k => cases h <;> cases k <;> decide
theorem ok_spots_of_of (T : Top K mg) (lv : Nat) (ih : FnOk P w K mg base CX0 (1 + lv) T.a_spots_of T.d_spots_of ["text", "spot"] (below (spSpots K) lv)) : FnOk P w K mg base CX0 (1 + lv + 1) T.a_spots_of T.d_spots_of ["text", "spot"] (spSpots K lv) := by
  refine T.F_spots_of.ok sc_spots_of (fun vs H Q E h => ?_) (fun cdv A outer s H vs Q E hr h => ?_)
  · obtain ⟨a, b, t, sp, rfl, _⟩ := h
    rfl
  · obtain ⟨a, b, t, sp, rfl, ⟨xs, hq, hx⟩, hb, wf, hlv, hsp, q⟩ := h
    have hfew : (t.spots sp 0).length ≤ 37448 := Nat.le_trans (spots_le t sp 0) (names_few' wf hlv)
    refine ⟨_, PSs.nox (pss_cons (ps_set (i := 2) sc_spots_of.nd rfl (.inl rfl) (pe_lst pa_nil)) (pss_cons (ps_for PassesOwn.never rfl (pi_enumT rfl T.n_enumerate (pa_cons (pv 0) pa_nil)) (pg_tup rfl (pgs_cons (pg_name (i := 3) sc_spots_of.nd rfl (.inl rfl)) (pgs_cons (pg_name (i := 4) sc_spots_of.nd rfl (.inl rfl)) pgs_nil))) (pss_one (ps_if (PW.pt (pw_and (pt_val (pe_callB (r := rIsi K) call_isi rfl T.n_isinstance bt_isinstance (pa_cons (pv 4) (pa_cons (pe_bltn (v := .ty "tuple") rfl T.n_tuple bt_tuple rfl) pa_nil)))) (pw_and1 (pt_cmpR (op_ne) (pe_ix (r := rIxT K) ix_tup (pv 4) pe_int (fun _ _ => rfl)) pe_str (nomark _))))) (pss_cons (ps_expr (pe_bm PySem.F.plainAttrs_list PySem.F.slot_list_append PySem.F.type_list_append mt_append (pv 2) (pa_cons (pe_op (r := rCatA K) (op_catA) (pv 1) (pe_tup (pa_cons (pv 3) pa_nil))) pa_nil))) (pss_one (ps_expr (pe_bm PySem.F.plainAttrs_list PySem.F.slot_list_extend PySem.F.type_list_extend mt_extend (pv 2) (pa_cons (pe_call ih hr rfl T.g_spots_of T.F_spots_of.kp (b_spots_of T) .nil pass0 (pa_cons (pe_ix (r := rIxT K) ix_tup (pv 4) pe_int (fun _ _ => rfl)) (pa_cons (pe_op (r := rCatA K) (op_catA) (pv 1) (pe_tup (pa_cons (pv 3) pa_nil))) pa_nil))) pa_nil))))) pss_nil))) (pss_one (ps_ret (pv 2))))), ?_⟩
    refine ⟨Nat.zero_le _, fun f hf => ?_⟩
    have k0 := (Kp.nil H).new (.lst []) hf
    refine ⟨_, rfl, a, xs, rfl, k0.sqt hq, for_enumT (K := K) (a := a) (xs := xs) (fun i σ H' => ∃ u v done, σ = [some (.ref a), some (.ref b), some (.ref f), u, v] ∧ Kp [] H H' ∧ LsAt H' f done ∧ done ++ (t.drop i).spots sp i = t.spots sp 0)
      ⟨none, none, [], rfl, k0, ⟨[], upd_same, .nil⟩, by cases t <;> rfl⟩ (fun i σ H' _ ⟨_, _, _, _, k, _⟩ => k.sqt hq) ?_ ?_⟩
    · rintro i x σ H1 Tt hi ⟨u, v, done, rfl, k1, ⟨vs, hl, hp⟩, ed⟩ hT
      obtain ⟨p, hpc, ep⟩ := hx.get hi
      have kT := (Kp.nil H1).new (.tup [.int (i : Nat), x]) hT
      have k2 := k1.new (.tup [.int (i : Nat), x]) hT
      have hl2 : (upd H1 Tt (.tup [.int (i : Nat), x])) f = some (.lst vs) := by rw [upd_ne (ne_of_none hl hT)]; exact hl
      obtain ⟨l', el', hg⟩ := wb_piece wf ep
      subst el'
      rw [spots_piece sp ep] at ed
      have hpc2 := hpc.kp k2
      refine ⟨Tt, _, rfl, .inl (.inl upd_same), rfl, _, _, rfl, _, _, rfl, rfl, ?_⟩
      cases p with
      | lit z =>
        have ex : x = .str z := hpc
        subst ex
        exact ⟨_, rfl, _, _, _, _, _, rfl, .ty _, .base (.str _), ki_st, _, rfl, if_f rfl (if_f rfl ⟨_, _, done, rfl, k2, ⟨vs, hl2, spots_kp hp kT⟩, ed⟩)⟩
      | part n g u' =>
        obtain ⟨c, d, rfl, hc, hd⟩ := hpc2
        refine ⟨_, rfl, _, _, _, _, _, rfl, .ty _, ty_tup hc, ki_tt, _, rfl, if_t rfl ⟨_, rfl, c, _, 1, _, rfl, rfl, hc, atI_nat (j := 1) rfl, rfl, _, rfl, ?_⟩⟩
        rw [sg_ne]
        cases g with
        | no => exact if_f rfl ⟨_, _, done, rfl, k2, ⟨vs, hl2, spots_kp hp kT⟩, ed⟩
        | op hd' kd =>
          have hlen : done.length + (1 + (u'.spots (sp ++ [(i : Int)]) 0).length) ≤ 37448 := by
            have e2 := congrArg List.length ed
            rw [List.length_append, List.length_append] at e2
            have e3 : (Pc.spots sp i (.part n (.op hd' kd) u')).length = (u'.spots (sp ++ [(i : Int)]) 0).length + 1 := rfl
            omega
          have hvl := Paired.length hp
          -- found.append(spot + (at,))
          refine if_t rfl ⟨_, rfl, .inl ⟨rfl, _, .inl (.inl hl2)⟩, _, rfl, _, rfl, sz1, fun t1 ht1 => ?_⟩
          have k3 := k2.new (.tup [.int (i : Nat)]) ht1
          have kT3 := kT.new (.tup [.int (i : Nat)]) ht1
          have hb3 : (upd (upd H1 Tt (.tup [.int (i : Nat), .ref c])) t1 (.tup [.int (i : Nat)])) b = some (.tup (sp.map V.int)) := k3.tup hb
          refine catH hb3 upd_same (by rw [List.length_map, sizeLine_eq]; simp only [List.length_cons, List.length_nil]; omega) fun p1 H2 k4 hp1 => ?_
          have k5 := k3.trans k4
          have kT5 := kT3.trans k4
          have hl3 : H2 f = some (.lst vs) := kT5.keep f _ (fun z => nomatch z) hl
          refine ⟨f, vs, _, rfl, rfl, hl3, by rw [hvl, sizeLine_eq]; omega, ?_⟩
          have hsp1 : sp.map V.int ++ [V.int (i : Nat)] = (sp ++ [(i : Int)]).map V.int := by rw [List.map_append]; rfl
          rw [hsp1] at hp1
          have kF : Kp [f] H2 (upd H2 f (.lst (vs ++ [.ref p1]))) := Kp.wr1 hl3 trivial trivial
          have k6 := k5.own (o := .lst (vs ++ [.ref p1])) hf
          -- found.extend(spots_of(piece[2], spot + (at,)))
          have hc6 := kF.sqt (k4.sqt (((Kp.nil _).new (.tup [.int (i : Nat)]) ht1).sqt hc))
          refine ⟨_, rfl, .inl ⟨rfl, _, .inl (.inl upd_same)⟩, _, rfl, c, _, 2, _, rfl, rfl, hc6, atI_nat (j := 2) rfl, _, rfl, _, rfl, sz1, fun t2 ht2 => ?_⟩
          have k7 := k6.new (.tup [.int (i : Nat)]) ht2
          have kF7 := kF.new (.tup [.int (i : Nat)]) ht2
          refine catH (kF7.tup (k4.tup hb3)) upd_same (by rw [List.length_map, sizeLine_eq]; simp only [List.length_cons, List.length_nil]; omega) fun p2 H3 k8 hp2 => ?_
          rw [hsp1] at hp2
          have k9 := k7.trans k8
          have hl4 : H3 f = some (.lst (vs ++ [.ref p1])) := k8.keep f _ (fun z => nomatch z) (by rw [upd_ne (ne_of_none upd_same ht2)]; exact upd_same)
          refine ⟨d, p2, u', sp ++ [(i : Int)], rfl, ?_, hp2, hg.2.1, by omega, by rw [List.length_append]; simp only [List.length_cons, List.length_nil]; omega, fun p3 H4 k10 hp3 hL => ?_⟩
          · exact (((hd.kp ((Kp.nil _).new _ ht1)).kp k4).kp kF7).kp k8
          obtain ⟨ws, hw, hws⟩ := hL
          have hl5 : H4 f = some (.lst (vs ++ [.ref p1])) := k10.keep f _ (fun z => nomatch z) hl4
          have hwl := Paired.length hws
          refine ⟨f, p3, _, _, rfl, rfl, hl5, hw, by rw [List.length_append, hvl, hwl, sizeLine_eq]; simp only [List.length_cons, List.length_nil]; omega, ?_⟩
          have kF10 : Kp [f] H4 (upd H4 f (.lst (vs ++ [.ref p1] ++ ws))) := Kp.wr1 hl5 trivial trivial
          refine ⟨_, _, done ++ (sp ++ [(i : Int)]) :: u'.spots (sp ++ [(i : Int)]) 0, rfl, (k9.trans k10).own hf, ⟨_, upd_same, ?_⟩, by rw [List.append_assoc]; exact ed⟩
          rw [List.append_assoc] at kF10 ⊢
          refine paired_app ?_ (.cons ?_ (spots_kp hws kF10))
          · exact spots_kp (spots_kp (spots_kp (spots_kp (spots_kp hp kT5) kF7) k8) k10) kF10
          · exact ⟨p1, rfl, kF10.tup (k10.tup (k8.tup (kF7.tup hp1)))⟩
    · rintro σ H1 ⟨u, v, done, rfl, k1, hl, ed⟩
      rw [hx.len, drop_len] at ed
      have ed : done = t.spots sp 0 := by rw [← ed]; exact (List.append_nil _).symm
      subst ed
      exact ⟨_, rfl, q f H1 k1 hf hl⟩
theorem ok_spots_at (T : Top K mg) : ∀ l : Nat, FnOk P w K mg base CX0 (2 + l) T.a_spots_of T.d_spots_of ["text", "spot"] (spSpots K l)
  | 0 => (ok_spots_of_of T 0 ok_none).mono (by omega)
  | l + 1 => (ok_spots_of_of T (l + 1) ((ok_spots_at T l).mono (by omega))).mono (by omega)
theorem ok_spots_of (T : Top K mg) : FnOk P w K mg base CX0 7 T.a_spots_of T.d_spots_of ["text", "spot"] (spSpots K 5) := ok_spots_at T 5
end
end EV
end

section
set_option Elab.async false
set_option linter.all false
set_option maxRecDepth 100000
set_option maxHeartbeats 4000000
/-! bodies: the spots of a file, a spot is asked -/
namespace EV
open PySem PySem.Spec PyProof.Rows L2
/-! ### spots as data -/
def spD (s : Spot) : PyData := .tuple (s.map PyData.int)
def spsD (ss : List Spot) : PyData := .list (ss.map spD)
section
variable {K : PySem.W.Frag} {H : Hp}
theorem ints_dp : ∀ s : Spot, DpAll K H (s.map V.int) (s.map PyData.int)
  | [] => .nil
  | i :: s => .cons (.int i) (ints_dp s)
theorem sp_dp {b : Addr} {s : Spot} (h : SqT K H b (s.map V.int)) : Dp K H (.ref b) (spD s) := .tup h (ints_dp s)
theorem sps_dpAll : ∀ {vs : List V} {ss : List Spot}, Paired (SpAt H) vs ss → DpAll K H vs (ss.map spD)
  | _, _, .nil => .nil
  | _, _, .cons ⟨b, e, h⟩ t => by rw [e]; exact .cons (sp_dp (.inl (.inl h))) (sps_dpAll t)
theorem sps_dp {p : Addr} {ss : List Spot} (h : LsAt H p ss) : Dp K H (.ref p) (spsD ss) := let ⟨_, e, h⟩ := h; .lst (.inl (.inl e)) (sps_dpAll h)
end
theorem ints_lay : ∀ s : Spot, PyData.canLayAll0 (s.map PyData.int) = true
  | [] => by simp [PyData.canLayAll0]
  | i :: s => by simp [PyData.canLayAll0, PyData.canLay0, ints_lay s]
theorem ints_depth : ∀ s : Spot, PyData.depthAll (s.map PyData.int) ≤ 1
  | [] => by simp [PyData.depthAll]
  | i :: s => by
    have := ints_depth s
    simp only [List.map_cons, PyData.depthAll, PyData.depth]
    omega
theorem spD_depth (s : Spot) : (spD s).depth ≤ 2 := by
  have := ints_depth s
  simp only [spD, PyData.depth]; omega
theorem spD_shaped (s : Spot) : SeqAt.shaped (spD s) = true := by
  have h := spD_depth s
  show ((spD s).canLay0 && decide ((spD s).depth ≤ 64)) = true
  rw [Bool.and_eq_true]
  exact ⟨by simp only [spD, PyData.canLay0]; exact ints_lay s, decide_eq_true (by omega)⟩
theorem spsD_lay : ∀ ss : List Spot, PyData.canLayAll0 (ss.map spD) = true
  | [] => by simp [PyData.canLayAll0]
  | s :: ss => by
    have : (spD s).canLay0 = true := by simp only [spD, PyData.canLay0]; exact ints_lay s
    simp [PyData.canLayAll0, this, spsD_lay ss]
theorem spsD_depth : ∀ ss : List Spot, PyData.depthAll (ss.map spD) ≤ 2
  | [] => by simp [PyData.depthAll]
  | s :: ss => by
    have h1 := spsD_depth ss
    have h2 := spD_depth s
    simp only [List.map_cons, PyData.depthAll]
    omega
theorem spsD_shaped (ss : List Spot) : SeqAt.shaped (spsD ss) = true := by
  have h := spsD_depth ss
  show ((spsD ss).canLay0 && decide ((spsD ss).depth ≤ 64)) = true
  rw [Bool.and_eq_true]
  exact ⟨by simp only [spsD, PyData.canLay0]; exact spsD_lay ss, decide_eq_true (by simp only [spsD, PyData.depth]; omega)⟩
theorem ints_eqv : ∀ s t : Spot, PyData.eqvAll (s.map PyData.int) (t.map PyData.int) = decide (s = t)
  | [], [] => by simp [PyData.eqvAll]
  | [], j :: t => by simp [PyData.eqvAll]
  | i :: s, [] => by simp [PyData.eqvAll]
  | i :: s, j :: t => by
    simp only [List.map_cons, PyData.eqvAll, PyData.eqv, ints_eqv s t]
    by_cases h : i = j
    · by_cases h2 : s = t
      · simp [h, h2]
      · simp [h, h2]
    · simp [h]
theorem spD_eqv (s t : Spot) : PyData.eqv (spD s) (spD t) = decide (s = t) := by simp only [spD, PyData.eqv]; exact ints_eqv s t
theorem spsD_any (ss : List Spot) (s : Spot) : (ss.map spD).any (fun z => PyData.eqv z (spD s)) = ss.contains s := by
  rw [List.any_map, List.contains_eq_any_beq]
  congr 1
  funext x
  show PyData.eqv (spD x) (spD s) = (s == x)
  rw [spD_eqv]
  by_cases h : x = s
  · simp [h]
  · have h2 : ¬ s = x := fun z => h z.symm
    simp [h, h2]
theorem spsD_eqvAll : ∀ ss ts : List Spot, PyData.eqvAll (ss.map spD) (ts.map spD) = decide (ss = ts)
  | [], [] => by simp [PyData.eqvAll]
  | [], j :: t => by simp [PyData.eqvAll]
  | i :: s, [] => by simp [PyData.eqvAll]
  | i :: s, j :: t => by
    simp only [List.map_cons, PyData.eqvAll, spD_eqv, spsD_eqvAll s t]
    by_cases h : i = j
    · by_cases h2 : s = t
      · simp [h, h2]
      · simp [h, h2]
    · simp [h]
theorem spsD_eqv (s t : List Spot) : PyData.eqv (spsD s) (spsD t) = decide (s = t) := by simp only [spsD, PyData.eqv]; exact spsD_eqvAll s t
section
variable {P : Program} {w : World} {K : PySem.W.Frag} {mg : Str → Option Value} {base : Heap}
/-! ### all spots -/
theorem spotsFrom_len : ∀ (F : File) (i : Nat), (spotsFrom i F).length ≤ (F.flatMap fun r => r.text.names).length
  | [], _ => Nat.le_refl _
  | r :: F, i => by
    have h1 := spots_le r.text [(i : Int)] 0
    have h2 := spotsFrom_len F (i + 1)
    show (r.text.spots _ 0 ++ spotsFrom (i + 1) F).length ≤ _
    rw [List.length_append, List.flatMap_cons, List.length_append]; omega
theorem allSpots_len (F : File) : (allSpots F).length ≤ (rawNames F).length := by
  have := spotsFrom_len F 0
  unfold rawNames allSpots
  rw [List.length_append]; omega
def spAllSpots (K : PySem.W.Frag) : Sp := fun vs H Q _ => ∃ (a : Addr) (F : File), vs = [.ref a] ∧ FileAt K H a F ∧ (∀ r ∈ F, r.good = true) ∧ (rawNames F).length ≤ 4000 ∧
  ∀ p H', Kp [] H H' → H p = none → LsAt H' p (allSpots F) → Q (.ref p) H'
theorem kind_drop {r : Row} : (!decide (V.str r.kind = V.str "drop")) = (match r with | .drop _ => false | _ => true) := by
  cases r with
  | check t => show (!decide (V.str "check" = V.str "drop")) = true; decide
  | set n t => show (!decide (V.str "set" = V.str "drop")) = true; decide
  | give n t => show (!decide (V.str "give" = V.str "drop")) = true; decide
  | drop n => show (!decide (V.str "drop" = V.str "drop")) = false; decide
theorem ok_all_spots (T : Top K mg) : FnOk P w K mg base CX0 8 T.a_all_spots T.d_all_spots ["rows"] (spAllSpots K) := by
  refine T.F_all_spots.ok sc_all_spots (fun vs H Q E h => ?_) (fun cdv A outer s H vs Q E hr h => ?_)
  · obtain ⟨a, t, rfl, _⟩ := h
    rfl
  · obtain ⟨a, F, rfl, ⟨as, hq, hF⟩, hg, hfew, q⟩ := h
    have hall := allSpots_len F
    refine ⟨_, PSs.nox (pss_cons (ps_set (i := 1) sc_all_spots.nd rfl (.inl rfl) (pe_lst pa_nil)) (pss_cons (ps_for PassesOwn.never rfl (pi_enumT rfl T.n_enumerate (pa_cons (pv 0) pa_nil)) (pg_tup rfl (pgs_cons (pg_name (i := 2) sc_all_spots.nd rfl (.inl rfl)) (pgs_cons (pg_name (i := 3) sc_all_spots.nd rfl (.inl rfl)) pgs_nil))) (pss_one (ps_if (pt_cmpR (op_ne) (pe_ix (r := rIxT K) ix_tup (pv 3) pe_int (fun _ _ => rfl)) (pe_k rfl T.k_DROP) (nomark _)) (pss_one (ps_expr (pe_bm PySem.F.plainAttrs_list PySem.F.slot_list_extend PySem.F.type_list_extend mt_extend (pv 1) (pa_cons (pe_call (ok_spots_of T) (hr.mono (by omega)) rfl T.g_spots_of T.F_spots_of.kp (b_spots_of T) .nil pass0 (pa_cons (pe_call (ok_text_of_row T) (hr.mono (by omega)) rfl T.g_text_of_row T.F_text_of_row.kp (b_text_of_row T) .nil pass0 (pa_cons (pv 3) pa_nil)) (pa_cons (pe_tup (pa_cons (pv 2) pa_nil)) pa_nil))) pa_nil)))) pss_nil))) (pss_one (ps_ret (pv 1))))), ?_⟩
    refine ⟨Nat.zero_le _, fun f hf => ?_⟩
    have k0 := (Kp.nil H).new (.lst []) hf
    refine ⟨_, rfl, a, _, rfl, k0.sqt hq, for_enumT (K := K) (a := a) (xs := as.map V.ref) (fun i σ H' => ∃ u v done, σ = [some (.ref a), some (.ref f), u, v] ∧ Kp [] H H' ∧ LsAt H' f done ∧ done ++ spotsFrom i (F.drop i) = allSpots F)
      ⟨none, none, [], rfl, k0, ⟨[], upd_same, .nil⟩, rfl⟩ (fun i σ H' _ ⟨_, _, _, _, k, _⟩ => k.sqt hq) ?_ ?_⟩
    · rintro i x σ H1 Tt hi ⟨u, v, done, rfl, k1, ⟨vs, hl, hp⟩, ed⟩ hT
      obtain ⟨b, r, eb, er, hb⟩ := file_row hF hi
      subst eb
      have kT := (Kp.nil H1).new (.tup [.int (i : Nat), .ref b]) hT
      have k2 := k1.new (.tup [.int (i : Nat), .ref b]) hT
      have hl2 : (upd H1 Tt (.tup [.int (i : Nat), .ref b])) f = some (.lst vs) := by rw [upd_ne (ne_of_none hl hT)]; exact hl
      have hb2 := hb.kp k2
      rw [drop_cons er] at ed
      have ed : done ++ (r.text.spots [(i : Int)] 0 ++ spotsFrom (i + 1) (F.drop (i + 1))) = allSpots F := ed
      obtain ⟨ys, hy, h0, _⟩ := row_parts hb2
      refine ⟨Tt, _, rfl, .inl (.inl upd_same), rfl, _, _, rfl, _, _, rfl, rfl, ?_⟩
      refine ⟨_, rfl, b, ys, 0, _, rfl, rfl, hy, h0, rfl, _, rfl, ?_⟩
      rw [kind_drop]
      have wk : ∀ hne : (match r with | .drop _ => false | _ => true) = true, (Row.good r = true) := fun _ => hg r (List.mem_of_getElem? er)
      have hrow := hg r (List.mem_of_getElem? er)
      obtain ⟨wf, _⟩ := Bool.and_eq_true_iff.mp hrow
      have hvl := Paired.length hp
      have hlen : done.length + (r.text.spots [(i : Int)] 0).length ≤ 4000 := by
        have e2 := congrArg List.length ed
        rw [List.length_append, List.length_append] at e2
        omega
      have skip : r.text.spots [(i : Int)] 0 = [] → done ++ spotsFrom (i + 1) (F.drop (i + 1)) = allSpots F := fun e => by rw [e] at ed; exact ed
      cases hrk : (match r with | .drop _ => false | _ => true) with
      | false =>
        have e : r.text.spots [(i : Int)] 0 = [] := by cases r with | drop n => rfl | _ => cases hrk
        exact if_f rfl ⟨_, _, done, rfl, k2, ⟨vs, hl2, spots_kp hp kT⟩, skip e⟩
      | true =>
        refine if_t rfl ?_
        refine ⟨_, rfl, .inl ⟨rfl, _, .inl (.inl hl2)⟩, _, rfl, b, r, rfl, hb2, fun c H3 k3 hc => ?_⟩
        refine ⟨_, rfl, sz1, fun t1 ht1 => ?_⟩
        have k4 := k3.new (.tup [.int (i : Nat)]) ht1
        refine ⟨c, t1, r.text, [(i : Int)], rfl, hc.kp ((Kp.nil H3).new _ ht1), upd_same, wf, by omega, by simp only [List.length_cons, List.length_nil]; omega, fun p H4 k5 hp4 hL => ?_⟩
        obtain ⟨ws, hw, hws⟩ := hL
        have k6 := k4.trans k5
        have hl4 : H4 f = some (.lst vs) := k6.keep f _ (fun z => nomatch z) hl2
        have hwl := Paired.length hws
        refine ⟨f, p, _, _, rfl, rfl, hl4, hw, by rw [hvl, hwl, sizeLine_eq]; omega, ?_⟩
        have kF : Kp [f] H4 (upd H4 f (.lst (vs ++ ws))) := Kp.wr1 hl4 trivial trivial
        refine ⟨_, _, done ++ r.text.spots [(i : Int)] 0, rfl, (k2.trans k6).own hf, ⟨_, upd_same, ?_⟩, by rw [List.append_assoc]; exact ed⟩
        exact paired_app (spots_kp (spots_kp (spots_kp hp kT) k6) kF) (spots_kp hws kF)
    · rintro σ H1 ⟨u, v, done, rfl, k1, hl, ed⟩
      rw [List.length_map, ← paired_len hF, List.drop_length] at ed
      have ed : done = allSpots F := by rw [← ed]; exact (List.append_nil _).symm
      subst ed
      exact ⟨_, rfl, q f H1 k1 hf hl⟩
/-! ### a spot is asked -/
def spNeedSpot (K : PySem.W.Frag) : Sp := fun vs H Q _ => ∃ (b a : Addr) (sp : Spot) (F : File), vs = [.ref b, .ref a] ∧ SqT K H b (sp.map V.int) ∧ sp.length ≤ 1000 ∧ FileAt K H a F ∧ (∀ r ∈ F, r.good = true) ∧ (rawNames F).length ≤ 4000 ∧ (allSpots F).contains sp = true ∧
  ∀ H', Kp [] H H' → Q .non H'
theorem ok_need_spot (T : Top K mg) : FnOk P w K mg base CX0 9 T.a_need_spot T.d_need_spot ["spot", "rows"] (spNeedSpot K) := by
  refine T.F_need_spot.ok sc_need_spot (fun vs H Q E h => ?_) (fun cdv A outer s H vs Q E hr h => ?_)
  · obtain ⟨b, a, sp, F, rfl, _⟩ := h
    rfl
  · obtain ⟨b, a, sp, F, rfl, hq, hsz, hF, hg, hfew, hm, q⟩ := h
    refine ⟨_, PSs.nox (pss_cons (ps_if (PW.pt (pw_or (pt_not (pt_val (pe_callB (r := rIsi K) call_isi rfl T.n_isinstance bt_isinstance (pa_cons (pv 0) (pa_cons (pe_bltn (v := .ty "tuple") rfl T.n_tuple bt_tuple rfl) pa_nil))))) (pw_or1 (pt_not (pt_val (pe_callB (r := rAll K) (cr_all rfl) rfl T.n_all bt_all (pa_cons (pe_lc rfl sc_need_spot.nd (pi_tup (pv 0)) (blkOk_by (own := [("at", 2)]) (by kernel_rfl)) (fun _ _ _ _ _ => (pg_name (i := 2) sc_need_spot.nd rfl (.inl rfl))) (fun _ _ _ _ _ => pts_nil) (fun _ _ _ _ _ => (pe_and (pe_callB (r := rIsi K) call_isi rfl T.n_isinstance bt_isinstance (pa_cons (pv 2) (pa_cons (pe_bltn (v := .ty "int") rfl T.n_int bt_int rfl) pa_nil))) (pe_one (pe_not (pe_callB (r := rIsi K) call_isi rfl T.n_isinstance bt_isinstance (pa_cons (pv 2) (pa_cons (pe_bltn (v := .ty "bool") rfl T.n_bool bt_bool rfl) pa_nil)))))))) pa_nil))))))) (pss_one ps_never) pss_nil) (pss_one (ps_if (pt_cmpR (r := rNotInD K) (op_notInD (rm_cl hr (by decide))) (pv 0) (pe_call (ok_all_spots T) (hr.mono (by omega)) rfl T.g_all_spots T.F_all_spots.kp (b_all_spots T) .nil pass0 (pa_cons (pv 1) pa_nil)) rfl) (pss_one ps_never) pss_nil))), ?_⟩
    refine ⟨_, rfl, _, _, _, _, _, rfl, .ty _, ty_tup hq, ki_tt, _, rfl, if_f rfl ?_⟩
    refine ⟨_, rfl, b, rfl, ⟨_, hq⟩, fun D hD => lc_it walk_tup (fun i H' => ∃ bs : List Bool, bs.length = i ∧ (∀ b ∈ bs, b = true) ∧ Kp [] H H' ∧ H' D = some (.lst (bs.map V.bl)))
      ⟨[], rfl, (fun _ hb => nomatch hb), (Kp.nil H).new _ hD, upd_same⟩ (fun i H' _ ⟨_, _, _, k, _⟩ => k.sqt hq) ?_ ?_⟩
    · rintro i x H1 H2 hi ⟨bs, hlen, hbs, kp, hb⟩ ⟨rfl, hx⟩
      rw [List.getElem?_map] at hx
      cases e : sp[i]? with
      | none => rw [e] at hx; cases hx
      | some z =>
        rw [e] at hx
        cases hx
        refine ⟨rfl, _, rfl, _, _, _, _, _, rfl, .ty _, .base (.int _), ki_ii, _, rfl, if_t rfl ⟨_, rfl, _, _, _, _, _, rfl, .ty _, .base (.int _), ki_ib, _, rfl, ?_⟩⟩
        refine ⟨_, hb, ?_, ?_⟩
        · rw [List.length_map, hlen, sizeLine_eq]
          rw [List.length_map] at hi
          omega
        · refine ⟨bs ++ [true], by rw [List.length_append, hlen]; rfl, fun b hb => ?_, kp.own hD, ?_⟩
          · rcases List.mem_append.mp hb with z | z
            · exact hbs b z
            · exact List.mem_singleton.mp z
          · rw [upd_same, List.map_append]
            rfl
    · rintro H1 ⟨bs, hlen, hbs, kp, hb⟩
      refine ⟨D, bs, rfl, .inl (.inl hb), ?_⟩
      rw [all_true hbs]
      refine ⟨_, rfl, if_f rfl ?_⟩
      refine ⟨_, rfl, _, rfl, a, F, rfl, hF.kp kp, hg, hfew, fun p H2 k2 hp hL => ?_⟩
      refine ⟨spD sp, _, sp_dp (k2.sqt (kp.sqt hq)), sps_dp hL, spD_shaped _, spsD_shaped _, _, rfl, ?_⟩
      rw [spsD_any, hm]
      exact if_f rfl (q H2 (kp.trans k2))
end
end EV
end

section
set_option Elab.async false
set_option linter.all false
set_option maxRecDepth 100000
set_option maxHeartbeats 4000000
/-! bodies: the runner -/
namespace EV
open PySem PySem.Spec PyProof.Rows L2
section
variable {P : Program} {w : World} {K : PySem.W.Frag} {mg : Str → Option Value} {base : Heap}
def spTooLong (K : PySem.W.Frag) (C : Addr) : Sp := fun vs H Q _ => ∃ (a : Addr), vs = [.ref a, .int 400] ∧ H a = some (exo a C none) ∧ ∀ dx, H dx = none → dx ≠ a → Q .non (upd (upd H dx (exd dx [("most", .int 400)])) a (exo a C (some dx)))
theorem ok_TooLong_init (T : Top K mg) : FnOk P w K mg base CX0 1 T.a_TooLong_init T.d_TooLong_init ["self", "most"] (spTooLong K T.a_TooLong) := by
  refine T.F_TooLong_init.ok sc_TooLong_init (fun vs H Q E h => ?_) (fun cdv A outer s H vs Q E hr h => ?_)
  · obtain ⟨a, rfl, _⟩ := h
    rfl
  · obtain ⟨a, rfl, ha, q⟩ := h
    refine ⟨_, PSs.nox (pss_cons (ps_expr (pe_inic rfl T.g_RowsError T.i_RowsError (pa_cons (pv 0) (pa_cons pe_str pa_nil)))) (pss_one (ps_ost (pv 0) (pv 1) rfl))), ?_⟩
    refine ⟨_, rfl, a, T.a_TooLong, _, rfl, by simp only [List.length_cons, List.length_nil]; omega, T.o_TooLong, ha, ?_⟩
    exact ⟨_, rfl, _, rfl, a, T.a_TooLong, rfl, T.o_TooLong, T.m_TooLong, .inl ⟨ha, q⟩⟩
def spStop (K : PySem.W.Frag) (C : Addr) : Sp := fun vs H Q _ => ∃ (a : Addr) (v : V), vs = [.ref a, v] ∧ H a = some (exo a C none) ∧ ∀ dx, H dx = none → dx ≠ a → Q .non (upd (upd H dx (exd dx [("message", v)])) a (exo a C (some dx)))
theorem ok_Stop_init (T : Top K mg) : FnOk P w K mg base CX0 1 T.a_Stop_init T.d_Stop_init ["self", "message"] (spStop K T.a_Stop) := by
  refine T.F_Stop_init.ok sc_Stop_init (fun vs H Q E h => ?_) (fun cdv A outer s H vs Q E hr h => ?_)
  · obtain ⟨a, v, rfl, _⟩ := h
    rfl
  · obtain ⟨a, v, rfl, ha, q⟩ := h
    refine ⟨_, PSs.nox (pss_cons (ps_expr (pe_einit rfl T.n_Exception T.v_Exc (pa_cons (pv 0) (pa_cons pe_str pa_nil)))) (pss_one (ps_est (pv 0) (pv 1) rfl))), ?_⟩
    refine ⟨_, rfl, a, T.a_Stop, _, rfl, by simp only [List.length_cons, List.length_nil]; omega, T.o_Stop, ha, ?_⟩
    exact ⟨_, rfl, _, rfl, a, T.a_Stop, rfl, T.o_Stop, T.m_Stop, ha, q⟩
/-! a runner -/
def RunAt (K : PySem.W.Frag) (C : Addr) (NS : List Str) (H : Hp) (R dv ds : Addr) (m : Mp) (tr : List Spot) : Prop := ∃ dx, H R = some (.ins C dx [("values_now", .ref dv), ("spots_seen", .ref ds)]) ∧ DcAt (WordAt K) NS H dv m ∧ LsAt H ds tr
def spInit (K : PySem.W.Frag) (C : Addr) : Sp := fun vs H Q _ => ∃ (R dv dx : Addr) (NS : List Str) (m : Mp), vs = [.ref R, .ref dv] ∧ H R = some (.ins C dx []) ∧ DcAt (WordAt K) NS H dv m ∧
  ∀ ds H', Kp [R] H H' → H ds = none → RunAt K C NS H' R dv ds m [] → Q .non H'
theorem ok_Runner_init (T : Top K mg) : FnOk P w K mg base CX0 1 T.a_Runner_init T.d_Runner_init ["self", "values"] (spInit K T.a_Runner) := by
  refine T.F_Runner_init.ok sc_Runner_init (fun vs H Q E h => ?_) (fun cdv A outer s H vs Q E hr h => ?_)
  · obtain ⟨R, dv, _, _, _, rfl, _⟩ := h
    rfl
  · obtain ⟨R, dv, dx, NS, m, rfl, hR, hd, q⟩ := h
    refine ⟨_, PSs.nox (pss_cons (ps_fld (pv 0) (pv 1) rfl) (pss_one (ps_fld (pv 0) (pe_lst pa_nil) rfl))), ?_⟩
    refine ⟨_, rfl, _, rfl, R, T.a_Runner, dx, [], rfl, hR, T.l_Runner, T.v_Runner, Nat.succ_pos _, ?_⟩
    have k1 : Kp [R] H (upd H R (.ins T.a_Runner dx [("values_now", .ref dv)])) := Kp.wr1 hR trivial trivial
    refine ⟨Nat.zero_le _, fun ds hds => ?_⟩
    have k2 := k1.new (.lst []) hds
    have hR2 : (upd (upd H R (.ins T.a_Runner dx [("values_now", .ref dv)])) ds (.lst [])) R = some (.ins T.a_Runner dx [("values_now", .ref dv)]) := by rw [upd_ne (ne_of_none upd_same hds)]; exact upd_same
    refine ⟨_, rfl, R, T.a_Runner, dx, _, rfl, hR2, T.l_Runner, T.s_Runner, by simp only [List.length_cons, List.length_nil]; omega, ?_⟩
    have k3 := k2.put (d := R) (o := .ins T.a_Runner dx [("values_now", .ref dv), ("spots_seen", .ref ds)]) (List.mem_singleton.mpr rfl) trivial
    have nd : H ds = none := by
      cases e : H ds with
      | none => rfl
      | some o =>
        by_cases z : ds = R
        · rw [z] at hds; rw [upd_same] at hds; cases hds
        · rw [upd_ne z, e] at hds; cases hds
    have nR : dv ≠ R := fun z => by
      obtain ⟨kvs, e, _⟩ := hd
      rw [z, hR] at e; cases e
    have nRs : ds ≠ R := fun z => by rw [z, hR] at nd; cases nd
    refine q ds _ k3 nd ⟨dx, upd_same, ?_, ?_⟩
    · exact hd.kp k3 (fun z => nR (List.mem_singleton.mp z)) fun v s h => h.kp k3
    · exact ⟨[], by rw [upd_ne nRs]; exact upd_same, .nil⟩
end
end EV
end

section
set_option Elab.async false
set_option linter.all false
set_option maxRecDepth 100000
set_option maxHeartbeats 4000000
/-! bodies: a part and a text are worked out -/
namespace EV
open PySem PySem.Spec PyProof.Rows L2
section
variable {P : Program} {w : World} {K : PySem.W.Frag} {mg : Str → Option Value} {base : Heap}
theorem LsAt.wrt {H : Hp} {ds : Addr} {tr : List Spot} (h : LsAt H ds tr) : Mut (H ds) := by obtain ⟨vs, e, _⟩ := h; rw [e]; trivial
section
variable {C : Addr} {NS : List Str} {H : Hp} {R dv ds : Addr} {m : Mp} {tr : List Spot}
theorem RunAt.refl (h : RunAt K C NS H R dv ds m tr) : Kp [dv, ds] H H := by
  obtain ⟨dx, h1, h2, h3⟩ := h
  refine Kp.refl fun d hd => ?_
  rcases List.mem_cons.mp hd with e | hd
  · rw [e]; exact h2.wrt
  · rw [List.mem_singleton.mp hd]; exact h3.wrt
theorem RunAt.ne (h : RunAt K C NS H R dv ds m tr) : R ≠ dv ∧ R ≠ ds ∧ dv ≠ ds := by
  obtain ⟨dx, h1, ⟨kvs, h2, _⟩, vs, h3, _⟩ := h
  refine ⟨fun z => ?_, fun z => ?_, fun z => ?_⟩
  · rw [z, h2] at h1; cases h1
  · rw [z, h3] at h1; cases h1
  · rw [z, h3] at h2; cases h2
theorem RunAt.kp0 {H' : Hp} (h : RunAt K C NS H R dv ds m tr) (k : Kp [] H H') : RunAt K C NS H' R dv ds m tr := by
  obtain ⟨dx, h1, h2, h3⟩ := h
  exact ⟨dx, k.keep R _ (fun z => nomatch z) h1, h2.kp k (fun z => nomatch z) fun v s h => h.kp k, h3.kp k fun z => nomatch z⟩
end
theorem DcAt.look {P : Hp → V → Str → Prop} {NS : List Str} {H : Hp} {d : Addr} {m : Mp} (h : DcAt P NS H d m) (n : Str) : ∃ o, (∀ H', Kp [] H H' → DGet H' d (.str n) o) ∧ ((o = none ∧ m n = none) ∨ ∃ v s, o = some v ∧ m n = some s ∧ P H v s) := by
  obtain ⟨kvs, e, nm, h⟩ := h
  refine ⟨valV kvs (.inr n), fun H' k => DGet.k (k := .inr n) (k.keep d _ (fun z => nomatch z) e), ?_⟩
  have q := h n
  cases h1 : valV kvs (.inr n) <;> cases h2 : m n <;> rw [h1, h2] at q
  · exact .inl ⟨rfl, rfl⟩
  · exact q.elim
  · exact q.elim
  · exact .inr ⟨_, _, rfl, rfl, q⟩
/-- how a run ends -/
def RunEnd (T : Top K mg) (NS : List Str) (R dv ds : Addr) (H : Hp) (Q : VK) (E : XK) : Res → Prop
  | .ok m tr wd => ∀ v H', Kp [dv, ds] H H' → RunAt K T.a_Runner NS H' R dv ds m tr → WordAt K H' v wd → Q v H'
  | .stop m tr => ∀ (d : Addr) (v : V) H', Kp [dv, ds] H H' → RunAt K T.a_Runner NS H' R dv ds m tr → H' d = some (.xd [("message", v)]) → E (.ref T.a_Stop) (some d) H'
  | .long => ∀ (d : Addr) H', Kp [dv, ds] H H' → H' d = some (.xd [("most", .int 400)]) → E (.ref T.a_TooLong) (some d) H'
def spRPart (T : Top K mg) (lv : Nat) : Sp := fun vs H Q E => ∃ (R pa b dv ds : Addr) (n : Str) (g : Sg) (u : Txt) (sp : Spot) (m : Mp) (tr : List Spot) (NS : List Str), vs = [.ref R, .ref pa, .ref b] ∧ RunAt K T.a_Runner NS H R dv ds m tr ∧ PieceAt K H (.part n g u) (.ref pa) ∧
  H b = some (.tup (sp.map V.int)) ∧ (Pc.part n g u).ok lv ∧ lv ≤ 5 ∧ sp.length + lv ≤ 100 ∧ n ∈ NS ∧ (∀ x ∈ u.names, x ∈ NS) ∧ NS.length ≤ 64 ∧ m.few 400 ∧ tr.length + 1 + u.names.length ≤ 1000000 ∧ RunEnd T NS R dv ds H Q E (partRes n g u m tr sp)
def spWorked (T : Top K mg) (lv : Nat) : Sp := fun vs H Q E => ∃ (R c b dv ds : Addr) (t : Txt) (sp : Spot) (m : Mp) (tr : List Spot) (NS : List Str), vs = [.ref R, .ref c, .ref b] ∧ RunAt K T.a_Runner NS H R dv ds m tr ∧ TextAt K H c t ∧
  H b = some (.tup (sp.map V.int)) ∧ t.wb lv = true ∧ lv ≤ 5 ∧ sp.length + lv ≤ 100 ∧ (∀ x ∈ t.names, x ∈ NS) ∧ NS.length ≤ 64 ∧ m.few 400 ∧ tr.length + t.names.length ≤ 1000000 ∧ RunEnd T NS R dv ds H Q E (run t m tr sp 0 e0)
theorem via {t : TE} {σ : L2.St} {H : Hp} {Q : VK} {b : V} (h : ∀ Q' : VK, (∀ H2, Kp [] H H2 → Q' b H2) → t σ H Q') (q : ∀ H2, Kp [] H H2 → Q b H2) : t σ H Q := h Q q
/-- behind an exception's making -/
theorem kp_exc {H : Hp} {a dx C : Addr} {fs fs' : List (Str × V)} (na : H a = none) (nd : H dx = none) : Kp [] H (upd (del (upd (upd (upd H a (exo a C none)) dx (exd dx fs)) a (exo a C (some dx))) a) dx (.xd fs')) :=
  ⟨fun b o _ e => by
    have n1 := ne_of_none e na
    have n2 := ne_of_none e nd
    rw [upd_ne n2, del_ne n1, upd_ne n1, upd_ne n2, upd_ne n1]; exact e, fun _ h => (nomatch h), fun _ h => (nomatch h)⟩
theorem Way.of {m : Mp} {n : Str} {h : Bool} {k : Kd} : way m n (.op h k) = if k = .plus then (if lacks m n h = true then .nothing else .deep) else (if lacks m n h = true then .deep else .own) := rfl
theorem ok_part_of (T : Top K mg) (lv : Nat) (ih : FnOk P w K mg base (L2.CX P w) (4 + 2 * lv) T.a_Runner_worked T.d_Runner_worked ["self", "text", "spot"] (spWorked T lv)) : FnOk P w K mg base (L2.CX P w) (5 + 2 * lv) T.a_Runner_part T.d_Runner_part ["self", "piece", "spot"] (spRPart T lv) := by
  have e5 : 5 + 2 * lv = (4 + 2 * lv) + 1 := by omega
  rw [e5]
  refine T.F_Runner_part.ok sc_Runner_part (fun vs H Q E h => ?_) (fun cdv A outer s H vs Q E hr h => ?_)
  · obtain ⟨R, pa, b, _, _, _, _, _, _, _, _, _, rfl, _⟩ := h
    rfl
  · obtain ⟨R, pa, b, dv, ds, n, g, u, sp, m, tr, NS, rfl, hR, ⟨pa', c, e, hp, hc⟩, hb, ⟨_, wf, gno⟩, hlv, hsp, hn, hu, hNS, hm, htr, hend⟩ := h
    obtain rfl : pa = pa' := V.ref.inj e
    refine ⟨_, (pss_cons (ps_asg (pv 1) (pg_tup rfl (pgs_cons (pg_name (i := 3) sc_Runner_part.nd rfl (.inl rfl)) (pgs_cons (pg_name (i := 4) sc_Runner_part.nd rfl (.inl rfl)) (pgs_cons (pg_name (i := 5) sc_Runner_part.nd rfl (.inl rfl)) pgs_nil))))) (pss_cons (ps_set (i := 6) sc_Runner_part.nd rfl (.inl rfl) (pe_cmp (pc_din (rm_cl hr (by decide)) (pv 3) (pe_fld (pv 0) rfl)) rfl)) (pss_cons (ps_set (i := 7) sc_Runner_part.nd rfl (.inl rfl) (pe_dget2 (rm_cl hr (by decide)) (pe_fld (pv 0) rfl) (pv 3) (pe_tup pa_nil) ⟨rfl, rfl, rfl, rfl⟩)) (pss_cons (ps_set (i := 8) sc_Runner_part.nd rfl (.inl rfl) (pe_or (pe_not (pv 6)) (pe_one (pe_and (pe_call (ok_is_hard T) (hr.mono (by omega)) rfl T.g_is_hard T.F_is_hard.kp (b_is_hard T) .nil pass0 (pa_cons (pv 4) pa_nil)) (pe_one (pe_cmpR (r := rEqE K) (op_eqE (rm_cl0 hr)) (pv 7) (pe_tup pa_nil) (nomark _))))))) (pss_cons (ps_set (i := 9) sc_Runner_part.nd rfl (.inl rfl) (pe_call (ok_kind_of T) (hr.mono (by omega)) rfl T.g_kind_of T.F_kind_of.kp (b_kind_of T) .nil pass0 (pa_cons (pv 4) pa_nil))) (pss_cons (ps_if (PW.pt (pw_or (pt_cmpR (op_eq) (pv 9) pe_str (nomark _)) (pw_or1 (PW.pt (pw_and (pt_cmpR (op_ne) (pv 9) pe_str (nomark _)) (pw_and1 (pt_not (pt_val (pv 8))))))))) (pss_one (ps_ret (pv 7))) pss_nil) (pss_cons (ps_if (PW.pt (pw_and (pt_cmpR (op_eq) (pv 9) pe_str (nomark _)) (pw_and1 (pt_val (pv 8))))) (pss_one (ps_ret (pe_tup pa_nil))) pss_nil) (pss_cons (ps_expr (pe_bm PySem.F.plainAttrs_list PySem.F.slot_list_append PySem.F.type_list_append mt_append (pe_fld (pv 0) rfl) (pa_cons (pv 2) pa_nil))) (pss_cons (ps_set (i := 10) sc_Runner_part.nd rfl (.inl rfl) (pe_meth (pv 0) T.l_Runner T.w_Runner ih (hr.mono (by omega)) (b_Runner_worked T) .nil (passes_call (takes_of rfl rfl rfl rfl) (fun _ _ _ _ h => h)) (pa_cons (pv 5) (pa_cons (pv 2) pa_nil)))) (pss_cons (ps_if (pt_cmpR (op_eq) (pv 9) pe_str (nomark _)) (pss_one (ps_raise rfl (takes_of rfl rfl rfl rfl) (pmk_eex T.o_Stop T.i_Stop T.f_Stop (ok_Stop_init T) (hr.mono (by omega)) (b_Stop_init T) .nil pass0 rfl T.g_Stop (pa_cons (pv 10) pa_nil)))) pss_nil) (pss_cons (ps_if (pt_cmpR (op_eq) (pv 9) pe_str (nomark _)) (pss_one (ps_dput (rm_cl hr (by decide)) (pe_fld (pv 0) rfl) (pv 3) (pv 10) rfl)) pss_nil) (pss_one (ps_ret (pv 10)))))))))))))), ?_⟩
    have hne := hR.ne
    obtain ⟨dx, hR0, hd, hl⟩ := id hR
    refine ⟨_, rfl, pa, _, rfl, hp, rfl, _, _, rfl, _, _, rfl, _, _, rfl, rfl, ?_⟩
    obtain ⟨o', hg, ho'⟩ := hd.look n
    refine ⟨_, rfl, _, rfl, R, T.a_Runner, dx, _, _, rfl, hR0, T.l_Runner, T.v_Runner, rfl, dv, o', rfl, hg _ (Kp.nil H), ?_⟩
    refine ⟨_, rfl, R, T.a_Runner, dx, _, _, rfl, hR0, T.l_Runner, T.v_Runner, rfl, dv, rfl, hd.isD, _, rfl, Nat.zero_le _, fun t1 ht1 => ?_⟩
    have k1 := hR.refl.new (.tup []) ht1
    have k01 : Kp [] H (upd H t1 (.tup [])) := (Kp.nil H).new _ ht1
    have hR1 := hR.kp0 k01
    refine ⟨o', hg _ k01, ?_⟩
    have hown : ∀ {H2}, Kp [] (upd H t1 (.tup [])) H2 → WordAt K H2 (o'.getD (.ref t1)) (worth m n) := fun {H2} k2 => by
      rcases ho' with ⟨e1, e2⟩ | ⟨v, s, e1, e2, e3⟩
      · rw [e1, show worth m n = e0 by unfold worth; rw [e2]; rfl]
        exact ⟨t1, [], rfl, k2.sqt (.inl (.inl upd_same)), rfl⟩
      · rw [e1, show worth m n = s by unfold worth; rw [e2]; rfl]
        exact e3.kp (k01.trans k2)
    -- lacks
    dsimp only [gName, tSeq, tAsg]
    refine via (t := tOrV _ _) (b := .bl (lacks m n g.hard)) (fun Q' q' => ?_) (fun H2 k2 => ?_)
    · refine ⟨_, rfl, _, rfl, _, rfl, ?_⟩
      rcases ho' with ⟨e1, e2⟩ | ⟨v, s, e1, e2, e3⟩
      · subst e1
        refine if_t rfl ?_
        have : lacks m n g.hard = true := by unfold lacks; rw [e2]
        rw [← this]
        exact q' _ (Kp.nil _)
      · subst e1
        refine if_f rfl ⟨_, rfl, g, rfl, _, rfl, ?_⟩
        have e4 : lacks m n g.hard = (g.hard && decide (s = e0)) := by unfold lacks; rw [e2]
        rw [e4] at q'
        cases hh : g.hard with
        | false =>
          rw [hh] at q'
          exact if_f rfl (q' _ (Kp.nil _))
        | true =>
          rw [hh] at q'
          obtain ⟨a, xs, ev, hq, hx⟩ := e3
          refine if_t rfl ⟨_, rfl, Nat.zero_le _, fun t2 ht2 => ?_⟩
          have k3 := (Kp.nil (upd H t1 (.tup []))).new (.tup []) ht2
          refine ⟨a, t2, xs, ev, rfl, .inl ⟨k3.sqt (k01.sqt hq), .inl (.inl upd_same)⟩, ?_⟩
          rw [hx.empty]
          exact q' _ k3
    have k02 := k01.trans k2
    have hR2 := hR1.kp0 k2
    have kk2 : Kp [dv, ds] H H2 := hR.refl.call k02 fun _ z => nomatch z
    obtain ⟨dx2, hR20, hd2, hl2⟩ := id hR2
    refine ⟨_, rfl, g, rfl, ?_⟩
    cases g with
    | no => exact ⟨_, rfl, rfl, _, rfl, if_t (by decide) ⟨_, rfl, hend _ _ kk2 hR2 (hown k2)⟩⟩
    | op hd' kd =>
      refine ⟨_, rfl, rfl, _, rfl, if_f (by cases kd <;> cases hd' <;> decide) ?_⟩
      have hway : way m n (.op hd' kd) = if kd = .plus then (if lacks m n hd' = true then .nothing else .deep) else (if lacks m n hd' = true then .deep else .own) := rfl
      have hend : RunEnd T NS R dv ds H Q E (match way m n (.op hd' kd) with
        | .own => .ok m tr (worth m n)
        | .nothing => .ok m tr e0
        | .deep => match run u m (tr ++ [sp]) sp 0 e0 with
          | .long => .long
          | .stop m tr => .stop m tr
          | .ok m tr w => if (Sg.op hd' kd).isK .ask = true then .stop m tr else .ok (m.putIf ((Sg.op hd' kd).isK .eq) n w) tr w) := hend
      rw [hway] at hend
      have fst : ∀ b : Bool, lacks m n hd' = b → lacks m n (Sg.op hd' kd).hard = b := fun _ e => e
      by_cases hk : kd = .plus
      · subst hk
        rw [if_pos rfl] at hend
        refine ⟨_, rfl, rfl, _, rfl, if_f (by cases hd' <;> decide) (if_f rfl ⟨_, rfl, rfl, _, rfl, if_t (by cases hd' <;> decide) ⟨_, rfl, _, rfl, ?_⟩⟩)⟩
        cases hlk : lacks m n hd' with
        | true =>
          rw [hlk, if_pos rfl] at hend
          refine if_t (fst _ hlk) ⟨Nat.zero_le _, fun t3 ht3 => ?_⟩
          have k3 := (Kp.nil H2).new (.tup []) ht3
          exact hend _ _ (kk2.new _ ht3) (hR2.kp0 k3) ⟨t3, [], rfl, .inl (.inl upd_same), rfl⟩
        | false =>
          rw [hlk, if_neg Bool.false_ne_true] at hend
          refine if_f (fst _ hlk) ?_
          obtain ⟨vs, hl3, hp3⟩ := hl2
          refine ⟨_, rfl, R, T.a_Runner, dx2, _, _, rfl, hR20, T.l_Runner, T.s_Runner, rfl, .inl ⟨rfl, _, .inl (.inl hl3)⟩, _, rfl, ds, vs, _, rfl, rfl, hl3, by rw [Paired.length hp3, sizeLine_eq]; omega, ?_⟩
          have kF : Kp [ds] H2 (upd H2 ds (.lst (vs ++ [.ref b]))) := Kp.wr1 hl3 trivial trivial
          have kk3 : Kp [dv, ds] H (upd H2 ds (.lst (vs ++ [.ref b]))) := kk2.put (by simp) trivial
          have hR3 : RunAt K T.a_Runner NS (upd H2 ds (.lst (vs ++ [.ref b]))) R dv ds m (tr ++ [sp]) :=
            ⟨dx2, by rw [upd_ne hne.2.1]; exact hR20, hd2.kp kF (fun z => hne.2.2 (List.mem_singleton.mp z)) fun v s h => h.kp kF, _, upd_same, paired_app (spots_kp hp3 kF) (.cons ⟨b, rfl, kF.tup (k02.tup hb)⟩ .nil)⟩
          refine ⟨_, rfl, R, dx2, _, rfl, by rw [upd_ne hne.2.1]; exact hR20, rfl, _, rfl, _, rfl, ?_⟩
          refine ⟨R, c, b, dv, ds, u, sp, m, tr ++ [sp], NS, rfl, hR3, (hc.kp k02).kp kF, kF.tup (k02.tup hb), wf, hlv, hsp, hu, hNS, hm, by rw [List.length_append]; exact htr, ?_⟩
          cases hrun : run u m (tr ++ [sp]) sp 0 e0 with
          | long =>
            rw [hrun] at hend
            exact fun d H4 k4 h4 => hend d H4 (kk3.trans k4) h4
          | stop m4 tr4 =>
            rw [hrun] at hend
            exact fun d v H4 k4 r4 h4 => hend d v H4 (kk3.trans k4) r4 h4
          | ok m4 tr4 w4 =>
            rw [hrun] at hend
            intro v4 H4 k4 hR4 hw4
            have kk4 := kk3.trans k4
            refine ⟨_, rfl, rfl, _, rfl, ?_⟩
            have hq : decide (V.str (Sg.op hd' .plus).kind = V.str "?") = (Sg.op hd' .plus).isK .ask := by cases hd' <;> decide
            rw [hq]
            cases ha : (Sg.op hd' .plus).isK .ask with
            | true =>
              have hend : RunEnd T NS R dv ds H Q E (if (Sg.op hd' .plus).isK .ask = true then .stop m4 tr4 else .ok (m4.putIf ((Sg.op hd' .plus).isK .eq) n w4) tr4 w4) := hend
              rw [ha, if_pos rfl] at hend
              refine if_t rfl ⟨_, rfl, by simp only [List.length_cons, List.length_nil]; omega, fun a ha => ⟨a, v4, rfl, upd_same, fun dd hdd nda => ?_⟩⟩
              have ndd : H4 dd = none := by rw [upd_ne nda] at hdd; exact hdd
              refine ⟨rfl, dd, _, upd_same, by rw [upd_ne nda]; exact upd_same, ndd, ?_⟩
              have kx := kp_exc (C := T.a_Stop) (fs := [("message", v4)]) (fs' := [("message", v4)]) ha ndd
              exact hend dd v4 _ (kk4.call kx fun _ z => nomatch z) (hR4.kp0 kx) upd_same
            | false =>
              have hend : RunEnd T NS R dv ds H Q E (if (Sg.op hd' .plus).isK .ask = true then .stop m4 tr4 else .ok (m4.putIf ((Sg.op hd' .plus).isK .eq) n w4) tr4 w4) := hend
              rw [ha, if_neg Bool.false_ne_true] at hend
              refine if_f rfl ⟨_, rfl, rfl, _, rfl, ?_⟩
              have hq2 : decide (V.str (Sg.op hd' .plus).kind = V.str "=") = (Sg.op hd' .plus).isK .eq := by cases hd' <;> decide
              rw [hq2]
              cases hb : (Sg.op hd' .plus).isK .eq with
              | false =>
                rw [hb] at hend
                exact if_f rfl ⟨_, rfl, hend v4 H4 kk4 hR4 hw4⟩
              | true =>
                rw [hb] at hend
                obtain ⟨dx4, hR40, hd4, hl4⟩ := id hR4
                obtain ⟨kvs4, e4, _⟩ := id hd4
                obtain ⟨H5, hput, hd5, o5, eo5, mo5⟩ := hd4.put (v := v4) hn (by rw [sizeLine_eq]; omega) hw4 fun o v s mo h => h.kp (Kp.wr1 e4 trivial mo)
                have k5 : Kp [dv] H4 H5 := by rw [eo5]; exact Kp.wr1 e4 trivial mo5
                refine if_t rfl ⟨_, rfl, _, rfl, R, T.a_Runner, dx4, _, _, rfl, hR40, T.l_Runner, T.v_Runner, rfl, _, rfl, dv, H5, rfl, hput, _, rfl, ?_⟩
                refine hend v4 H5 (kk4.call k5 fun d hd => .inl (by rw [List.mem_singleton.mp hd]; simp)) ⟨dx4, ?_, hd5, ?_⟩ (hw4.kp k5)
                · exact k5.keep R _ (fun z => hne.1 (List.mem_singleton.mp z)) hR40
                · exact hl4.kp k5 fun z => hne.2.2 (List.mem_singleton.mp z).symm
      · rw [if_neg hk] at hend
        have hk2 : (!decide (V.str kd.str = V.str "+")) = true := by cases kd <;> first | exact absurd rfl hk | decide
        have hk3 : decide (V.str kd.str = V.str "+") = false := by cases kd <;> first | exact absurd rfl hk | decide
        refine ⟨_, rfl, rfl, _, rfl, if_t hk2 ⟨_, rfl, _, rfl, ?_⟩⟩
        cases hlk : lacks m n hd' with
        | false =>
          rw [hlk, if_neg Bool.false_ne_true] at hend
          exact if_t (by rw [fst _ hlk]; rfl) ⟨_, rfl, hend _ _ kk2 hR2 (hown k2)⟩
        | true =>
          rw [hlk, if_pos rfl] at hend
          refine if_f (by rw [fst _ hlk]; rfl) ⟨_, rfl, rfl, _, rfl, if_f hk3 (if_f rfl ?_)⟩
          obtain ⟨vs, hl3, hp3⟩ := hl2
          refine ⟨_, rfl, R, T.a_Runner, dx2, _, _, rfl, hR20, T.l_Runner, T.s_Runner, rfl, .inl ⟨rfl, _, .inl (.inl hl3)⟩, _, rfl, ds, vs, _, rfl, rfl, hl3, by rw [Paired.length hp3, sizeLine_eq]; omega, ?_⟩
          have kF : Kp [ds] H2 (upd H2 ds (.lst (vs ++ [.ref b]))) := Kp.wr1 hl3 trivial trivial
          have kk3 : Kp [dv, ds] H (upd H2 ds (.lst (vs ++ [.ref b]))) := kk2.put (by simp) trivial
          have hR3 : RunAt K T.a_Runner NS (upd H2 ds (.lst (vs ++ [.ref b]))) R dv ds m (tr ++ [sp]) :=
            ⟨dx2, by rw [upd_ne hne.2.1]; exact hR20, hd2.kp kF (fun z => hne.2.2 (List.mem_singleton.mp z)) fun v s h => h.kp kF, _, upd_same, paired_app (spots_kp hp3 kF) (.cons ⟨b, rfl, kF.tup (k02.tup hb)⟩ .nil)⟩
          refine ⟨_, rfl, R, dx2, _, rfl, by rw [upd_ne hne.2.1]; exact hR20, rfl, _, rfl, _, rfl, ?_⟩
          refine ⟨R, c, b, dv, ds, u, sp, m, tr ++ [sp], NS, rfl, hR3, (hc.kp k02).kp kF, kF.tup (k02.tup hb), wf, hlv, hsp, hu, hNS, hm, by rw [List.length_append]; exact htr, ?_⟩
          cases hrun : run u m (tr ++ [sp]) sp 0 e0 with
          | long =>
            rw [hrun] at hend
            exact fun d H4 k4 h4 => hend d H4 (kk3.trans k4) h4
          | stop m4 tr4 =>
            rw [hrun] at hend
            exact fun d v H4 k4 r4 h4 => hend d v H4 (kk3.trans k4) r4 h4
          | ok m4 tr4 w4 =>
            rw [hrun] at hend
            intro v4 H4 k4 hR4 hw4
            have kk4 := kk3.trans k4
            refine ⟨_, rfl, rfl, _, rfl, ?_⟩
            have hq : decide (V.str (Sg.op hd' kd).kind = V.str "?") = (Sg.op hd' kd).isK .ask := by cases kd <;> cases hd' <;> decide
            rw [hq]
            cases ha : (Sg.op hd' kd).isK .ask with
            | true =>
              have hend : RunEnd T NS R dv ds H Q E (if (Sg.op hd' kd).isK .ask = true then .stop m4 tr4 else .ok (m4.putIf ((Sg.op hd' kd).isK .eq) n w4) tr4 w4) := hend
              rw [ha, if_pos rfl] at hend
              refine if_t rfl ⟨_, rfl, by simp only [List.length_cons, List.length_nil]; omega, fun a ha => ⟨a, v4, rfl, upd_same, fun dd hdd nda => ?_⟩⟩
              have ndd : H4 dd = none := by rw [upd_ne nda] at hdd; exact hdd
              refine ⟨rfl, dd, _, upd_same, by rw [upd_ne nda]; exact upd_same, ndd, ?_⟩
              have kx := kp_exc (C := T.a_Stop) (fs := [("message", v4)]) (fs' := [("message", v4)]) ha ndd
              exact hend dd v4 _ (kk4.call kx fun _ z => nomatch z) (hR4.kp0 kx) upd_same
            | false =>
              have hend : RunEnd T NS R dv ds H Q E (if (Sg.op hd' kd).isK .ask = true then .stop m4 tr4 else .ok (m4.putIf ((Sg.op hd' kd).isK .eq) n w4) tr4 w4) := hend
              rw [ha, if_neg Bool.false_ne_true] at hend
              refine if_f rfl ⟨_, rfl, rfl, _, rfl, ?_⟩
              have hq2 : decide (V.str (Sg.op hd' kd).kind = V.str "=") = (Sg.op hd' kd).isK .eq := by cases kd <;> cases hd' <;> decide
              rw [hq2]
              cases hb : (Sg.op hd' kd).isK .eq with
              | false =>
                rw [hb] at hend
                exact if_f rfl ⟨_, rfl, hend v4 H4 kk4 hR4 hw4⟩
              | true =>
                rw [hb] at hend
                obtain ⟨dx4, hR40, hd4, hl4⟩ := id hR4
                obtain ⟨kvs4, e4, _⟩ := id hd4
                obtain ⟨H5, hput, hd5, o5, eo5, mo5⟩ := hd4.put (v := v4) hn (by rw [sizeLine_eq]; omega) hw4 fun o v s mo h => h.kp (Kp.wr1 e4 trivial mo)
                have k5 : Kp [dv] H4 H5 := by rw [eo5]; exact Kp.wr1 e4 trivial mo5
                refine if_t rfl ⟨_, rfl, _, rfl, R, T.a_Runner, dx4, _, _, rfl, hR40, T.l_Runner, T.v_Runner, rfl, _, rfl, dv, H5, rfl, hput, _, rfl, ?_⟩
                refine hend v4 H5 (kk4.call k5 fun d hd => .inl (by rw [List.mem_singleton.mp hd]; simp)) ⟨dx4, ?_, hd5, ?_⟩ (hw4.kp k5)
                · exact k5.keep R _ (fun z => hne.1 (List.mem_singleton.mp z)) hR40
                · exact hl4.kp k5 fun z => hne.2.2 (List.mem_singleton.mp z).symm
end
end EV
end

section
set_option Elab.async false
set_option linter.all false
set_option maxRecDepth 100000
set_option maxHeartbeats 4000000
/-! bodies: a text is worked out -/
namespace EV
open PySem PySem.Spec PyProof.Rows L2
section
variable {P : Program} {w : World} {K : PySem.W.Frag} {mg : Str → Option Value} {base : Heap}
theorem Kp.t0 {L : List Addr} {H H1 H2 : Hp} (a : Kp L H H1) (b : Kp [] H1 H2) : Kp L H H2 := a.call b fun _ z => nomatch z
theorem drop_zero (t : Txt) : t.drop 0 = t := by cases t <;> rfl
theorem names_drop : ∀ (t : Txt) (i : Nat), ∀ y ∈ (t.drop i).names, y ∈ t.names
  | t, 0, y, h => by rw [drop_zero] at h; exact h
  | .nil, i + 1, y, h => h
  | .lit _ r, i + 1, y, h => names_drop r i y h
  | .part n g u r, i + 1, y, h => List.mem_cons_of_mem _ (List.mem_append_right _ (names_drop r i y h))
theorem plain_ne {s : Str} (h : plainOk s = true) : s ≠ e0 := fun z => by rw [z] at h; exact absurd h (by decide +kernel)
theorem plain_le {s : Str} (h : plainOk s = true) : s.length ≤ 20 := by
  obtain ⟨h1, _⟩ := Bool.and_eq_true_iff.mp h
  rw [str_len]
  exact (of_decide_eq_true h1).2
theorem ok_worked_of (T : Top K mg) (lv : Nat) (ih : FnOk P w K mg base (L2.CX P w) (3 + 2 * lv) T.a_Runner_part T.d_Runner_part ["self", "piece", "spot"] (fun vs H Q E => ∃ l, lv = l + 1 ∧ spRPart T l vs H Q E)) :
    FnOk P w K mg base (L2.CX P w) (4 + 2 * lv) T.a_Runner_worked T.d_Runner_worked ["self", "text", "spot"] (spWorked T lv) := by
  have e5 : 4 + 2 * lv = (3 + 2 * lv) + 1 := by omega
  rw [e5]
  refine T.F_Runner_worked.ok sc_Runner_worked (fun vs H Q E h => ?_) (fun cdv A outer s H vs Q E hr h => ?_)
  · obtain ⟨R, c, b, _, _, _, _, _, _, _, rfl, _⟩ := h
    rfl
  · obtain ⟨R, c, b, dv, ds, t, sp, m, tr, NS, rfl, hR, ⟨xs, hq, hx⟩, hb, wf, hlv, hsp, hu, hNS, hm, htr, hend⟩ := h
    have hlen := wb_len wf
    have hxl := hx.len
    refine ⟨_, (pss_cons (ps_set (i := 3) sc_Runner_worked.nd rfl (.inl rfl) (pe_tup pa_nil)) (pss_cons (ps_for (passes_of rfl) rfl (pi_enumT rfl T.n_enumerate (pa_cons (pv 1) pa_nil)) (pg_tup rfl (pgs_cons (pg_name (i := 4) sc_Runner_worked.nd rfl (.inl rfl)) (pgs_cons (pg_name (i := 5) sc_Runner_worked.nd rfl (.inl rfl)) pgs_nil))) (pss_cons (ps_set (i := 6) sc_Runner_worked.nd rfl (.inl rfl) (pe_ifExp (pt_val (pe_callB (r := rIsi K) call_isi rfl T.n_isinstance bt_isinstance (pa_cons (pv 5) (pa_cons (pe_bltn (v := .ty "str") rfl T.n_str bt_str rfl) pa_nil)))) (pe_tup (pa_cons (pv 5) pa_nil)) (pe_meth (pv 0) T.l_Runner T.p_Runner ih (hr.mono (by omega)) (b_Runner_part T) .nil (passes_call (takes_of rfl rfl rfl rfl) (fun _ _ _ _ h => h)) (pa_cons (pv 5) (pa_cons (pe_op (r := rCatA K) (op_catA) (pv 2) (pe_tup (pa_cons (pv 4) pa_nil))) pa_nil))))) (pss_one (ps_set (i := 3) sc_Runner_worked.nd rfl (.inl rfl) (pe_call (ok_put_together T) (hr.mono (by omega)) rfl T.g_put_together T.F_put_together.kp (b_put_together T) .nil pass0 (pa_cons (pv 3) (pa_cons (pv 6) pa_nil))))))) (pss_cons (ps_if (pt_cmpR (op_gt) (pe_call (ok_length_of T) (hr.mono (by omega)) rfl T.g_length_of T.F_length_of.kp (b_length_of T) .nil pass0 (pa_cons (pv 3) pa_nil)) (pe_k rfl T.k_MOST_LONG) (nomark _)) (pss_one (ps_raise rfl (takes_of rfl rfl rfl rfl) (pmk_oex T.o_TooLong T.i_TooLong T.f_TooLong (ok_TooLong_init T) (hr.mono (by omega)) (b_TooLong_init T) .nil pass0 rfl T.g_TooLong (pa_cons (pe_k rfl T.k_MOST_LONG) pa_nil)))) pss_nil) (pss_one (ps_ret (pv 3)))))), ?_⟩
    refine ⟨Nat.zero_le _, fun t0 ht0 => ?_⟩
    have k0 := hR.refl.new (.tup []) ht0
    have k00 : Kp [] H (upd H t0 (.tup [])) := (Kp.nil H).new _ ht0
    refine ⟨_, rfl, c, xs, rfl, k0.sqt hq, for_enumT (K := K) (a := c) (xs := xs) (fun i σ H' => ∃ v u1 u2 u3 mi tri acc, σ = [some (.ref R), some (.ref c), some (.ref b), some v, u1, u2, u3] ∧ Kp [dv, ds] H H' ∧ RunAt K T.a_Runner NS H' R dv ds mi tri ∧ WordAt K H' v acc ∧
        run (t.drop i) mi tri sp i acc = run t m tr sp 0 e0 ∧ mi.few 400 ∧ tri.length + (t.drop i).names.length ≤ 1000000 ∧ acc.length ≤ 400 * i)
      ⟨.ref t0, none, none, none, m, tr, e0, rfl, k0, hR.kp0 k00, ⟨t0, [], rfl, .inl (.inl upd_same), rfl⟩, by rw [drop_zero], hm, by rw [drop_zero]; exact htr, Nat.zero_le _⟩ (fun i σ H' _ ⟨_, _, _, _, _, _, _, _, k, _⟩ => k.sqt hq) ?_ ?_⟩
    · rintro i x σ H1 Tt hi ⟨v, u1, u2, u3, mi, tri, acc, rfl, k1, hR1, hw1, er, hmi, htri, hacc⟩ hT
      obtain ⟨p, hpc, ep⟩ := hx.get hi
      have hil : i < xs.length := (List.getElem?_eq_some_iff.mp hi).1
      have kT := (Kp.nil H1).new (.tup [.int (i : Nat), x]) hT
      have k2 := k1.new (.tup [.int (i : Nat), x]) hT
      have hR2 := hR1.kp0 kT
      have hw2 := hw1.kp kT
      obtain ⟨l', el', hg⟩ := wb_piece wf ep
      have hpc2 := hpc.kp k2
      have hnm := names_piece ep
      rw [hnm, List.length_append] at htri
      refine ⟨Tt, _, rfl, .inl (.inl upd_same), rfl, _, _, rfl, _, _, rfl, rfl, ?_⟩
      cases p with
      | lit z =>
        have ex : x = .str z := hpc
        subst ex
        have hz : plainOk z = true := hg
        have hzl := plain_le hz
        have ep : t.drop i = .lit z (t.drop (i + 1)) := ep
        rw [ep] at er
        refine ⟨_, rfl, _, _, _, _, _, rfl, .ty _, .base (.str _), ki_ss, _, rfl, if_t rfl ⟨_, rfl, sz1, fun t1 ht1 => ?_⟩⟩
        have k3 := (Kp.nil (upd H1 Tt (.tup [.int (i : Nat), .str z]))).new (.tup [.str z]) ht1
        refine ⟨_, rfl, _, rfl, v, .ref t1, acc, z, rfl, hw2.kp k3, ⟨t1, _, rfl, .inl (.inl upd_same), z, e0, (app_e0 z).symm, .inl ⟨rfl, plain_ne hz⟩, rfl⟩, by omega, fun v' H3 k4 hw4 => ?_⟩
        have k34 := k3.trans k4
        exact ⟨v', _, _, _, mi, tri, acc ++ z, rfl, k2.t0 k34, hR2.kp0 k34, hw4, er, hmi, by omega, by rw [app_len]; omega⟩
      | part n g u =>
        subst el'
        obtain ⟨c', d', rfl, hc', hd'⟩ := id hpc2
        obtain ⟨hn1, wf', hgno⟩ := hg
        have ep : t.drop i = .part n g u (t.drop (i + 1)) := ep
        have hsub : ∀ y ∈ (t.drop i).names, y ∈ t.names := names_drop t i
        rw [ep, run_part] at er
        refine ⟨_, rfl, _, _, _, _, _, rfl, .ty _, ty_tup hc', ki_ts, _, rfl, if_f rfl ?_⟩
        obtain ⟨dx2, hR20, _, _⟩ := id hR2
        refine ⟨_, rfl, R, dx2, _, rfl, hR20, rfl, _, rfl, _, rfl, _, rfl, sz1, fun t1 ht1 => ?_⟩
        have k3 := (Kp.nil (upd H1 Tt (.tup [.int (i : Nat), .ref c']))).new (.tup [.int (i : Nat)]) ht1
        refine catH (k3.tup (k2.tup hb)) upd_same (by rw [List.length_map, sizeLine_eq]; simp only [List.length_cons, List.length_nil]; omega) fun p1 H3 k4 hp1 => ?_
        have k34 := k3.trans k4
        have hsp1 : sp.map V.int ++ [V.int (i : Nat)] = (sp ++ [(i : Int)]).map V.int := by rw [List.map_append]; rfl
        rw [hsp1] at hp1
        have hpn : (Pc.part n g u).names.length = u.names.length + 1 := rfl
        have k5 : Kp [dv, ds] H H3 := k2.call k34 fun _ z => nomatch z
        refine ⟨l', rfl, R, c', p1, dv, ds, n, g, u, sp ++ [(i : Int)], mi, tri, NS, rfl, hR2.kp0 k34, hpc2.kp k34, hp1, ⟨hn1, wf', hgno⟩, by omega, by rw [List.length_append]; simp only [List.length_cons, List.length_nil]; omega,
          hu n (hsub n (by rw [ep]; exact List.mem_cons_self ..)), fun y hy => hu y (hsub y (by rw [ep]; exact List.mem_cons_of_mem _ (List.mem_append_left _ hy))), hNS, hmi, by omega, ?_⟩
        have hfew := part_few (n := n) (g := g) (t := u) (tr := tri) (sp := sp ++ [(i : Int)]) hmi
        cases hres : partRes n g u mi tri (sp ++ [(i : Int)]) with
        | long =>
          rw [hres] at er
          rw [← er] at hend
          exact fun d H4 k6 h4 => hend d H4 (k5.trans k6) h4
        | stop m4 tr4 =>
          rw [hres] at er
          rw [← er] at hend
          exact fun d v H4 k6 r4 h4 => hend d v H4 (k5.trans k6) r4 h4
        | ok m4 tr4 w4 =>
          rw [hres] at er hfew
          obtain ⟨f1, f2, f3⟩ := hfew
          intro v4 H4 k6 hR4 hw4
          have hne := hR2.ne
          refine ⟨_, rfl, _, rfl, v, v4, acc, w4, rfl, (hw2.kp k34).kp k6, hw4, by omega, fun v5 H5 k7 hw5 => ?_⟩
          have k8 : Kp [dv, ds] H H4 := k5.trans k6
          exact ⟨v5, _, _, _, m4, tr4, acc ++ w4, rfl, k8.t0 k7, hR4.kp0 k7, hw5, er, f1, by omega, by rw [app_len]; omega⟩
    · rintro σ H1 ⟨v, u1, u2, u3, mi, tri, acc, rfl, k1, hR1, hw1, er, hmi, htri, hacc⟩
      rw [hxl, drop_len] at er
      have hacc : acc.length ≤ 3200 := by omega
      refine ⟨_, rfl, v, acc, rfl, hw1, by omega, fun H2 k2 => ⟨_, _, rfl, rfl, _, rfl, ?_⟩⟩
      have k3 : Kp [dv, ds] H H2 := k1.call k2 fun _ z => nomatch z
      have er : (if 400 < acc.length then Res.long else .ok mi tri acc) = run t m tr sp 0 e0 := er
      rw [← er] at hend
      by_cases hz : 400 < acc.length
      · rw [if_pos hz] at hend
        rw [decide_eq_true (show (400 : Int) < (acc.length : Nat) by omega)]
        refine if_t rfl ⟨by simp only [List.length_cons, List.length_nil]; omega, fun a ha => ⟨a, rfl, upd_same, fun dd hdd nda => ?_⟩⟩
        have ndd : H2 dd = none := by rw [upd_ne nda] at hdd; exact hdd
        refine ⟨rfl, dd, _, upd_same, by rw [upd_ne nda]; exact upd_same, ndd, ?_⟩
        have kx := kp_exc (C := T.a_TooLong) (fs := [("most", .int 400)]) (fs' := [("most", .int 400)]) ha ndd
        exact hend dd _ (k3.call kx fun _ z => nomatch z) upd_same
      · rw [if_neg hz] at hend
        rw [decide_eq_false (show ¬ (400 : Int) < (acc.length : Nat) by omega)]
        exact if_f rfl ⟨_, rfl, hend v H2 k3 (hR1.kp0 k2) (hw1.kp k2)⟩
theorem ok_none_X {f : Addr} {fd : FuncData} {ps : List Str} {CX : CXT} {k : Nat} {sp : Sp} (h : ∀ vs H Q E, ¬ sp vs H Q E) : FnOk P w K mg base CX k f fd ps sp := ⟨fun vs H Q E z => (h vs H Q E z).elim, fun A outer s H args us vs Q E _ _ _ _ z => (h vs H Q E z).elim⟩
theorem ok_worked_at (T : Top K mg) : ∀ l : Nat, FnOk P w K mg base (L2.CX P w) (4 + 2 * l) T.a_Runner_worked T.d_Runner_worked ["self", "text", "spot"] (spWorked T l)
  | 0 => ok_worked_of T 0 (ok_none_X fun _ _ _ _ ⟨_, e, _⟩ => nomatch e)
  | l + 1 => ok_worked_of T (l + 1) (((ok_part_of T l (ok_worked_at T l)).imp fun vs H Q E ⟨l', e, h⟩ => by cases e; exact h).mono (by omega))
theorem ok_Runner_worked (T : Top K mg) : FnOk P w K mg base (L2.CX P w) 14 T.a_Runner_worked T.d_Runner_worked ["self", "text", "spot"] (spWorked T 5) := ok_worked_at T 5
end
end EV
end

section
set_option Elab.async false
set_option linter.all false
set_option maxRecDepth 100000
set_option maxHeartbeats 4000000
/-! bodies: a row, the rows -/
namespace EV
open PySem PySem.Spec PyProof.Rows L2
section
variable {P : Program} {w : World} {K : PySem.W.Frag} {mg : Str → Option Value} {base : Heap}
/-- a row's run -/
def rowRes (r : Row) (m : Mp) (tr : List Spot) (i : Nat) : Res := if r.works m = true then (match run r.text m tr [(i : Int)] 0 e0 with
  | .long => .long
  | .stop m tr => .stop m tr
  | .ok m tr wd => .ok (r.store m wd) tr e0) else .ok (r.pass m) tr e0
theorem rows_cons (r : Row) (F : File) (m : Mp) (tr : List Spot) (i : Nat) : runRows (r :: F) m tr i = (match rowRes r m tr i with
  | .long => none
  | .stop _ tr => some tr
  | .ok m tr _ => runRows F m tr (i + 1)) := by
  unfold rowRes
  show (if r.works m = true then (match run r.text m tr [(i : Int)] 0 e0 with
      | .long => none
      | .stop _ tr => some tr
      | .ok m tr w => runRows F (r.store m w) tr (i + 1))
    else runRows F (r.pass m) tr (i + 1)) = _
  split
  · cases run r.text m tr [(i : Int)] 0 e0 <;> rfl
  · rfl
theorem row_few {r : Row} {m : Mp} {tr : List Spot} {i : Nat} (h : m.few 400) : ResB (tr.length + r.text.names.length) (rowRes r m tr i) := by
  unfold rowRes
  split
  · have h1 := run_few r.text m tr [(i : Int)] 0 e0 h
    cases hr : run r.text m tr [(i : Int)] 0 e0 with
    | long => trivial
    | stop m4 tr4 => rw [hr] at h1; exact h1
    | ok m4 tr4 w4 =>
      rw [hr] at h1
      obtain ⟨a, b, c⟩ := h1
      refine ⟨?_, b, by rw [e0_len]; omega⟩
      cases r <;> first | exact a | exact a.put c
  · refine ⟨?_, by omega, by rw [e0_len]; omega⟩
    cases r <;> first | exact h | exact h.del
def RowEnd (T : Top K mg) (NS : List Str) (R dv ds : Addr) (H : Hp) (Q : VK) (E : XK) : Res → Prop
  | .ok m tr _ => ∀ H', Kp [dv, ds] H H' → RunAt K T.a_Runner NS H' R dv ds m tr → Q .non H'
  | .stop m tr => ∀ (d : Addr) (v : V) H', Kp [dv, ds] H H' → RunAt K T.a_Runner NS H' R dv ds m tr → H' d = some (.xd [("message", v)]) → E (.ref T.a_Stop) (some d) H'
  | .long => ∀ (d : Addr) H', Kp [dv, ds] H H' → H' d = some (.xd [("most", .int 400)]) → E (.ref T.a_TooLong) (some d) H'
def spRow1 (T : Top K mg) : Sp := fun vs H Q E => ∃ (R a dv ds : Addr) (i : Nat) (r : Row) (m : Mp) (tr : List Spot) (NS : List Str), vs = [.ref R, .int (i : Nat), .ref a] ∧ RunAt K T.a_Runner NS H R dv ds m tr ∧ RowAt K H a r ∧ r.good = true ∧
  (∀ x ∈ r.head, x ∈ NS) ∧ (∀ x ∈ r.text.names, x ∈ NS) ∧ NS.length ≤ 64 ∧ m.few 400 ∧ tr.length + r.text.names.length ≤ 1000000 ∧ RowEnd T NS R dv ds H Q E (rowRes r m tr i)
theorem drop_it {H : Hp} {R dv ds : Addr} {C : Addr} {NS : List Str} {m : Mp} {tr : List Spot} (hR : RunAt K C NS H R dv ds m tr) (n : Str) : ∃ kvs, H dv = some (.dK kvs) ∧ (Kp [dv, ds] H (upd H dv (.dK (dropK kvs (.inr n)))) ∧ RunAt K C NS (upd H dv (.dK (dropK kvs (.inr n)))) R dv ds (m.del n) tr) ∧
    (valV kvs (.inr n) = none → RunAt K C NS H R dv ds (m.del n) tr) := by
  have hne := hR.ne
  have kr := hR.refl
  obtain ⟨dx, h1, h2, h3⟩ := hR
  obtain ⟨kvs0, e0', _⟩ := id h2
  obtain ⟨kvs, e, h4, h5⟩ := h2.del n fun o v s mo h => h.kp (Kp.wr1 e0' trivial mo)
  have k1 : Kp [dv] H (upd H dv (.dK (dropK kvs (.inr n)))) := Kp.wr1 e trivial trivial
  refine ⟨kvs, e, ⟨kr.put (by simp) trivial, dx, ?_, h4, h3.kp k1 fun z => hne.2.2 (List.mem_singleton.mp z).symm⟩, fun q => ⟨dx, h1, h5 q, h3⟩⟩
  exact k1.keep R _ (fun z => hne.1 (List.mem_singleton.mp z)) h1
theorem ok_Runner_done_row (T : Top K mg) : FnOk P w K mg base (L2.CX P w) 15 T.a_Runner_done_row T.d_Runner_done_row ["self", "number", "row"] (spRow1 T) := by
  refine T.F_Runner_done_row.ok sc_Runner_done_row (fun vs H Q E h => ?_) (fun cdv A outer s H vs Q E hr h => ?_)
  · obtain ⟨R, a, _, _, i, _, _, _, _, rfl, _⟩ := h
    rfl
  · obtain ⟨R, a, dv, ds, i, r, m, tr, NS, rfl, hR, hrow, hg, hhd, hnm, hNS, hm, htr, hend⟩ := h
    refine ⟨_, (pss_one (ps_if (pt_cmpR (op_eq) (pe_ix (r := rIxT K) ix_tup (pv 2) pe_int (fun _ _ => rfl)) (pe_k rfl T.k_DROP) (nomark _)) (pss_one (ps_expr (pe_dpop2 (pe_fld (pv 0) rfl) (pe_ix (r := rIxT K) ix_tup (pv 2) pe_int (fun _ _ => rfl)) pe_non ⟨rfl, rfl, rfl, rfl⟩))) (pss_one (ps_if (pt_cmpR (op_eq) (pe_ix (r := rIxT K) ix_tup (pv 2) pe_int (fun _ _ => rfl)) (pe_k rfl T.k_CHECK) (nomark _)) (pss_one (ps_expr (pe_meth (pv 0) T.l_Runner T.w_Runner (ok_Runner_worked T) (hr.mono (by omega)) (b_Runner_worked T) .nil (passes_call (takes_of rfl rfl rfl rfl) (fun _ _ _ _ h => h)) (pa_cons (pe_ix (r := rIxT K) ix_tup (pv 2) pe_int (fun _ _ => rfl)) (pa_cons (pe_tup (pa_cons (pv 1) pa_nil)) pa_nil))))) (pss_one (ps_if (PW.pt (pw_or (pt_cmpR (op_ne) (pe_ix (r := rIxT K) ix_tup (pv 2) pe_int (fun _ _ => rfl)) (pe_k rfl T.k_GIVE) (nomark _)) (pw_or1 (pt_cmp (pc_dnotin (rm_cl hr (by decide)) (pe_ix (r := rIxT K) ix_tup (pv 2) pe_int (fun _ _ => rfl)) (pe_fld (pv 0) rfl)) rfl)))) (pss_cons (ps_set (i := 3) sc_Runner_done_row.nd rfl (.inl rfl) (pe_meth (pv 0) T.l_Runner T.w_Runner (ok_Runner_worked T) (hr.mono (by omega)) (b_Runner_worked T) .nil (passes_call (takes_of rfl rfl rfl rfl) (fun _ _ _ _ h => h)) (pa_cons (pe_ix (r := rIxT K) ix_tup (pv 2) pe_int (fun _ _ => rfl)) (pa_cons (pe_tup (pa_cons (pv 1) pa_nil)) pa_nil)))) (pss_one (ps_dput (rm_cl hr (by decide)) (pe_fld (pv 0) rfl) (pe_ix (r := rIxT K) ix_tup (pv 2) pe_int (fun _ _ => rfl)) (pv 3) rfl))) pss_nil)))))), ?_⟩
    obtain ⟨wf, _⟩ := Bool.and_eq_true_iff.mp hg
    have hne := hR.ne
    obtain ⟨dx, hR0, hd, hl⟩ := id hR
    have dead : ∀ {c : Addr} {t : Txt}, TextAt K H c t → True := fun _ => trivial
    cases r with
    | drop n =>
      have hq := hrow
      refine ⟨_, rfl, a, _, 0, _, rfl, rfl, hq, atI_nat (j := 0) rfl, rfl, _, rfl, if_t (by decide) ?_⟩
      obtain ⟨kvs, e, ⟨k1, hR1⟩, hnone⟩ := drop_it hR n
      have hend : RowEnd T NS R dv ds H Q E (.ok (m.del n) tr e0) := hend
      refine ⟨_, rfl, R, T.a_Runner, dx, _, _, rfl, hR0, T.l_Runner, T.v_Runner, rfl, dv, rfl, hd.isD, _, rfl, a, _, 1, _, rfl, rfl, hq, atI_nat (j := 1) rfl, kvs, .inr n, e, rfl, fun v _ => ?_, fun z => ?_⟩
      · exact hend _ k1 hR1
      · exact hend _ hR.refl (hnone z)
    | check t =>
      obtain ⟨c, hq, hc⟩ := hrow
      refine ⟨_, rfl, a, _, 0, _, rfl, rfl, hq, atI_nat (j := 0) rfl, rfl, _, rfl, if_f (by decide) ?_⟩
      refine ⟨_, rfl, a, _, 0, _, rfl, rfl, hq, atI_nat (j := 0) rfl, rfl, _, rfl, if_t (by decide) ?_⟩
      refine ⟨_, rfl, R, dx, _, rfl, hR0, rfl, _, rfl, a, _, 1, _, rfl, rfl, hq, atI_nat (j := 1) rfl, _, rfl, sz1, fun t1 ht1 => ?_⟩
      have k1 := (Kp.nil H).new (.tup [.int (i : Nat)]) ht1
      have kk1 : Kp [dv, ds] H _ := hR.refl.t0 k1
      refine ⟨R, c, t1, dv, ds, t, [(i : Int)], m, tr, NS, rfl, hR.kp0 k1, hc.kp k1, upd_same, wf, by omega, by simp only [List.length_cons, List.length_nil]; omega, hnm, hNS, hm, htr, ?_⟩
      have hend : RowEnd T NS R dv ds H Q E (match run t m tr [(i : Int)] 0 e0 with
        | .long => .long
        | .stop m tr => .stop m tr
        | .ok m tr wd => .ok m tr e0) := hend
      cases hrun : run t m tr [(i : Int)] 0 e0 with
      | long =>
        rw [hrun] at hend
        exact fun d H4 k4 h4 => hend d H4 (kk1.trans k4) h4
      | stop m4 tr4 =>
        rw [hrun] at hend
        exact fun d v H4 k4 r4 h4 => hend d v H4 (kk1.trans k4) r4 h4
      | ok m4 tr4 w4 =>
        rw [hrun] at hend
        exact fun v4 H4 k4 hR4 hw4 => hend H4 (kk1.trans k4) hR4
    | set n t =>
      obtain ⟨c, hq, hc⟩ := hrow
      refine ⟨_, rfl, a, _, 0, _, rfl, rfl, hq, atI_nat (j := 0) rfl, rfl, _, rfl, if_f (by decide) ?_⟩
      refine ⟨_, rfl, a, _, 0, _, rfl, rfl, hq, atI_nat (j := 0) rfl, rfl, _, rfl, if_f (by decide) ?_⟩
      refine ⟨_, rfl, a, _, 0, _, rfl, rfl, hq, atI_nat (j := 0) rfl, rfl, _, rfl, if_t (by decide) ?_⟩
      have hend : RowEnd T NS R dv ds H Q E (match run t m tr [(i : Int)] 0 e0 with
        | .long => .long
        | .stop m tr => .stop m tr
        | .ok m tr wd => .ok (m.put n wd) tr e0) := hend
      refine ⟨_, rfl, R, dx, _, rfl, hR0, rfl, _, rfl, a, _, 2, _, rfl, rfl, hq, atI_nat (j := 2) rfl, _, rfl, sz1, fun t1 ht1 => ?_⟩
      have k1 := (Kp.nil H).new (.tup [.int (i : Nat)]) ht1
      have kk1 : Kp [dv, ds] H _ := hR.refl.t0 k1
      refine ⟨R, c, t1, dv, ds, t, [(i : Int)], m, tr, NS, rfl, hR.kp0 k1, hc.kp k1, upd_same, wf, by omega, by simp only [List.length_cons, List.length_nil]; omega, hnm, hNS, hm, htr, ?_⟩
      cases hrun : run t m tr [(i : Int)] 0 e0 with
      | long =>
        rw [hrun] at hend
        exact fun d H4 k4 h4 => hend d H4 (kk1.trans k4) h4
      | stop m4 tr4 =>
        rw [hrun] at hend
        exact fun d v H4 k4 r4 h4 => hend d v H4 (kk1.trans k4) r4 h4
      | ok m4 tr4 w4 =>
        rw [hrun] at hend
        intro v4 H4 k4 hR4 hw4
        have kk4 := kk1.trans k4
        obtain ⟨dx4, hR40, hd4, hl4⟩ := id hR4
        obtain ⟨kvs4, e4, _⟩ := id hd4
        obtain ⟨H5, hput, hd5, o5, eo5, mo5⟩ := hd4.put (v := v4) (hhd n (List.mem_singleton.mpr rfl)) (by rw [sizeLine_eq]; omega) hw4 fun o v s mo h => h.kp (Kp.wr1 e4 trivial mo)
        have k5 : Kp [dv] H4 H5 := by rw [eo5]; exact Kp.wr1 e4 trivial mo5
        refine ⟨_, rfl, _, rfl, R, T.a_Runner, dx4, _, _, rfl, hR40, T.l_Runner, T.v_Runner, rfl, _, rfl, a, _, 1, _, rfl, rfl, kk4.sqt hq, atI_nat (j := 1) rfl, dv, H5, rfl, hput, ?_⟩
        refine hend H5 (kk4.call k5 fun d hd => .inl (by rw [List.mem_singleton.mp hd]; simp)) ⟨dx4, ?_, hd5, ?_⟩
        · exact k5.keep R _ (fun z => hne.1 (List.mem_singleton.mp z)) hR40
        · exact hl4.kp k5 fun z => hne.2.2 (List.mem_singleton.mp z).symm
    | give n t =>
      obtain ⟨c, hq, hc⟩ := hrow
      refine ⟨_, rfl, a, _, 0, _, rfl, rfl, hq, atI_nat (j := 0) rfl, rfl, _, rfl, if_f (by decide) ?_⟩
      refine ⟨_, rfl, a, _, 0, _, rfl, rfl, hq, atI_nat (j := 0) rfl, rfl, _, rfl, if_f (by decide) ?_⟩
      obtain ⟨o', hgo, ho'⟩ := hd.look n
      refine ⟨_, rfl, a, _, 0, _, rfl, rfl, hq, atI_nat (j := 0) rfl, rfl, _, rfl, if_f (by decide) ⟨_, rfl, a, _, 1, _, rfl, rfl, hq, atI_nat (j := 1) rfl, _, rfl, R, T.a_Runner, dx, _, _, rfl, hR0, T.l_Runner, T.v_Runner, rfl, dv, o', rfl, hgo _ (Kp.nil H), _, rfl, ?_⟩⟩
      rcases ho' with ⟨e1, e2⟩ | ⟨v, s, e1, e2, e3⟩
      · subst e1
        refine if_t rfl ?_
        have hend : RowEnd T NS R dv ds H Q E (if (m n).isNone = true then (match run t m tr [(i : Int)] 0 e0 with
          | .long => .long
          | .stop m tr => .stop m tr
          | .ok m tr wd => .ok (m.put n wd) tr e0) else .ok m tr e0) := hend
        rw [e2, if_pos (show (none : Option Str).isNone = true from rfl)] at hend
        refine ⟨_, rfl, R, dx, _, rfl, hR0, rfl, _, rfl, a, _, 2, _, rfl, rfl, hq, atI_nat (j := 2) rfl, _, rfl, sz1, fun t1 ht1 => ?_⟩
        have k1 := (Kp.nil H).new (.tup [.int (i : Nat)]) ht1
        have kk1 : Kp [dv, ds] H _ := hR.refl.t0 k1
        refine ⟨R, c, t1, dv, ds, t, [(i : Int)], m, tr, NS, rfl, hR.kp0 k1, hc.kp k1, upd_same, wf, by omega, by simp only [List.length_cons, List.length_nil]; omega, hnm, hNS, hm, htr, ?_⟩
        cases hrun : run t m tr [(i : Int)] 0 e0 with
        | long =>
          rw [hrun] at hend
          exact fun d H4 k4 h4 => hend d H4 (kk1.trans k4) h4
        | stop m4 tr4 =>
          rw [hrun] at hend
          exact fun d v H4 k4 r4 h4 => hend d v H4 (kk1.trans k4) r4 h4
        | ok m4 tr4 w4 =>
          rw [hrun] at hend
          intro v4 H4 k4 hR4 hw4
          have kk4 := kk1.trans k4
          obtain ⟨dx4, hR40, hd4, hl4⟩ := id hR4
          obtain ⟨kvs4, e4, _⟩ := id hd4
          obtain ⟨H5, hput, hd5, o5, eo5, mo5⟩ := hd4.put (v := v4) (hhd n (List.mem_singleton.mpr rfl)) (by rw [sizeLine_eq]; omega) hw4 fun o v s mo h => h.kp (Kp.wr1 e4 trivial mo)
          have k5 : Kp [dv] H4 H5 := by rw [eo5]; exact Kp.wr1 e4 trivial mo5
          refine ⟨_, rfl, _, rfl, R, T.a_Runner, dx4, _, _, rfl, hR40, T.l_Runner, T.v_Runner, rfl, _, rfl, a, _, 1, _, rfl, rfl, kk4.sqt hq, atI_nat (j := 1) rfl, dv, H5, rfl, hput, ?_⟩
          refine hend H5 (kk4.call k5 fun d hd => .inl (by rw [List.mem_singleton.mp hd]; simp)) ⟨dx4, ?_, hd5, ?_⟩
          · exact k5.keep R _ (fun z => hne.1 (List.mem_singleton.mp z)) hR40
          · exact hl4.kp k5 fun z => hne.2.2 (List.mem_singleton.mp z).symm
      · subst e1
        have hend : RowEnd T NS R dv ds H Q E (if (m n).isNone = true then (match run t m tr [(i : Int)] 0 e0 with
          | .long => .long
          | .stop m tr => .stop m tr
          | .ok m tr wd => .ok (m.put n wd) tr e0) else .ok m tr e0) := hend
        rw [e2, if_neg (fun z => Bool.noConfusion z)] at hend
        exact if_f rfl (hend H hR.refl hR)
end
end EV
end

section
set_option Elab.async false
set_option linter.all false
set_option maxRecDepth 100000
set_option maxHeartbeats 4000000
/-! bodies: the rows are run, the spots of a case -/
namespace EV
open PySem PySem.Spec PyProof.Rows L2
section
variable {P : Program} {w : World} {K : PySem.W.Frag} {mg : Str → Option Value} {base : Heap}
theorem NmAt.keys {NS : List Str} : ∀ {kvs : List (Key × V)}, (∀ p ∈ kvs, ∃ n ∈ NS, p.1 = Sum.inr n) → ∃ ks : List Str, kvs.map (·.1) = ks.map Sum.inr
  | [], _ => ⟨[], rfl⟩
  | p :: kvs, h => by
    obtain ⟨n, _, e⟩ := h p (List.mem_cons_self ..)
    obtain ⟨ks, e2⟩ := NmAt.keys (kvs := kvs) fun q hq => h q (List.mem_cons_of_mem _ hq)
    exact ⟨n :: ks, by rw [List.map_cons, List.map_cons, e, e2]⟩
theorem valV_mem {kvs : List (Key × V)} {k : Key} (h : k ∈ kvs.map (·.1)) : ∃ v, valV kvs k = some v := by
  unfold valV
  cases e : kvs.find? fun kv => decide (kv.1 = k) with
  | some p => exact ⟨_, rfl⟩
  | none =>
    obtain ⟨p, hp, q⟩ := List.mem_map.mp h
    exact absurd (decide_eq_true q) (List.find?_eq_none.mp e p hp)
theorem put_len (kvs : List (Key × V)) (k : Key) (v : V) : (putK kvs k v).length ≤ kvs.length + 1 := by
  have e : (putK kvs k v).length = ((putK kvs k v).map (·.1)).length := (List.length_map _).symm
  rcases keys_put kvs k v with ⟨_, h⟩ | ⟨_, h⟩
  · rw [e, h, List.length_map]; omega
  · rw [e, h, List.length_append, List.length_map]; simp
def RowsEnd (T : Top K mg) (NS : List Str) (R dv ds : Addr) (H : Hp) (Q : VK) (E : XK) : Option (List Spot) → Prop
  | some tr => ∀ v m H', Kp [dv, ds] H H' → RunAt K T.a_Runner NS H' R dv ds m tr → Q v H'
  | none => ∀ (d : Addr) H', Kp [dv, ds] H H' → H' d = some (.xd [("most", .int 400)]) → E (.ref T.a_TooLong) (some d) H'
def spRows (T : Top K mg) : Sp := fun vs H Q E => ∃ (R a dv ds : Addr) (F : File) (m : Mp) (tr : List Spot) (NS : List Str), vs = [.ref R, .ref a] ∧ RunAt K T.a_Runner NS H R dv ds m tr ∧ FileAt K H a F ∧ (∀ r ∈ F, r.good = true) ∧
  (∀ x ∈ rawNames F, x ∈ NS) ∧ NS.length ≤ 60 ∧ m.few 400 ∧ tr.length + (F.flatMap fun r => r.text.names).length ≤ 1000000 ∧ RowsEnd T NS R dv ds H Q E (runRows F m tr 0)
theorem raw_row {F : File} {r : Row} (h : r ∈ F) : (∀ x ∈ r.head, x ∈ rawNames F) ∧ ∀ x ∈ r.text.names, x ∈ rawNames F :=
  ⟨fun x hx => List.mem_append_left _ (List.mem_flatMap.mpr ⟨r, h, hx⟩), fun x hx => List.mem_append_right _ (List.mem_flatMap.mpr ⟨r, h, hx⟩)⟩
theorem ok_Runner_run_rows (T : Top K mg) : FnOk P w K mg base (L2.CX P w) 16 T.a_Runner_run_rows T.d_Runner_run_rows ["self", "rows"] (spRows T) := by
  refine T.F_Runner_run_rows.ok sc_Runner_run_rows (fun vs H Q E h => ?_) (fun cdv A outer s H vs Q E hr h => ?_)
  · obtain ⟨R, a, _, _, _, _, _, _, rfl, _⟩ := h
    rfl
  · obtain ⟨R, a, dv, ds, F, m, tr, NS, rfl, hR, ⟨as, hq, hF⟩, hg, hNS1, hNS, hm, htr, hend⟩ := h
    refine ⟨_, (pss_cons (ps_try_keep (i := 4) (tb := fun W => tFor (iEnumT K (tCons (tVar 1) tNil)) (gTup K 2 (gCons (gName 2) (gCons (gName 3) gNil))) (tDrop (tMethS T.a_Runner "done_row" (spRow1 T) (WE W) (tVar 0) (tCons (tVar 2) (tCons (tVar 3) tNil))))) (ts := tRet (tTup (tCons (tC (.str "stopped")) (tCons (tXk K "message" (tVar 4)) tNil)))) rfl rfl rfl sc_Runner_run_rows.nd rfl rfl ⟨rfl, by decide, .inl T.g_Stop⟩ (takes_of rfl rfl rfl rfl) (fun W pn xe tk po => by exact (pss_one (ps_for po rfl (pi_enumT rfl T.n_enumerate (pa_cons (pv 1) pa_nil)) (pg_tup rfl (pgs_cons (pg_name (i := 2) sc_Runner_run_rows.nd rfl (.inl rfl)) (pgs_cons (pg_name (i := 3) sc_Runner_run_rows.nd rfl (.inl rfl)) pgs_nil))) (pss_one (ps_expr (pe_methT (pv 0) T.l_Runner T.d_Runner (ok_Runner_done_row T) (hr.mono (by omega)) (b_Runner_done_row T) (fun σ => passAt tk σ) (pa_cons (pv 2) (pa_cons (pv 3) pa_nil)))))))) (fun a pn => by exact (pss_one (ps_ret (pe_tup (pa_cons (pe_k rfl T.k_STOPPED) (pa_cons (pe_xk (pv 4)) pa_nil))))))) (pss_one (ps_ret (pe_tup (pa_cons (pe_k rfl T.k_DONE) (pa_cons (pe_dc rfl sc_Runner_run_rows.nd (pi_list (pe_callB (call_sortedD rfl) rfl T.n_sorted bt_sorted (pa_cons (pe_fld (pv 0) rfl) pa_nil))) (blkOk_by (own := [("name", 5)]) (by kernel_rfl)) (fun _ _ _ _ _ => (pg_name (i := 5) sc_Runner_run_rows.nd rfl (.inl rfl))) (fun _ _ _ _ _ => pts_nil) (fun _ _ _ _ _ => (pv 5)) (fun _ _ _ _ _ => (pe_dget (td := tFld K _ _) (rm_cl hr (by decide)) (pe_fld (pv 0) rfl) (pv 5) (fun _ _ => rfl)))) pa_nil)))))), ?_⟩
    refine ⟨_, rfl, a, _, rfl, hq, for_enumT (K := K) (a := a) (xs := as.map V.ref) (fun i σ H' => ∃ u1 u2 mi tri, σ = [some (.ref R), some (.ref a), u1, u2, none, none] ∧ Kp [dv, ds] H H' ∧ RunAt K T.a_Runner NS H' R dv ds mi tri ∧ runRows (F.drop i) mi tri i = runRows F m tr 0 ∧
        mi.few 400 ∧ tri.length + ((F.drop i).flatMap fun r => r.text.names).length ≤ 1000000)
      ⟨none, none, m, tr, rfl, hR.refl, hR, rfl, hm, htr⟩ (fun i σ H' _ ⟨_, _, _, _, _, k, _⟩ => k.sqt hq) ?_ ?_⟩
    · rintro i x σ H1 Tt hi ⟨u1, u2, mi, tri, rfl, k1, hR1, er, hmi, htri⟩ hT
      obtain ⟨b, r, eb, hri, hb⟩ := file_row hF hi
      subst eb
      have kT := (Kp.nil H1).new (.tup [.int (i : Nat), .ref b]) hT
      have k2 := k1.new (.tup [.int (i : Nat), .ref b]) hT
      have hR2 := hR1.kp0 kT
      have hmem := List.mem_of_getElem? hri
      obtain ⟨n1, n2⟩ := raw_row hmem
      rw [drop_cons hri, rows_cons] at er
      rw [drop_cons hri, List.flatMap_cons, List.length_append] at htri
      have hfew := row_few (r := r) (tr := tri) (i := i) hmi
      refine ⟨Tt, _, rfl, .inl (.inl upd_same), rfl, _, _, rfl, _, _, rfl, rfl, ?_⟩
      obtain ⟨dx2, hR20, _, _⟩ := id hR2
      refine ⟨_, rfl, R, dx2, _, rfl, hR20, rfl, _, rfl, _, rfl, ?_⟩
      refine ⟨R, b, dv, ds, i, r, mi, tri, NS, rfl, hR2, hb.kp k2, hg r hmem, fun x hx => hNS1 x (n1 x hx), fun x hx => hNS1 x (n2 x hx), by omega, hmi, by omega, ?_⟩
      cases hres : rowRes r mi tri i with
      | ok m4 tr4 w4 =>
        rw [hres] at er hfew
        obtain ⟨f1, f2, f3⟩ := hfew
        exact fun H4 k4 hR4 => ⟨_, _, m4, tr4, rfl, k2.trans k4, hR4, er, f1, by omega⟩
      | stop m4 tr4 =>
        rw [hres] at er
        rw [← er] at hend
        intro d v H4 k4 hR4 h4
        refine ⟨true, T.r_Stop, fun _ e ha => ?_, fun z => nomatch z⟩
        have k5 := (Kp.nil H4).new (exk e (.ref T.a_Stop) (some d)) ha
        refine ⟨_, rfl, e, T.a_Stop, d, _, v, rfl, upd_same, by rw [upd_ne (ne_of_none h4 ha)]; exact h4, T.x_Stop, T.m_Stop, rfl, sz2, fun t ht => ?_⟩
        have k6 := k5.new (.tup [.str "stopped", v]) ht
        exact hend _ m4 _ ((k2.trans k4).t0 k6) (hR4.kp0 k6)
      | long =>
        rw [hres] at er
        rw [← er] at hend
        exact fun d H4 k4 h4 => ⟨false, T.s_TooLong, (fun z => nomatch z), fun _ => hend d H4 (k2.trans k4) h4⟩
    · rintro σ H1 ⟨u1, u2, mi, tri, rfl, k1, hR1, er, hmi, htri⟩
      rw [List.length_map, ← paired_len hF, List.drop_length] at er
      have er : some tri = runRows F m tr 0 := er
      rw [← er] at hend
      obtain ⟨dx, hR0, hd, hl⟩ := id hR1
      obtain ⟨kvs, e1, nm, _⟩ := id hd
      obtain ⟨ks, ek⟩ := NmAt.keys nm.2
      have hkl : ks.length ≤ 60 := by
        have := nm.le
        have e := congrArg List.length ek
        rw [List.length_map, List.length_map] at e
        omega
      refine ⟨_, rfl, R, T.a_Runner, dx, _, _, rfl, hR0, T.l_Runner, T.v_Runner, rfl, dv, kvs, ks, rfl, .inl e1, ek, by omega, fun ys p hys _ hp => ?_⟩
      have hyl := hys.length_eq
      have k2 := (Kp.nil H1).new (.lst (ys.map V.str)) hp
      refine ⟨p, rfl, ⟨_, .inl (.inl upd_same)⟩, fun D hD => lc_gen walk_list (fun i H' => Kp [] H1 H' ∧ H' p = some (.lst (ys.map V.str)) ∧ ∃ kv, H' D = some (.dK kv) ∧ kv.length ≤ i)
        ⟨k2.new _ hD, by rw [upd_ne (ne_of_none upd_same hD)]; exact upd_same, [], upd_same, Nat.le_refl _⟩ (fun i H' _ ⟨_, z, _⟩ => .inl (.inl z)) ?_ ?_⟩
      · rintro i x H2 H2' hi ⟨k3, hp3, kv, hD3, hk3⟩ ⟨rfl, hx⟩
        rw [List.getElem?_map] at hx
        cases ey : ys[i]? with
        | none => rw [ey] at hx; cases hx
        | some y =>
          rw [ey] at hx
          cases hx
          have hy : y ∈ ks := hys.mem_iff.mp (List.mem_of_getElem? ey)
          have hyk : (Sum.inr y : Key) ∈ kvs.map (·.1) := by rw [ek]; exact List.mem_map.mpr ⟨y, hy, rfl⟩
          obtain ⟨v, hv⟩ := valV_mem hyk
          have hg : DGet H2' dv (.str y) (some v) := by
            have := DGet.k (H := H2') (k := .inr y) (k3.keep dv _ (fun z => nomatch z) e1)
            rw [hv] at this
            exact this
          rw [List.length_map] at hi
          refine ⟨rfl, _, rfl, _, rfl, R, T.a_Runner, dx, _, _, rfl, k3.keep R _ (fun z => nomatch z) hR0, T.l_Runner, T.v_Runner, rfl, _, rfl, dv, v, rfl, hg, kv, .inr y, rfl, hD3, by rw [sizeLine_eq]; omega, ?_⟩
          refine ⟨k3.own ?_, ?_, _, upd_same, Nat.le_trans (put_len _ _ _) (by omega)⟩
          · exact k2.same.free hD
          · rw [upd_ne (fun z => by rw [z, hD3] at hp3; cases hp3)]; exact hp3
      · rintro H2 ⟨k3, hp3, kv, hD3, hk3⟩
        refine ⟨sz2, fun t ht => ?_⟩
        have k4 := k3.new (.tup [.str "done", .ref D]) ht
        exact hend _ mi _ (k1.t0 k4) (hR1.kp0 k4)
end
end EV
end

section
set_option Elab.async false
set_option linter.all false
set_option maxRecDepth 100000
set_option maxHeartbeats 4000000
/-! bodies: the spots of a case, the least environment -/
namespace EV
open PySem PySem.Spec PyProof.Rows L2
section
variable {P : Program} {w : World} {K : PySem.W.Frag} {mg : Str → Option Value} {base : Heap}
def MetEnd (T : Top K mg) (H : Hp) (Q : VK) (E : XK) : Option (List Spot) → Prop
  | some tr => ∀ p H', Kp [] H H' → H p = none → LsAt H' p tr → Q (.ref p) H'
  | none => ∀ (d : Addr) H', Kp [] H H' → H' d = some (.xd [("most", .int 400)]) → E (.ref T.a_TooLong) (some d) H'
def GoodFile (F : File) : Prop := F.length ≤ 40 ∧ (∀ r ∈ F, r.good = true) ∧ (rawNames F).length ≤ 4000 ∧ (namesIn F).length ≤ 6
def spSpotsIn (T : Top K mg) : Sp := fun vs H Q E => ∃ (a : Addr) (v : V) (F : File) (c : Case), vs = [.ref a, v] ∧ FileAt K H a F ∧ GoodFile F ∧ CaseAt K H v c ∧ CaseOk c ∧ (∀ p ∈ c, p.1 ∈ namesIn F) ∧ MetEnd T H Q E (met F (mpOf c))
theorem case_few {c : Case} (h : CaseOk c) : (mpOf c).few 400 := fun n s e => by
  unfold mpOf at e
  cases q : c.find? (fun p => decide (p.1 = n)) with
  | none => rw [q] at e; cases e
  | some p =>
    rw [q] at e
    have hm := h.2.2 p (List.mem_of_find?_eq_some q)
    have e : p.2 = some s := e
    rw [e] at hm
    rcases List.mem_cons.mp hm with z | z
    · cases z
    rcases List.mem_cons.mp z with z | z
    · cases z; exact Nat.zero_le _
    · cases List.mem_singleton.mp z; decide
theorem names_le (F : File) : (F.flatMap fun r => r.text.names).length ≤ (rawNames F).length := by
  unfold rawNames
  rw [List.length_append]; omega
theorem ok_spots_in (T : Top K mg) : FnOk P w K mg base (L2.CX P w) 17 T.a_spots_in T.d_spots_in ["rows", "case"] (spSpotsIn T) := by
  refine T.F_spots_in.ok sc_spots_in (fun vs H Q E h => ?_) (fun cdv A outer s H vs Q E hr h => ?_)
  · obtain ⟨a, v, _, _, rfl, _⟩ := h
    rfl
  · obtain ⟨a, v, F, c, rfl, hF, ⟨hl, hg, hfew, h6⟩, hc, hok, hcn, hend⟩ := h
    refine ⟨_, (pss_cons (ps_set (i := 2) sc_spots_in.nd rfl (.inl rfl) (pe_make T.k_Runner (ok_Runner_init T) (hr.mono (by omega)) rfl T.g_Runner (b_Runner_init T) .nil pass0 (pa_cons (pe_call (ok_begun T) (hr.mono (by omega)) rfl T.g_begun T.F_begun.kp (b_begun T) .nil pass0 (pa_cons (pv 1) pa_nil)) pa_nil))) (pss_cons (ps_expr (pe_meth (pv 2) T.l_Runner T.r_Runner (ok_Runner_run_rows T) (hr.mono (by omega)) (b_Runner_run_rows T) .nil (passes_call (takes_of rfl rfl rfl rfl) (fun _ _ _ _ h => h)) (pa_cons (pv 0) pa_nil))) (pss_one (ps_ret (pe_fld (pv 2) rfl))))), ?_⟩
    have hraw : ∀ x ∈ rawNames F, x ∈ namesIn F := fun x hx => mem_sort.mpr hx
    refine ⟨_, rfl, v, c, namesIn F, rfl, hc, hok, hcn, by omega, fun dv H1 k1 ndv hd R dx hR hdx ne => ?_⟩
    have n1 : (upd H1 dx (.own R)) R = none := by rw [upd_ne (Ne.symm ne)]; exact hR
    have k2 := ((Kp.nil H1).new (.own R) hdx).new (.ins T.a_Runner dx []) n1
    have hd2 : DcAt (WordAt K) (namesIn F) (upd (upd H1 dx (.own R)) R (.ins T.a_Runner dx [])) dv (mpOf c) := hd.kp k2 (fun z => nomatch z) fun v s h => h.kp k2
    refine ⟨R, dv, dx, namesIn F, mpOf c, rfl, upd_same, hd2, fun ds H3 k3 nds hR3 => ⟨rfl, ?_⟩⟩
    obtain ⟨dx3, hR30, _, _⟩ := id hR3
    have nR : H R = none := k1.same.free hR
    have ndsH : H ds = none := (k1.t0 k2).same.free nds
    have k4 : Kp [] H H3 := (k1.t0 k2).call k3 fun d hd => .inr (by rw [List.mem_singleton.mp hd]; exact nR)
    refine ⟨_, rfl, R, dx3, _, rfl, hR30, rfl, _, rfl, ?_⟩
    have htr := names_le F
    refine ⟨R, a, dv, ds, F, mpOf c, [], namesIn F, rfl, hR3, hF.kp k4, hg, hraw, by omega, case_few hok, by rw [List.length_nil]; omega, ?_⟩
    have own : ∀ {H4}, Kp [dv, ds] H3 H4 → Kp [] H H4 := fun k5 => k4.call k5 fun d hd => by
      rcases List.mem_cons.mp hd with e | hd
      · rw [e]; exact .inr ndv
      · rw [List.mem_singleton.mp hd]; exact .inr ndsH
    have hend : MetEnd T H Q E (runRows F (mpOf c) [] 0) := hend
    cases hrun : runRows F (mpOf c) [] 0 with
    | none =>
      rw [hrun] at hend
      exact fun d H4 k5 h4 => hend d H4 (own k5) h4
    | some tr =>
      rw [hrun] at hend
      intro v4 m4 H4 k5 hR4
      obtain ⟨dx4, hR40, _, hl4⟩ := id hR4
      exact ⟨_, rfl, R, T.a_Runner, dx4, _, _, rfl, hR40, T.l_Runner, T.s_Runner, rfl, hend ds H4 (own k5) ndsH hl4⟩
/-! the least of some environments -/
theorem Kp.unlock {H H' : Hp} {d : Addr} {o : Obj} {u : HO} (e : H d = some u) (k : Kp [] (upd H d (.frz o u)) H') : Kp [] H (upd H' d u) :=
  ⟨fun b v hb h => by
    by_cases z : b = d
    · rw [z, upd_same]; rw [z, e] at h; exact h
    · rw [upd_ne z]; exact k.keep b v (fun z => nomatch z) (by rw [upd_ne z]; exact h), fun _ h => (nomatch h), fun _ h => (nomatch h)⟩
abbrev Qe := Addr × List (Str × Str)
def leastStep (b : Option Qe) (q : Qe) : Option Qe := match b with
  | none => some q
  | some x => if szLt (envSize q.2) (envSize x.2) = true then some q else some x
def leastOf (b : Option Qe) (l : List Qe) : Option Qe := l.foldl leastStep b
theorem least_best : ∀ (l : List Qe) (b : Option Qe), (leastOf b l).map (·.2) = (l.map (·.2)).foldl bestStep (b.map (·.2))
  | [], b => rfl
  | q :: l, b => by
    show (leastOf (leastStep b q) l).map (·.2) = (l.map (·.2)).foldl bestStep (bestStep (b.map (·.2)) q.2)
    rw [least_best l]
    congr 1
    cases b with
    | none => rfl
    | some x =>
      show Option.map (·.2) (if szLt (envSize q.2) (envSize x.2) = true then some q else some x) = if szLt (envSize q.2) (envSize x.2) = true then some q.2 else some x.2
      split <;> rfl
theorem least_mem : ∀ (l : List Qe) (b : Option Qe) (x : Qe), leastOf b l = some x → b = some x ∨ x ∈ l
  | [], b, x, h => .inl h
  | q :: l, b, x, h => by
    rcases least_mem l (leastStep b q) x h with e | e
    · cases b with
      | none => cases e; exact .inr (List.mem_cons_self ..)
      | some y =>
        have e : (if szLt (envSize q.2) (envSize y.2) = true then some q else some y) = some x := e
        split at e
        · cases e; exact .inr (List.mem_cons_self ..)
        · exact .inl e
    · exact .inr (List.mem_cons_of_mem _ e)
def szI (e : List (Str × Str)) : List Int := [((envSize e).1 : Int), ((envSize e).2 : Int)]
theorem szI_lt (a b : List (Str × Str)) : HT.lexLt (szI a) (szI b) = szLt (envSize a) (envSize b) := by
  unfold szI szLt
  rw [HT.lexLt_cons]
  by_cases h : (envSize a).1 = (envSize b).1
  · rw [if_pos (by omega), HT.lexLt_cons]
    by_cases h2 : (envSize a).2 = (envSize b).2
    · rw [if_pos (by omega), HT.lexLt_nil_nil, decide_eq_false (by omega)]
    · rw [if_neg (by omega)]
      by_cases h3 : (envSize a).2 < (envSize b).2
      · rw [decide_eq_true (by omega), decide_eq_true (by omega)]
      · rw [decide_eq_false (by omega), decide_eq_false (by omega)]
  · rw [if_neg (by omega)]
    by_cases h3 : (envSize a).1 < (envSize b).1
    · rw [decide_eq_true (by omega), decide_eq_true (by omega)]
    · rw [decide_eq_false (by omega), decide_eq_false (by omega)]
def PairE (K : PySem.W.Frag) (H : Hp) (v : V) (q : Qe) : Prop := ∃ (t : Addr) (c : V), v = .ref t ∧ SqT K H t [c, .ref q.1] ∧ EnvAt H q.1 q.2
theorem EnvAt.kp {H H' : Hp} {p : Addr} {e : List (Str × Str)} (h : EnvAt H p e) (k : Kp [] H H') : EnvAt H' p e := k.keep p _ (fun z => nomatch z) h
theorem PairE.kp {H H' : Hp} {v : V} {q : Qe} (h : PairE K H v q) (k : Kp [] H H') : PairE K H' v q := let ⟨t, c, e, h1, h2⟩ := h; ⟨t, c, e, k.sqt h1, h2.kp k⟩
/-- a good environment -/
def EnvOk (e : List (Str × Str)) : Prop := (e.map (·.1)).Nodup ∧ e.length ≤ 60 ∧ ∀ p ∈ e, p.2.length ≤ 1000
def spLeast (K : PySem.W.Frag) : Sp := fun vs H Q _ => ∃ (l : Addr) (xs : List V) (qs : List Qe), vs = [.ref l] ∧ H l = some (.lst xs) ∧ Paired (PairE K H) xs qs ∧ (∀ q ∈ qs, EnvOk q.2) ∧
  ∀ H', Kp [] H H' → match leastOf none qs with | none => Q .non H' | some q => Q (.ref q.1) H'
theorem env_val {e : List (Str × Str)} (nd : (e.map (·.1)).Nodup) {i : Nat} {n s : Str} (h : e[i]? = some (n, s)) : valV (kvsOf e) (.inr n) = some (.str s) := by
  induction e generalizing i with
  | nil => cases i <;> cases h
  | cons p e ih =>
    rw [List.map_cons, List.nodup_cons] at nd
    unfold valV kvsOf
    rw [List.map_cons, List.find?_cons]
    cases i with
    | zero =>
      obtain rfl : p = (n, s) := Option.some.inj h
      simp
    | succ i =>
      have hi : e[i]? = some (n, s) := h
      have ne : p.1 ≠ n := fun z => nd.1 (by rw [z]; exact List.mem_map.mpr ⟨(n, s), List.mem_of_getElem? hi, rfl⟩)
      have : decide ((Sum.inr p.1 : Key) = Sum.inr n) = false := decide_eq_false fun z => ne (Sum.inr.inj z)
      rw [this]
      exact ih nd.2 hi
theorem kvs_len (e : List (Str × Str)) : (kvsOf e).length = e.length := by unfold kvsOf; rw [List.length_map]
theorem kvs_at {e : List (Str × Str)} {i : Nat} {k : Key} {v : V} (h : (kvsOf e)[i]? = some (k, v)) : ∃ n s, e[i]? = some (n, s) ∧ k = .inr n ∧ v = .str s := by
  unfold kvsOf at h
  rw [List.getElem?_map] at h
  cases q : e[i]? with
  | none => rw [q] at h; cases h
  | some p => rw [q] at h; cases h; exact ⟨p.1, p.2, rfl, rfl, rfl⟩
theorem ok_least_environment (T : Top K mg) : FnOk P w K mg base CX0 1 T.a_least_environment T.d_least_environment ["pairs"] (spLeast K) := by
  refine T.F_least_environment.ok sc_least_environment (fun vs H Q E h => ?_) (fun cdv A outer s H vs Q E hr h => ?_)
  · obtain ⟨l, _, _, rfl, _⟩ := h
    rfl
  · obtain ⟨l, xs, qs, rfl, hl, hp, hok, hend⟩ := h
    refine ⟨_, PSs.nox (pss_cons (ps_asg (pe_tup (pa_cons pe_non (pa_cons (pe_tup pa_nil) pa_nil))) (pg_tup rfl (pgs_cons (pg_name (i := 1) sc_least_environment.nd rfl (.inl rfl)) (pgs_cons (pg_name (i := 2) sc_least_environment.nd rfl (.inl rfl)) pgs_nil)))) (pss_cons (ps_for PassesOwn.never rfl (pi_list (pv 0)) (pg_tup rfl (pgs_cons (pg_name (i := 3) sc_least_environment.nd rfl (.inl rfl)) (pgs_cons (pg_name (i := 4) sc_least_environment.nd rfl (.inr rfl)) pgs_nil))) (pss_cons (ps_set (i := 5) sc_least_environment.nd rfl (.inl rfl) (pe_tup (pa_cons (pe_callB call_lenD rfl T.n_len bt_len (pa_cons (pv 4) pa_nil)) (pa_cons (pe_callB (r := rSum K) (cr_sum rfl) rfl T.n_sum bt_sum (pa_cons (pe_lock (pe_lc rfl sc_least_environment.nd (pi_keys (pv 4)) (blkOk_by (own := [("name", 6)]) (by kernel_rfl)) (fun _ _ _ _ _ => (pg_name (i := 6) sc_least_environment.nd rfl (.inl rfl))) (fun _ _ _ _ _ => pts_nil) (fun _ _ _ _ _ => (pe_callB cr_lenS rfl T.n_len bt_len (pa_cons (pe_dget (rm_cl hr (by decide)) (pv 4) (pv 6) (fun _ _ => rfl)) pa_nil))))) pa_nil)) pa_nil)))) (pss_one (ps_if (PW.pt (pw_or (pt_cmpR (op_isN) (pv 1) pe_non (nomark _)) (pw_or1 (pt_cmpR (r := rLtT K) (op_ltT (rm_cl0 hr)) (pv 5) (pv 2) (nomark _))))) (pss_one (ps_par (i := 1) (j := 2) rfl sc_least_environment.nd rfl rfl (by decide) rfl rfl (pa_cons (pv 4) (pa_cons (pv 5) pa_nil)) rfl)) pss_nil)))) (pss_one (ps_ret (pv 1))))), ?_⟩
    refine ⟨Nat.zero_le _, fun t0 ht0 => ⟨sz2, fun t00 ht00 => ⟨t00, _, rfl, .inl (.inl upd_same), rfl, _, _, rfl, _, _, rfl, rfl, ?_⟩⟩⟩
    have k0 := ((Kp.nil H).new (.tup []) ht0).new (.tup [.non, .ref t0]) ht00
    refine ⟨_, rfl, l, rfl, ⟨xs, .inl (.inl (k0.keep l _ (fun z => nomatch z) hl))⟩, for_it walk_list (fun i σ H' => ∃ fv lv u1 u2 u3 b, σ = [some (.ref l), some fv, some lv, u1, u2, u3, none] ∧ Kp [] H H' ∧ leastOf b (qs.drop i) = leastOf none qs ∧
        match b with | none => fv = .non | some q => fv = .ref q.1 ∧ ∃ t, lv = .ref t ∧ SqT K H' t ((szI q.2).map V.int))
      ⟨.non, .ref t0, none, none, none, none, rfl, k0, rfl, rfl⟩ (fun i σ H' _ ⟨_, _, _, _, _, _, _, k, _⟩ => .inl (.inl (k.keep l _ (fun z => nomatch z) hl))) ?_ ?_⟩
    · rintro i x σ H1 H1' hi ⟨fv, lv, u1, u2, u3, b, rfl, k1, eb, hb⟩ ⟨rfl, hx⟩
      obtain ⟨q, eq, hpr⟩ := paired_at hp hx
      obtain ⟨t, c, rfl, ht, he⟩ := hpr.kp k1
      rw [drop_cons eq] at eb
      have eb : leastOf (leastStep b q) (qs.drop (i + 1)) = leastOf none qs := eb
      obtain ⟨nd, h60, hval⟩ := hok q (List.mem_of_getElem? eq)
      refine ⟨t, _, rfl, ht, rfl, _, _, rfl, _, _, rfl, rfl, ?_⟩
      -- size
      refine ⟨_, rfl, q.1, _, rfl, he, ?_⟩
      refine ⟨q.1, _, he, trivial, fun od => ?_⟩
      refine ⟨_, rfl, q.1, od, rfl, .inl ⟨_, upd_same, fun D hD => lc_gen walk_keys (fun j H' => Kp [] (upd H1' q.1 (.frz od (.dK (kvsOf q.2)))) H' ∧ ∃ ns : List Int, H' D = some (.lst (ns.map V.int)) ∧ ns.length = j ∧ ns.sum = ((((q.2.take j).map fun p => p.2.length).sum : Nat) : Int))
        ⟨(Kp.nil _).new _ hD, [], upd_same, rfl, rfl⟩ (fun j H' _ ⟨k, _⟩ => k.keep q.1 _ (fun z => nomatch z) upd_same) ?_ ?_⟩⟩
      · rintro j y H2 H2' hj ⟨k2, ns, hD2, en, es⟩ ⟨rfl, k, v, hkv, rfl⟩
        obtain ⟨n, s, hq, rfl, rfl⟩ := kvs_at hkv
        rw [kvs_len] at hj
        have hs : s.length ≤ 1000 := hval _ (List.mem_of_getElem? hq)
        have hf : H2' q.1 = some (.frz od (.dK (kvsOf q.2))) := k2.keep q.1 _ (fun z => nomatch z) upd_same
        have hg : DGet H2' q.1 (.str n) (some (.str s)) := .inl ⟨kvsOf q.2, .inr n, .inr ⟨od, hf⟩, rfl, (env_val nd hq).symm⟩
        refine ⟨rfl, _, rfl, _, rfl, q.1, .str s, rfl, hg, s, rfl, by rw [sizeLine_eq]; omega, _, hD2, by rw [List.length_map, en, sizeLine_eq]; omega, k2.own hD, ns ++ [(s.length : Int)], by rw [upd_same, List.map_append]; rfl, by rw [List.length_append, en]; rfl, ?_⟩
        rw [List.sum_append, es, take_snoc hq, List.map_append, List.sum_append]
        simp
      · rintro H2 ⟨k2, ns, hD2, en, es⟩
        rw [kvs_len, List.take_length] at es
        have hf : H2 q.1 = some (.frz od (.dK (kvsOf q.2))) := k2.keep q.1 _ (fun z => nomatch z) upd_same
        have k3 := Kp.unlock he k2
        have nD : D ≠ q.1 := fun z => by rw [z, hf] at hD2; cases hD2
        refine ⟨hf, D, ns, rfl, .inl (.inl (by rw [upd_ne nD]; exact hD2)), sz2, fun t2 ht2 => ?_⟩
        have k4 := k3.new (.tup [.int ((kvsOf q.2).length : Nat), .int ns.sum]) ht2
        have hsz : [V.int ((kvsOf q.2).length : Nat), V.int ns.sum] = (szI q.2).map V.int := by
          rw [kvs_len, es]; rfl
        have ht3 : SqT K (upd (upd H2 q.1 (.dK (kvsOf q.2))) t2 (.tup [.int ((kvsOf q.2).length : Nat), .int ns.sum])) t2 ((szI q.2).map V.int) := by rw [← hsz]; exact .inl (.inl upd_same)
        cases b with
        | none =>
          subst hb
          exact ⟨_, rfl, rfl, _, rfl, if_t rfl ⟨_, rfl, _, rfl, _, _, rfl, .ref q.1, .ref t2, _, _, _, some q, rfl, k1.trans k4, eb, rfl, t2, rfl, ht3⟩⟩
        | some q0 =>
          obtain ⟨rfl, t1, rfl, ht1⟩ := hb
          refine ⟨_, rfl, rfl, _, rfl, if_f rfl ⟨_, rfl, _, rfl, t2, t1, szI q.2, szI q0.2, rfl, rfl, ht3, k4.sqt ht1, _, rfl, ?_⟩⟩
          rw [szI_lt]
          have eb : leastOf (if szLt (envSize q.2) (envSize q0.2) = true then some q else some q0) (qs.drop (i + 1)) = leastOf none qs := eb
          cases hlt : szLt (envSize q.2) (envSize q0.2) with
          | true =>
            rw [hlt, if_pos rfl] at eb
            exact if_t rfl ⟨_, rfl, _, rfl, _, _, rfl, .ref q.1, .ref t2, _, _, _, some q, rfl, k1.trans k4, eb, rfl, t2, rfl, ht3⟩
          | false =>
            rw [hlt, if_neg Bool.false_ne_true] at eb
            exact if_f rfl ⟨.ref q0.1, .ref t1, _, _, _, some q0, rfl, k1.trans k4, eb, rfl, t1, rfl, k4.sqt ht1⟩
    · rintro σ H1 ⟨fv, lv, u1, u2, u3, b, rfl, k1, eb, hb⟩
      rw [Paired.length hp, List.drop_length] at eb
      have eb : b = leastOf none qs := eb
      have hend := hend H1 k1
      rw [← eb] at hend
      cases b with
      | none => subst hb; exact ⟨_, rfl, hend⟩
      | some q => obtain ⟨rfl, _⟩ := hb; exact ⟨_, rfl, hend⟩
end
end EV
end

section
set_option Elab.async false
set_option linter.all false
set_option maxRecDepth 100000
set_option maxHeartbeats 4000000
/-! bodies: the cases of a file with their spots, the dead spots, who takes a spot -/
namespace EV
open PySem PySem.Spec PyProof.Rows L2
section
variable {P : Program} {w : World} {K : PySem.W.Frag} {mg : Str → Option Value} {base : Heap}
abbrev Tbl := List (Case × List Spot)
def PairN (K : PySem.W.Frag) (N : Addr → Prop) (H : Hp) (v : V) (q : Case × List Spot) : Prop := ∃ (t ls : Addr) (cv : V), v = .ref t ∧ SqT K H t [cv, .ref ls] ∧ CaseAt K H cv q.1 ∧ LsAt H ls q.2 ∧ N ls
theorem PairN.kp {N : Addr → Prop} {L : List Addr} {H H' : Hp} {v : V} {q : Case × List Spot} (h : PairN K N H v q) (k : Kp L H H') (n : ∀ ls, N ls → ls ∉ L) : PairN K N H' v q := let ⟨t, ls, cv, e, h1, h2, h3, h4⟩ := h; ⟨t, ls, cv, e, k.sqt h1, h2.kp k, h3.kp k (n ls h4), h4⟩
abbrev PairC (K : PySem.W.Frag) (H : Hp) (v : V) (q : Case × List Spot) : Prop := PairN K (fun _ => True) H v q
theorem PairN.forget {N : Addr → Prop} {H : Hp} {v : V} {q : Case × List Spot} (h : PairN K N H v q) : PairC K H v q := let ⟨t, ls, cv, e, h1, h2, h3, _⟩ := h; ⟨t, ls, cv, e, h1, h2, h3, trivial⟩
theorem PairN.kp0 {N : Addr → Prop} {H H' : Hp} {v : V} {q : Case × List Spot} (h : PairN K N H v q) (k : Kp [] H H') : PairN K N H' v q := h.kp k fun _ _ z => nomatch z
def ByEnd (T : Top K mg) (H : Hp) (Q : VK) (E : XK) : Option Tbl → Prop
  | some Tb => ∀ p xs H', Kp [] H H' → H' p = some (.lst xs) → Paired (PairC K H') xs Tb → Q (.ref p) H'
  | none => ∀ (d : Addr) H', Kp [] H H' → H' d = some (.xd [("most", .int 400)]) → E (.ref T.a_TooLong) (some d) H'
def spByCase (T : Top K mg) : Sp := fun vs H Q E => ∃ (a : Addr) (F : File), vs = [.ref a] ∧ FileAt K H a F ∧ GoodFile F ∧ ByEnd T H Q E (table F)
theorem case_ok {F : File} {c : Case} (hF : GoodFile F) (h : c ∈ cases (namesIn F)) : CaseOk c ∧ ∀ p ∈ c, p.1 ∈ namesIn F := by
  obtain ⟨h1, h2⟩ := mem_cases.mp h
  have nd : (namesIn F).Nodup := rise_nodup (sort_rise _)
  refine ⟨⟨by rw [h1]; exact nd, ?_, h2⟩, fun p hp => by rw [← h1]; exact List.mem_map.mpr ⟨p, hp, rfl⟩⟩
  have e := congrArg List.length h1
  rw [List.length_map] at e
  have := hF.2.2.2
  omega
theorem cases_len {F : File} (hF : GoodFile F) : (cases (namesIn F)).length ≤ 729 := by
  have e2 : (cases (namesIn F)).length = 3 ^ (namesIn F).length := by unfold cases; rw [fold_len]; simp
  have e3 : 3 ^ (namesIn F).length ≤ 3 ^ 6 := Nat.pow_le_pow_right (by decide) hF.2.2.2
  omega
theorem byCase_len {F : File} : ∀ {cs : List Case} {Tb : Tbl}, byCase F cs = some Tb → Tb.length = cs.length
  | [], Tb, h => by cases h; rfl
  | c :: cs, Tb, h => by
    rw [byCase_cons] at h
    cases h1 : met F (mpOf c) with
    | none => rw [h1] at h; cases h
    | some s =>
      rw [h1] at h
      cases h2 : byCase F cs with
      | none => rw [h2] at h; cases h
      | some T =>
        rw [h2] at h
        cases h
        rw [List.length_cons, List.length_cons, byCase_len h2]
theorem ok_spots_by_case (T : Top K mg) : FnOk P w K mg base (L2.CX P w) 18 T.a_spots_by_case T.d_spots_by_case ["file"] (spByCase T) := by
  refine T.F_spots_by_case.ok sc_spots_by_case (fun vs H Q E h => ?_) (fun cdv A outer s H vs Q E hr h => ?_)
  · obtain ⟨a, _, rfl, _⟩ := h
    rfl
  · obtain ⟨a, F, rfl, hF, hgf, hend⟩ := h
    refine ⟨_, (pss_one (ps_ret (pe_lcX rfl rfl (takes_of rfl rfl rfl rfl) rfl sc_spots_by_case.nd (pi_list (pe_call (ok_all_cases T) (hr.mono (by omega)) rfl T.g_all_cases T.F_all_cases.kp (b_all_cases T) .nil pass0 (pa_cons (pe_call (ok_all_names T) (hr.mono (by omega)) rfl T.g_all_names T.F_all_names.kp (b_all_names T) .nil pass0 (pa_cons (pe_lst (pa_cons (pv 0) pa_nil)) (pa_cons (pe_tup pa_nil) pa_nil))) pa_nil))) (blkOk_by (own := [("case", 1)]) (by kernel_rfl)) (fun _ _ _ _ _ => (pg_name (i := 1) sc_spots_by_case.nd rfl (.inl rfl))) (fun _ _ _ _ _ => pts_nil) (fun _ _ _ _ _ _ hp => (pe_tup (pa_cons (pv 1) (pa_cons (pe_call (ok_spots_in T) (hr.mono (by omega)) rfl T.g_spots_in T.F_spots_in.kp (b_spots_in T) .nil hp (pa_cons (pv 0) (pa_cons (pv 1) pa_nil))) pa_nil))))))), ?_⟩
    obtain ⟨hl, hg, hfew, h6⟩ := id hgf
    refine ⟨_, rfl, sz1, fun l hl1 => ⟨Nat.zero_le _, fun e he => ?_⟩⟩
    have k1 := ((Kp.nil H).new (.lst [.ref a]) hl1).new (.tup []) he
    refine ⟨l, e, a, F, rfl, .inl (.inl (by rw [upd_ne (ne_of_none upd_same he)]; exact upd_same)), .inl (.inl upd_same), hF.kp k1, hg, hfew, h6, fun p1 H1 k2 hp1 => ?_⟩
    refine ⟨p1, namesIn F, rfl, hp1, h6, fun p2 H2 k3 np2 ⟨vs, hp2, hc2⟩ => ?_⟩
    have k13 := (k1.trans k2).trans k3
    have hcl := cases_len hgf
    have hvl := Paired.length hc2
    refine ⟨p2, rfl, ⟨vs, .inl (.inl hp2)⟩, fun D hD => lc_gen walk_list (fun i H' => Kp [] H2 H' ∧ ∃ xs done, H' D = some (.lst xs) ∧ Paired (PairN K (fun ls => ls ≠ D) H') xs done ∧ done.length = i ∧ (byCase F ((cases (namesIn F)).drop i)).map (done ++ ·) = table F)
      ⟨(Kp.nil H2).new _ hD, [], [], upd_same, .nil, rfl, by
        show Option.map (fun x => [] ++ x) (byCase F (cases (namesIn F))) = byCase F (cases (namesIn F))
        cases byCase F (cases (namesIn F)) <;> rfl⟩ (fun i H' _ ⟨k, _⟩ => k.sql (fun z => nomatch z) (.inl (.inl hp2))) ?_ ?_⟩
    · rintro i x H3 H3' hi ⟨k4, xs, done, hD3, hp3, ed, et⟩ ⟨rfl, hx⟩
      obtain ⟨c, ec, hc⟩ := paired_at hc2 hx
      obtain ⟨hok, hcn⟩ := case_ok hgf (List.mem_of_getElem? ec)
      rw [drop_cons ec, byCase_cons] at et
      refine ⟨rfl, _, rfl, _, rfl, _, rfl, a, x, F, c, rfl, hF.kp (k13.trans k4), hgf, hc.kp k4, hok, hcn, ?_⟩
      cases hmet : met F (mpOf c) with
      | none =>
        rw [hmet] at et
        have et : none = table F := et
        rw [← et] at hend
        exact fun d H4 k5 h4 => hend d H4 ((k13.trans k4).trans k5) h4
      | some tr =>
        rw [hmet] at et
        intro p H4 k5 np hL
        refine ⟨sz2, fun t ht => ?_⟩
        have k6 := k5.new (.tup [x, .ref p]) ht
        have kt := (Kp.nil H4).new (.tup [x, .ref p]) ht
        have hD4 : (upd H4 t (.tup [x, .ref p])) D = some (.lst xs) := k6.keep D _ (fun z => nomatch z) hD3
        have kD : Kp [D] (upd H4 t (.tup [x, .ref p])) (upd (upd H4 t (.tup [x, .ref p])) D (.lst (xs ++ [.ref t]))) := Kp.wr1 hD4 trivial trivial
        have ne1 : p ≠ D := fun z => by
          rw [z] at np
          rw [np] at hD3; cases hD3
        have n1 : ∀ ls : Addr, ls ≠ D → ls ∉ [D] := fun ls h z => h (List.mem_singleton.mp z)
        refine ⟨xs, hD4, by rw [Paired.length hp3, ed, sizeLine_eq]; omega, (k4.trans k6).own hD, xs ++ [.ref t], done ++ [(c, tr)], upd_same, paired_app (Paired.mapP hp3 fun _ _ r => (r.kp0 k6).kp kD n1) (.cons ?_ .nil), by rw [List.length_append, ed]; rfl, ?_⟩
        · exact PairN.kp ⟨t, p, x, rfl, .inl (.inl upd_same), (hc.kp k4).kp k6, hL.kp kt (fun z => nomatch z), ne1⟩ kD n1
        · rw [← et]
          cases byCase F ((cases (namesIn F)).drop (i + 1)) with
          | none => rfl
          | some r => show some (done ++ [(c, tr)] ++ r) = some (done ++ (c, tr) :: r); rw [List.append_assoc]; rfl
    · rintro H3 ⟨k4, xs, done, hD3, hp3, ed, et⟩
      rw [hvl, List.drop_length] at et
      have et : some (done ++ []) = table F := et
      rw [List.append_nil] at et
      rw [← et] at hend
      exact hend D xs H3 (k13.trans k4) hD3 (Paired.mapP hp3 fun _ _ r => r.forget)
end
end EV
end

section
set_option Elab.async false
set_option linter.all false
set_option maxRecDepth 100000
set_option maxHeartbeats 4000000
/-! bodies: the dead spots, who takes a spot -/
namespace EV
open PySem PySem.Spec PyProof.Rows L2
section
variable {P : Program} {w : World} {K : PySem.W.Frag} {mg : Str → Option Value} {base : Heap}
theorem rows_len : ∀ (F : File) (m : Mp) (tr : List Spot) (i : Nat) {l : List Spot}, m.few 400 → runRows F m tr i = some l → l.length ≤ tr.length + (F.flatMap fun r => r.text.names).length
  | [], m, tr, i, l, _, h => by cases h; exact Nat.le_add_right _ _
  | r :: F, m, tr, i, l, hm, h => by
    rw [rows_cons] at h
    have hf := row_few (r := r) (tr := tr) (i := i) hm
    rw [List.flatMap_cons, List.length_append]
    cases hr : rowRes r m tr i with
    | long => rw [hr] at h; cases h
    | stop m4 tr4 =>
      rw [hr] at h hf
      cases h
      have := hf.2
      omega
    | ok m4 tr4 w4 =>
      rw [hr] at h hf
      obtain ⟨f1, f2, _⟩ := hf
      have := rows_len F m4 tr4 (i + 1) f1 h
      omega
theorem tbl_len {F : File} (hF : GoodFile F) {Tb : Tbl} (h : table F = some Tb) : ∀ q ∈ Tb, q.2.length ≤ 4000 := fun q hq => by
  obtain ⟨h1, h2⟩ := (byCase_mem h q).mp hq
  have := rows_len F _ [] 0 (case_few (case_ok hF h1).1) h2
  have := names_le F
  have := hF.2.2.1
  rw [List.length_nil] at *
  omega
def kOf (s : Spot) : List Key := s.map Sum.inl
theorem kOf_kV (s : Spot) : (kOf s).map kV = s.map V.int := by unfold kOf; rw [List.map_map]; rfl
theorem kOf_inj {s t : Spot} (h : kOf s = kOf t) : s = t := by
  have := congrArg (List.map kV) h
  rw [kOf_kV, kOf_kV] at this
  induction s generalizing t with
  | nil => cases t with
    | nil => rfl
    | cons _ _ => cases this
  | cons i s ih => cases t with
    | nil => cases this
    | cons j t =>
      rw [List.map_cons, List.map_cons] at this
      obtain ⟨h1, h2⟩ := List.cons.inj this
      have h3 : kOf s = kOf t := (List.cons.inj h).2
      rw [V.int.inj h1, ih h3 h2]
theorem putT_len (kvs : List (List Key × V)) (k : List Key) (v : V) : (putK kvs k v).length ≤ kvs.length + 1 := by
  unfold putK
  split
  · rw [List.length_map]; omega
  · rw [List.length_append]; simp
def DeadEnd (T : Top K mg) (H : Hp) (Q : VK) (E : XK) : Option (List Spot) → Prop := MetEnd T H Q E
def spDead (T : Top K mg) : Sp := fun vs H Q E => ∃ (a : Addr) (F : File), vs = [.ref a] ∧ FileAt K H a F ∧ GoodFile F ∧ DeadEnd T H Q E (deadM F)
theorem ok_dead (T : Top K mg) : FnOk P w K mg base (L2.CX P w) 19 T.a_dead T.d_dead ["file"] (spDead T) := by
  refine T.F_dead.ok sc_dead (fun vs H Q E h => ?_) (fun cdv A outer s H vs Q E hr h => ?_)
  · obtain ⟨a, _, rfl, _⟩ := h
    rfl
  · obtain ⟨a, F, rfl, hF, hgf, hend⟩ := h
    refine ⟨_, (pss_cons (ps_expr (pe_call (ok_need_file T) (hr.mono (by omega)) rfl T.g_need_file T.F_need_file.kp (b_need_file T) .nil pass0 (pa_cons (pv 0) pa_nil))) (pss_cons (ps_set (i := 1) sc_dead.nd rfl (.inr rfl) (pe_dc2 (vs1 := [4]) (g := gTup K 2 _) (wi1 := iList K _) (rm_cl0 hr) rfl sc_dead.nd (pi_list (pe_call (ok_spots_by_case T) (hr.mono (by omega)) rfl T.g_spots_by_case T.F_spots_by_case.kp (b_spots_by_case T) .nil (passes_call (takes_of rfl rfl rfl rfl) (fun _ _ _ _ h => h)) (pa_cons (pv 0) pa_nil))) (blkOk_by (own := [("case", 2), ("spots", 3), ("spot", 4)]) (by kernel_rfl)) (by decide) (fun _ _ _ _ _ => (pg_tup rfl (pgs_cons (pg_name (i := 2) sc_dead.nd rfl (.inl rfl)) (pgs_cons (pg_name (i := 3) sc_dead.nd rfl (.inl rfl)) pgs_nil)))) (fun _ _ _ _ _ => pts_nil) (fun _ _ _ _ _ => (pi_list (pv 3))) (fun _ _ _ _ _ => (pg_name (i := 4) sc_dead.nd rfl (.inl rfl))) (fun _ _ _ _ _ => pts_nil) (fun _ _ _ _ _ => (pv 4)) (fun _ _ _ _ _ => pe_bl))) (pss_one (ps_ret (pe_lc rfl sc_dead.nd (pi_list (pe_call (ok_all_spots T) (hr.mono (by omega)) rfl T.g_all_spots T.F_all_spots.kp (b_all_spots T) .nil pass0 (pa_cons (pv 0) pa_nil))) (blkOk_by (own := [("spot", 4)]) (by kernel_rfl)) (fun _ _ _ _ _ => (pg_name (i := 4) sc_dead.nd rfl (.inl rfl))) (fun _ _ _ _ _ => (pts_one (pt_cmp (pc_dnotin (rm_cl hr (by decide)) (pv 4) (pv 1)) rfl))) (fun _ _ _ _ _ => (pv 4))))))), ?_⟩
    obtain ⟨hl, hg, hfew, h6⟩ := id hgf
    refine ⟨_, rfl, a, F, rfl, hF, hl, hg, hfew, h6, fun H1 k1 => ?_⟩
    refine ⟨_, rfl, a, F, rfl, hF.kp k1, hgf, ?_⟩
    have hend : MetEnd T H Q E ((table F).map fun Tb => (allSpots F).filter fun s => !isMet Tb s) := hend
    cases htab : table F with
    | none =>
      rw [htab] at hend
      exact fun d H2 k2 h2 => hend d H2 (k1.trans k2) h2
    | some Tb =>
      rw [htab] at hend
      intro p xs H2 k2 hp hP
      have k12 := k1.trans k2
      have htl := tbl_len hgf htab
      have hcl : Tb.length ≤ 729 := by rw [byCase_len htab]; exact cases_len hgf
      refine ⟨p, rfl, ⟨xs, .inl (.inl hp)⟩, fun D hD => lc_gen walk_list (fun i H' => Kp [] H2 H' ∧ ∃ kvs : List (List Key × V), H' D = some (.dT kvs) ∧ kvs.length ≤ 4000 * i ∧ ∀ s, (valV kvs (kOf s)).isSome = isMet (Tb.take i) s)
        ⟨(Kp.nil H2).new _ hD, [], upd_same, Nat.zero_le _, fun s => rfl⟩ (fun i H' _ ⟨k, _⟩ => k.sql (fun z => nomatch z) (.inl (.inl hp))) ?_ ?_⟩
      · rintro i x H3 H3' hi ⟨k3, kvs, hD3, hle, hval⟩ ⟨rfl, hx⟩
        obtain ⟨q, eq, hq⟩ := paired_at hP hx
        obtain ⟨t, ls, cv, rfl, ht, hc, hL, _⟩ := hq
        obtain ⟨vs, hls, hvs⟩ := id hL
        have hqm := List.mem_of_getElem? eq
        have hql := htl q hqm
        rw [Paired.length hP] at hi
        refine ⟨t, _, rfl, k3.sqt ht, rfl, _, _, rfl, _, _, rfl, rfl, rfl, _, rfl, ls, rfl, ⟨vs, k3.sql (fun z => nomatch z) (.inl (.inl hls))⟩, ?_⟩
        refine lc_gen walk_list (fun j H' => Kp [] H2 H' ∧ ∃ kvs : List (List Key × V), H' D = some (.dT kvs) ∧ kvs.length ≤ 4000 * i + j ∧ ∀ s, (valV kvs (kOf s)).isSome = (isMet (Tb.take i) s || (q.2.take j).contains s))
          ⟨k3, kvs, hD3, hle, fun s => by rw [hval s]; simp⟩ (fun j H' _ ⟨k, _⟩ => k.sql (fun z => nomatch z) (.inl (.inl hls))) ?_ ?_
        · rintro j y H4 H4' hj ⟨k4, kvs4, hD4, hle4, hval4⟩ ⟨rfl, hy⟩
          obtain ⟨s, es, b, rfl, hb⟩ := paired_at hvs hy
          rw [Paired.length hvs] at hj
          refine ⟨rfl, _, rfl, kvs4, kOf s, b, rfl, by rw [kOf_kV]; exact k4.tup hb, hD4, by rw [sizeLine_eq]; omega, k4.own hD, _, upd_same, Nat.le_trans (putT_len _ _ _) (by omega), fun s' => ?_⟩
          rw [valV_put, take_snoc es]
          by_cases z : s' = s
          · subst z
            rw [if_pos rfl]
            simp
          · rw [if_neg fun e => z (kOf_inj e), hval4 s']
            simp [z]
        · rintro H4 ⟨k4, kvs4, hD4, hle4, hval4⟩
          rw [Paired.length hvs] at hle4 hval4
          refine ⟨k4, kvs4, hD4, by omega, fun s => ?_⟩
          rw [hval4 s, take_snoc eq, List.take_length]
          unfold isMet
          rw [List.any_append]
          simp
      · rintro H3 ⟨k3, kvs, hD3, hle, hval⟩
        rw [Paired.length hP, List.take_length] at hval
        have k13 := k12.trans k3
        refine ⟨_, rfl, a, F, rfl, hF.kp k13, hg, hfew, fun p2 H4 k4 np2 ⟨vs, hp2, hvs⟩ => ?_⟩
        have k14 := k13.trans k4
        have hall := allSpots_len F
        refine ⟨p2, rfl, ⟨vs, .inl (.inl hp2)⟩, fun D2 hD2 => lc_gen walk_list (fun j H' => Kp [] H4 H' ∧ ∃ ys done, H' D2 = some (.lst ys) ∧ Paired (SpAt H') ys done ∧ done.length ≤ j ∧ done ++ ((allSpots F).drop j).filter (fun s => !isMet Tb s) = (allSpots F).filter fun s => !isMet Tb s)
          ⟨(Kp.nil H4).new _ hD2, [], [], upd_same, .nil, Nat.le_refl _, rfl⟩ (fun j H' _ ⟨k, _⟩ => k.sql (fun z => nomatch z) (.inl (.inl hp2))) ?_ ?_⟩
        · rintro j y H5 H5' hj ⟨k5, ys, done, hD5, hys, hdl, ed⟩ ⟨rfl, hy⟩
          obtain ⟨s, es, hs⟩ := paired_at hvs hy
          obtain ⟨b, rfl, hb⟩ := hs.kp k5
          rw [Paired.length hvs] at hj
          rw [drop_cons es, List.filter_cons] at ed
          have hg5 : DGet H5' D (.ref b) (valV kvs (kOf s)) := DGet.t (k5.keep D _ (fun z => nomatch z) (k4.keep D _ (fun z => nomatch z) hD3)) (by rw [kOf_kV]; exact hb)
          refine ⟨rfl, _, rfl, _, rfl, D, _, rfl, hg5, _, rfl, ?_⟩
          rw [hval s]
          cases hm : isMet Tb s with
          | true =>
            rw [hm] at ed
            exact if_f rfl ⟨k5, ys, done, hD5, hys, by omega, ed⟩
          | false =>
            rw [hm] at ed
            have kD : Kp [D2] H5' (upd H5' D2 (.lst (ys ++ [.ref b]))) := Kp.wr1 hD5 trivial trivial
            refine if_t rfl ⟨_, rfl, ys, hD5, by rw [Paired.length hys, sizeLine_eq]; omega, k5.own hD2, ys ++ [.ref b], done ++ [s], upd_same, paired_app (spots_kp hys kD) (.cons ⟨b, rfl, kD.tup hb⟩ .nil), by rw [List.length_append]; simp only [List.length_cons, List.length_nil]; omega, ?_⟩
            rw [List.append_assoc]
            exact ed
        · rintro H5 ⟨k5, ys, done, hD5, hys, hdl, ed⟩
          rw [Paired.length hvs, List.drop_length] at ed
          have ed : done ++ [] = _ := ed
          rw [List.append_nil] at ed
          subst ed
          exact hend D2 H5 (k14.trans k5) (k14.same.free hD2) ⟨ys, hD5, hys⟩
end
end EV
end

section
set_option Elab.async false
set_option linter.all false
set_option maxRecDepth 100000
set_option maxHeartbeats 4000000
/-! bodies: who takes a spot -/
namespace EV
open PySem PySem.Spec PyProof.Rows L2
section
variable {P : Program} {w : World} {K : PySem.W.Frag} {mg : Str → Option Value} {base : Heap}
theorem envOf_names : ∀ (c : Case), ((envOf c).map (·.1)).Sublist (c.map (·.1))
  | [] => List.Sublist.slnil
  | (n, none) :: c => (envOf_names c).cons _
  | (n, some s) :: c => (envOf_names c).cons₂ _
theorem env_ok {c : Case} (h : CaseOk c) : EnvOk (envOf c) := by
  refine ⟨h.1.sublist (envOf_names c), ?_, fun p hp => ?_⟩
  · have := (envOf_names c).length_le
    rw [List.length_map, List.length_map] at this
    have := h.2.1
    omega
  · have := h.2.2 _ (env_sub c p hp)
    rcases List.mem_cons.mp this with e | this
    · cases e
    rcases List.mem_cons.mp this with e | this
    · have e : p.2 = e0 := Option.some.inj e
      rw [e]; exact Nat.zero_le _
    · have e : p.2 = "a" := Option.some.inj (List.mem_singleton.mp this)
      rw [e]; decide
theorem paired_right {α β : Type} {R : α → β → Prop} : ∀ {as : List α} {bs : List β} {b : β}, Paired R as bs → b ∈ bs → ∃ a, R a b
  | _, _, _, .nil, h => nomatch h
  | _, _, _, .cons r t, h => by
    rcases List.mem_cons.mp h with e | h
    · rw [e]; exact ⟨_, r⟩
    · exact paired_right t h
def TakeEnd (T : Top K mg) (H : Hp) (Q : VK) (E : XK) : Option (Option (List (Str × Str))) → Prop
  | some (some e) => ∀ p H', Kp [] H H' → H p = none → EnvAt H' p e → Q (.ref p) H'
  | some none => ∀ H', Kp [] H H' → Q .non H'
  | none => ∀ (d : Addr) H', Kp [] H H' → H' d = some (.xd [("most", .int 400)]) → E (.ref T.a_TooLong) (some d) H'
def spTaker (T : Top K mg) : Sp := fun vs H Q E => ∃ (a b : Addr) (F : File) (sp : Spot), vs = [.ref a, .ref b] ∧ FileAt K H a F ∧ GoodFile F ∧ SqT K H b (sp.map V.int) ∧ sp.length ≤ 1000 ∧ (allSpots F).contains sp = true ∧ TakeEnd T H Q E (takerM F sp)
theorem ok_taker (T : Top K mg) : FnOk P w K mg base (L2.CX P w) 19 T.a_taker T.d_taker ["file", "spot"] (spTaker T) := by
  refine T.F_taker.ok sc_taker (fun vs H Q E h => ?_) (fun cdv A outer s H vs Q E hr h => ?_)
  · obtain ⟨a, b, _, _, rfl, _⟩ := h
    rfl
  · obtain ⟨a, b, F, sp, rfl, hF, hgf, hb, hsz, hin, hend⟩ := h
    refine ⟨_, (pss_cons (ps_expr (pe_call (ok_need_file T) (hr.mono (by omega)) rfl T.g_need_file T.F_need_file.kp (b_need_file T) .nil pass0 (pa_cons (pv 0) pa_nil))) (pss_cons (ps_expr (pe_call (ok_need_spot T) (hr.mono (by omega)) rfl T.g_need_spot T.F_need_spot.kp (b_need_spot T) .nil pass0 (pa_cons (pv 1) (pa_cons (pv 0) pa_nil)))) (pss_one (ps_ret (pe_call (ok_least_environment T) (hr.mono (by omega)) rfl T.g_least_environment T.F_least_environment.kp (b_least_environment T) .nil pass0 (pa_cons (pe_lc (g := gTup K 2 _) rfl sc_taker.nd (pi_list (pe_call (ok_spots_by_case T) (hr.mono (by omega)) rfl T.g_spots_by_case T.F_spots_by_case.kp (b_spots_by_case T) .nil (passes_call (takes_of rfl rfl rfl rfl) (fun _ _ _ _ h => h)) (pa_cons (pv 0) pa_nil))) (blkOk_by (own := [("case", 2), ("spots", 3)]) (by kernel_rfl)) (fun _ _ _ _ _ => (pg_tup rfl (pgs_cons (pg_name (i := 2) sc_taker.nd rfl (.inl rfl)) (pgs_cons (pg_name (i := 3) sc_taker.nd rfl (.inl rfl)) pgs_nil)))) (fun _ _ _ _ _ => (pts_one (pt_cmpR (r := rInD K) (op_inD (rm_cl hr (by decide))) (pv 1) (pv 3) rfl))) (fun _ _ _ _ _ => (pe_tup (pa_cons (pv 2) (pa_cons (pe_call (ok_environment_of T) (hr.mono (by omega)) rfl T.g_environment_of T.F_environment_of.kp (b_environment_of T) .nil pass0 (pa_cons (pv 2) pa_nil)) pa_nil))))) pa_nil)))))), ?_⟩
    obtain ⟨hl, hg, hfew, h6⟩ := id hgf
    refine ⟨_, rfl, a, F, rfl, hF, hl, hg, hfew, h6, fun H1 k1 => ?_⟩
    refine ⟨_, rfl, _, rfl, b, a, sp, F, rfl, k1.sqt hb, hsz, hF.kp k1, hg, hfew, hin, fun H2 k2 => ?_⟩
    have k12 := k1.trans k2
    refine ⟨_, rfl, a, F, rfl, hF.kp k12, hgf, ?_⟩
    have hend : TakeEnd T H Q E ((table F).map fun Tb => best ((Tb.filter fun p => p.2.contains sp).map fun p => envOf p.1)) := hend
    cases htab : table F with
    | none =>
      rw [htab] at hend
      exact fun d H3 k3 h3 => hend d H3 (k12.trans k3) h3
    | some Tb =>
      rw [htab] at hend
      intro p xs H3 k3 hp hP
      have k13 := k12.trans k3
      have hcl : Tb.length ≤ 729 := by rw [byCase_len htab]; exact cases_len hgf
      refine ⟨p, rfl, ⟨xs, .inl (.inl hp)⟩, fun D hD => lc_gen walk_list (fun i H' => Kp [] H3 H' ∧ ∃ (ys : List V) (qs : List Qe), H' D = some (.lst ys) ∧ Paired (PairE K H') ys qs ∧ qs.length ≤ i ∧ (∀ q ∈ qs, EnvOk q.2 ∧ H q.1 = none) ∧ qs.map (·.2) ++ ((Tb.drop i).filter fun p => p.2.contains sp).map (fun p => envOf p.1) = (Tb.filter fun p => p.2.contains sp).map fun p => envOf p.1)
        ⟨(Kp.nil H3).new _ hD, [], [], upd_same, .nil, Nat.le_refl _, (fun _ h => nomatch h), rfl⟩ (fun i H' _ ⟨k, _⟩ => k.sql (fun z => nomatch z) (.inl (.inl hp))) ?_ ?_⟩
      · rintro i x H4 H4' hi ⟨k4, ys, qs, hD4, hys, hql, hqs, ed⟩ ⟨rfl, hx⟩
        obtain ⟨q, eq, hq⟩ := paired_at hP hx
        obtain ⟨t, ls, cv, rfl, ht, hc, hL, _⟩ := hq.kp0 k4
        have hqm := List.mem_of_getElem? eq
        obtain ⟨hok, hcn⟩ := case_ok hgf ((byCase_mem htab q).mp hqm).1
        rw [Paired.length hP] at hi
        rw [drop_cons eq, List.filter_cons] at ed
        refine ⟨t, _, rfl, ht, rfl, _, _, rfl, _, _, rfl, rfl, rfl, _, rfl, _, rfl, spD sp, _, sp_dp (k4.sqt ((k1.trans (k2.trans k3)).sqt hb)), sps_dp hL, spD_shaped _, spsD_shaped _, _, rfl, ?_⟩
        rw [spsD_any]
        cases hm : q.2.contains sp with
        | false =>
          rw [hm] at ed
          exact if_f rfl ⟨k4, ys, qs, hD4, hys, by omega, hqs, ed⟩
        | true =>
          rw [hm] at ed
          refine if_t rfl ⟨_, rfl, _, rfl, cv, q.1, rfl, hc, hok, fun pe H5 k5 npe hpe => ?_⟩
          refine ⟨sz2, fun t2 ht2 => ?_⟩
          have k6 := k5.new (.tup [cv, .ref pe]) ht2
          have kt := (Kp.nil H5).new (.tup [cv, .ref pe]) ht2
          have hD6 : (upd H5 t2 (.tup [cv, .ref pe])) D = some (.lst ys) := k6.keep D _ (fun z => nomatch z) hD4
          have kD : Kp [D] (upd H5 t2 (.tup [cv, .ref pe])) (upd (upd H5 t2 (.tup [cv, .ref pe])) D (.lst (ys ++ [.ref t2]))) := Kp.wr1 hD6 trivial trivial
          have envD : ∀ {v q}, PairE K (upd H5 t2 (.tup [cv, .ref pe])) v q → PairE K (upd (upd H5 t2 (.tup [cv, .ref pe])) D (.lst (ys ++ [.ref t2]))) v q := fun {v q} ⟨t, c, e, h1, h2⟩ => by
            refine ⟨t, c, e, kD.sqt h1, ?_⟩
            have h2 : (upd H5 t2 (.tup [cv, .ref pe])) q.1 = some (.dK (kvsOf q.2)) := h2
            exact kD.keep q.1 _ (fun z => by rw [List.mem_singleton.mp z, hD6] at h2; cases h2) h2
          refine ⟨ys, hD6, by rw [Paired.length hys, sizeLine_eq]; omega, (k4.trans k6).own hD, ys ++ [.ref t2], qs ++ [(pe, envOf q.1)], upd_same, paired_app (Paired.mapP hys fun _ _ r => envD (r.kp k6)) (.cons (envD ⟨t2, cv, rfl, .inl (.inl upd_same), hpe.kp kt⟩) .nil),
            by rw [List.length_append]; simp only [List.length_cons, List.length_nil]; omega, fun q' hq' => ?_, ?_⟩
          · rcases List.mem_append.mp hq' with z | z
            · exact hqs q' z
            · rw [List.mem_singleton.mp z]
              exact ⟨env_ok hok, (k13.trans k4).same.free npe⟩
          · rw [List.map_append, List.append_assoc]
            exact ed
      · rintro H4 ⟨k4, ys, qs, hD4, hys, hql, hqs, ed⟩
        rw [Paired.length hP, List.drop_length] at ed
        have ed : qs.map (·.2) ++ [] = _ := ed
        rw [List.append_nil] at ed
        refine ⟨D, ys, qs, rfl, hD4, hys, fun q hq => (hqs q hq).1, fun H5 k5 => ?_⟩
        have hb := least_best qs none
        have hb : (leastOf none qs).map (·.2) = best (qs.map (·.2)) := hb
        rw [ed] at hb
        have hend : TakeEnd T H Q E (some (best ((Tb.filter fun p => p.2.contains sp).map fun p => envOf p.1))) := hend
        rw [← hb] at hend
        have k15 := (k13.trans k4).trans k5
        have hget : ∀ q ∈ qs, EnvAt H5 q.1 q.2 := fun q hq => by
          obtain ⟨v, hv⟩ := paired_right hys hq
          obtain ⟨t, c, e, h1, h2⟩ := hv
          exact h2.kp k5
        cases hlq : leastOf none qs with
        | none =>
          rw [hlq] at hend
          exact hend H5 k15
        | some q =>
          rw [hlq] at hend
          have hm : q ∈ qs := (least_mem qs none q hlq).resolve_left fun z => nomatch z
          exact hend q.1 H5 k15 (hqs q hm).2 (hget q hm)
end
end EV
end

section
set_option Elab.async false
set_option linter.all false
set_option maxRecDepth 100000
set_option maxHeartbeats 4000000
/-! defs that are run where no repr is under way -/
namespace EV
open PySem PySem.Spec PyProof.Rows L2
/-- as FnOk, for callers without guards alone -/
structure FnOkG (P : Program) (w : World) (K : PySem.W.Frag) (mg : Str → Option Value) (base : Heap) (CX : CXT) (k : Nat) (f : Addr) (fd : FuncData) (ps : List Str) (sp : Sp) : Prop where
  len : ∀ vs H Q E, sp vs H Q E → vs.length = ps.length
  run : ∀ (A : Around) (outer : List Env) (s : Shared) (H : Hp) (args : Args) (us : List Value) (vs : List V) (Q : VK) (E : XK), A.guards = some [] → Room k A → Env0 P w K mg base A outer s H → BindsTo s fd args (ps.zip us) → Vals vs us → sp vs H Q E →
    codeAny (model P w) A (.call (.ref f) args) (CR CX outer P w H s Q E) s
section
variable {P : Program} {w : World} {K : PySem.W.Frag} {mg : Str → Option Value} {base : Heap} {x qual : Str} {params : Arguments} {body : List Stmt} {scope : Scope} {dvs : List V} {kws : List (Str × V)} {f : Addr} {fd : FuncData}
/-- the frame of a call of f -/
abbrev inCall (A : Around) (qual : Str) (scope : Scope) (s : Shared) (f : Addr) (cdv : Value) : Around := A.deeper (envOfC qual scope s.heap.objs.size f cdv)
theorem okG {CX : CXT} {N ps : List Str} {k : Nat} {sp : Sp} (F : FunD K x qual params body scope dvs kws f fd) (S : FnScope N ps scope) (len : ∀ vs H Q E, sp vs H Q E → vs.length = ps.length)
    (walk : ∀ (cdv : Value) (A : Around) (outer : List Env) (s : Shared) (H : Hp) (vs : List V) (Q : VK) (E : XK), fd.code = cdv → Room k (inCall A qual scope s f cdv) → (inCall A qual scope s f cdv).guards = some [] → sp vs H Q E →
      ∃ t, PSs (cxOf CX P w K mg base N qual scope f cdv A outer s H E) body t ∧ t { nx := fun _ H' => Q .non H', rt := Q } (L2.start N vs) H) : FnOkG P w K mg base CX (k + 1) f fd ps sp where
  len := len
  run A outer s H args us vs Q E free room e0 b r q := by
    obtain ⟨_, _, _, _, _, _, _, cdv, _, _, rfl, lk, hcd, _, _⟩ := F.ex
    exact LamX.run_ofS lk hcd S room e0 b r (len _ _ _ _ q) fun room' => walk cdv A outer s H vs Q E rfl room' free q
end
section
variable {X : Cx} {CX : CXT} {k : Nat} {f : Addr} {fd : FuncData} {ps : List Str} {sp : Sp} {dvs : List V} {ds : List Value} {E : XK} {x : Str} {p pos : Pos} {e : Expr} {es : List Expr} {t : TA}
/-- the call itself, its arguments known -/
theorem runG {pins : List (Addr × Obj)} {σ : L2.St} {H : Hp} {s : Shared} {us : List Value} {vs : List V} {Q : VK} (F : FnOkG X.prog X.w X.K X.mg X.base CX k f fd ps sp) (free : X.A.guards = some []) (room : Room k X.A) (hb : Binds X.K fd ps ds) (hx : Passes CX X E) (I : Inv X pins σ H s)
    (r : Vals (vs ++ dvs) (us ++ ds)) (q : sp (vs ++ dvs) H Q E) : wpAny (model X.prog X.w) X.A (call (.ref f) us) (EP X pins σ Q) X.xe s := by
  have n : (us ++ ds).length = ps.length := r.length.symm.trans (F.len _ _ _ _ q)
  refine wpAny_call (codeAny_mono (F.run X.A X.stack s H ⟨us, []⟩ _ _ Q E free room I.env0 (hb s us I.kIn n) r q) ?_)
  rintro (er | fl) s' z
  · exact hx pins σ H s er s' I z
  · cases fl with
    | ret u => exact I.after z
    | next => exact False.elim z
    | brk => exact False.elim z
    | cont => exact False.elim z
theorem pe_callG (F : FnOkG X.prog X.w X.K X.mg X.base CX k f fd ps sp) (hgu : X.A.guards = some []) (hr : Room k X.A) (hg : Gl X x) (hm : X.mg x = some (.ref f)) (hk : PySem.W.keepIn X.K (.ref f) = true) (hb : Binds X.K fd ps ds) (hd : Vals dvs ds) (hx : Passes CX X E)
    (ha : PA X (e :: es) t) (hdb : (x == ("__debug__" : Str)) = false := by decide) (he : starEach (e :: es) X.env = (false, eval e X.env) :: starEach es X.env := by rfl) (hpl : (backTo pos (starEach es X.env)).any (·.1) = false := by rfl) :
    PE X (.Call (.Name x p) (e :: es) [] pos) (tCall sp dvs E t) :=
  ⟨fun pins s σ H Q I h => wpAny_Call_Name_kw (ld_glob I hg hm (PySem.W.callWith_K (h₀ := X.base) I.ok.mod.kin hk (thn (ha.run pos pins s σ H _ I h)
    fun us s1 ⟨_, _, J, r, q⟩ => ⟨J.kIn, runG F hgu hr hb hx J (r.append hd) q⟩) he hpl) hdb)⟩
/-- a def that raises, called where it does not -/
theorem pass_no : Passes (L2.CX X.prog X.w) X (fun _ _ _ => False) := fun _ _ _ _ _ _ _ ⟨_, _, _, _, _, _, _, _, _, _, _, _, z⟩ => z.elim
end
end EV
end

section
set_option Elab.async false
set_option linter.all false
set_option maxRecDepth 100000
set_option maxHeartbeats 4000000
/-! bodies of the law: the draws -/
namespace EV
open PySem PySem.Spec PyProof.Rows L2
section
variable {P : Program} {w : World} {K : PySem.W.Frag} {mg : Str → Option Value} {base : Heap}
theorem fm_nn (i : Int) {j : Int} (h : 0 < j) : 0 ≤ i.fmod j ∧ i.fmod j < j := by
  rw [Int.fmod_eq_emod_of_nonneg i (by omega)]
  exact ⟨Int.emod_nonneg _ (by omega), Int.emod_lt_of_pos _ h⟩
theorem ixN_n {n j : Nat} (h : j < n) : ixN n (j : Int) = some j := by
  unfold ixN
  rw [if_pos (by omega), if_pos (by omega)]
  rfl
def spMixed : Sp := fun vs H Q _ => ∃ c k : Int, vs = [.int c, .int k] ∧ 0 ≤ k ∧ k ≤ 1000000 ∧ ∀ r : Int, 0 ≤ r → r < 2147483629 → Q (.int r) H
theorem ok_law_mixed (T : Top K mg) : FnOk P w K mg base CX0 1 T.a_law_mixed T.d_law_mixed ["cell", "k"] spMixed := by
  refine T.F_law_mixed.ok sc_law_mixed (fun vs H Q E h => ?_) (fun cdv A outer s H vs Q E hr h => ?_)
  · obtain ⟨c, k, rfl, _⟩ := h
    rfl
  · obtain ⟨c, k, rfl, h0, h1, q⟩ := h
    refine ⟨_, PSs.nox (pss_cons (ps_set (i := 0) sc_law_mixed.nd rfl (.inl rfl) (pe_op (op_modN) (pe_callTy call_int1 rfl T.n_int bt_int (pa_cons (pv 0) pa_nil)) pe_int)) (pss_one (ps_ret (pe_op (op_modN) (pe_op (op_mul) (pe_op (op_modN) (pe_op (op_add) (pe_op (op_add) (pe_op (op_mul) (pv 0) (pe_op (op_add) pe_int (pe_op (op_mul) (pe_op (op_mul) pe_int (pv 1)) (pv 1)))) (pe_op (op_mul) pe_int (pv 1))) pe_int) pe_int) pe_int) pe_int)))), ?_⟩
    refine ⟨_, rfl, .inl ⟨c, rfl, _, _, rfl, rfl, by omega, ?_⟩⟩
    obtain ⟨m1, m2⟩ := fm_nn c (j := 2147483647) (by omega)
    refine ⟨_, rfl, _, rfl, _, _, rfl, rfl, .inl ⟨by omega, by omega⟩, _, rfl, _, _, rfl, rfl, .inr ⟨by omega, by omega⟩, _, _, rfl, rfl, _, _, rfl, rfl, .inl ⟨by omega, by omega⟩, ?_⟩
    refine ⟨_, rfl, _, _, rfl, rfl, .inl ⟨by omega, by omega⟩, _, _, rfl, rfl, _, _, rfl, rfl, _, _, rfl, rfl, by omega, _, _, rfl, rfl, .inr ⟨by omega, by omega⟩, _, _, rfl, rfl, by omega, ?_⟩
    obtain ⟨m3, m4⟩ := fm_nn (((c.fmod 2147483647 * (48271 + 2 * k * k) + 69621 * k + 11).fmod 2147483647) * 69621) (j := 2147483629) (by omega)
    exact q _ m3 m4
def stKv (cl lf : Addr) (a : Nat) : List (Key × V) := [(.inr "cells", .ref cl), (.inr "lefts", .ref lf), (.inr "at", .int (a : Nat)), (.inr "room", .int 0)]
def StAt (H : Hp) (st lf cl : Addr) (a : Nat) : Prop := ∃ (cells lefts : List Int), H st = some (.dK (stKv cl lf a)) ∧ H cl = some (.lst (cells.map V.int)) ∧ H lf = some (.lst (lefts.map V.int)) ∧ lefts.length = cells.length ∧ 0 < cells.length ∧ cells.length ≤ 1000 ∧ cl ≠ lf
theorem StAt.kp {H H' : Hp} {st lf cl : Addr} {a : Nat} (h : StAt H st lf cl a) (k : Kp [] H H') : StAt H' st lf cl a := by
  obtain ⟨cells, lefts, h1, h2, h3, h4, h5, h6, h7⟩ := h
  have kk : ∀ {b o}, H b = some o → H' b = some o := fun {b o} e => k.keep b o (fun z => nomatch z) e
  exact ⟨cells, lefts, kk h1, kk h2, kk h3, h4, h5, h6, h7⟩
theorem StAt.refl {H : Hp} {st lf cl : Addr} {a : Nat} (h : StAt H st lf cl a) : Kp [st, lf] H H := by
  obtain ⟨cells, lefts, h1, h2, h3, h4, h5, h6, h7⟩ := h
  refine Kp.refl fun d hd => ?_
  rcases List.mem_cons.mp hd with e | hd
  · rw [e, h1]; trivial
  · rw [List.mem_singleton.mp hd, h3]; trivial
/-- a draw of many -/
theorem StAt.apart {H : Hp} {st lf cl : Addr} {a : Nat} (h : StAt H st lf cl a) {p : Addr} (n : H p = none) : p ≠ st ∧ p ≠ lf ∧ p ≠ cl := by
  obtain ⟨cells, lefts, h1, h2, h3, _⟩ := h
  exact ⟨Ne.symm (ne_of_none h1 n), Ne.symm (ne_of_none h3 n), Ne.symm (ne_of_none h2 n)⟩
theorem StAt.own {H : Hp} {st lf cl : Addr} {a : Nat} (h : StAt H st lf cl a) {p : Addr} {o : HO} (n : p ≠ st ∧ p ≠ lf ∧ p ≠ cl) : StAt (upd H p o) st lf cl a := by
  obtain ⟨cells, lefts, h1, h2, h3, h4⟩ := h
  exact ⟨cells, lefts, by rw [upd_ne (Ne.symm n.1)]; exact h1, by rw [upd_ne (Ne.symm n.2.2)]; exact h2, by rw [upd_ne (Ne.symm n.2.1)]; exact h3, h4⟩
def spDraw : Sp := fun vs H Q _ => ∃ (st lf cl : Addr) (a many : Nat), vs = [.ref st, .int (many : Nat)] ∧ StAt H st lf cl a ∧ 0 < many ∧ many ≤ 1000 ∧ a ≤ 900000 ∧ ∀ (r : Nat) H', r < many → Kp [st, lf] H H' → StAt H' st lf cl (a + 1) → Q (.int (r : Nat)) H'
theorem ok_law_draw (T : Top K mg) : FnOk P w K mg base CX0 2 T.a_law_draw T.d_law_draw ["state", "many"] spDraw := by
  refine T.F_law_draw.ok sc_law_draw (fun vs H Q E h => ?_) (fun cdv A outer s H vs Q E hr h => ?_)
  · obtain ⟨st, lf, cl, a, many, rfl, _⟩ := h
    rfl
  · obtain ⟨st, lf, cl, a, many, rfl, hst, hm, hm2, ha, q⟩ := h
    refine ⟨_, PSs.nox (pss_cons (ps_set (i := 2) sc_law_draw.nd rfl (.inl rfl) (pe_dget (rm_cl hr (by decide)) (pv 0) pe_str (fun _ _ => rfl))) (pss_cons (ps_dput (rm_cl hr (by decide)) (pv 0) pe_str (pe_op (op_add) (pv 2) pe_int) rfl) (pss_cons (ps_set (i := 3) sc_law_draw.nd rfl (.inl rfl) (pe_op (op_modN) (pe_callTy call_int1 rfl T.n_int bt_int (pa_cons (pv 2) pa_nil)) (pe_callB (r := rLenQ K) cr_lenQ rfl T.n_len bt_len (pa_cons (pe_dget (rm_cl hr (by decide)) (pv 0) pe_str (fun _ _ => rfl)) pa_nil)))) (pss_cons (ps_set (i := 4) sc_law_draw.nd rfl (.inl rfl) (pe_ix (r := rIxL K) ix_list (pe_dget (rm_cl hr (by decide)) (pv 0) pe_str (fun _ _ => rfl)) (pv 3) (fun _ _ => rfl))) (pss_cons (ps_if (pt_cmpR (op_gt) (pv 4) pe_int (nomark _)) (pss_cons (ps_asg (pe_op (op_fdivN) (pv 4) (pv 1)) (pg_sub (pe_dget (rm_cl hr (by decide)) (pv 0) pe_str (fun _ _ => rfl)) (pv 3) set_list)) (pss_one (ps_ret (pe_op (op_modN) (pe_callTy call_int1 rfl T.n_int bt_int (pa_cons (pv 4) pa_nil)) (pv 1))))) pss_nil) (pss_cons (ps_set (i := 5) sc_law_draw.nd rfl (.inl rfl) (pe_call (ok_law_mixed T) (hr.mono (by omega)) rfl T.g_law_mixed T.F_law_mixed.kp (b_law_mixed T) .nil pass0 (pa_cons (pe_call (ok_law_mixed T) (hr.mono (by omega)) rfl T.g_law_mixed T.F_law_mixed.kp (b_law_mixed T) .nil pass0 (pa_cons (pe_ix (r := rIxL K) ix_list (pe_dget (rm_cl hr (by decide)) (pv 0) pe_str (fun _ _ => rfl)) (pv 3) (fun _ _ => rfl)) (pa_cons (pv 2) pa_nil))) (pa_cons (pe_op (op_add) pe_int (pv 2)) pa_nil)))) (pss_one (ps_ret (pe_op (op_modN) (pe_op (op_fdivN) (pe_callTy call_int1 rfl T.n_int bt_int (pa_cons (pe_op (op_add) (pe_op (op_mul) (pv 5) pe_int) (pe_call (ok_law_mixed T) (hr.mono (by omega)) rfl T.g_law_mixed T.F_law_mixed.kp (b_law_mixed T) .nil pass0 (pa_cons (pv 5) (pa_cons (pe_op (op_add) pe_int (pv 2)) pa_nil)))) pa_nil)) pe_int) (pv 1)))))))))), ?_⟩
    have kr := hst.refl
    obtain ⟨cells, lefts, h1, h2, h3, h4, h5, h6, h7⟩ := hst
    have n1 : cl ≠ st := fun z => by rw [z, h1] at h2; cases h2
    have n2 : lf ≠ st := fun z => by rw [z, h1] at h3; cases h3
    have g0 : ∀ {H' : Hp} {b : Nat}, H' st = some (.dK (stKv cl lf b)) → DGet H' st (.str "at") (some (.int (b : Nat))) ∧ DGet H' st (.str "cells") (some (.ref cl)) ∧ DGet H' st (.str "lefts") (some (.ref lf)) := fun {H' b} e =>
      ⟨DGet.k (k := .inr "at") e, DGet.k (k := .inr "cells") e, DGet.k (k := .inr "lefts") e⟩
    obtain ⟨ga, _, _⟩ := g0 h1
    refine ⟨_, rfl, st, _, rfl, ga, ?_⟩
    -- state['at'] = at + 1
    have hput : DPut H st (.str "at") (.int ((a : Int) + 1)) (upd H st (.dK (stKv cl lf (a + 1)))) := by
      have := DPut.k (k := .inr "at") (v := .int ((a : Int) + 1)) h1 (by rw [sizeLine_eq]; show 4 < _; omega)
      exact this
    refine ⟨_, rfl, _, _, rfl, rfl, _, rfl, st, _, rfl, hput, ?_⟩
    generalize hH1 : upd H st (.dK (stKv cl lf (a + 1))) = H1
    have e1 : H1 st = some (.dK (stKv cl lf (a + 1))) := by rw [← hH1, upd_same]
    have e2 : H1 cl = some (.lst (cells.map V.int)) := by rw [← hH1, upd_ne n1]; exact h2
    have e3 : H1 lf = some (.lst (lefts.map V.int)) := by rw [← hH1, upd_ne n2]; exact h3
    have k1 : Kp [st, lf] H H1 := by rw [← hH1]; exact kr.put (by simp) trivial
    obtain ⟨_, gc, gl⟩ := g0 e1
    -- place
    refine ⟨_, rfl, .inl ⟨_, rfl, _, rfl, st, _, rfl, gc, cl, _, rfl, .inl (.inl (.inl e2)), _, _, rfl, rfl, by rw [List.length_map]; omega, ?_⟩⟩
    obtain ⟨p1, p2⟩ := fm_nn (a : Int) (j := ((cells.map V.int).length : Nat)) (by rw [List.length_map]; omega)
    have p2' : (a : Int).fmod ((cells.map V.int).length : Nat) < (cells.length : Nat) := by rw [List.length_map] at p2 ⊢; exact p2
    obtain ⟨p, hp⟩ : ∃ n : Nat, (a : Int).fmod ((cells.map V.int).length : Nat) = n := ⟨((a : Int).fmod ((cells.map V.int).length : Nat)).toNat, by omega⟩
    rw [hp] at p2'
    have pc : p < cells.length := by omega
    have pl : p < lefts.length := by omega
    -- left
    refine ⟨_, rfl, st, _, rfl, gl, _, rfl, lf, _, _, .int lefts[p], rfl, rfl, .inl (.inl e3), (by rw [hp]; exact atI_nat (j := p) (by rw [List.getElem?_map, List.getElem?_eq_getElem pl]; rfl)), ?_⟩
    generalize lefts[p] = left
    refine ⟨_, rfl, _, _, rfl, rfl, _, rfl, ?_⟩
    by_cases hl : (0 : Int) < left
    · rw [decide_eq_true hl]
      refine if_t rfl ⟨_, rfl, _, rfl, _, _, rfl, rfl, ⟨by omega, by omega⟩, _, rfl, st, _, rfl, gl, _, rfl, lf, _, _, p, rfl, rfl, e3, (by rw [hp]; exact ixN_n (by rw [List.length_map]; exact pl)), ?_⟩
      have k2 : Kp [st, lf] H (upd H1 lf (.lst ((lefts.map V.int).set p (.int (left.fdiv many))))) := k1.put (by simp) trivial
      obtain ⟨m1, m2⟩ := fm_nn left (j := (many : Nat)) (by omega)
      refine ⟨_, rfl, .inl ⟨_, rfl, _, rfl, _, _, rfl, rfl, by omega, ?_⟩⟩
      obtain ⟨r, hr'⟩ : ∃ n : Nat, left.fmod (many : Nat) = n := ⟨(left.fmod (many : Nat)).toNat, by omega⟩
      rw [hr'] at m2
      have fin := q r (upd H1 lf (.lst ((lefts.map V.int).set p (.int (left.fdiv many))))) (by omega) k2 ⟨cells, lefts.set p (left.fdiv many), by rw [upd_ne (Ne.symm n2)]; exact e1, by rw [upd_ne h7]; exact e2, ?_, by rw [List.length_set]; exact h4, h5, h6, h7⟩
      · rw [← hr'] at fin; exact fin
      · rw [upd_same, List.map_set]
    · rw [decide_eq_false hl]
      refine if_f rfl ?_
      refine ⟨_, rfl, st, _, rfl, gc, _, rfl, cl, _, _, .int cells[p], rfl, rfl, .inl (.inl e2), (by rw [hp]; exact atI_nat (j := p) (by rw [List.getElem?_map, List.getElem?_eq_getElem pc]; rfl)), ?_⟩
      refine ⟨_, rfl, _, _, rfl, by omega, by omega, fun r1 r10 r11 => ?_⟩
      refine ⟨_, rfl, _, _, rfl, rfl, _, _, rfl, by omega, by omega, fun r2 r20 r21 => ?_⟩
      refine ⟨_, rfl, _, _, rfl, rfl, .inl ⟨by omega, by omega⟩, _, rfl, _, rfl, _, _, rfl, rfl, _, _, rfl, by omega, by omega, fun r3 r30 r31 => ⟨_, _, rfl, rfl, .inl ⟨_, rfl, _, _, rfl, rfl, ⟨by omega, by omega⟩, _, rfl, _, _, rfl, rfl, by omega, ?_⟩⟩⟩
      obtain ⟨m1, m2⟩ := fm_nn ((r2 * 2147483647 + r3).fdiv 64) (j := (many : Nat)) (by omega)
      obtain ⟨r, hr'⟩ : ∃ n : Nat, ((r2 * 2147483647 + r3).fdiv 64).fmod (many : Nat) = n := ⟨(((r2 * 2147483647 + r3).fdiv 64).fmod (many : Nat)).toNat, by omega⟩
      rw [hr'] at m2
      have fin := q r H1 (by omega) k1 ⟨cells, lefts, e1, e2, e3, h4, h5, h6, h7⟩
      rw [← hr'] at fin
      exact fin
end
end EV
end

section
set_option Elab.async false
set_option linter.all false
set_option maxRecDepth 100000
set_option maxHeartbeats 4000000
/-! bodies of the law: the start, names, plain texts -/
namespace EV
open PySem PySem.Spec PyProof.Rows L2
section
variable {P : Program} {w : World} {K : PySem.W.Frag} {mg : Str → Option Value} {base : Heap}
theorem ints_shaped (ns : List Int) : SeqAt.shaped (.list (ns.map PyData.int)) = true := by
  have h1 := ints_depth ns
  have h2 : PyData.depth (.list (ns.map PyData.int)) ≤ 64 := by
    simp only [PyData.depth]
    omega
  show (PyData.canLay0 (.list (ns.map PyData.int)) && decide (PyData.depth (.list (ns.map PyData.int)) ≤ 64)) = true
  rw [Bool.and_eq_true]
  exact ⟨by simp only [PyData.canLay0]; exact ints_lay ns, decide_eq_true h2⟩
def spBegin (K : PySem.W.Frag) : Sp := fun vs H Q _ => ∃ (s : Addr) (ns : List Int), vs = [.ref s] ∧ SqL K H s (ns.map V.int) ∧ ns.length ≤ 900 ∧ ∀ st lf cl H', Kp [] H H' → StAt H' st lf cl 0 → Q (.ref st) H'
theorem viaC {t : TE} {σ : L2.St} {H : Hp} {Q : VK} (h : ∀ Q' : VK, (∀ (cl : Addr) (cells : List Int) H2, Kp [] H H2 → H2 cl = some (.lst (cells.map V.int)) → 0 < cells.length → cells.length ≤ 1000 → Q' (.ref cl) H2) → t σ H Q')
    (q : ∀ (cl : Addr) (cells : List Int) H2, Kp [] H H2 → H2 cl = some (.lst (cells.map V.int)) → 0 < cells.length → cells.length ≤ 1000 → Q (.ref cl) H2) : t σ H Q := h Q q
theorem ok_law_begin (T : Top K mg) : FnOk P w K mg base CX0 1 T.a_law_begin T.d_law_begin ["script"] (spBegin K) := by
  refine T.F_law_begin.ok sc_law_begin (fun vs H Q E h => ?_) (fun cdv A outer s H vs Q E hr h => ?_)
  · obtain ⟨a, ns, rfl, _⟩ := h
    rfl
  · obtain ⟨a, ns, rfl, ha, hl, q⟩ := h
    refine ⟨_, PSs.nox (pss_cons (ps_set (i := 1) sc_law_begin.nd rfl (.inl rfl) (pe_ifExp (pt_cmpR (r := rNeD K) (op_neD (rm_cl hr (by decide))) (pv 0) (pe_lst pa_nil) (nomark _)) (pe_callTy call_list_of rfl T.n_list bt_list (pa_cons (pv 0) pa_nil)) (pe_lst (pa_cons pe_int pa_nil)))) (pss_one (ps_ret (pe_disp (pps_cons pe_str (pv 1) (pps_cons pe_str (pe_lc rfl sc_law_begin.nd (pi_list (pv 1)) (blkOk_by (own := [("cell", 2)]) (by kernel_rfl)) (fun _ _ _ _ _ => (pg_name (i := 2) sc_law_begin.nd rfl (.inl rfl))) (fun _ _ _ _ _ => pts_nil) (fun _ _ _ _ _ => (pe_ifExp (pt_cmpR (op_ge) (pv 2) (pe_op (op_pow) pe_int pe_int) (nomark _)) (pv 2) pe_int))) (pps_cons pe_str pe_int (pps_cons pe_str pe_int pps_nil)))) rfl rfl (by decide) (by decide))))), ?_⟩
    dsimp only [tSeq, tAsg, gName]
    refine viaC (t := tIf _ _ _) (fun Q' q' => ?_) (fun cl cells H1 k hcl h0 h1 => ?_)
    · refine ⟨_, rfl, Nat.zero_le _, fun e he => ?_⟩
      have k1 := (Kp.nil H).new (.lst []) he
      have ha1 := k1.sql (fun z => nomatch z) ha
      refine ⟨.list (ns.map PyData.int), .list [], .lst ha1 (ints_dp ns), .lst (.inl (.inl upd_same)) .nil, ints_shaped ns, ints_shaped [], _, rfl, ?_⟩
      have ev : PyData.eqv (.list (ns.map PyData.int)) (.list []) = decide (ns = []) := by
        simp only [PyData.eqv]; exact ints_eqv ns []
      rw [ev]
      cases ns with
      | nil =>
        refine if_f rfl ⟨sz1, fun l hl2 => ?_⟩
        exact q' l [0] _ (k1.new _ hl2) upd_same (by decide) (by decide)
      | cons n ns =>
        refine if_t rfl ⟨_, rfl, a, _, rfl, .inl ha1, fun l hl2 => ?_⟩
        exact q' l (n :: ns) _ (k1.new _ hl2) upd_same (Nat.succ_pos _) (by omega)
    · intro p hp
      have n1 : cl ≠ p := ne_of_none hcl hp
      have kp1 := (Kp.nil H1).new (.dK []) hp
      have hcl2 : (upd H1 p (.dK [])) cl = some (.lst (cells.map V.int)) := by rw [upd_ne n1]; exact hcl
      refine ⟨_, rfl, _, rfl, cl, rfl, ⟨_, .inl (.inl hcl2)⟩, fun D hD => lc_gen walk_list (fun i H' => Kp [] (upd H1 p (.dK [])) H' ∧ ∃ ls : List Int, H' D = some (.lst (ls.map V.int)) ∧ ls.length = i)
        ⟨(Kp.nil _).new _ hD, [], upd_same, rfl⟩ (fun i H' _ ⟨k, _⟩ => k.sql (fun z => nomatch z) (.inl (.inl hcl2))) ?_ ?_⟩
      · rintro i x H2 H2' hi ⟨k2, ls, hD2, el⟩ ⟨rfl, hx⟩
        rw [List.getElem?_map] at hx
        rw [List.length_map] at hi
        cases ec : cells[i]? with
        | none => rw [ec] at hx; cases hx
        | some z =>
          rw [ec] at hx
          cases hx
          have fin : ∀ v : Int, ∃ acc, H2' D = some (.lst acc) ∧ acc.length < sizeLine ∧ (Kp [] (upd H1 p (.dK [])) (upd H2' D (.lst (acc ++ [V.int v]))) ∧ ∃ ls : List Int, (upd H2' D (.lst (acc ++ [V.int v]))) D = some (.lst (ls.map V.int)) ∧ ls.length = i + 1) := fun v =>
            ⟨_, hD2, by rw [List.length_map, el, sizeLine_eq]; omega, k2.own hD, ls ++ [v], by rw [upd_same, List.map_append]; rfl, by rw [List.length_append, el]; rfl⟩
          refine ⟨rfl, _, rfl, _, _, rfl, rfl, ⟨by decide, by decide, by decide⟩, _, _, rfl, rfl, _, rfl, ?_⟩
          by_cases hz : (10 : Int) ^ (18 : Int).toNat ≤ z
          · rw [decide_eq_true hz]
            exact if_t rfl ⟨_, rfl, fin z⟩
          · rw [decide_eq_false hz]
            exact if_f rfl (fin 0)
      · rintro H2 ⟨k2, ls, hD2, el⟩
        have n2 : D ≠ p := fun z => by rw [z, upd_same] at hD; cases hD
        have n3 : cl ≠ D := ne_of_none hcl2 hD
        have kA : Kp [] H1 H2 := kp1.trans k2
        refine ⟨k2.keep p _ (fun z => nomatch z) upd_same, stKv cl D 0, rfl, (show 4 ≤ 15 by omega), ?_⟩
        have em : mergeK [] (stKv cl D 0) = stKv cl D 0 := by kernel_rfl
        rw [em]
        rw [List.length_map] at el
        exact q p D cl _ ((k.trans kA).own (k.same.free hp)) ⟨cells, ls, upd_same, by rw [upd_ne n1]; exact kA.keep cl _ (fun z => nomatch z) hcl, by rw [upd_ne n2]; exact hD2, el, h0, h1, n3⟩
/-! names -/
def ten : List Str := ["A", "B", "C", "D_", "DB", "HOST", "X", "Y", "Z_Z", "ABCDEFGH"]
theorem ten_nodup : ten.Nodup := by decide +kernel
theorem ten_ok : ∀ n ∈ ten, nameOk n = true := by decide +kernel
/-- the names of a law's file -/
def NsOk (ns : List Str) : Prop := ns.Nodup ∧ 0 < ns.length ∧ ns.length ≤ 3 ∧ ∀ n ∈ ns, nameOk n = true
/-- what was free at the start is none of L -/
theorem Kp.fresh' {L : List Addr} {H H' : Hp} (a : Kp L H H') {p : Addr} (n : H p = none) : p ∉ L := a.fresh n
def spNames3 : Sp := fun vs H Q _ => ∃ (st lf cl : Addr) (a many : Nat), vs = [.ref st, .int (many : Nat)] ∧ StAt H st lf cl a ∧ 0 < many ∧ many ≤ 3 ∧ a ≤ 800000 ∧
  ∀ (ns : List Str) (p : Addr) (b : Nat) H', Kp [st, lf] H H' → StAt H' st lf cl b → b ≤ a + 3 → NsOk ns → H p = none → H' p = some (.lst (ns.map V.str)) → Q (.ref p) H'
theorem erase_map {α β : Type} (f : α → β) : ∀ (l : List α) (i : Nat), (l.map f).eraseIdx i = (l.eraseIdx i).map f
  | [], _ => rfl
  | _ :: _, 0 => rfl
  | x :: l, i + 1 => congrArg (f x :: ·) (erase_map f l i)
theorem erase_perm {α : Type} : ∀ {l : List α} {i : Nat} {x : α}, l[i]? = some x → (x :: l.eraseIdx i).Perm l
  | [], i, x, h => by cases i <;> cases h
  | y :: l, 0, x, h => by cases h; exact List.Perm.refl _
  | y :: l, i + 1, x, h => (List.Perm.swap y x _).trans ((erase_perm (l := l) (i := i) h).cons y)
theorem ok_law_names (T : Top K mg) : FnOk P w K mg base CX0 3 T.a_law_names T.d_law_names ["state", "many"] spNames3 := by
  refine T.F_law_names.ok sc_law_names (fun vs H Q E h => ?_) (fun cdv A outer s H vs Q E hr h => ?_)
  · obtain ⟨st, lf, cl, a, many, rfl, _⟩ := h
    rfl
  · obtain ⟨st, lf, cl, a, many, rfl, hst, hm, hm3, ha, q⟩ := h
    refine ⟨_, PSs.nox (pss_cons (ps_par (i := 2) (j := 3) rfl sc_law_names.nd rfl rfl (by decide) rfl rfl (pa_cons (pe_lst (pa_cons pe_str (pa_cons pe_str (pa_cons pe_str (pa_cons pe_str (pa_cons pe_str (pa_cons pe_str (pa_cons pe_str (pa_cons pe_str (pa_cons pe_str (pa_cons pe_str pa_nil))))))))))) (pa_cons (pe_lst pa_nil) pa_nil)) rfl) (pss_cons (ps_for PassesOwn.never rfl (pi_range1 rfl T.n_range (pa_cons (pv 1) pa_nil)) (pg_name (i := 4) sc_law_names.nd rfl (.inl rfl)) (pss_one (ps_expr (pe_bm PySem.F.plainAttrs_list PySem.F.slot_list_append PySem.F.type_list_append mt_append (pv 3) (pa_cons (pe_bm PySem.F.plainAttrs_list PySem.F.slot_list_pop PySem.F.type_list_pop mt_popAt (pv 2) (pa_cons (pe_call (ok_law_draw T) (hr.mono (by omega)) rfl T.g_law_draw T.F_law_draw.kp (b_law_draw T) .nil pass0 (pa_cons (pv 0) (pa_cons (pe_callB (r := rLenQ K) cr_lenQ rfl T.n_len bt_len (pa_cons (pv 2) pa_nil)) pa_nil))) pa_nil)) pa_nil))))) (pss_one (ps_ret (pe_callB cr_sortedS rfl T.n_sorted bt_sorted (pa_cons (pv 3) pa_nil)))))), ?_⟩
    refine ⟨by rw [sizeLine_eq]; show 10 ≤ _; omega, fun so hso => ⟨Nat.zero_le _, fun fo hfo => ⟨_, _, rfl, ?_⟩⟩⟩
    have k1 := (hst.refl.new (.lst (ten.map V.str)) hso).new (.lst []) hfo
    have hst1 : StAt (upd (upd H so (.lst (ten.map V.str))) fo (.lst [])) st lf cl a := hst.kp (((Kp.nil H).new _ hso).new _ hfo)
    have so1 : (upd (upd H so (.lst (ten.map V.str))) fo (.lst [])) so = some (.lst (ten.map V.str)) := by rw [upd_ne (ne_of_none upd_same hfo)]; exact upd_same
    have nfo : H fo = none := ((Kp.nil H).new (.lst (ten.map V.str)) hso).same.free hfo
    have nsf : so ≠ fo := ne_of_none upd_same hfo
    have hq : (fun i σ H' => ∃ (u : Option V) (b : Nat) (fs xs : List Str), σ = [some (.ref st), some (.int (many : Nat)), some (.ref so), some (.ref fo), u] ∧ Kp [st, lf] H H' ∧ StAt H' st lf cl b ∧ b ≤ a + i ∧ H' so = some (.lst (xs.map V.str)) ∧ H' fo = some (.lst (fs.map V.str)) ∧
        (fs ++ xs).Perm ten ∧ fs.length = i) 0 [some (.ref st), some (.int (many : Nat)), some (.ref so), some (.ref fo), none] (upd (upd H so (.lst (ten.map V.str))) fo (.lst [])) :=
      ⟨none, a, [], ten, rfl, k1, hst1, Nat.le_refl _, so1, upd_same, List.Perm.refl _, rfl⟩
    refine ⟨_, rfl, _, rfl, by omega, by omega, for_it walk_range (fun i σ H' => ∃ (u : Option V) (b : Nat) (fs xs : List Str), σ = [some (.ref st), some (.int (many : Nat)), some (.ref so), some (.ref fo), u] ∧ Kp [st, lf] H H' ∧ StAt H' st lf cl b ∧ b ≤ a + i ∧ H' so = some (.lst (xs.map V.str)) ∧ H' fo = some (.lst (fs.map V.str)) ∧
        (fs ++ xs).Perm ten ∧ fs.length = i) hq (fun _ _ _ _ _ => trivial) ?_ ?_⟩
    · rintro i x σ H1 H1' hi ⟨u, b, fs, xs, rfl, k2, hst2, hb, hs2, hf2, hpm, hfl⟩ ⟨rfl, rfl⟩
      have hi3 : i < 3 := by omega
      have hxl : fs.length + xs.length = 10 := by
        have := hpm.length_eq
        rw [List.length_append] at this
        exact this
      refine ⟨_, rfl, .inl ⟨rfl, _, .inl (.inl hf2)⟩, _, rfl, .inl ⟨rfl, _, .inl (.inl hs2)⟩, _, rfl, _, rfl, so, _, rfl, .inl (.inl (.inl hs2)), ?_⟩
      refine ⟨st, lf, cl, b, (xs.map V.str).length, rfl, hst2, by rw [List.length_map]; omega, by rw [List.length_map]; omega, by omega, fun r H2 hr2 k3 hst3 => ?_⟩
      rw [List.length_map] at hr2
      have hs3 : H2 so = some (.lst (xs.map V.str)) := k3.keep so _ (k2.fresh hso) hs2
      have hf3 : H2 fo = some (.lst (fs.map V.str)) := k3.keep fo _ (k2.fresh nfo) hf2
      have hy : (xs.map V.str)[r]? = some (.str xs[r]) := by rw [List.getElem?_map, List.getElem?_eq_getElem hr2]; rfl
      refine ⟨so, _, _, r, _, rfl, rfl, hs3, by omega, by omega, PySem.seqIndex_of (by omega) (by rw [List.length_map]; omega), hy, ?_⟩
      have hf4 : (upd H2 so (.lst ((xs.map V.str).eraseIdx r))) fo = some (.lst (fs.map V.str)) := by rw [upd_ne (Ne.symm nsf)]; exact hf3
      refine ⟨fo, _, _, rfl, rfl, hf4, by rw [List.length_map, sizeLine_eq]; omega, ?_⟩
      have k4 : Kp [st, lf] H _ := ((k2.trans k3).own (p := so) (o := .lst ((xs.map V.str).eraseIdx r)) hso).own (p := fo) (o := .lst (fs.map V.str ++ [.str xs[r]])) nfo
      refine ⟨_, b + 1, fs ++ [xs[r]], xs.eraseIdx r, rfl, k4, (hst3.own (hst.apart hso)).own (hst.apart nfo), by omega, ?_, ?_, ?_, by rw [List.length_append, hfl]; rfl⟩
      · rw [upd_ne nsf, upd_same, erase_map]
      · rw [upd_same, List.map_append]; rfl
      · rw [List.append_assoc]
        exact (List.Perm.append_left fs (erase_perm (List.getElem?_eq_getElem hr2))).trans hpm
    · rintro σ H1 ⟨u, b, fs, xs, rfl, k2, hst2, hb, hs2, hf2, hpm, hfl⟩
      have hfl : fs.length = many := hfl
      refine ⟨_, rfl, fo, fs, rfl, .inl (.inl hf2), by omega, fun ys p hys _ hp => ?_⟩
      have hnd : fs.Nodup := ((hpm.nodup_iff.mpr ten_nodup).sublist (List.sublist_append_left _ _))
      have k3 := (Kp.nil H1).new (.lst (ys.map V.str)) hp
      have np : H p = none := by
        cases e : H p with
        | none => rfl
        | some o =>
          by_cases z : p ∈ [st, lf]
          · have := k2.wr' p z
            rw [hp] at this
            exact this.elim
          · rw [k2.keep p o z e] at hp; cases hp
      refine q ys p b _ (k2.t0 k3) (hst2.kp k3) (by omega) ⟨hys.nodup_iff.mpr hnd, ?_, ?_, fun n hn => ?_⟩ np upd_same
      · rw [hys.length_eq]; omega
      · rw [hys.length_eq]; omega
      · exact ten_ok n (hpm.mem_iff.mp (List.mem_append_left _ (hys.mem_iff.mp hn)))
/-! plain texts -/
def plains12 : List Str := ["a", "b", "x", "ab", "a b", "0", "-", "=", ":", "./", "a=b", "_:=,@-"]
theorem plains_ok : ∀ n ∈ plains12, plainOk n = true := by decide +kernel
def spPlain12 : Sp := fun vs H Q _ => ∃ (st lf cl : Addr) (a : Nat), vs = [.ref st] ∧ StAt H st lf cl a ∧ a ≤ 800000 ∧ ∀ (z : Str) H', Kp [st, lf] H H' → StAt H' st lf cl (a + 1) → plainOk z = true → Q (.str z) H'
theorem ok_law_plain (T : Top K mg) : FnOk P w K mg base CX0 3 T.a_law_plain T.d_law_plain ["state"] spPlain12 := by
  refine T.F_law_plain.ok sc_law_plain (fun vs H Q E h => ?_) (fun cdv A outer s H vs Q E hr h => ?_)
  · obtain ⟨st, lf, cl, a, rfl, _⟩ := h
    rfl
  · obtain ⟨st, lf, cl, a, rfl, hst, ha, q⟩ := h
    refine ⟨_, PSs.nox (pss_one (ps_ret (pe_ix (r := rIxL K) ix_list (pe_lst (pa_cons pe_str (pa_cons pe_str (pa_cons pe_str (pa_cons pe_str (pa_cons pe_str (pa_cons pe_str (pa_cons pe_str (pa_cons pe_str (pa_cons pe_str (pa_cons pe_str (pa_cons pe_str (pa_cons pe_str pa_nil))))))))))))) (pe_call (ok_law_draw T) (hr.mono (by omega)) rfl T.g_law_draw T.F_law_draw.kp (b_law_draw T) .nil pass0 (pa_cons (pv 0) (pa_cons pe_int pa_nil))) (fun _ _ => rfl)))), ?_⟩
    refine ⟨by rw [sizeLine_eq]; show 12 ≤ _; omega, fun l hl => ?_⟩
    have k1 := hst.refl.new (.lst (plains12.map V.str)) hl
    have hst1 := hst.kp ((Kp.nil H).new (.lst (plains12.map V.str)) hl)
    refine ⟨_, rfl, st, lf, cl, a, 12, rfl, hst1, by omega, by omega, by omega, fun r H2 hr2 k2 hst2 => ?_⟩
    have hl2 : H2 l = some (.lst (plains12.map V.str)) := k2.keep l _ (k1.fresh' hl) upd_same
    have hr3 : r < plains12.length := hr2
    refine ⟨l, _, r, .str plains12[r], rfl, rfl, .inl (.inl hl2), atI_nat (j := r) (by rw [List.getElem?_map, List.getElem?_eq_getElem hr3]; rfl), ?_⟩
    exact q _ H2 (k1.trans k2) hst2 (plains_ok _ (List.getElem_mem hr3))
end
end EV
end

section
set_option Elab.async false
set_option linter.all false
set_option maxRecDepth 100000
set_option maxHeartbeats 4000000
/-! bodies of the law: a text is drawn -/
namespace EV
open PySem PySem.Spec PyProof.Rows L2
theorem Kp.free {L : List Addr} {H H' : Hp} (k : Kp L H H') {p : Addr} (n : H' p = none) : H p = none := by
  cases e : H p with
  | none => rfl
  | some o =>
    by_cases z : p ∈ L
    · have := k.wr' p z
      rw [n] at this
      exact this.elim
    · rw [k.keep p o z e] at n; cases n
/-! ### a text from its pieces -/
def mkT : List Pc → Txt
  | [] => .nil
  | p :: r => p.cons (mkT r)
def Pc.isL : Pc → Bool | .lit _ => true | _ => false
def headL : List Pc → Bool | [] => false | p :: _ => p.isL
def apart : List Pc → Prop
  | [] => True
  | p :: r => (p.isL = true → headL r = false) ∧ apart r
def lastL : List Pc → Bool
  | [] => false
  | [p] => p.isL
  | _ :: p :: r => lastL (p :: r)
theorem mkT_len : ∀ l : List Pc, (mkT l).len = l.length
  | [] => rfl
  | .lit s :: r => congrArg (· + 1) (mkT_len r)
  | .part n g t :: r => congrArg (· + 1) (mkT_len r)
theorem mkT_names : ∀ l : List Pc, (mkT l).names = l.flatMap Pc.names
  | [] => rfl
  | .lit s :: r => mkT_names r
  | .part n g t :: r => by
    show n :: (t.names ++ (mkT r).names) = _
    rw [mkT_names r, List.flatMap_cons]
    rfl
theorem headL_mk (l : List Pc) : (mkT l).isLit = headL l := by
  cases l with
  | nil => rfl
  | cons p r => cases p <;> rfl
theorem mkT_good {lv : Nat} : ∀ {l : List Pc}, (∀ p ∈ l, p.good lv) → apart l → (mkT l).good lv = true
  | [], _, _ => rfl
  | .lit s :: r, h, ⟨a1, a2⟩ => by
    have h1 : plainOk s = true := h _ (List.mem_cons_self ..)
    have h2 := mkT_good (l := r) (fun p hp => h p (List.mem_cons_of_mem _ hp)) a2
    show (plainOk s && !(mkT r).isLit && (mkT r).good lv) = true
    rw [h1, headL_mk, a1 rfl, h2]; rfl
  | .part n .no t :: r, h, ⟨_, a2⟩ => by
    obtain ⟨h1, h3⟩ : nameOk n = true ∧ t = .nil := h _ (List.mem_cons_self ..)
    have h2 := mkT_good (l := r) (fun p hp => h p (List.mem_cons_of_mem _ hp)) a2
    show (nameOk n && t.isNil && (mkT r).good lv) = true
    rw [h1, h3, h2]; rfl
  | .part n (.op hd k) t :: r, h, ⟨_, a2⟩ => by
    obtain ⟨h1, l, h3, h4, h5⟩ : nameOk n = true ∧ ∃ l, lv = l + 1 ∧ 0 < l ∧ t.wf l = true := h _ (List.mem_cons_self ..)
    have h2 := mkT_good (l := r) (fun p hp => h p (List.mem_cons_of_mem _ hp)) a2
    subst h3
    obtain ⟨h6, h7⟩ := Bool.and_eq_true_iff.mp h5
    show (nameOk n && (decide (t.len ≤ 8) && (decide (0 < l) && t.good l)) && (mkT r).good (l + 1)) = true
    rw [h1, h6, h7, decide_eq_true h4, h2]; rfl
theorem apart_snoc : ∀ {l : List Pc} {p : Pc}, apart l → (lastL l = true → p.isL = false) → apart (l ++ [p])
  | [], p, _, _ => ⟨fun _ => rfl, trivial⟩
  | [q], p, ⟨a1, a2⟩, h => ⟨fun z => h z, fun _ => rfl, trivial⟩
  | q :: r :: l, p, ⟨a1, a2⟩, h => ⟨a1, apart_snoc (l := r :: l) a2 h⟩
theorem lastL_snoc : ∀ (l : List Pc) (p : Pc), lastL (l ++ [p]) = p.isL
  | [], p => rfl
  | [q], p => rfl
  | q :: r :: l, p => lastL_snoc (r :: l) p
theorem lastL_last : ∀ {l : List Pc} {p : Pc}, l.getLast? = some p → lastL l = p.isL
  | [], p, h => nomatch h
  | [q], p, h => by cases h; rfl
  | q :: r :: l, p, h => lastL_last (l := r :: l) (by simpa using h)
section
variable {K : PySem.W.Frag} {H : Hp}
theorem mkT_at {l : List Pc} {xs : List V} (h : Paired (fun x p => PieceAt K H p x) xs l) : PcAt K H (mkT l) xs := by
  induction h with
  | nil => rfl
  | @cons x p xs l h t ih =>
    cases p with
    | lit s =>
      have e : x = V.str s := h
      subst e
      exact ⟨_, rfl, ih⟩
    | part n g u =>
      obtain ⟨a, c, e, h1, ts, h2, h3⟩ := h
      subst e
      exact ⟨a, c, ts, _, rfl, h1, h2, h3, ih⟩
end
/-! ### what a text costs -/
def tc : Nat → Nat | 0 => 5 | d + 1 => 11 + 3 * tc d
def nc : Nat → Nat | 0 => 0 | d + 1 => 3 * (1 + nc d)
def stepC : Nat → Nat | 0 => 1 | d + 1 => 3 + tc d
def stepN : Nat → Nat | 0 => 0 | d + 1 => 1 + nc d
theorem tc_step (d : Nat) : tc d = 2 + 3 * stepC d := by cases d <;> simp only [tc, stepC] <;> omega
theorem nc_step (d : Nat) : nc d = 3 * stepN d := by cases d <;> simp only [nc, stepN]
theorem mkT_count {k : Nat} : ∀ {l : List Pc}, (∀ p ∈ l, p.names.length ≤ k) → (l.flatMap Pc.names).length ≤ l.length * k
  | [], _ => Nat.zero_le _
  | p :: r, h => by
    have h1 := h p (List.mem_cons_self ..)
    have h2 := mkT_count (l := r) fun q hq => h q (List.mem_cons_of_mem _ hq)
    rw [List.flatMap_cons, List.length_append, List.length_cons, Nat.succ_mul]
    omega
def signs12 : List Sg := [.no, .op false .dash, .op true .dash, .op false .plus, .op true .plus, .op false .ask, .op true .ask, .op false .eq, .op true .eq, .no, .op true .dash, .op false .plus]
section
variable {P : Program} {w : World} {K : PySem.W.Frag} {mg : Str → Option Value} {base : Heap}
/-- the names of the law lie in a list of their own -/
def NlAt (K : PySem.W.Frag) (H : Hp) (st lf nl : Addr) (ns : List Str) : Prop := H nl = some (.lst (ns.map V.str)) ∧ nl ∉ [st, lf]
theorem NlAt.kp {H H' : Hp} {st lf nl : Addr} {ns : List Str} (h : NlAt K H st lf nl ns) (k : Kp [st, lf] H H') : NlAt K H' st lf nl ns := ⟨k.keep nl _ h.2 h.1, h.2⟩
theorem NlAt.kp0 {H H' : Hp} {st lf nl : Addr} {ns : List Str} (h : NlAt K H st lf nl ns) (k : Kp [] H H') : NlAt K H' st lf nl ns := ⟨k.keep nl _ (fun z => nomatch z) h.1, h.2⟩
def spText (K : PySem.W.Frag) (d : Nat) : Sp := fun vs H Q _ => ∃ (st lf cl nl : Addr) (a : Nat) (ns : List Str), vs = [.ref st, .ref nl, .int (d : Nat)] ∧ StAt H st lf cl a ∧ NlAt K H st lf nl ns ∧ NsOk ns ∧ d ≤ 2 ∧ a + tc d ≤ 800000 ∧
  ∀ (t : Txt) (p : Addr) (b : Nat) H', Kp [st, lf] H H' → StAt H' st lf cl b → b ≤ a + tc d → TextAt K H' p t → t.wf (d + 2) = true → (∀ n ∈ t.names, n ∈ ns) → t.names.length ≤ nc d → Q (.ref p) H'
def TxInv (K : PySem.W.Frag) (st lf cl nl f : Addr) (a d : Nat) (ns : List Str) (H : Hp) (i : Nat) (σ : L2.St) (H' : Hp) : Prop :=
  ∃ (u1 u2 u3 : Option V) (b : Nat) (xs : List V) (done : List Pc), σ = [some (.ref st), some (.ref nl), some (.int (d : Nat)), some (.ref f), u1, u2, u3] ∧ Kp [st, lf] H H' ∧ StAt H' st lf cl b ∧
        b ≤ a + 2 + i * stepC d ∧ NlAt K H' st lf nl ns ∧ H' f = some (.lst xs) ∧ Paired (fun x p => PieceAt K H' p x) xs done ∧ done.length ≤ i ∧ apart done ∧ (∀ p ∈ done, p.good (d + 2) ∧ (∀ n ∈ p.names, n ∈ ns) ∧ p.names.length ≤ stepN d)
theorem ok_text_at (T : Top K mg) (d : Nat) (ih : FnOk P w K mg base CX0 (3 + d) T.a_law_text T.d_law_text ["state", "names", "deep"] (fun vs H Q E => ∃ e, d = e + 1 ∧ spText K e vs H Q E)) :
    FnOk P w K mg base CX0 (4 + d) T.a_law_text T.d_law_text ["state", "names", "deep"] (spText K d) := by
  have e5 : 4 + d = (3 + d) + 1 := by omega
  rw [e5]
  refine T.F_law_text.ok sc_law_text (fun vs H Q E h => ?_) (fun cdv A outer s H vs Q E hr h => ?_)
  · obtain ⟨st, lf, cl, nl, a, ns, rfl, _⟩ := h
    rfl
  · obtain ⟨st, lf, cl, nl, a, ns, rfl, hst, hnl, hns, hd2, ha, q⟩ := h
    refine ⟨_, PSs.nox (pss_cons (ps_set (i := 3) sc_law_text.nd rfl (.inl rfl) (pe_lst pa_nil)) (pss_cons (ps_for PassesOwn.never rfl (pi_range1 rfl T.n_range (pa_cons (pe_call (ok_law_draw T) (hr.mono (by omega)) rfl T.g_law_draw T.F_law_draw.kp (b_law_draw T) .nil pass0 (pa_cons (pv 0) (pa_cons (pe_ix (r := rIxL K) ix_list (pe_lst (pa_cons pe_int (pa_cons pe_int (pa_cons pe_int (pa_cons pe_int pa_nil))))) (pe_call (ok_law_draw T) (hr.mono (by omega)) rfl T.g_law_draw T.F_law_draw.kp (b_law_draw T) .nil pass0 (pa_cons (pv 0) (pa_cons pe_int pa_nil))) (fun _ _ => rfl)) pa_nil))) pa_nil)) (pg_name (i := 4) sc_law_text.nd rfl (.inl rfl)) (pss_cons (ps_if (PW.pt (pw_or (pt_cmpR (op_eq) (pv 2) pe_int (nomark _)) (pw_or1 (pt_cmpR (op_eq) (pe_call (ok_law_draw T) (hr.mono (by omega)) rfl T.g_law_draw T.F_law_draw.kp (b_law_draw T) .nil pass0 (pa_cons (pv 0) (pa_cons pe_int pa_nil))) pe_int (nomark _))))) (pss_cons (ps_if (PW.pt (pw_or (pt_cmpR (r := rEqE K) (op_eqE (rm_cl0 hr)) (pv 3) (pe_lst pa_nil) (nomark _)) (pw_or1 (pt_not (pt_val (pe_callB (r := rIsi K) call_isi rfl T.n_isinstance bt_isinstance (pa_cons (pe_ix (r := rIxL K) ix_list (pv 3) (pe_un un_neg pe_int) (fun _ _ => rfl)) (pa_cons (pe_bltn (v := .ty "str") rfl T.n_str bt_str rfl) pa_nil)))))))) (pss_one (ps_expr (pe_bm PySem.F.plainAttrs_list PySem.F.slot_list_append PySem.F.type_list_append mt_append (pv 3) (pa_cons (pe_call (ok_law_plain T) (hr.mono (by omega)) rfl T.g_law_plain T.F_law_plain.kp (b_law_plain T) .nil pass0 (pa_cons (pv 0) pa_nil)) pa_nil)))) pss_nil) (pss_one ps_continue)) pss_nil) (pss_cons (ps_set (i := 5) sc_law_text.nd rfl (.inl rfl) (pe_ix (r := rIxL K) ix_list (pv 1) (pe_call (ok_law_draw T) (hr.mono (by omega)) rfl T.g_law_draw T.F_law_draw.kp (b_law_draw T) .nil pass0 (pa_cons (pv 0) (pa_cons (pe_callB (r := rLenQ K) cr_lenQ rfl T.n_len bt_len (pa_cons (pv 1) pa_nil)) pa_nil))) (fun _ _ => rfl))) (pss_cons (ps_set (i := 6) sc_law_text.nd rfl (.inl rfl) (pe_ix (r := rIxL K) ix_list (pe_lst (pa_cons pe_str (pa_cons pe_str (pa_cons pe_str (pa_cons pe_str (pa_cons pe_str (pa_cons pe_str (pa_cons pe_str (pa_cons pe_str (pa_cons pe_str (pa_cons pe_str (pa_cons pe_str (pa_cons pe_str pa_nil))))))))))))) (pe_call (ok_law_draw T) (hr.mono (by omega)) rfl T.g_law_draw T.F_law_draw.kp (b_law_draw T) .nil pass0 (pa_cons (pv 0) (pa_cons pe_int pa_nil))) (fun _ _ => rfl))) (pss_one (ps_expr (pe_bm PySem.F.plainAttrs_list PySem.F.slot_list_append PySem.F.type_list_append mt_append (pv 3) (pa_cons (pe_tup (pa_cons (pv 5) (pa_cons (pv 6) (pa_cons (pe_ifExp (pt_cmpR (op_eq) (pv 6) pe_str (nomark _)) (pe_tup pa_nil) (pe_call ih (hr.mono (by omega)) rfl T.g_law_text T.F_law_text.kp (b_law_text T) .nil pass0 (pa_cons (pv 0) (pa_cons (pv 1) (pa_cons (pe_op (op_sub) (pv 2) pe_int) pa_nil))))) pa_nil)))) pa_nil)))))))) (pss_one (ps_ret (pe_callTy call_tuple_of rfl T.n_tuple bt_tuple (pa_cons (pv 3) pa_nil)))))), ?_⟩
    refine ⟨Nat.zero_le _, fun f hf => ?_⟩
    have k1 := hst.refl.new (.lst []) hf
    have k10 := (Kp.nil H).new (.lst []) hf
    have hst1 := hst.kp k10
    have hnl1 := hnl.kp0 k10
    have htc : 5 ≤ tc d := by cases d <;> unfold tc <;> omega
    -- how many
    refine ⟨_, rfl, by rw [sizeLine_eq]; show 4 ≤ _; omega, fun l hl => ?_⟩
    have k11 := (Kp.nil (upd H f (.lst []))).new (.lst [.int 2, .int 3, .int 3, .int 4]) hl
    have k2 := k1.new (.lst [.int 2, .int 3, .int 3, .int 4]) hl
    refine ⟨_, rfl, st, lf, cl, a, 4, rfl, hst1.kp k11, by omega, by omega, by omega, fun r H2 hr2 k3 hst2 => ?_⟩
    have hl2 : H2 l = some (.lst [.int 2, .int 3, .int 3, .int 4]) := k3.keep l _ (k2.fresh (k10.same.free hl)) upd_same
    have hf2 : H2 f = some (.lst []) := k3.keep f _ (k2.fresh hf) (by rw [upd_ne (ne_of_none upd_same hl)]; exact upd_same)
    obtain ⟨m, hm, hm1, hm4⟩ : ∃ m : Nat, ([.int 2, .int 3, .int 3, .int 4] : List V)[r]? = some (.int (m : Nat)) ∧ 0 < m ∧ m ≤ 4 := by
      rcases r with _ | _ | _ | _ | r
      · exact ⟨2, rfl, by omega, by omega⟩
      · exact ⟨3, rfl, by omega, by omega⟩
      · exact ⟨3, rfl, by omega, by omega⟩
      · exact ⟨4, rfl, by omega, by omega⟩
      · omega
    refine ⟨l, _, r, _, rfl, rfl, .inl (.inl hl2), atI_nat hm, ?_⟩
    refine ⟨st, lf, cl, a + 1, m, rfl, hst2, hm1, by omega, by omega, fun c H3 hc k4 hst3 => ?_⟩
    have hf3 : H3 f = some (.lst []) := k4.keep f _ (k2.fresh hf) hf2
    have k24 := (k2.trans k3).trans k4
    have hnl3 : NlAt K H3 st lf nl ns := ((hnl1.kp0 k11).kp k3).kp k4
    have hcs := tc_step d
    refine ⟨_, rfl, by omega, by omega, for_it walk_range (TxInv K st lf cl nl f a d ns H)
      ⟨none, none, none, a + 2, [], [], rfl, k24, hst3, by omega, hnl3, hf3, .nil, Nat.le_refl _, trivial, (fun _ h => nomatch h)⟩ (fun _ _ _ _ _ => trivial) ?_ ?_⟩
    · rintro i x σ H4 H4' hi ⟨u1, u2, u3, b, xs, done, rfl, k5, hst4, hb, hnl4, hf4, hpp, hdl, hap, hgd⟩ ⟨rfl, rfl⟩
      have hi2 : i ≤ 2 := by omega
      have hsm : i * stepC d ≤ 2 * stepC d := Nat.mul_le_mul_right _ hi2
      have hsm2 : (i + 1) * stepC d = i * stepC d + stepC d := Nat.succ_mul i _
      have hsc1 : 1 ≤ stepC d := by cases d <;> simp only [stepC] <;> omega
      have hxl := Paired.length hpp
      -- a new piece at the end
      have fresh_f : ∀ {H5 : Hp}, Kp [st, lf] H4' H5 → H5 f = some (.lst xs) := fun k => k.keep f _ (k5.fresh hf) hf4
      have nfa := hst.apart hf
      have app : ∀ (H6 : Hp) (b6 : Nat) (v : V) (p : Pc) (u1 u2 u3 : Option V), Kp [st, lf] H4' H6 → StAt H6 st lf cl b6 → b6 ≤ b + stepC d → PieceAt K H6 p v → p.good (d + 2) → (∀ n ∈ p.names, n ∈ ns) → p.names.length ≤ stepN d → (lastL done = true → p.isL = false) →
          TxInv K st lf cl nl f a d ns H (i + 1) [some (.ref st), some (.ref nl), some (.int (d : Nat)), some (.ref f), u1, u2, u3] (upd H6 f (.lst (xs ++ [v]))) := fun H6 b6 v p u1 u2 u3 k6 hst6 hb6 hpv hpg hpn hpc hpa => by
        have kF : Kp [f] H6 (upd H6 f (.lst (xs ++ [v]))) := Kp.wr1 (fresh_f k6) trivial trivial
        have nlf : nl ≠ f := ne_of_none hnl.1 hf
        refine ⟨u1, u2, u3, b6, xs ++ [v], done ++ [p], rfl, (k5.trans k6).own hf, hst6.own nfa, by omega, ⟨kF.keep nl _ (fun z => nlf (List.mem_singleton.mp z)) (hnl4.kp k6).1, hnl4.2⟩, upd_same, ?_, by rw [List.length_append]; simp only [List.length_cons, List.length_nil]; omega, apart_snoc hap hpa, fun p' hp' => ?_⟩
        · exact paired_app (Paired.mapP hpp fun _ _ r => (r.kp k6).kp kF) (.cons (hpv.kp kF) .nil)
        · rcases List.mem_append.mp hp' with z | z
          · exact hgd p' z
          · rw [List.mem_singleton.mp z]; exact ⟨hpg, hpn, hpc⟩
      have skip : ∀ (H6 : Hp) (b6 : Nat) (u1 u2 u3 : Option V), Kp [st, lf] H4' H6 → StAt H6 st lf cl b6 → b6 ≤ b + stepC d →
          TxInv K st lf cl nl f a d ns H (i + 1) [some (.ref st), some (.ref nl), some (.int (d : Nat)), some (.ref f), u1, u2, u3] H6 := fun H6 b6 u1 u2 u3 k6 hst6 hb6 =>
        ⟨u1, u2, u3, b6, xs, done, rfl, k5.trans k6, hst6, by omega, hnl4.kp k6, fresh_f k6, Paired.mapP hpp fun _ _ r => r.kp k6, by omega, hap, hgd⟩
      cases d with
      | zero =>
        refine ⟨_, rfl, rfl, _, rfl, if_t rfl ?_⟩
        have k55 : Kp [st, lf] H4' H4' := hst4.refl
        have hst5 := hst4
        have hb5 : b + 1 ≤ b + stepC 0 := by omega
        have hf5 := fresh_f k55
        refine ⟨_, rfl, Nat.zero_le _, fun e1 he1 => ?_⟩
        have k6 := (Kp.nil H4').new (.lst []) he1
        have k56 := k55.t0 k6
        have hf6 := fresh_f k56
        have hst6 := hst5.kp k6
        refine ⟨f, e1, xs, rfl, rfl, .inr ⟨.inl (.inl hf6), .inl (.inl upd_same)⟩, _, rfl, ?_⟩
        rcases List.eq_nil_or_concat xs with ex | ⟨init, lx, ex⟩
        · subst ex
          have hd0 : done = [] := List.eq_nil_of_length_eq_zero (by rw [← hxl]; rfl)
          refine if_t rfl ⟨_, rfl, .inl ⟨rfl, _, .inl (.inl hf6)⟩, _, rfl, st, lf, cl, _, rfl, hst6, by omega, fun z H7 k7 hst7 hz => ?_⟩
          have k57 := k56.trans k7
          refine ⟨f, [], _, rfl, rfl, fresh_f k57, by rw [sizeLine_eq]; show 0 < _; omega, ?_⟩
          exact app H7 _ (.str z) (.lit z) _ _ _ k57 hst7 hb5 rfl hz (fun _ h => nomatch h) (Nat.zero_le _) (fun z => by rw [hd0] at z; cases z)
        · rw [List.concat_eq_append] at ex
          have hemp : xs.isEmpty = false := by rw [ex]; cases init <;> rfl
          rw [hemp]
          obtain ⟨p, hp, hpx⟩ : ∃ p, done.getLast? = some p ∧ PieceAt K H4' p lx := by
            have h1 : xs[init.length]? = some lx := by rw [ex]; simp
            obtain ⟨p, h2, h3⟩ := paired_at hpp h1
            refine ⟨p, ?_, h3⟩
            rw [List.getLast?_eq_getElem?, ← hxl, ex, List.length_append]
            exact h2
          have hpx6 := hpx.kp k56
          have hlast := lastL_last hp
          refine if_f rfl ⟨_, rfl, 1, rfl, f, _, -1, lx, rfl, rfl, .inl (.inl hf6), by rw [ex]; exact atI_last init lx, ?_⟩
          cases p with
          | lit z =>
            have el : lx = .str z := hpx6
            subst el
            exact ⟨_, _, _, _, _, rfl, .ty _, .base (.str _), ki_ss, _, rfl, if_f rfl (skip _ _ _ _ _ k56 hst6 (by omega))⟩
          | part n g u =>
            obtain ⟨c8, d8, el, hc8, hd8⟩ := id hpx6
            subst el
            refine ⟨_, _, _, _, _, rfl, .ty _, ty_tup hc8, ki_ts, _, rfl, if_t rfl ⟨_, rfl, .inl ⟨rfl, _, .inl (.inl hf6)⟩, _, rfl, st, lf, cl, _, rfl, hst6, by omega, fun z H7 k7 hst7 hz => ?_⟩⟩
            have k57 := k56.trans k7
            refine ⟨f, xs, _, rfl, rfl, fresh_f k57, by rw [hxl, sizeLine_eq]; omega, ?_⟩
            exact app H7 _ (.str z) (.lit z) _ _ _ k57 hst7 hb5 rfl hz (fun _ h => nomatch h) (Nat.zero_le _) (fun z => by rw [hlast] at z; cases z)
      | succ e =>
        have hse : stepC (e + 1) = 3 + tc e := rfl
        refine ⟨_, rfl, rfl, _, rfl, if_f (decide_eq_false fun z => by have := V.int.inj z; omega) ?_⟩
        refine ⟨_, rfl, st, lf, cl, b, 3, rfl, hst4, by omega, by omega, by omega, fun r1 H5 hr1 k55 hst5 => ?_⟩
        refine ⟨rfl, _, rfl, ?_⟩
        by_cases hz : r1 = 0
        · subst hz
          refine if_t rfl ?_
          have hb5 : b + 1 + 1 ≤ b + stepC (e + 1) := by omega
          have hf5 := fresh_f k55
          refine ⟨_, rfl, Nat.zero_le _, fun e1 he1 => ?_⟩
          have k6 := (Kp.nil H5).new (.lst []) he1
          have k56 := k55.t0 k6
          have hf6 := fresh_f k56
          have hst6 := hst5.kp k6
          refine ⟨f, e1, xs, rfl, rfl, .inr ⟨.inl (.inl hf6), .inl (.inl upd_same)⟩, _, rfl, ?_⟩
          rcases List.eq_nil_or_concat xs with ex | ⟨init, lx, ex⟩
          · subst ex
            have hd0 : done = [] := List.eq_nil_of_length_eq_zero (by rw [← hxl]; rfl)
            refine if_t rfl ⟨_, rfl, .inl ⟨rfl, _, .inl (.inl hf6)⟩, _, rfl, st, lf, cl, _, rfl, hst6, by omega, fun z H7 k7 hst7 hz => ?_⟩
            have k57 := k56.trans k7
            refine ⟨f, [], _, rfl, rfl, fresh_f k57, by rw [sizeLine_eq]; show 0 < _; omega, ?_⟩
            exact app H7 _ (.str z) (.lit z) _ _ _ k57 hst7 hb5 rfl hz (fun _ h => nomatch h) (Nat.zero_le _) (fun z => by rw [hd0] at z; cases z)
          · rw [List.concat_eq_append] at ex
            have hemp : xs.isEmpty = false := by rw [ex]; cases init <;> rfl
            rw [hemp]
            obtain ⟨p, hp, hpx⟩ : ∃ p, done.getLast? = some p ∧ PieceAt K H4' p lx := by
              have h1 : xs[init.length]? = some lx := by rw [ex]; simp
              obtain ⟨p, h2, h3⟩ := paired_at hpp h1
              refine ⟨p, ?_, h3⟩
              rw [List.getLast?_eq_getElem?, ← hxl, ex, List.length_append]
              exact h2
            have hpx6 := hpx.kp k56
            have hlast := lastL_last hp
            refine if_f rfl ⟨_, rfl, 1, rfl, f, _, -1, lx, rfl, rfl, .inl (.inl hf6), by rw [ex]; exact atI_last init lx, ?_⟩
            cases p with
            | lit z =>
              have el : lx = .str z := hpx6
              subst el
              exact ⟨_, _, _, _, _, rfl, .ty _, .base (.str _), ki_ss, _, rfl, if_f rfl (skip _ _ _ _ _ k56 hst6 (by omega))⟩
            | part n g u =>
              obtain ⟨c8, d8, el, hc8, hd8⟩ := id hpx6
              subst el
              refine ⟨_, _, _, _, _, rfl, .ty _, ty_tup hc8, ki_ts, _, rfl, if_t rfl ⟨_, rfl, .inl ⟨rfl, _, .inl (.inl hf6)⟩, _, rfl, st, lf, cl, _, rfl, hst6, by omega, fun z H7 k7 hst7 hz => ?_⟩⟩
              have k57 := k56.trans k7
              refine ⟨f, xs, _, rfl, rfl, fresh_f k57, by rw [hxl, sizeLine_eq]; omega, ?_⟩
              exact app H7 _ (.str z) (.lit z) _ _ _ k57 hst7 hb5 rfl hz (fun _ h => nomatch h) (Nat.zero_le _) (fun z => by rw [hlast] at z; cases z)
        · refine if_f (decide_eq_false fun z => hz (by have := V.int.inj z; omega)) ?_
          have hnl5 := hnl4.kp k55
          have hnsl := hns.2.1
          refine ⟨_, rfl, _, rfl, _, rfl, nl, _, rfl, .inl (.inl (.inl hnl5.1)), st, lf, cl, b + 1, (ns.map V.str).length, rfl, hst5, by rw [List.length_map]; omega, by rw [List.length_map]; have := hns.2.2.1; omega, by omega, fun r2 H6 hr2 k6 hst6 => ?_⟩
          rw [List.length_map] at hr2
          have hnl6 := hnl5.kp k6
          refine ⟨nl, _, r2, .str ns[r2], rfl, rfl, .inl (.inl hnl6.1), atI_nat (j := r2) (by rw [List.getElem?_map, List.getElem?_eq_getElem hr2]; rfl), ?_⟩
          have hmem := List.getElem_mem hr2
          generalize ns[r2] = n at hmem
          refine ⟨by rw [sizeLine_eq]; show 12 ≤ _; omega, fun l2 hl2 => ?_⟩
          have k7 := (Kp.nil H6).new (.lst (signs12.map fun g => V.str g.str)) hl2
          have hst7 := hst6.kp k7
          refine ⟨_, rfl, st, lf, cl, b + 1 + 1, 12, rfl, hst7, by omega, by omega, by omega, fun r3 H8 hr3 k8 hst8 => ?_⟩
          have hr4 : r3 < signs12.length := hr3
          have n8 : l2 ∉ [st, lf] := fun z => by
            have := k6.wr' l2 z
            rw [hl2] at this
            exact this.elim
          have hl8 : H8 l2 = some (.lst (signs12.map fun g => V.str g.str)) := k8.keep l2 _ n8 upd_same
          refine ⟨l2, _, r3, .str signs12[r3].str, rfl, rfl, .inl (.inl hl8), atI_nat (j := r3) (by rw [List.getElem?_map, List.getElem?_eq_getElem hr4]; rfl), ?_⟩
          generalize signs12[r3] = g
          have k58 : Kp [st, lf] H4' H8 := ((k55.trans k6).t0 k7).trans k8
          have hf8 := fresh_f k58
          refine ⟨_, rfl, .inl ⟨rfl, _, .inl (.inl hf8)⟩, _, rfl, _, rfl, _, rfl, rfl, _, rfl, ?_⟩
          have fin : ∀ (H9 : Hp) (b9 : Nat) (c9 : Addr) (u : Txt) (u1 u2 u3 : Option V), Kp [st, lf] H8 H9 → StAt H9 st lf cl b9 → b9 ≤ b + 3 + tc e → TextAt K H9 c9 u → (Pc.part n g u).good (e + 1 + 2) → (∀ n ∈ u.names, n ∈ ns) → u.names.length ≤ nc e →
              [V.str n, V.str g.str, V.ref c9].length ≤ sizeLine ∧ ∀ t, H9 t = none → rAppend (.ref f) [.ref t] (upd H9 t (.tup [.str n, .str g.str, .ref c9])) fun _ H' => TxInv K st lf cl nl f a (e + 1) ns H (i + 1) [some (.ref st), some (.ref nl), some (.int ((e + 1 : Nat) : Nat)), some (.ref f), u1, u2, u3] H' := fun H9 b9 c9 u u1 u2 u3 k9 hst9 hb9 hc9 hg9 hn9 hl9 => by
            refine ⟨sz3, fun t ht => ?_⟩
            have kt := (Kp.nil H9).new (.tup [.str n, .str g.str, .ref c9]) ht
            have kk := (k58.trans k9).t0 kt
            refine ⟨f, xs, _, rfl, rfl, fresh_f kk, by rw [hxl, sizeLine_eq]; omega, ?_⟩
            refine app _ b9 (.ref t) (.part n g u) u1 u2 u3 kk (hst9.kp kt) (by omega) ⟨t, c9, rfl, .inl (.inl upd_same), hc9.kp kt⟩ hg9 ?_ ?_ fun _ => rfl
            · intro y hy
              rcases List.mem_cons.mp hy with z | z
              · rw [z]; exact hmem
              · exact hn9 y z
            · show (n :: u.names).length ≤ 1 + nc e
              rw [List.length_cons]; omega
          have hnok := hns.2.2.2 n hmem
          cases hg : g with
          | no =>
            subst hg
            refine if_t (by decide) ⟨Nat.zero_le _, fun c9 hc9 => ?_⟩
            have k9 := (Kp.nil H8).new (.tup []) hc9
            exact fin _ (b + 1 + 1 + 1) c9 .nil _ _ _ (hst8.refl.t0 k9) (hst8.kp k9) (by omega) (nil_text (.inl (.inl upd_same))) ⟨hnok, rfl⟩ (fun _ h => nomatch h) (Nat.zero_le _)
          | op hd kd =>
            subst hg
            refine if_f (by cases hd <;> cases kd <;> decide) ⟨_, rfl, _, rfl, _, rfl, _, _, rfl, rfl, ?_⟩
            have ee : (((e + 1 : Nat) : Int) - 1) = (e : Nat) := by omega
            refine ⟨e, rfl, st, lf, cl, nl, b + 1 + 1 + 1, ns, by show [V.ref st, V.ref nl, V.int (((e + 1 : Nat) : Int) - 1)] = _; rw [ee], hst8, (hnl6.kp0 k7).kp k8, hns, by omega, by omega, fun u c9 b9 H9 k9 hst9 hb9 hc9 hw9 hn9 hl9 => ?_⟩
            exact fin H9 b9 c9 u _ _ _ k9 hst9 (by omega) hc9 ⟨hnok, e + 2, rfl, by omega, hw9⟩ hn9 hl9
    · rintro σ H4 ⟨u1, u2, u3, b, xs, done, rfl, k5, hst4, hb, hnl4, hf4, hpp, hdl, hap, hgd⟩
      have hdl : done.length ≤ c := hdl
      have hsm : c * stepC d ≤ 3 * stepC d := Nat.mul_le_mul_right _ (by omega)
      have hb : b ≤ a + 2 + c * stepC d := hb
      refine ⟨_, rfl, f, xs, rfl, .inl ⟨.inl (.inl hf4), fun p hp => ?_⟩⟩
      have k6 := (Kp.nil H4).new (.tup xs) hp
      have hcn := mkT_count (l := done) (k := stepN d) fun p hp => (hgd p hp).2.2
      have hcn2 : done.length * stepN d ≤ 3 * stepN d := Nat.mul_le_mul_right _ (by omega)
      refine q (mkT done) p b _ (k5.t0 k6) (hst4.kp k6) (by omega) ⟨xs, .inl (.inl upd_same), (mkT_at hpp).kp k6⟩ ?_ ?_ ?_
      · show (decide ((mkT done).len ≤ 8) && (mkT done).good (d + 2)) = true
        rw [mkT_len, decide_eq_true (by omega), mkT_good (fun p hp => (hgd p hp).1) hap]; rfl
      · intro n hn
        rw [mkT_names] at hn
        obtain ⟨p, hp, h1⟩ := List.mem_flatMap.mp hn
        exact (hgd p hp).2.1 n h1
      · rw [mkT_names, nc_step]; omega
theorem ok_text_all (T : Top K mg) : ∀ d : Nat, FnOk P w K mg base CX0 (4 + d) T.a_law_text T.d_law_text ["state", "names", "deep"] (spText K d)
  | 0 => ok_text_at T 0 (ok_none_X fun _ _ _ _ ⟨_, e, _⟩ => nomatch e)
  | d + 1 => ok_text_at T (d + 1) (((ok_text_all T d).imp fun vs H Q E ⟨e, h1, h2⟩ => by cases h1; exact h2).mono (by omega))
theorem ok_law_text (T : Top K mg) : FnOk P w K mg base CX0 6 T.a_law_text T.d_law_text ["state", "names", "deep"] (spText K 2) := ok_text_all T 2
/-! a row -/
def spLRow (K : PySem.W.Frag) : Sp := fun vs H Q _ => ∃ (st lf cl nl : Addr) (a : Nat) (ns : List Str), vs = [.ref st, .ref nl] ∧ StAt H st lf cl a ∧ NlAt K H st lf nl ns ∧ NsOk ns ∧ a ≤ 700000 ∧
  ∀ (r : Row) (p : Addr) (b : Nat) H', Kp [st, lf] H H' → StAt H' st lf cl b → b ≤ a + 91 → RowAt K H' p r → r.good = true → (∀ n ∈ r.head, n ∈ ns) → (∀ n ∈ r.text.names, n ∈ ns) → r.text.names.length ≤ 12 → Q (.ref p) H'
theorem ok_law_row (T : Top K mg) : FnOk P w K mg base CX0 7 T.a_law_row T.d_law_row ["state", "names"] (spLRow K) := by
  refine T.F_law_row.ok sc_law_row (fun vs H Q E h => ?_) (fun cdv A outer s H vs Q E hr h => ?_)
  · obtain ⟨st, lf, cl, nl, a, ns, rfl, _⟩ := h
    rfl
  · obtain ⟨st, lf, cl, nl, a, ns, rfl, hst, hnl, hns, ha, q⟩ := h
    refine ⟨_, PSs.nox (pss_cons (ps_par (i := 2) (j := 3) rfl sc_law_row.nd rfl rfl (by decide) rfl rfl (pa_cons (pe_call (ok_law_draw T) (hr.mono (by omega)) rfl T.g_law_draw T.F_law_draw.kp (b_law_draw T) .nil pass0 (pa_cons (pv 0) (pa_cons pe_int pa_nil))) (pa_cons (pe_ix (r := rIxL K) ix_list (pv 1) (pe_call (ok_law_draw T) (hr.mono (by omega)) rfl T.g_law_draw T.F_law_draw.kp (b_law_draw T) .nil pass0 (pa_cons (pv 0) (pa_cons (pe_callB (r := rLenQ K) cr_lenQ rfl T.n_len bt_len (pa_cons (pv 1) pa_nil)) pa_nil))) (fun _ _ => rfl)) pa_nil)) rfl) (pss_cons (ps_if (pt_cmpR (op_eq) (pv 2) pe_int (nomark _)) (pss_one (ps_ret (pe_tup (pa_cons pe_str (pa_cons (pv 3) pa_nil))))) pss_nil) (pss_cons (ps_if (pt_cmpR (op_eq) (pv 2) pe_int (nomark _)) (pss_one (ps_ret (pe_tup (pa_cons pe_str (pa_cons (pe_call (ok_law_text T) (hr.mono (by omega)) rfl T.g_law_text T.F_law_text.kp (b_law_text T) .nil pass0 (pa_cons (pv 0) (pa_cons (pv 1) (pa_cons pe_int pa_nil)))) pa_nil))))) pss_nil) (pss_one (ps_ret (pe_tup (pa_cons (pe_ix (r := rIxL K) ix_list (pe_lst (pa_cons pe_str (pa_cons pe_str pa_nil))) (pe_op (op_modN) (pv 2) pe_int) (fun _ _ => rfl)) (pa_cons (pv 3) (pa_cons (pe_call (ok_law_text T) (hr.mono (by omega)) rfl T.g_law_text T.F_law_text.kp (b_law_text T) .nil pass0 (pa_cons (pv 0) (pa_cons (pv 1) (pa_cons pe_int pa_nil)))) pa_nil))))))))), ?_⟩
    have hnsl := hns.2.1
    have hns3 := hns.2.2.1
    refine ⟨_, rfl, st, lf, cl, a, 8, rfl, hst, by omega, by omega, by omega, fun r1 H1 hr1 k1 hst1 => ?_⟩
    have hnl1 := hnl.kp k1
    refine ⟨_, rfl, _, rfl, _, rfl, nl, _, rfl, .inl (.inl (.inl hnl1.1)), st, lf, cl, a + 1, (ns.map V.str).length, rfl, hst1, by rw [List.length_map]; omega, by rw [List.length_map]; omega, by omega, fun r2 H2 hr2 k2 hst2 => ?_⟩
    rw [List.length_map] at hr2
    have hnl2 := hnl1.kp k2
    have k12 := k1.trans k2
    refine ⟨nl, _, r2, .str ns[r2], rfl, rfl, .inl (.inl hnl2.1), atI_nat (j := r2) (by rw [List.getElem?_map, List.getElem?_eq_getElem hr2]; rfl), _, _, rfl, ?_⟩
    have hmem := List.getElem_mem hr2
    generalize ns[r2] = n at hmem
    have hnok := hns.2.2.2 n hmem
    have hd : ∀ y ∈ [n], y ∈ ns := fun y hy => by rw [List.mem_singleton.mp hy]; exact hmem
    have hall : [n].all nameOk = true := by rw [List.all_cons, hnok]; rfl
    refine ⟨_, rfl, rfl, _, rfl, ?_⟩
    by_cases z0 : r1 = 0
    · subst z0
      refine if_t rfl ⟨_, rfl, sz2, fun p hp => ?_⟩
      have k3 := (Kp.nil H2).new (.tup [.str "drop", .str n]) hp
      exact q (.drop n) p (a + 1 + 1) _ (k12.t0 k3) (hst2.kp k3) (by omega) (.inl (.inl upd_same)) (by show (Txt.nil.wf 4 && [n].all nameOk) = true; rw [hall]; rfl) hd (fun _ h => nomatch h) (Nat.zero_le _)
    · refine if_f (decide_eq_false fun z => z0 (by have := V.int.inj z; omega)) ⟨_, rfl, rfl, _, rfl, ?_⟩
      by_cases z1 : r1 = 1
      · subst z1
        refine if_t rfl ⟨_, rfl, _, rfl, st, lf, cl, nl, a + 1 + 1, ns, rfl, hst2, hnl2, hns, by omega, by simp only [tc]; omega, fun t c b H3 k3 hst3 hb hc hw hn hl => ⟨sz2, fun p hp => ?_⟩⟩
        have k4 := (Kp.nil H3).new (.tup [.str "check", .ref c]) hp
        simp only [tc] at hb
        exact q (.check t) p b _ ((k12.trans k3).t0 k4) (hst3.kp k4) (by omega) ⟨c, .inl (.inl upd_same), hc.kp k4⟩ (by show (t.wf 4 && [].all nameOk) = true; rw [hw]; rfl) (fun _ h => nomatch h) hn hl
      · refine if_f (decide_eq_false fun z => z1 (by have := V.int.inj z; omega)) ?_
        refine ⟨sz2, fun l hl => ?_⟩
        have k3 := (Kp.nil H2).new (.lst [.str "set", .str "give"]) hl
        have hm2 := fm_nn (r1 : Int) (j := 2) (by omega)
        obtain ⟨m, hm⟩ : ∃ m : Nat, (r1 : Int).fmod 2 = m := ⟨((r1 : Int).fmod 2).toNat, by omega⟩
        rw [hm] at hm2
        have hm3 : m = 0 ∨ m = 1 := by omega
        obtain ⟨wd, hwd, hat⟩ : ∃ wd : Bool, True ∧ atI ([.str "set", .str "give"] : List V) (m : Nat) = some (.str (if wd = true then "set" else "give")) := by
          rcases hm3 with e | e
          · exact ⟨true, trivial, by rw [e]; exact atI_nat (j := 0) rfl⟩
          · exact ⟨false, trivial, by rw [e]; exact atI_nat (j := 1) rfl⟩
        refine ⟨_, rfl, _, _, rfl, rfl, by omega, l, _, _, _, rfl, rfl, .inl (.inl upd_same), (by rw [hm]; exact hat), ?_⟩
        refine ⟨_, rfl, _, rfl, _, rfl, st, lf, cl, nl, a + 1 + 1, ns, rfl, hst2.kp k3, hnl2.kp0 k3, hns, by omega, by simp only [tc]; omega, fun t c b H3 k4 hst3 hb hc hw hn hl2 => ⟨sz3, fun p hp => ?_⟩⟩
        have kk := (k12.t0 k3).trans k4
        simp only [tc] at hb
        cases wd with
        | true =>
          have k5 := (Kp.nil H3).new (.tup [.str "set", .str n, .ref c]) hp
          exact q (.set n t) p b _ (kk.t0 k5) (hst3.kp k5) (by omega) ⟨c, .inl (.inl upd_same), hc.kp k5⟩ (by show (t.wf 4 && [n].all nameOk) = true; rw [hw, hall]; rfl) hd hn hl2
        | false =>
          have k5 := (Kp.nil H3).new (.tup [.str "give", .str n, .ref c]) hp
          exact q (.give n t) p b _ (kk.t0 k5) (hst3.kp k5) (by omega) ⟨c, .inl (.inl upd_same), hc.kp k5⟩ (by show (t.wf 4 && [n].all nameOk) = true; rw [hw, hall]; rfl) hd hn hl2
/-! a file -/
def spLFile (K : PySem.W.Frag) : Sp := fun vs H Q _ => ∃ (st lf cl nl : Addr) (a : Nat) (ns : List Str), vs = [.ref st, .ref nl, .int 6] ∧ StAt H st lf cl a ∧ NlAt K H st lf nl ns ∧ NsOk ns ∧ a ≤ 600000 ∧
  ∀ (F : File) (p : Addr) (b : Nat) H', Kp [st, lf] H H' → StAt H' st lf cl b → b ≤ a + 600 → FileAt K H' p F → GoodFile F → (∀ n ∈ rawNames F, n ∈ ns) → Q (.ref p) H'
def RowOk (ns : List Str) (r : Row) : Prop := r.good = true ∧ (∀ n ∈ r.head, n ∈ ns) ∧ (∀ n ∈ r.text.names, n ∈ ns) ∧ r.text.names.length ≤ 12
theorem raw_ok {ns : List Str} : ∀ {F : File}, (∀ r ∈ F, RowOk ns r) → (∀ n ∈ rawNames F, n ∈ ns) ∧ (F.flatMap Row.head).length ≤ F.length ∧ (F.flatMap fun r => r.text.names).length ≤ 12 * F.length := fun {F} h => by
  refine ⟨fun n hn => ?_, ?_, ?_⟩
  · rcases List.mem_append.mp hn with z | z
    · obtain ⟨r, hr, hx⟩ := List.mem_flatMap.mp z
      exact (h r hr).2.1 n hx
    · obtain ⟨r, hr, hx⟩ := List.mem_flatMap.mp z
      exact (h r hr).2.2.1 n hx
  · induction F with
    | nil => exact Nat.le_refl _
    | cons r F ih =>
      have := ih fun x hx => h x (List.mem_cons_of_mem _ hx)
      rw [List.flatMap_cons, List.length_append, List.length_cons]
      have : r.head.length ≤ 1 := by cases r <;> simp [Row.head]
      omega
  · induction F with
    | nil => exact Nat.le_refl _
    | cons r F ih =>
      have := ih fun x hx => h x (List.mem_cons_of_mem _ hx)
      have := (h r (List.mem_cons_self ..)).2.2.2
      rw [List.flatMap_cons, List.length_append, List.length_cons]
      omega
theorem names_sub {ns : List Str} {F : File} (h : ∀ n ∈ rawNames F, n ∈ ns) : (namesIn F).length ≤ ns.length := nodup_le (rise_nodup (sort_rise _)) fun x hx => h x (mem_sort.mp hx)
theorem ok_law_file (T : Top K mg) : FnOk P w K mg base CX0 8 T.a_law_file T.d_law_file ["state", "names", "most"] (spLFile K) := by
  refine T.F_law_file.ok sc_law_file (fun vs H Q E h => ?_) (fun cdv A outer s H vs Q E hr h => ?_)
  · obtain ⟨st, lf, cl, nl, a, ns, rfl, _⟩ := h
    rfl
  · obtain ⟨st, lf, cl, nl, a, ns, rfl, hst, hnl, hns, ha, q⟩ := h
    refine ⟨_, PSs.nox (pss_one (ps_ret (pe_callTy call_tuple_of rfl T.n_tuple bt_tuple (pa_cons (pe_lc rfl sc_law_file.nd (pi_range1 rfl T.n_range (pa_cons (pe_call (ok_law_draw T) (hr.mono (by omega)) rfl T.g_law_draw T.F_law_draw.kp (b_law_draw T) .nil pass0 (pa_cons (pv 0) (pa_cons (pe_op (op_add) (pv 2) pe_int) pa_nil))) pa_nil)) (blkOk_by (own := [("k", 3)]) (by kernel_rfl)) (fun _ _ _ _ _ => (pg_name (i := 3) sc_law_file.nd rfl (.inl rfl))) (fun _ _ _ _ _ => pts_nil) (fun _ _ _ _ _ => (pe_call (ok_law_row T) (hr.mono (by omega)) rfl T.g_law_row T.F_law_row.kp (b_law_row T) .nil pass0 (pa_cons (pv 0) (pa_cons (pv 1) pa_nil))))) pa_nil)))), ?_⟩
    refine ⟨_, rfl, _, rfl, _, _, rfl, rfl, st, lf, cl, a, 7, rfl, hst, by omega, by omega, by omega, fun c H1 hc k1 hst1 => ?_⟩
    refine ⟨_, rfl, by omega, by omega, fun D hD => lc_gen walk_range (fun i H' => Kp [st, lf] H H' ∧ ∃ (b : Nat) (as : List Addr) (F : File), StAt H' st lf cl b ∧ b ≤ a + 1 + i * 91 ∧ NlAt K H' st lf nl ns ∧ H' D = some (.lst (as.map V.ref)) ∧ Paired (RowAt K H') as F ∧ F.length = i ∧ ∀ r ∈ F, RowOk ns r)
      ⟨k1.new _ hD, a + 1, [], [], hst1.kp ((Kp.nil H1).new _ hD), by omega, (hnl.kp k1).kp0 ((Kp.nil H1).new _ hD), upd_same, .nil, rfl, (fun _ h => nomatch h)⟩ (fun _ _ _ _ => trivial) ?_ ?_⟩
    · rintro i x H2 H2' hi ⟨k2, b, as, F, hst2, hb, hnl2, hD2, hF, hFl, hok⟩ ⟨rfl, rfl⟩
      have hi6 : i < 7 := by omega
      have nD : D ∉ [st, lf] := fun z => by
        have := k1.wr' D z
        rw [hD] at this
        exact this.elim
      refine ⟨rfl, _, rfl, _, rfl, st, lf, cl, nl, b, ns, rfl, hst2, hnl2, hns, by omega, fun r p b' H3 k3 hst3 hb' hrow hg hh hn hl => ?_⟩
      have hD3 : H3 D = some (.lst (as.map V.ref)) := k3.keep D _ nD hD2
      have kD : Kp [D] H3 (upd H3 D (.lst (as.map V.ref ++ [.ref p]))) := Kp.wr1 hD3 trivial trivial
      have al := Paired.length hF
      have nDa : D ≠ st ∧ D ≠ lf ∧ D ≠ cl := hst1.apart hD
      have nlD : nl ≠ D := ne_of_none (hnl.kp k1).1 hD
      refine ⟨_, hD3, by rw [List.length_map, sizeLine_eq]; omega, ?_, b', as ++ [p], F ++ [r], hst3.own nDa, by omega, ⟨kD.keep nl _ (fun z => nlD (List.mem_singleton.mp z)) (hnl2.kp k3).1, hnl.2⟩, by rw [upd_same, List.map_append]; rfl, ?_, by rw [List.length_append, hFl]; rfl, fun r' hr' => ?_⟩
      · exact (k2.trans k3).own (k1.free hD)
      · exact paired_app (Paired.mapP hF fun _ _ r => (r.kp k3).kp kD) (.cons (hrow.kp kD) .nil)
      · rcases List.mem_append.mp hr' with z | z
        · exact hok r' z
        · rw [List.mem_singleton.mp z]; exact ⟨hg, hh, hn, hl⟩
    · rintro H2 ⟨k2, b, as, F, hst2, hb, hnl2, hD2, hF, hFl, hok⟩
      have hFl : F.length = c := hFl
      have hb : b ≤ a + 1 + c * 91 := hb
      refine ⟨D, _, rfl, .inl ⟨.inl (.inl hD2), fun p hp => ?_⟩⟩
      have k3 := (Kp.nil H2).new (.tup (as.map V.ref)) hp
      obtain ⟨r1, r2, r3⟩ := raw_ok hok
      have hnl3 := names_sub r1
      have hns3 := hns.2.2.1
      refine q F p b _ (k2.t0 k3) (hst2.kp k3) (by omega) ⟨as, .inl (.inl upd_same), Paired.mapP hF fun _ _ r => r.kp k3⟩ ⟨by omega, fun r hr => (hok r hr).1, ?_, by omega⟩ r1
      unfold rawNames
      rw [List.length_append]; omega
end
end EV
end

section
set_option Elab.async false
set_option linter.all false
set_option maxRecDepth 100000
set_option maxHeartbeats 4000000
/-! bodies of the law: its own run, with its lengths -/
namespace EV
open PySem PySem.Spec PyProof.Rows L2
section
variable {P : Program} {w : World} {K : PySem.W.Frag} {mg : Str → Option Value} {base : Heap}
/-- a worth is a text -/
def SV (_ : Hp) (v : V) (s : Str) : Prop := v = .str s
theorem SV.up : ∀ (H : Hp) (d : Addr) (o : HO) (v : V) (s : Str), Mut (some o) → SV H v s → SV (upd H d o) v s := fun _ _ _ _ _ _ h => h
theorem dec_e0 (s : Str) : decide (V.str s = V.str "") = decide (s = e0) := by
  by_cases h : s = e0
  · rw [decide_eq_true h, h]; decide
  · have h2 : ¬ V.str s = V.str (Str.ofString "") := fun z => h ((V.str.inj z).trans (by decide))
    rw [decide_eq_false h, decide_eq_false h2]
theorem cut_is (z : Str) : cutS z none (some 100000) = cut z := by
  refine str_ext ?_
  unfold cutS cut
  rw [HT.sIx_none, show HT.sIx z.length z.length (some 100000) = min 100000 z.length from HT.sIx_nat _ _ 100000, str_len]
  show ((z.cps.toList.drop 0).take (min 100000 z.cps.toList.length - 0)).toArray.toList = (z.cps.extract 0 100000).toList
  rw [List.drop_zero, Nat.sub_zero]
  simp
def SeAt (H : Hp) (se : Addr) (l : List Nat) : Prop := H se = some (.lst (l.map fun n : Nat => V.int (n : Int)))
def spLW (K : PySem.W.Frag) (lv : Nat) : Sp := fun vs H Q _ => ∃ (ev c se : Addr) (t : Txt) (m : Mp) (l : List Nat) (NS : List Str), vs = [.ref ev, .ref c, .ref se] ∧ DcAt SV NS H ev m ∧ TextAt K H c t ∧ SeAt H se l ∧ t.wb lv = true ∧ lv ≤ 5 ∧ (∀ x ∈ t.names, x ∈ NS) ∧ NS.length ≤ 64 ∧
  m.few 100000 ∧ l.length + 1 + t.names.length ≤ 1000000 ∧ ∀ (p : Addr) H', Kp [ev, se] H H' → DcAt SV NS H' ev (lw t m l e0).m → SeAt H' se (lw t m l e0).se → SqT K H' p [.str (lw t m l e0).w, .bl (lw t m l e0).over] → Q (.ref p) H'
theorem lw_refl {NS : List Str} {H : Hp} {ev se : Addr} {m : Mp} {l : List Nat} (h1 : DcAt SV NS H ev m) (h2 : SeAt H se l) : Kp [ev, se] H H := by
  refine Kp.refl fun d hd => ?_
  rcases List.mem_cons.mp hd with e | hd
  · rw [e]; exact h1.wrt
  · rw [List.mem_singleton.mp hd, h2]; trivial
theorem ok_lw_of (T : Top K mg) (lv : Nat) (ih : FnOk P w K mg base CX0 (1 + lv) T.a_law_worked T.d_law_worked ["env", "text", "seen"] (fun vs H Q E => ∃ l, lv = l + 1 ∧ spLW K l vs H Q E)) :
    FnOk P w K mg base CX0 (1 + lv + 1) T.a_law_worked T.d_law_worked ["env", "text", "seen"] (spLW K lv) := by
  refine T.F_law_worked.ok sc_law_worked (fun vs H Q E h => ?_) (fun cdv A outer s H vs Q E hr h => ?_)
  · obtain ⟨ev, c, se, _, _, _, _, rfl, _⟩ := h
    rfl
  · obtain ⟨ev, c, se, t, m, l, NS, rfl, hev, ⟨xs, hq, hx⟩, hse, wf, hlv, hnm, hNS, hm, hl, q⟩ := h
    refine ⟨_, PSs.nox (pss_cons (ps_set (i := 3) sc_law_worked.nd rfl (.inl rfl) pe_str) (pss_cons (ps_for PassesOwn.never rfl (pi_tup (pv 1)) (pg_name (i := 4) sc_law_worked.nd rfl (.inl rfl)) (pss_cons (ps_if (pt_val (pe_callB (r := rIsi K) call_isi rfl T.n_isinstance bt_isinstance (pa_cons (pv 4) (pa_cons (pe_bltn (v := .ty "str") rfl T.n_str bt_str rfl) pa_nil)))) (pss_cons (ps_set (i := 3) sc_law_worked.nd rfl (.inl rfl) (pe_op (op_add_str) (pv 3) (pv 4))) (pss_one ps_continue)) pss_nil) (pss_cons (ps_asg (pv 4) (pg_tup rfl (pgs_cons (pg_name (i := 5) sc_law_worked.nd rfl (.inl rfl)) (pgs_cons (pg_name (i := 6) sc_law_worked.nd rfl (.inl rfl)) (pgs_cons (pg_name (i := 7) sc_law_worked.nd rfl (.inl rfl)) pgs_nil))))) (pss_cons (ps_set (i := 8) sc_law_worked.nd rfl (.inl rfl) (pe_or (pe_cmp (pc_dnotin (rm_cl hr (by decide)) (pv 5) (pv 0)) rfl) (pe_one (pe_and (pe_cmpR (op_eq) (pe_slice sl_str (pv 6) po_none (po_some pe_int)) pe_str (nomark _)) (pe_one (pe_cmpR (op_eq) (pe_dget (rm_cl hr (by decide)) (pv 0) (pv 5) (fun _ _ => rfl)) pe_str (nomark _))))))) (pss_one (ps_if (PW.pt (pw_or (pt_cmpR (op_eq) (pv 6) pe_str (nomark _)) (pw_or1 (PW.pt (pw_and (pt_cmpR (op_ne) (pe_slice sl_str (pv 6) (po_some (pe_un un_neg pe_int)) po_none) pe_str (nomark _)) (pw_and1 (pt_not (pt_val (pv 8))))))))) (pss_one (ps_set (i := 3) sc_law_worked.nd rfl (.inl rfl) (pe_op (op_add_str) (pv 3) (pe_dget2 (rm_cl hr (by decide)) (pv 0) (pv 5) pe_str ⟨rfl, rfl, rfl, rfl⟩)))) (pss_one (ps_if (PW.pt (pw_or (pt_cmpR (op_ne) (pe_slice sl_str (pv 6) (po_some (pe_un un_neg pe_int)) po_none) pe_str (nomark _)) (pw_or1 (pt_not (pt_val (pv 8)))))) (pss_cons (ps_asg (pe_call ih (hr.mono (by omega)) rfl T.g_law_worked T.F_law_worked.kp (b_law_worked T) .nil pass0 (pa_cons (pv 0) (pa_cons (pv 7) (pa_cons (pv 2) pa_nil)))) (pg_tup rfl (pgs_cons (pg_name (i := 9) sc_law_worked.nd rfl (.inl rfl)) (pgs_cons (pg_name (i := 10) sc_law_worked.nd rfl (.inl rfl)) pgs_nil)))) (pss_cons (ps_if (PW.pt (pw_or (pt_val (pv 10)) (pw_or1 (pt_cmpR (op_eq) (pe_slice sl_str (pv 6) (po_some (pe_un un_neg pe_int)) po_none) pe_str (nomark _))))) (pss_one (ps_ret (pe_tup (pa_cons (pv 9) (pa_cons pe_bl pa_nil))))) pss_nil) (pss_cons (ps_if (pt_cmpR (op_eq) (pe_slice sl_str (pv 6) (po_some (pe_un un_neg pe_int)) po_none) pe_str (nomark _)) (pss_one (ps_dput (rm_cl hr (by decide)) (pv 0) (pv 5) (pv 9) rfl)) pss_nil) (pss_one (ps_set (i := 3) sc_law_worked.nd rfl (.inl rfl) (pe_op (op_add_str) (pv 3) (pv 9))))))) pss_nil)))))))) (pss_cons (ps_expr (pe_bm PySem.F.plainAttrs_list PySem.F.slot_list_append PySem.F.type_list_append mt_append (pv 2) (pa_cons (pe_callB cr_lenS rfl T.n_len bt_len (pa_cons (pv 3) pa_nil)) pa_nil))) (pss_one (ps_ret (pe_tup (pa_cons (pe_slice sl_str (pv 3) po_none (po_some pe_int)) (pa_cons pe_bl pa_nil)))))))), ?_⟩
    have hlen := wb_len wf
    have hxl := hx.len
    have hne : ev ≠ se := fun z => by
      obtain ⟨kvs, e, _⟩ := hev
      have hse : H se = _ := hse
      rw [z, hse] at e; cases e
    refine ⟨_, rfl, c, rfl, ⟨xs, hq⟩, for_it walk_tup (fun i σ H' => ∃ (u1 u2 u3 u4 u5 u6 u7 : Option V) (mi : Mp) (li : List Nat) (acc : Str), σ = [some (.ref ev), some (.ref c), some (.ref se), some (.str acc), u1, u2, u3, u4, u5, u6, u7] ∧ Kp [ev, se] H H' ∧ DcAt SV NS H' ev mi ∧ SeAt H' se li ∧
        lw (t.drop i) mi li acc = lw t m l e0 ∧ mi.few 100000 ∧ li.length + 1 + (t.drop i).names.length ≤ 1000000 ∧ acc.length ≤ 100000 * i)
      ⟨none, none, none, none, none, none, none, m, l, e0, rfl, lw_refl hev hse, hev, hse, by rw [drop_zero], hm, by rw [drop_zero]; exact hl, Nat.zero_le _⟩ (fun i σ H' _ ⟨_, _, _, _, _, _, _, _, _, _, _, k, _⟩ => k.sqt hq) ?_ ?_⟩
    · rintro i x σ H1 H1' hi ⟨u1, u2, u3, u4, u5, u6, u7, mi, li, acc, rfl, k1, hev1, hse1, er, hmi, hli, hacc⟩ ⟨rfl, hx1⟩
      obtain ⟨p, hpc, ep⟩ := hx.get hx1
      obtain ⟨l', el', hg⟩ := wb_piece wf ep
      have hpc1 := hpc.kp k1
      have hnames := names_piece ep
      rw [hnames, List.length_append] at hli
      cases p with
      | lit z =>
        have ex : x = .str z := hpc
        subst ex
        have hz : plainOk z = true := hg
        have hzl := plain_le hz
        have ep : t.drop i = .lit z (t.drop (i + 1)) := ep
        rw [ep] at er
        refine ⟨_, rfl, _, _, _, _, _, rfl, .ty _, .base (.str _), ki_ss, _, rfl, if_t rfl ⟨_, rfl, _, rfl, acc, z, rfl, rfl, by rw [sizeLine_eq]; omega, ?_⟩⟩
        exact ⟨_, _, _, _, _, _, _, mi, li, acc ++ z, rfl, k1, hev1, hse1, er, hmi, by omega, by rw [app_len]; omega⟩
      | part n g u =>
        subst el'
        obtain ⟨a', c', rfl, ha', hc'⟩ := id hpc1
        obtain ⟨hn1, wf', hgno⟩ := hg
        have ep : t.drop i = .part n g u (t.drop (i + 1)) := ep
        have hsub : ∀ y ∈ (t.drop i).names, y ∈ t.names := names_drop t i
        have hnNS : n ∈ NS := hnm n (hsub n (by rw [ep]; exact List.mem_cons_self ..))
        have huNS : ∀ y ∈ u.names, y ∈ NS := fun y hy => hnm y (hsub y (by rw [ep]; exact List.mem_cons_of_mem _ (List.mem_append_left _ hy)))
        have hpn : (Pc.part n g u).names.length = u.names.length + 1 := rfl
        rw [ep, lw_part] at er
        refine ⟨_, rfl, _, _, _, _, _, rfl, .ty _, ty_tup ha', ki_ts, _, rfl, if_f rfl ?_⟩
        refine ⟨_, rfl, a', _, rfl, ha', rfl, _, _, rfl, _, _, rfl, _, _, rfl, rfl, ?_⟩
        obtain ⟨o, hgo, ho⟩ := hev1.look n
        dsimp only [gName, tSeq, tAsg]
        refine via (t := tOrV _ _) (b := .bl (lacks mi n g.hard)) (fun Q' q' => ?_) (fun H2 k2 => ?_)
        ·
          refine ⟨_, rfl, _, rfl, ev, o, rfl, hgo _ (Kp.nil _), _, rfl, ?_⟩
          rcases ho with ⟨e1, e2⟩ | ⟨v, s, e1, e2, e3⟩
          · subst e1
            refine if_t rfl ?_
            have : lacks mi n g.hard = true := by unfold lacks; rw [e2]
            rw [← this]
            exact q' _ (Kp.nil _)
          · subst e1
            have e3 : v = .str s := e3
            subst e3
            have e4 : lacks mi n g.hard = (g.hard && decide (s = e0)) := by unfold lacks; rw [e2]
            rw [e4] at q'
            refine if_f rfl ⟨_, rfl, 1, rfl, g.str, rfl, sg_small g, rfl, _, rfl, ?_⟩
            rw [hard_cut]
            cases hh : g.hard with
            | false =>
              rw [hh] at q'
              exact if_f rfl (q' _ (Kp.nil _))
            | true =>
              rw [hh] at q'
              refine if_t rfl ⟨_, rfl, _, rfl, ev, _, rfl, hgo _ (Kp.nil _), rfl, ?_⟩
              rw [dec_e0]
              exact q' _ (Kp.nil _)
        have k12 := k1.t0 k2
        have hev2 : DcAt SV NS H2 ev mi := hev1.kp k2 (fun z => nomatch z) fun v s h => h
        have hse2 : SeAt H2 se li := k2.keep se _ (fun z => nomatch z) hse1
        have hown : o.getD (.str "") = .str (worth mi n) := by
          rcases ho with ⟨e1, e2⟩ | ⟨v, s, e1, e2, e3⟩
          · rw [e1, show worth mi n = e0 by unfold worth; rw [e2]; rfl]; decide
          · rw [e1, show worth mi n = s by unfold worth; rw [e2]; rfl]; exact e3
        have hwl : (worth mi n).length ≤ 100000 := worth_few hmi n
        have dput : DGet H2 ev (.str n) o := hgo _ k2
        cases g with
        | no =>
          refine ⟨_, rfl, rfl, _, rfl, if_t (by decide) ⟨_, rfl, _, rfl, ev, rfl, hev2.isD, _, rfl, o, dput, acc, worth mi n, rfl, hown, by rw [sizeLine_eq]; omega, ?_⟩⟩
          exact ⟨_, _, _, _, _, _, _, mi, li, _, rfl, k12, hev2, hse2, er, hmi, by omega, by rw [app_len]; omega⟩
        | op hd' kd =>
          have hway : way mi n (.op hd' kd) = if kd = .plus then (if lacks mi n hd' = true then .nothing else .deep) else (if lacks mi n hd' = true then .deep else .own) := rfl
          have fst : ∀ b : Bool, lacks mi n hd' = b → lacks mi n (Sg.op hd' kd).hard = b := fun _ e => e
          have hkk : (Sg.op hd' kd).kind = kd.str := rfl
          have ne0 : decide (V.str (Sg.op hd' kd).str = V.str "") = false := by cases kd <;> cases hd' <;> decide
          refine ⟨_, rfl, rfl, _, rfl, if_f ne0 ⟨_, rfl, 1, rfl, -1, rfl, (Sg.op hd' kd).str, rfl, sg_small _, rfl, _, rfl, ?_⟩⟩
          rw [kind_cut]
          by_cases hk : kd = .plus
          · subst hk
            rw [if_pos rfl] at hway
            have np : (!decide (V.str (Sg.op hd' .plus).kind = V.str "+")) = false := by cases hd' <;> decide
            refine if_f np (if_f rfl ⟨_, rfl, 1, rfl, -1, rfl, (Sg.op hd' .plus).str, rfl, sg_small _, rfl, _, rfl, ?_⟩)
            rw [kind_cut]
            refine if_f np ⟨_, rfl, _, rfl, ?_⟩
            cases hlk : lacks mi n hd' with
            | true =>
              rw [hlk, if_pos rfl] at hway
              rw [hway] at er
              refine if_f (by rw [fst _ hlk]; rfl) ?_
              exact ⟨_, _, _, _, _, _, _, mi, li, acc, rfl, k12, hev2, hse2, er, hmi, by omega, by omega⟩
            | false =>
              rw [hlk, if_neg Bool.false_ne_true] at hway
              rw [hway] at er
              refine if_t (by rw [fst _ hlk]; rfl) ?_
              obtain ⟨f1, f2, f3⟩ := lw_few u mi li e0 hmi
              refine ⟨_, rfl, _, rfl, _, rfl, l', rfl, ev, c', se, u, mi, li, NS, rfl, hev2, hc'.kp k2, hse2, wf', by omega, huNS, hNS, hmi, by omega, fun p1 H3 k3 hev3 hse3 hp1 => ?_⟩
              have k13 := k12.trans k3
              generalize lw u mi li e0 = r at er f1 f2 f3 hev3 hse3 hp1
              refine ⟨p1, _, rfl, hp1, rfl, _, _, rfl, _, _, rfl, rfl, ?_⟩
              have er : (if (r.over || (Sg.op hd' .plus).isK .ask) = true then (⟨true, r.m, r.se, r.w⟩ : LR) else lw (t.drop (i + 1)) (r.m.putIf ((Sg.op hd' .plus).isK .eq) n r.w) r.se (acc ++ r.w)) = lw t m l e0 := er
              have fin : (r.over || (Sg.op hd' .plus).isK .ask) = true → [V.str r.w, V.bl true].length ≤ sizeLine ∧ ∀ p, H3 p = none → Q (.ref p) (upd H3 p (.tup [.str r.w, .bl true])) := fun e => by
                rw [if_pos e] at er
                rw [← er] at q
                refine ⟨sz2, fun p hp => ?_⟩
                have k4 := (Kp.nil H3).new (.tup [.str r.w, .bl true]) hp
                exact q p _ (k13.t0 k4) (hev3.kp k4 (fun z => nomatch z) fun v s h => h) (k4.keep se _ (fun z => nomatch z) hse3) (.inl (.inl upd_same))
              refine ⟨_, rfl, _, rfl, ?_⟩
              cases hov : r.over with
              | true => exact if_t rfl ⟨_, rfl, fin (by rw [hov]; rfl)⟩
              | false =>
                have ask : decide (V.str (Sg.op hd' .plus).kind = V.str "?") = (Sg.op hd' .plus).isK .ask := by cases hd' <;> decide
                refine if_f rfl ⟨_, rfl, 1, rfl, -1, rfl, (Sg.op hd' .plus).str, rfl, sg_small _, rfl, _, rfl, ?_⟩
                rw [kind_cut, ask]
                cases hask : (Sg.op hd' .plus).isK .ask with
                | true => exact if_t rfl ⟨_, rfl, fin (by rw [hask, Bool.or_true])⟩
                | false =>
                  rw [hov, hask, if_neg (by decide)] at er
                  have eqq : decide (V.str (Sg.op hd' .plus).kind = V.str "=") = (Sg.op hd' .plus).isK .eq := by cases hd' <;> decide
                  refine if_f rfl ⟨_, rfl, 1, rfl, -1, rfl, (Sg.op hd' .plus).str, rfl, sg_small _, rfl, _, rfl, ?_⟩
                  rw [kind_cut, eqq]
                  cases heq : (Sg.op hd' .plus).isK .eq with
                  | false =>
                    rw [heq] at er
                    have er : lw (t.drop (i + 1)) r.m r.se (acc ++ r.w) = lw t m l e0 := er
                    refine if_f rfl ⟨_, rfl, _, rfl, acc, r.w, rfl, rfl, by rw [sizeLine_eq]; omega, ?_⟩
                    exact ⟨_, _, _, _, _, _, _, r.m, r.se, _, rfl, k13, hev3, hse3, er, f1, by omega, by rw [app_len]; omega⟩
                  | true =>
                    rw [heq] at er
                    have er : lw (t.drop (i + 1)) (r.m.put n r.w) r.se (acc ++ r.w) = lw t m l e0 := er
                    obtain ⟨kvs4, e4, _⟩ := id hev3
                    obtain ⟨H5, hput, hd5, o5, eo5, mo5⟩ := hev3.put (v := .str r.w) (s := r.w) hnNS (by rw [sizeLine_eq]; omega) rfl fun o v s mo h => h
                    have k5 : Kp [ev] H3 H5 := by rw [eo5]; exact Kp.wr1 e4 trivial mo5
                    refine if_t rfl ⟨_, rfl, _, rfl, _, rfl, ev, H5, rfl, hput, ?_⟩
                    refine ⟨_, rfl, _, rfl, acc, r.w, rfl, rfl, by rw [sizeLine_eq]; omega, ?_⟩
                    exact ⟨_, _, _, _, _, _, _, r.m.put n r.w, r.se, _, rfl, k13.call k5 (fun d hd => .inl (by rw [List.mem_singleton.mp hd]; simp)), hd5, k5.keep se _ (fun z => hne (List.mem_singleton.mp z).symm) hse3, er, f1.put f2, by omega, by rw [app_len]; omega⟩
          · rw [if_neg hk] at hway
            have np : (!decide (V.str (Sg.op hd' kd).kind = V.str "+")) = true := by cases kd <;> first | exact absurd rfl hk | (cases hd' <;> decide)
            refine if_t np ⟨_, rfl, _, rfl, ?_⟩
            cases hlk : lacks mi n hd' with
            | false =>
              rw [hlk, if_neg Bool.false_ne_true] at hway
              refine if_t (by rw [fst _ hlk]; rfl) ⟨_, rfl, _, rfl, ev, rfl, hev2.isD, _, rfl, o, dput, acc, worth mi n, rfl, hown, by rw [sizeLine_eq]; omega, ?_⟩
              rw [hway] at er
              exact ⟨_, _, _, _, _, _, _, mi, li, _, rfl, k12, hev2, hse2, er, hmi, by omega, by rw [app_len]; omega⟩
            | true =>
              rw [hlk, if_pos rfl] at hway
              rw [hway] at er
              refine if_f (by rw [fst _ hlk]; rfl) ⟨_, rfl, 1, rfl, -1, rfl, (Sg.op hd' kd).str, rfl, sg_small _, rfl, _, rfl, ?_⟩
              rw [kind_cut]
              refine if_t np ?_
              obtain ⟨f1, f2, f3⟩ := lw_few u mi li e0 hmi
              refine ⟨_, rfl, _, rfl, _, rfl, l', rfl, ev, c', se, u, mi, li, NS, rfl, hev2, hc'.kp k2, hse2, wf', by omega, huNS, hNS, hmi, by omega, fun p1 H3 k3 hev3 hse3 hp1 => ?_⟩
              have k13 := k12.trans k3
              generalize lw u mi li e0 = r at er f1 f2 f3 hev3 hse3 hp1
              refine ⟨p1, _, rfl, hp1, rfl, _, _, rfl, _, _, rfl, rfl, ?_⟩
              have er : (if (r.over || (Sg.op hd' kd).isK .ask) = true then (⟨true, r.m, r.se, r.w⟩ : LR) else lw (t.drop (i + 1)) (r.m.putIf ((Sg.op hd' kd).isK .eq) n r.w) r.se (acc ++ r.w)) = lw t m l e0 := er
              have fin : (r.over || (Sg.op hd' kd).isK .ask) = true → [V.str r.w, V.bl true].length ≤ sizeLine ∧ ∀ p, H3 p = none → Q (.ref p) (upd H3 p (.tup [.str r.w, .bl true])) := fun e => by
                rw [if_pos e] at er
                rw [← er] at q
                refine ⟨sz2, fun p hp => ?_⟩
                have k4 := (Kp.nil H3).new (.tup [.str r.w, .bl true]) hp
                exact q p _ (k13.t0 k4) (hev3.kp k4 (fun z => nomatch z) fun v s h => h) (k4.keep se _ (fun z => nomatch z) hse3) (.inl (.inl upd_same))
              refine ⟨_, rfl, _, rfl, ?_⟩
              cases hov : r.over with
              | true => exact if_t rfl ⟨_, rfl, fin (by rw [hov]; rfl)⟩
              | false =>
                have ask : decide (V.str (Sg.op hd' kd).kind = V.str "?") = (Sg.op hd' kd).isK .ask := by cases kd <;> cases hd' <;> decide
                refine if_f rfl ⟨_, rfl, 1, rfl, -1, rfl, (Sg.op hd' kd).str, rfl, sg_small _, rfl, _, rfl, ?_⟩
                rw [kind_cut, ask]
                cases hask : (Sg.op hd' kd).isK .ask with
                | true => exact if_t rfl ⟨_, rfl, fin (by rw [hask, Bool.or_true])⟩
                | false =>
                  rw [hov, hask, if_neg (by decide)] at er
                  have eqq : decide (V.str (Sg.op hd' kd).kind = V.str "=") = (Sg.op hd' kd).isK .eq := by cases kd <;> cases hd' <;> decide
                  refine if_f rfl ⟨_, rfl, 1, rfl, -1, rfl, (Sg.op hd' kd).str, rfl, sg_small _, rfl, _, rfl, ?_⟩
                  rw [kind_cut, eqq]
                  cases heq : (Sg.op hd' kd).isK .eq with
                  | false =>
                    rw [heq] at er
                    have er : lw (t.drop (i + 1)) r.m r.se (acc ++ r.w) = lw t m l e0 := er
                    refine if_f rfl ⟨_, rfl, _, rfl, acc, r.w, rfl, rfl, by rw [sizeLine_eq]; omega, ?_⟩
                    exact ⟨_, _, _, _, _, _, _, r.m, r.se, _, rfl, k13, hev3, hse3, er, f1, by omega, by rw [app_len]; omega⟩
                  | true =>
                    rw [heq] at er
                    have er : lw (t.drop (i + 1)) (r.m.put n r.w) r.se (acc ++ r.w) = lw t m l e0 := er
                    obtain ⟨kvs4, e4, _⟩ := id hev3
                    obtain ⟨H5, hput, hd5, o5, eo5, mo5⟩ := hev3.put (v := .str r.w) (s := r.w) hnNS (by rw [sizeLine_eq]; omega) rfl fun o v s mo h => h
                    have k5 : Kp [ev] H3 H5 := by rw [eo5]; exact Kp.wr1 e4 trivial mo5
                    refine if_t rfl ⟨_, rfl, _, rfl, _, rfl, ev, H5, rfl, hput, ?_⟩
                    refine ⟨_, rfl, _, rfl, acc, r.w, rfl, rfl, by rw [sizeLine_eq]; omega, ?_⟩
                    exact ⟨_, _, _, _, _, _, _, r.m.put n r.w, r.se, _, rfl, k13.call k5 (fun d hd => .inl (by rw [List.mem_singleton.mp hd]; simp)), hd5, k5.keep se _ (fun z => hne (List.mem_singleton.mp z).symm) hse3, er, f1.put f2, by omega, by rw [app_len]; omega⟩
    · rintro σ H1 ⟨u1, u2, u3, u4, u5, u6, u7, mi, li, acc, rfl, k1, hev1, hse1, er, hmi, hli, hacc⟩
      rw [hxl, drop_len] at er
      have er : (⟨false, mi, li ++ [acc.length], cut acc⟩ : LR) = lw t m l e0 := er
      have hacc : acc.length ≤ 800000 := by omega
      rw [← er] at q
      have hse1 : H1 se = some (.lst (li.map fun n : Nat => V.int (n : Int))) := hse1
      refine ⟨_, rfl, .inl ⟨rfl, _, .inl (.inl hse1)⟩, _, rfl, acc, rfl, by rw [sizeLine_eq]; omega, se, _, _, rfl, rfl, hse1, by rw [List.length_map, sizeLine_eq]; omega, ?_⟩
      have kF : Kp [se] H1 (upd H1 se (.lst ((li.map fun n : Nat => V.int (n : Int)) ++ [.int (acc.length : Nat)]))) := Kp.wr1 hse1 trivial trivial
      have k2 := k1.put (d := se) (o := .lst ((li.map fun n : Nat => V.int (n : Int)) ++ [.int (acc.length : Nat)])) (by simp) trivial
      refine ⟨_, rfl, 100000, rfl, acc, rfl, by rw [sizeLine_eq]; omega, sz2, fun p hp => ?_⟩
      rw [cut_is]
      have k3 := (Kp.nil (upd H1 se (.lst ((li.map fun n : Nat => V.int (n : Int)) ++ [.int (acc.length : Nat)])))).new (.tup [.str (cut acc), .bl false]) hp
      refine q p _ (k2.t0 k3) ?_ ?_ (.inl (.inl upd_same))
      · exact (hev1.kp kF (fun z => hne (List.mem_singleton.mp z)) fun v s h => h).kp k3 (fun z => nomatch z) fun v s h => h
      · refine k3.keep se _ (fun z => nomatch z) ?_
        rw [upd_same, List.map_append]; rfl
end
end EV
end

section
set_option Elab.async false
set_option linter.all false
set_option maxRecDepth 100000
set_option maxHeartbeats 4000000
/-! bodies of the law: rows run with their lengths, the worlds, is a file too long -/
namespace EV
open PySem PySem.Spec PyProof.Rows L2
section
variable {P : Program} {w : World} {K : PySem.W.Frag} {mg : Str → Option Value} {base : Heap}
theorem ok_lw_all (T : Top K mg) : ∀ l : Nat, FnOk P w K mg base CX0 (2 + l) T.a_law_worked T.d_law_worked ["env", "text", "seen"] (spLW K l)
  | 0 => ok_lw_of T 0 (ok_none_X fun _ _ _ _ ⟨_, e, _⟩ => nomatch e)
  | l + 1 => (ok_lw_of T (l + 1) (((ok_lw_all T l).imp fun vs H Q E ⟨l', e, h⟩ => by cases e; exact h).mono (by omega))).mono (by omega)
theorem ok_law_worked (T : Top K mg) : FnOk P w K mg base CX0 7 T.a_law_worked T.d_law_worked ["env", "text", "seen"] (spLW K 5) := ok_lw_all T 5
/-- a world as a map -/
theorem env_get : ∀ {c : Case} (n : Str), (c.map (·.1)).Nodup → valV (kvsOf (envOf c)) (.inr n) = (mpOf c n).map V.str
  | [], n, _ => rfl
  | (k, o) :: c, n, nd => by
    rw [List.map_cons, List.nodup_cons] at nd
    have ih := env_get (c := c) n nd.2
    have em : mpOf ((k, o) :: c) n = if k = n then o else mpOf c n := by
      unfold mpOf
      rw [List.find?_cons]
      by_cases h : k = n
      · rw [if_pos h, decide_eq_true h]; rfl
      · rw [if_neg h, decide_eq_false h]
    rw [em]
    cases o with
    | none =>
      show valV (kvsOf (envOf c)) (.inr n) = _
      rw [ih]
      by_cases h : k = n
      · rw [if_pos h]
        have : mpOf c n = none := by
          unfold mpOf
          rw [List.find?_eq_none.mpr fun p hp z => nd.1 (by rw [h]; exact List.mem_map.mpr ⟨p, hp, of_decide_eq_true z⟩)]
          rfl
        rw [this]
      · rw [if_neg h]
    | some s =>
      show valV ((.inr k, .str s) :: kvsOf (envOf c)) (.inr n) = _
      unfold valV
      rw [List.find?_cons]
      by_cases h : k = n
      · rw [if_pos h]
        have : decide ((Sum.inr k : Key) = Sum.inr n) = true := decide_eq_true (by rw [h])
        rw [this]; rfl
      · rw [if_neg h]
        have : decide ((Sum.inr k : Key) = Sum.inr n) = false := decide_eq_false fun z => h (Sum.inr.inj z)
        rw [this]
        exact ih
theorem env_dc {NS : List Str} {H : Hp} {d : Addr} {c : Case} (nd : (c.map (·.1)).Nodup) (hNS : ∀ p ∈ c, p.1 ∈ NS) (h : EnvAt H d (envOf c)) : DcAt SV NS H d (mpOf c) := by
  refine ⟨_, h, ⟨?_, fun p hp => ?_⟩, fun n => ?_⟩
  · unfold kvsOf
    rw [List.map_map]
    have e : ((fun p : Key × V => p.1) ∘ fun q : Str × Str => (Sum.inr q.1, V.str q.2)) = (Sum.inr ∘ fun q : Str × Str => q.1 : Str × Str → Key) := rfl
    rw [e, ← List.map_map]
    have := nd.sublist (envOf_names c)
    exact List.Pairwise.map _ (fun a b h z => h (Sum.inr.inj z)) this
  · unfold kvsOf at hp
    obtain ⟨q, hq, rfl⟩ := List.mem_map.mp hp
    exact ⟨q.1, hNS _ (env_sub c q hq), rfl⟩
  · rw [env_get n nd]
    cases mpOf c n with
    | none => trivial
    | some s => exact rfl
def spSeen (K : PySem.W.Frag) : Sp := fun vs H Q _ => ∃ (ev a se : Addr) (c : Case) (F : File) (l : List Nat) (NS : List Str), vs = [.ref ev, .ref a, .ref se] ∧ EnvAt H ev (envOf c) ∧ CaseOk c ∧ (∀ p ∈ c, p.1 ∈ NS) ∧ FileAt K H a F ∧ GoodFile F ∧ (∀ x ∈ rawNames F, x ∈ NS) ∧ NS.length ≤ 60 ∧
  SeAt H se l ∧ l.length ≤ 1000 ∧ ∀ v H', Kp [se] H H' → SeAt H' se (lwRows F (mpOf c) l) → Q v H'
theorem few_more {m : Mp} (h : m.few 400) : m.few 100000 := fun n s e => Nat.le_trans (h n s e) (by omega)
theorem row_last {H : Hp} {b : Addr} {r : Row} (h : RowAt K H b r) (hd : ∀ n, r ≠ .drop n) : ∃ ys c, SqT K H b ys ∧ atI ys (-1) = some (.ref c) ∧ TextAt K H c r.text := by
  cases r with
  | set n t => obtain ⟨c, h1, h2⟩ := h; exact ⟨_, c, h1, atI_last [_, _] _, h2⟩
  | give n t => obtain ⟨c, h1, h2⟩ := h; exact ⟨_, c, h1, atI_last [_, _] _, h2⟩
  | drop n => exact absurd rfl (hd n)
  | check t => obtain ⟨c, h1, h2⟩ := h; exact ⟨_, c, h1, atI_last [_] _, h2⟩
theorem ok_law_run_seen (T : Top K mg) : FnOk P w K mg base CX0 8 T.a_law_run_seen T.d_law_run_seen ["env", "rows", "seen"] (spSeen K) := by
  refine T.F_law_run_seen.ok sc_law_run_seen (fun vs H Q E h => ?_) (fun cdv A outer s H vs Q E hr h => ?_)
  · obtain ⟨ev, a, se, _, _, _, _, rfl, _⟩ := h
    rfl
  · obtain ⟨ev, a, se, c, F, l, NS, rfl, hev, hok, hcn, ⟨as, hq, hF⟩, ⟨hF40, hg, hfew, h6⟩, hraw, hNS, hse, hl, q⟩ := h
    refine ⟨_, PSs.nox (pss_cons (ps_set (i := 0) sc_law_run_seen.nd rfl (.inl rfl) (pe_callTy cr_dict1 rfl T.n_dict bt_dict (pa_cons (pv 0) pa_nil))) (pss_cons (ps_for PassesOwn.never rfl (pi_tup (pv 1)) (pg_name (i := 3) sc_law_run_seen.nd rfl (.inl rfl)) (pss_one (ps_if (pt_cmpR (op_eq) (pe_ix (r := rIxT K) ix_tup (pv 3) pe_int (fun _ _ => rfl)) pe_str (nomark _)) (pss_one (ps_expr (pe_dpop2 (pv 0) (pe_ix (r := rIxT K) ix_tup (pv 3) pe_int (fun _ _ => rfl)) pe_non ⟨rfl, rfl, rfl, rfl⟩))) (pss_one (ps_if (PW.pt (pw_or (pt_cmpR (op_ne) (pe_ix (r := rIxT K) ix_tup (pv 3) pe_int (fun _ _ => rfl)) pe_str (nomark _)) (pw_or1 (pt_cmp (pc_dnotin (rm_cl hr (by decide)) (pe_ix (r := rIxT K) ix_tup (pv 3) pe_int (fun _ _ => rfl)) (pv 0)) rfl)))) (pss_cons (ps_asg (pe_call (ok_law_worked T) (hr.mono (by omega)) rfl T.g_law_worked T.F_law_worked.kp (b_law_worked T) .nil pass0 (pa_cons (pv 0) (pa_cons (pe_ix (r := rIxT K) ix_tup (pv 3) (pe_un un_neg pe_int) (fun _ _ => rfl)) (pa_cons (pv 2) pa_nil)))) (pg_tup rfl (pgs_cons (pg_name (i := 4) sc_law_run_seen.nd rfl (.inl rfl)) (pgs_cons (pg_name (i := 5) sc_law_run_seen.nd rfl (.inl rfl)) pgs_nil)))) (pss_cons (ps_if (pt_val (pv 5)) (pss_one (ps_ret (pe_tup (pa_cons pe_str (pa_cons (pv 4) pa_nil))))) pss_nil) (pss_one (ps_if (pt_cmpR (op_ne) (pe_ix (r := rIxT K) ix_tup (pv 3) pe_int (fun _ _ => rfl)) pe_str (nomark _)) (pss_one (ps_dput (rm_cl hr (by decide)) (pv 0) (pe_ix (r := rIxT K) ix_tup (pv 3) pe_int (fun _ _ => rfl)) (pv 4) rfl)) pss_nil)))) pss_nil))))) (pss_one (ps_ret (pe_tup (pa_cons pe_str (pa_cons (pv 0) pa_nil))))))), ?_⟩
    refine ⟨_, rfl, ev, _, rfl, .inl hev, fun d hd => ?_⟩
    have hse0 : H se = _ := hse
    have kr : Kp [se] H H := Kp.refl fun x hx => by rw [List.mem_singleton.mp hx, hse0]; trivial
    have k0 := kr.new (.dK (kvsOf (envOf c))) hd
    have k00 := (Kp.nil H).new (.dK (kvsOf (envOf c))) hd
    have hdc : DcAt SV NS (upd H d (.dK (kvsOf (envOf c)))) d (mpOf c) := env_dc hok.1 hcn upd_same
    have nds : se ≠ d := ne_of_none hse0 hd
    have hnl := names_le F
    refine ⟨_, rfl, a, rfl, ⟨_, k0.sqt hq⟩, for_it walk_tup (fun i σ H' => ∃ (u1 u2 u3 : Option V) (mi : Mp) (li : List Nat), σ = [some (.ref d), some (.ref a), some (.ref se), u1, u2, u3] ∧ Kp [se] H H' ∧ DcAt SV NS H' d mi ∧ SeAt H' se li ∧ lwRows (F.drop i) mi li = lwRows F (mpOf c) l ∧ mi.few 100000 ∧
        li.length + (F.drop i).length + ((F.drop i).flatMap fun r => r.text.names).length ≤ 1000 + F.length + (F.flatMap fun r => r.text.names).length)
      ⟨none, none, none, mpOf c, l, rfl, k0, hdc, k00.keep se _ (fun z => nomatch z) hse0, rfl, few_more (case_few hok), by show l.length + F.length + _ ≤ _; rw [List.drop_zero]; omega⟩ (fun i σ H' _ ⟨_, _, _, _, _, _, k, _⟩ => k.sqt hq) ?_ ?_⟩
    · rintro i x σ H1 H1' hi ⟨u1, u2, u3, mi, li, rfl, k1, hd1, hse1, er, hmi, hli⟩ ⟨rfl, hx⟩
      obtain ⟨b, r, eb, hri, hb⟩ := file_row hF hx
      subst eb
      have hb := hb.kp k1
      have hmem := List.mem_of_getElem? hri
      obtain ⟨n1, n2⟩ := raw_row hmem
      have hrow := hg r hmem
      obtain ⟨wf, _⟩ := Bool.and_eq_true_iff.mp hrow
      rw [drop_cons hri] at er hli
      rw [List.flatMap_cons, List.length_append, List.length_cons] at hli
      have er : (if r.works mi = true then (if (lw r.text mi li e0).over = true then (lw r.text mi li e0).se else lwRows (F.drop (i + 1)) (r.store (lw r.text mi li e0).m (lw r.text mi li e0).w) (lw r.text mi li e0).se) else lwRows (F.drop (i + 1)) (r.pass mi) li) = lwRows F (mpOf c) l := er
      obtain ⟨ys, hy, h0, h1⟩ := row_parts hb
      have kk : Kp [d, se] H1' H1' := lw_refl hd1 hse1
      have wrk : (∀ n, r ≠ .drop n) → r.works mi = true → True := fun _ _ => trivial
      refine ⟨_, rfl, b, ys, 0, _, rfl, rfl, hy, h0, rfl, _, rfl, ?_⟩
      cases r with
      | drop n =>
        refine if_t (by show decide (V.str "drop" = V.str "drop") = true; decide) ?_
        have er : lwRows (F.drop (i + 1)) (mi.del n) li = lwRows F (mpOf c) l := er
        obtain ⟨kvs, e, h4, h5⟩ := hd1.del n fun o v s mo h => h
        refine ⟨_, rfl, d, rfl, hd1.isD, _, rfl, b, ys, 1, _, rfl, rfl, hy, h1 n rfl, kvs, .inr n, e, rfl, fun v _ => ?_, fun z => ?_⟩
        · have kd : Kp [d] H1' (upd H1' d (.dK (dropK kvs (.inr n)))) := Kp.wr1 e trivial trivial
          exact ⟨_, _, _, mi.del n, li, rfl, k1.own hd, h4, kd.keep se _ (fun z => nds (List.mem_singleton.mp z)) hse1, er, hmi.del, by omega⟩
        · exact ⟨_, _, _, mi.del n, li, rfl, k1, h5 z, hse1, er, hmi.del, by omega⟩
      | set n t =>
        refine if_f (by show decide (V.str "set" = V.str "drop") = false; decide) ?_
        refine ⟨_, rfl, b, ys, 0, _, rfl, rfl, hy, h0, rfl, _, rfl, if_t (by show (!decide (V.str "set" = V.str "give")) = true; decide) ?_⟩
        have er : (if (lw t mi li e0).over = true then (lw t mi li e0).se else lwRows (F.drop (i + 1)) ((lw t mi li e0).m.put n (lw t mi li e0).w) (lw t mi li e0).se) = lwRows F (mpOf c) l := er
        obtain ⟨f1, f2, f3⟩ := lw_few t mi li e0 hmi
        obtain ⟨ys2, c2, hy2, hat2, hc2⟩ := row_last hb (fun n z => nomatch z)
        have hlt : (Row.text (.set n t)).names.length = t.names.length := rfl
        refine ⟨_, rfl, _, rfl, 1, rfl, b, ys2, -1, _, rfl, rfl, hy2, hat2, _, rfl, d, c2, se, t, mi, li, NS, rfl, hd1, hc2, hse1, wf, by omega, fun y hy => hraw y (n2 y hy), by omega, hmi, by omega, fun p1 H2 k2 hd2 hse2 hp1 => ?_⟩
        generalize lw t mi li e0 = r at er f1 f2 f3 hd2 hse2 hp1
        have k12 : Kp [se] H H2 := k1.call k2 fun x hx => by
          rcases List.mem_cons.mp hx with e | hx
          · rw [e]; exact .inr hd
          · exact .inl hx
        refine ⟨p1, _, rfl, hp1, rfl, _, _, rfl, _, _, rfl, rfl, _, rfl, _, rfl, ?_⟩
        cases hov : r.over with
        | true =>
          rw [hov, if_pos rfl] at er
          rw [← er] at q
          refine if_t rfl ⟨_, rfl, sz2, fun p hp => ?_⟩
          have k3 := (Kp.nil H2).new (.tup [.str "stopped", .str r.w]) hp
          exact q _ _ (k12.t0 k3) (k3.keep se _ (fun z => nomatch z) hse2)
        | false =>
          rw [hov, if_neg Bool.false_ne_true] at er
          refine if_f rfl ⟨_, rfl, b, ys, 0, _, rfl, rfl, k2.sqt hy, h0, rfl, _, rfl, ?_⟩
          obtain ⟨kvs4, e4, _⟩ := id hd2
          obtain ⟨H5, hput, hd5, o5, eo5, mo5⟩ := hd2.put (v := .str r.w) (s := r.w) (hraw n (n1 n (List.mem_singleton.mpr rfl))) (by rw [sizeLine_eq]; omega) rfl fun o v s mo h => h
          have k5 : Kp [d] H2 H5 := by rw [eo5]; exact Kp.wr1 e4 trivial mo5
          refine if_t (by show (!decide (V.str "set" = V.str "check")) = true; decide) ⟨_, rfl, _, rfl, _, rfl, b, ys, 1, _, rfl, rfl, k2.sqt hy, h1 n rfl, d, H5, rfl, hput, ?_⟩
          exact ⟨_, _, _, r.m.put n r.w, r.se, rfl, k12.call k5 (fun x hx => .inr (by rw [List.mem_singleton.mp hx]; exact hd)), hd5, k5.keep se _ (fun z => nds (List.mem_singleton.mp z)) hse2, er, f1.put f2, by omega⟩
      | check t =>
        refine if_f (by show decide (V.str "check" = V.str "drop") = false; decide) ?_
        refine ⟨_, rfl, b, ys, 0, _, rfl, rfl, hy, h0, rfl, _, rfl, if_t (by show (!decide (V.str "check" = V.str "give")) = true; decide) ?_⟩
        have er : (if (lw t mi li e0).over = true then (lw t mi li e0).se else lwRows (F.drop (i + 1)) (lw t mi li e0).m (lw t mi li e0).se) = lwRows F (mpOf c) l := er
        obtain ⟨f1, f2, f3⟩ := lw_few t mi li e0 hmi
        obtain ⟨ys2, c2, hy2, hat2, hc2⟩ := row_last hb (fun n z => nomatch z)
        have hlt : (Row.text (.check t)).names.length = t.names.length := rfl
        refine ⟨_, rfl, _, rfl, 1, rfl, b, ys2, -1, _, rfl, rfl, hy2, hat2, _, rfl, d, c2, se, t, mi, li, NS, rfl, hd1, hc2, hse1, wf, by omega, fun y hy => hraw y (n2 y hy), by omega, hmi, by omega, fun p1 H2 k2 hd2 hse2 hp1 => ?_⟩
        generalize lw t mi li e0 = r at er f1 f2 f3 hd2 hse2 hp1
        have k12 : Kp [se] H H2 := k1.call k2 fun x hx => by
          rcases List.mem_cons.mp hx with e | hx
          · rw [e]; exact .inr hd
          · exact .inl hx
        refine ⟨p1, _, rfl, hp1, rfl, _, _, rfl, _, _, rfl, rfl, _, rfl, _, rfl, ?_⟩
        cases hov : r.over with
        | true =>
          rw [hov, if_pos rfl] at er
          rw [← er] at q
          refine if_t rfl ⟨_, rfl, sz2, fun p hp => ?_⟩
          have k3 := (Kp.nil H2).new (.tup [.str "stopped", .str r.w]) hp
          exact q _ _ (k12.t0 k3) (k3.keep se _ (fun z => nomatch z) hse2)
        | false =>
          rw [hov, if_neg Bool.false_ne_true] at er
          refine if_f rfl ⟨_, rfl, b, ys, 0, _, rfl, rfl, k2.sqt hy, h0, rfl, _, rfl, ?_⟩
          refine if_f (by show (!decide (V.str "check" = V.str "check")) = false; decide) ?_
          exact ⟨_, _, _, r.m, r.se, rfl, k12, hd2, hse2, er, f1, by omega⟩
      | give n t =>
        refine if_f (by show decide (V.str "give" = V.str "drop") = false; decide) ?_
        obtain ⟨o, hgo, ho⟩ := hd1.look n
        refine ⟨_, rfl, b, ys, 0, _, rfl, rfl, hy, h0, rfl, _, rfl, if_f (by show (!decide (V.str "give" = V.str "give")) = false; decide) ⟨_, rfl, b, ys, 1, _, rfl, rfl, hy, h1 n rfl, _, rfl, d, o, rfl, hgo _ (Kp.nil _), _, rfl, ?_⟩⟩
        have er : (if (mi n).isNone = true then (if (lw t mi li e0).over = true then (lw t mi li e0).se else lwRows (F.drop (i + 1)) ((lw t mi li e0).m.put n (lw t mi li e0).w) (lw t mi li e0).se) else lwRows (F.drop (i + 1)) mi li) = lwRows F (mpOf c) l := er
        rcases ho with ⟨e1, e2⟩ | ⟨v, s, e1, e2, e3⟩
        · subst e1
          rw [e2, if_pos (show (none : Option Str).isNone = true from rfl)] at er
          refine if_t rfl ?_
          obtain ⟨f1, f2, f3⟩ := lw_few t mi li e0 hmi
          obtain ⟨ys2, c2, hy2, hat2, hc2⟩ := row_last hb (fun n z => nomatch z)
          have hlt : (Row.text (.give n t)).names.length = t.names.length := rfl
          refine ⟨_, rfl, _, rfl, 1, rfl, b, ys2, -1, _, rfl, rfl, hy2, hat2, _, rfl, d, c2, se, t, mi, li, NS, rfl, hd1, hc2, hse1, wf, by omega, fun y hy => hraw y (n2 y hy), by omega, hmi, by omega, fun p1 H2 k2 hd2 hse2 hp1 => ?_⟩
          generalize lw t mi li e0 = r at er f1 f2 f3 hd2 hse2 hp1
          have k12 : Kp [se] H H2 := k1.call k2 fun x hx => by
            rcases List.mem_cons.mp hx with e | hx
            · rw [e]; exact .inr hd
            · exact .inl hx
          refine ⟨p1, _, rfl, hp1, rfl, _, _, rfl, _, _, rfl, rfl, _, rfl, _, rfl, ?_⟩
          cases hov : r.over with
          | true =>
            rw [hov, if_pos rfl] at er
            rw [← er] at q
            refine if_t rfl ⟨_, rfl, sz2, fun p hp => ?_⟩
            have k3 := (Kp.nil H2).new (.tup [.str "stopped", .str r.w]) hp
            exact q _ _ (k12.t0 k3) (k3.keep se _ (fun z => nomatch z) hse2)
          | false =>
            rw [hov, if_neg Bool.false_ne_true] at er
            refine if_f rfl ⟨_, rfl, b, ys, 0, _, rfl, rfl, k2.sqt hy, h0, rfl, _, rfl, ?_⟩
            obtain ⟨kvs4, e4, _⟩ := id hd2
            obtain ⟨H5, hput, hd5, o5, eo5, mo5⟩ := hd2.put (v := .str r.w) (s := r.w) (hraw n (n1 n (List.mem_singleton.mpr rfl))) (by rw [sizeLine_eq]; omega) rfl fun o v s mo h => h
            have k5 : Kp [d] H2 H5 := by rw [eo5]; exact Kp.wr1 e4 trivial mo5
            refine if_t (by show (!decide (V.str "give" = V.str "check")) = true; decide) ⟨_, rfl, _, rfl, _, rfl, b, ys, 1, _, rfl, rfl, k2.sqt hy, h1 n rfl, d, H5, rfl, hput, ?_⟩
            exact ⟨_, _, _, r.m.put n r.w, r.se, rfl, k12.call k5 (fun x hx => .inr (by rw [List.mem_singleton.mp hx]; exact hd)), hd5, k5.keep se _ (fun z => nds (List.mem_singleton.mp z)) hse2, er, f1.put f2, by omega⟩
        · subst e1
          rw [e2, if_neg (fun z => Bool.noConfusion z)] at er
          exact if_f rfl ⟨_, _, _, mi, li, rfl, k1, hd1, hse1, er, hmi, by omega⟩
    · rintro σ H1 ⟨u1, u2, u3, mi, li, rfl, k1, hd1, hse1, er, hmi, hli⟩
      rw [List.length_map, ← paired_len hF, List.drop_length] at er
      have er : li = lwRows F (mpOf c) l := er
      rw [← er] at q
      refine ⟨_, rfl, sz2, fun p hp => ?_⟩
      have k2 := (Kp.nil H1).new (.tup [.str "done", .ref d]) hp
      exact q _ _ (k1.t0 k2) (k2.keep se _ (fun z => nomatch z) hse1)
/-! the worlds of some names -/
def WorldAt (H : Hp) (v : V) (c : Case) : Prop := ∃ d, v = .ref d ∧ EnvAt H d (envOf c)
theorem WorldAt.kp {H H' : Hp} {v : V} {c : Case} (h : WorldAt H v c) (k : Kp [] H H') : WorldAt H' v c := let ⟨d, e, h⟩ := h; ⟨d, e, h.kp k⟩
/-- a list of ours is written -/
theorem WorldAt.wl {H : Hp} {v : V} {c : Case} {D : Addr} {xs ys : List V} (h : WorldAt H v c) (e : H D = some (.lst xs)) : WorldAt (upd H D (.lst ys)) v c := by
  obtain ⟨d, e1, h1⟩ := h
  have h1 : H d = some (.dK (kvsOf (envOf c))) := h1
  exact ⟨d, e1, by show upd H D _ d = _; rw [upd_ne (fun z => by rw [z, e] at h1; cases h1)]; exact h1⟩
def spWorlds (K : PySem.W.Frag) : Sp := fun vs H Q _ => ∃ (nl vl : Addr) (ns : List Str), vs = [.ref nl, .ref vl] ∧ H nl = some (.lst (ns.map V.str)) ∧ H vl = some (.lst [.str "", .str "a"]) ∧ NsOk ns ∧
  ∀ p xs H', Kp [] H H' → H' p = some (.lst xs) → Paired (WorldAt H') xs (cases ns) → Q (.ref p) H'
def worldStep (n : Str) (c : Case) : List Case := states.map fun s => c ++ [(n, s)]
def two : List Str := [e0, "a"]
theorem worldStep_eq (n : Str) (c : Case) : worldStep n c = (c ++ [(n, none)]) :: two.map fun z => c ++ [(n, some z)] := rfl
theorem kvs_new {c : Case} {n z : Str} (h : n ∉ c.map (·.1)) : putK (kvsOf (envOf c)) (.inr n) (.str z) = kvsOf (envOf (c ++ [(n, some z)])) := by
  rw [putK_new _ (val_none fun hm => ?_), env_snoc_some]
  · unfold kvsOf; rw [List.map_append]; rfl
  · obtain ⟨p, hp2, e⟩ := List.mem_map.mp hm
    obtain ⟨p', hp3, rfl⟩ := List.mem_map.mp hp2
    exact h (List.mem_map.mpr ⟨_, env_sub _ _ hp3, Sum.inr.inj e⟩)
theorem ok_law_worlds (T : Top K mg) : FnOk P w K mg base CX0 1 T.a_law_worlds T.d_law_worlds ["names", "values"] (spWorlds K) := by
  refine T.F_law_worlds.ok sc_law_worlds (fun vs H Q E h => ?_) (fun cdv A outer s H vs Q E hr h => ?_)
  · obtain ⟨nl, vl, _, rfl, _⟩ := h
    rfl
  · obtain ⟨nl, vl, ns, rfl, hnl, hvl, hns, q⟩ := h
    refine ⟨_, PSs.nox (pss_cons (ps_set (i := 2) sc_law_worlds.nd rfl (.inl rfl) (pe_lst (pa_cons pe_dnewK pa_nil))) (pss_cons (ps_for PassesOwn.never rfl (pi_list (pv 0)) (pg_name (i := 3) sc_law_worlds.nd rfl (.inl rfl)) (pss_cons (ps_set (i := 4) sc_law_worlds.nd rfl (.inl rfl) (pe_lst pa_nil)) (pss_cons (ps_for PassesOwn.never rfl (pi_list (pv 2)) (pg_name (i := 5) sc_law_worlds.nd rfl (.inl rfl)) (pss_cons (ps_expr (pe_bm PySem.F.plainAttrs_list PySem.F.slot_list_append PySem.F.type_list_append mt_append (pv 4) (pa_cons (pv 5) pa_nil))) (pss_one (ps_for PassesOwn.never rfl (pi_list (pv 1)) (pg_name (i := 6) sc_law_worlds.nd rfl (.inl rfl)) (pss_cons (ps_set (i := 7) sc_law_worlds.nd rfl (.inl rfl) (pe_callTy cr_dict1 rfl T.n_dict bt_dict (pa_cons (pv 5) pa_nil))) (pss_cons (ps_dput (rm_cl hr (by decide)) (pv 7) (pv 3) (pv 6) rfl) (pss_one (ps_expr (pe_bm PySem.F.plainAttrs_list PySem.F.slot_list_append PySem.F.type_list_append mt_append (pv 4) (pa_cons (pv 7) pa_nil)))))))))) (pss_one (ps_set (i := 2) sc_law_worlds.nd rfl (.inl rfl) (pv 4)))))) (pss_one (ps_ret (pv 2))))), ?_⟩
    have hns3 := hns.2.2.1
    have hvl : H vl = some (.lst (two.map V.str)) := hvl.trans (congrArg (fun l => some (HO.lst l)) (by decide))
    refine fun d0 hd0 => ⟨sz1, fun f0 hf0 => ?_⟩
    have k0 := ((Kp.nil H).new (.dK []) hd0).new (.lst [.ref d0]) hf0
    have e0' : (upd (upd H d0 (.dK [])) f0 (.lst [.ref d0])) d0 = some (.dK []) := by rw [upd_ne (ne_of_none upd_same hf0)]; exact upd_same
    have keep0 : ∀ {H' : Hp}, Kp [] H H' → H' nl = some (.lst (ns.map V.str)) ∧ H' vl = some (.lst (two.map V.str)) := fun k => ⟨k.keep nl _ (fun z => nomatch z) hnl, k.keep vl _ (fun z => nomatch z) hvl⟩
    refine ⟨_, rfl, nl, rfl, ⟨_, .inl (.inl (keep0 k0).1)⟩, for_it walk_list (fun i σ H' => ∃ (f : Addr) (u1 u2 u3 u4 u5 : Option V) (xs : List V) (cs : List Case), σ = [some (.ref nl), some (.ref vl), some (.ref f), u1, u2, u3, u4, u5] ∧ Kp [] H H' ∧ H f = none ∧ H' f = some (.lst xs) ∧ Paired (WorldAt H') xs cs ∧
        (ns.drop i).foldl caseStep cs = cases ns ∧ ∀ c ∈ cs, c.map (·.1) = ns.take i)
      ⟨f0, none, none, none, none, none, [.ref d0], [[]], rfl, k0, ((Kp.nil H).new (.dK []) hd0).same.free hf0, upd_same, .cons ⟨d0, rfl, e0'⟩ .nil, rfl, fun c hc => by rw [List.mem_singleton.mp hc]; rfl⟩ (fun i σ H' _ ⟨_, _, _, _, _, _, _, _, _, k, _⟩ => .inl (.inl (keep0 k).1)) ?_ ?_⟩
    · rintro i x σ H1 H1' hi ⟨f, u1, u2, u3, u4, u5, xs, cs, rfl, k1, nf, hf, hxs, ec, hcs⟩ ⟨rfl, hx⟩
      rw [List.length_map] at hi
      obtain ⟨n, hn, rfl⟩ : ∃ n, ns[i]? = some n ∧ x = .str n := by
        rw [List.getElem?_map] at hx
        cases e : ns[i]? with
        | none => rw [e] at hx; cases hx
        | some n => rw [e] at hx; exact ⟨n, rfl, (Option.some.inj hx).symm⟩
      rw [drop_cons hn] at ec
      have ec : (ns.drop (i + 1)).foldl caseStep (caseStep cs n) = cases ns := ec
      have hnew : n ∉ ns.take i := nodup_next hns.1 hn
      have few : (caseStep cs n).length ≤ 27 := by
        have e1 := congrArg List.length ec
        rw [fold_len] at e1
        have e2 : (cases ns).length = 3 ^ ns.length := by unfold cases; rw [fold_len]; simp
        have e3 : 3 ^ ns.length ≤ 3 ^ 3 := Nat.pow_le_pow_right (by decide) hns3
        have e4 : 1 ≤ 3 ^ (ns.drop (i + 1)).length := Nat.pos_of_ne_zero (by simp)
        have e5 : (caseStep cs n).length * 1 ≤ (caseStep cs n).length * 3 ^ (ns.drop (i + 1)).length := Nat.mul_le_mul_left _ e4
        omega
      refine ⟨Nat.zero_le _, fun m hm => ?_⟩
      have km := (Kp.nil H1').new (.lst []) hm
      refine ⟨_, rfl, f, rfl, ⟨_, .inl (.inl (km.keep f _ (fun z => nomatch z) hf))⟩, for_it walk_list (fun j σ H' => ∃ (u2 u3 u4 : Option V) (ys : List V) (done : List Case), σ = [some (.ref nl), some (.ref vl), some (.ref f), some (.str n), some (.ref m), u2, u3, u4] ∧ Kp [] H1' H' ∧ H' m = some (.lst ys) ∧ Paired (WorldAt H') ys done ∧ done ++ (cs.drop j).flatMap (worldStep n) = caseStep cs n)
        ⟨_, _, _, [], [], rfl, km, upd_same, .nil, rfl⟩ (fun j σ H' _ ⟨_, _, _, _, _, _, k, _⟩ => .inl (.inl (k.keep f _ (fun z => nomatch z) hf))) ?_ ?_⟩
      · rintro j y σ H2 H2' hj ⟨u2, u3, u4, ys, done, rfl, k2, hm2, hys, ed⟩ ⟨rfl, hy⟩
        obtain ⟨c, ecj, hc⟩ := paired_at hxs hy
        obtain ⟨d, rfl, hd⟩ := hc.kp k2
        rw [drop_cons ecj, List.flatMap_cons, worldStep_eq] at ed
        have hnc : n ∉ c.map (·.1) := by rw [hcs c (List.mem_of_getElem? ecj)]; exact hnew
        have hyl := Paired.length hys
        have hlen : done.length + 3 ≤ 27 := by
          have := congrArg List.length ed
          rw [List.length_append, List.length_append, List.length_cons, List.length_map] at this
          have : two.length = 2 := rfl
          omega
        refine ⟨_, rfl, .inl ⟨rfl, _, .inl (.inl hm2)⟩, _, rfl, m, ys, _, rfl, rfl, hm2, by rw [hyl, sizeLine_eq]; omega, ?_⟩
        have k3 : Kp [] H1' (upd H2' m (.lst (ys ++ [.ref d]))) := k2.own hm
        have hd3 : WorldAt (upd H2' m (.lst (ys ++ [.ref d]))) (.ref d) c := WorldAt.wl ⟨d, rfl, hd⟩ hm2
        have hw3 : WorldAt (upd H2' m (.lst (ys ++ [.ref d]))) (.ref d) (c ++ [(n, none)]) := by
          obtain ⟨d', e, h⟩ := hd3
          exact ⟨d', e, by rw [env_snoc_none]; exact h⟩
        refine ⟨_, rfl, vl, rfl, ⟨_, .inl (.inl (keep0 (k1.trans k3)).2)⟩, for_it walk_list (fun k σ H' => ∃ (u3 u4 : Option V) (ys : List V) (done : List Case), σ = [some (.ref nl), some (.ref vl), some (.ref f), some (.str n), some (.ref m), some (.ref d), u3, u4] ∧ Kp [] H1' H' ∧ WorldAt H' (.ref d) c ∧ H' m = some (.lst ys) ∧ Paired (WorldAt H') ys done ∧
            done ++ ((two.drop k).map (fun z => c ++ [(n, some z)]) ++ (cs.drop (j + 1)).flatMap (worldStep n)) = caseStep cs n)
          ⟨_, _, ys ++ [.ref d], done ++ [c ++ [(n, none)]], rfl, k3, hd3, upd_same, paired_app (Paired.mapP hys fun _ _ r => r.wl hm2) (.cons hw3 .nil), by rw [List.append_assoc]; exact ed⟩ (fun k σ H' _ ⟨_, _, _, _, _, kk, _⟩ => .inl (.inl (keep0 (k1.trans kk)).2)) ?_ ?_⟩
        · rintro k z σ H3 H3' hk ⟨u3, u4, ys2, done2, rfl, k4, hd4, hm4, hys2, ed2⟩ ⟨rfl, hz⟩
          obtain ⟨zz, hzz, rfl⟩ : ∃ zz, two[k]? = some zz ∧ z = .str zz := by
            rw [List.getElem?_map] at hz
            cases e : two[k]? with
            | none => rw [e] at hz; cases hz
            | some n => rw [e] at hz; exact ⟨n, rfl, (Option.some.inj hz).symm⟩
          rw [drop_cons hzz, List.map_cons] at ed2
          obtain ⟨d', ed', hd5⟩ := hd4
          obtain rfl : d = d' := V.ref.inj ed'
          have hyl2 := Paired.length hys2
          have hlen2 : done2.length + 1 ≤ 27 := by
            have := congrArg List.length ed2
            rw [List.length_append, List.length_append, List.length_cons] at this
            omega
          refine ⟨_, rfl, d, _, rfl, .inl hd5, fun fr hfr => ?_⟩
          have hen : (kvsOf (envOf c)).length < sizeLine := by
            rw [kvs_len, sizeLine_eq]
            have h1 := (envOf_names c).length_le
            rw [List.length_map, List.length_map] at h1
            have h2 := congrArg List.length (hcs c (List.mem_of_getElem? ecj))
            rw [List.length_map, List.length_take] at h2
            omega
          have hput := DPut.k (H := upd H3' fr (.dK (kvsOf (envOf c)))) (a := fr) (k := .inr n) (v := .str zz) upd_same hen
          rw [kvs_new hnc] at hput
          refine ⟨_, rfl, _, rfl, _, rfl, fr, _, rfl, hput, ?_⟩
          have kA : Kp [] H3' (upd (upd H3' fr (.dK (kvsOf (envOf c)))) fr (.dK (kvsOf (envOf (c ++ [(n, some zz)]))))) := ((Kp.nil H3').new _ hfr).own hfr
          have hm6 := kA.keep m _ (fun z => nomatch z) hm4
          refine ⟨_, rfl, .inl ⟨rfl, _, .inl (.inl hm6)⟩, _, rfl, m, ys2, _, rfl, rfl, hm6, by rw [hyl2, sizeLine_eq]; omega, ?_⟩
          refine ⟨_, _, ys2 ++ [.ref fr], done2 ++ [c ++ [(n, some zz)]], rfl, (k4.trans kA).own hm, WorldAt.wl ⟨d, rfl, hd5.kp kA⟩ hm6, upd_same, paired_app (Paired.mapP hys2 fun _ _ r => (r.kp kA).wl hm6) (.cons (WorldAt.wl ⟨fr, rfl, upd_same⟩ hm6) .nil), by rw [List.append_assoc]; exact ed2⟩
        · rintro σ H3 ⟨u3, u4, ys2, done2, rfl, k4, hd4, hm4, hys2, ed2⟩
          exact ⟨_, _, _, ys2, done2, rfl, k4, hm4, hys2, ed2⟩
      · rintro σ H2 ⟨u2, u3, u4, ys, done, rfl, k2, hm2, hys, ed⟩
        rw [Paired.length hxs, List.drop_length, List.flatMap_nil, List.append_nil] at ed
        refine ⟨_, rfl, m, _, _, _, _, _, ys, done, rfl, k1.trans k2, k1.same.free hm, hm2, hys, by rw [ed]; exact ec, fun c hc => ?_⟩
        rw [ed] at hc
        obtain ⟨c0, hc0, hc1⟩ := List.mem_flatMap.mp hc
        obtain ⟨o, _, rfl⟩ := List.mem_map.mp hc1
        rw [List.map_append, hcs c0 hc0, take_snoc hn]
        rfl
    · rintro σ H1 ⟨f, u1, u2, u3, u4, u5, xs, cs, rfl, k1, nf, hf, hxs, ec, hcs⟩
      rw [List.length_map, List.drop_length] at ec
      have ec : cs = cases ns := ec
      subst ec
      exact ⟨_, rfl, q f xs H1 k1 hf hxs⟩
/-! is a file too long -/
def spIsLong (K : PySem.W.Frag) : Sp := fun vs H Q _ => ∃ (nl a : Addr) (ns : List Str) (F : File), vs = [.ref nl, .ref a] ∧ H nl = some (.lst (ns.map V.str)) ∧ NsOk ns ∧ FileAt K H a F ∧ GoodFile F ∧ (∀ x ∈ rawNames F, x ∈ ns) ∧
  ∀ (b : Bool) H', Kp [] H H' → (b = true → ∃ c ∈ cases ns, met F (mpOf c) = none) → (b = false → ∀ c ∈ cases ns, met F (mpOf c) ≠ none) → Q (.bl b) H'
theorem case_ok3 {ns : List Str} {c : Case} (hns : NsOk ns) (h : c ∈ cases ns) : CaseOk c ∧ ∀ p ∈ c, p.1 ∈ ns := by
  obtain ⟨h1, h2⟩ := mem_cases.mp h
  refine ⟨⟨by rw [h1]; exact hns.1, ?_, h2⟩, fun p hp => by rw [← h1]; exact List.mem_map.mpr ⟨p, hp, rfl⟩⟩
  have e := congrArg List.length h1
  rw [List.length_map] at e
  have := hns.2.2.1
  omega
theorem ok_law_is_long (T : Top K mg) : FnOk P w K mg base CX0 9 T.a_law_is_long T.d_law_is_long ["names", "rows"] (spIsLong K) := by
  refine T.F_law_is_long.ok sc_law_is_long (fun vs H Q E h => ?_) (fun cdv A outer s H vs Q E hr h => ?_)
  · obtain ⟨nl, a, _, _, rfl, _⟩ := h
    rfl
  · obtain ⟨nl, a, ns, F, rfl, hnl, hns, hF, hgf, hraw, q⟩ := h
    refine ⟨_, PSs.nox (pss_cons (ps_for PassesOwn.never rfl (pi_list (pe_call (ok_law_worlds T) (hr.mono (by omega)) rfl T.g_law_worlds T.F_law_worlds.kp (b_law_worlds T) .nil pass0 (pa_cons (pv 0) (pa_cons (pe_lst (pa_cons pe_str (pa_cons pe_str pa_nil))) pa_nil)))) (pg_name (i := 2) sc_law_is_long.nd rfl (.inl rfl)) (pss_cons (ps_set (i := 3) sc_law_is_long.nd rfl (.inl rfl) (pe_lst (pa_cons pe_int pa_nil))) (pss_cons (ps_expr (pe_call (ok_law_run_seen T) (hr.mono (by omega)) rfl T.g_law_run_seen T.F_law_run_seen.kp (b_law_run_seen T) .nil pass0 (pa_cons (pv 2) (pa_cons (pv 1) (pa_cons (pv 3) pa_nil))))) (pss_one (ps_if (pt_cmpR (op_gt) (pe_callB (r := rMax K) (cr_max rfl) rfl T.n_max bt_max (pa_cons (pv 3) pa_nil)) pe_int (nomark _)) (pss_one (ps_ret pe_bl)) pss_nil))))) (pss_one (ps_ret pe_bl))), ?_⟩
    refine ⟨_, rfl, sz2, fun vl hvl => ?_⟩
    have k1 := (Kp.nil H).new (.lst [.str "", .str "a"]) hvl
    refine ⟨nl, vl, ns, rfl, k1.keep nl _ (fun z => nomatch z) hnl, upd_same, hns, fun p xs H1 k2 hp hP => ?_⟩
    have k12 := k1.trans k2
    have hns3 := hns.2.2.1
    refine ⟨p, rfl, ⟨_, .inl (.inl hp)⟩, for_it walk_list (fun i σ H' => ∃ (u1 u2 : Option V), σ = [some (.ref nl), some (.ref a), u1, u2] ∧ Kp [] H1 H' ∧ ∀ c ∈ (cases ns).take i, met F (mpOf c) ≠ none)
      ⟨none, none, rfl, Kp.nil H1, (fun _ h => nomatch h)⟩ (fun i σ H' _ ⟨_, _, _, k, _⟩ => k.sql (fun z => nomatch z) (.inl (.inl hp))) ?_ ?_⟩
    · rintro i x σ H2 H2' hi ⟨u1, u2, rfl, k3, hno⟩ ⟨rfl, hx⟩
      obtain ⟨c, ec, hc⟩ := paired_at hP hx
      obtain ⟨d, rfl, hd⟩ := hc.kp k3
      have hcm := List.mem_of_getElem? ec
      obtain ⟨hok, hcn⟩ := case_ok3 hns hcm
      refine ⟨sz1, fun se hse => ?_⟩
      have k4 := k3.new (.lst [.int 0]) hse
      have k40 := (Kp.nil H2').new (.lst [.int 0]) hse
      refine ⟨_, rfl, _, rfl, _, rfl, d, a, se, c, F, [0], ns, rfl, hd.kp k40, hok, hcn, hF.kp (k12.trans k4), hgf, hraw, by omega, upd_same, by decide, fun v H3 k5 hse3 => ?_⟩
      have nse : H1 se = none := k3.same.free hse
      have k6 : Kp [] H1 H3 := k4.call k5 fun x hx => .inr (by rw [List.mem_singleton.mp hx]; exact nse)
      obtain ⟨hbig, hsmall⟩ := lwRows_run F (mpOf c) [] 0 [0]
      generalize lwRows F (mpOf c) [0] = L at hse3 hbig hsmall
      have hse3 : H3 se = some (.lst ((L.map fun n : Nat => (n : Int)).map V.int)) := by rw [List.map_map]; exact hse3
      have hL : 0 < L.length := by
        cases hm : met F (mpOf c) with
        | none =>
          obtain ⟨x, hx, _⟩ := hbig hm
          cases L with
          | nil => cases hx
          | cons _ _ => exact Nat.succ_pos _
        | some tr =>
          obtain ⟨l, hl, _⟩ := hsmall (by rw [show runRows F (mpOf c) [] 0 = met F (mpOf c) from rfl, hm]; exact fun z => nomatch z)
          rw [hl]; simp
      refine ⟨_, rfl, se, _, rfl, .inl (.inl hse3), by rw [List.length_map]; exact hL, fun mx hmx hle => ⟨_, _, rfl, rfl, _, rfl, ?_⟩⟩
      obtain ⟨mn, hmn, rfl⟩ := List.mem_map.mp hmx
      by_cases hz : (400 : Int) < (mn : Nat)
      · rw [decide_eq_true hz]
        refine if_t rfl (q true H3 (k12.trans k6) (fun _ => ⟨c, hcm, ?_⟩) fun z => nomatch z)
        cases hm : met F (mpOf c) with
        | none => rfl
        | some tr =>
          obtain ⟨l, hl, hs⟩ := hsmall (by rw [show runRows F (mpOf c) [] 0 = met F (mpOf c) from rfl, hm]; exact fun z => nomatch z)
          rw [hl] at hmn
          rcases List.mem_cons.mp hmn with e | h
          · rw [e] at hz; exact absurd hz (by decide)
          · have := hs mn h
            omega
      · rw [decide_eq_false hz]
        refine if_f rfl ⟨_, _, rfl, k6, fun c' hc' => ?_⟩
        rw [take_snoc ec] at hc'
        rcases List.mem_append.mp hc' with h | h
        · exact hno c' h
        · rw [List.mem_singleton.mp h]
          intro hm
          obtain ⟨y, hy, hy4⟩ := hbig hm
          have := hle (y : Nat) (List.mem_map.mpr ⟨y, hy, rfl⟩)
          omega
    · rintro σ H2 ⟨u1, u2, rfl, k3, hno⟩
      rw [Paired.length hP, List.take_length] at hno
      exact q false H2 (k12.trans k3) (fun z => nomatch z) fun _ => hno
end
end EV
end

section
set_option Elab.async false
set_option linter.all false
set_option maxRecDepth 100000
set_option maxHeartbeats 4000000
/-! bodies of the law: its own trace -/
namespace EV
open PySem PySem.Spec PyProof.Rows L2
section
variable {P : Program} {w : World} {K : PySem.W.Frag} {mg : Str → Option Value} {base : Heap}
def TrEnd (K : PySem.W.Frag) (NS : List Str) (ev me : Addr) (H : Hp) (Q : VK) : Res → Prop
  | .ok m tr wd => ∀ (p : Addr) H', Kp [ev, me] H H' → DcAt SV NS H' ev m → LsAt H' me tr → SqT K H' p [.str wd, .bl false] → Q (.ref p) H'
  | .stop m tr => ∀ (wd : Str) (p : Addr) H', Kp [ev, me] H H' → DcAt SV NS H' ev m → LsAt H' me tr → SqT K H' p [.str wd, .bl true] → Q (.ref p) H'
  | .long => False
def spTr (K : PySem.W.Frag) (lv : Nat) : Sp := fun vs H Q _ => ∃ (ev c b me : Addr) (t : Txt) (sp : Spot) (m : Mp) (tr : List Spot) (NS : List Str), vs = [.ref ev, .ref c, .ref b, .ref me] ∧ DcAt SV NS H ev m ∧ TextAt K H c t ∧ H b = some (.tup (sp.map V.int)) ∧ LsAt H me tr ∧ t.wb lv = true ∧ lv ≤ 5 ∧ sp.length + lv ≤ 100 ∧ (∀ x ∈ t.names, x ∈ NS) ∧ NS.length ≤ 64 ∧
  m.few 400 ∧ tr.length + t.names.length ≤ 1000000 ∧ TrEnd K NS ev me H Q (run t m tr sp 0 e0)
theorem tr_refl {NS : List Str} {H : Hp} {ev me : Addr} {m : Mp} {tr : List Spot} (h1 : DcAt SV NS H ev m) (h2 : LsAt H me tr) : Kp [ev, me] H H := by
  refine Kp.refl fun d hd => ?_
  rcases List.mem_cons.mp hd with e | hd
  · rw [e]; exact h1.wrt
  · rw [List.mem_singleton.mp hd]; exact h2.wrt
theorem ok_tr_of (T : Top K mg) (lv : Nat) (ih : FnOk P w K mg base CX0 (1 + lv) T.a_law_traced T.d_law_traced ["env", "text", "spot", "met"] (fun vs H Q E => ∃ l, lv = l + 1 ∧ spTr K l vs H Q E)) :
    FnOk P w K mg base CX0 (1 + lv + 1) T.a_law_traced T.d_law_traced ["env", "text", "spot", "met"] (spTr K lv) := by
  refine T.F_law_traced.ok sc_law_traced (fun vs H Q E h => ?_) (fun cdv A outer s H vs Q E hr h => ?_)
  · obtain ⟨ev, c, b, me, _, _, _, _, _, rfl, _⟩ := h
    rfl
  · obtain ⟨ev, c, b, me, t, sp, m, tr, NS, rfl, hev, ⟨xs, hq, hx⟩, hb, hme, wf, hlv, hsp, hnm, hNS, hm, htr, hend⟩ := h
    refine ⟨_, PSs.nox (pss_cons (ps_set (i := 4) sc_law_traced.nd rfl (.inl rfl) pe_str) (pss_cons (ps_for PassesOwn.never rfl (pi_enumT rfl T.n_enumerate (pa_cons (pv 1) pa_nil)) (pg_tup rfl (pgs_cons (pg_name (i := 5) sc_law_traced.nd rfl (.inl rfl)) (pgs_cons (pg_name (i := 6) sc_law_traced.nd rfl (.inl rfl)) pgs_nil))) (pss_cons (ps_if (pt_val (pe_callB (r := rIsi K) call_isi rfl T.n_isinstance bt_isinstance (pa_cons (pv 6) (pa_cons (pe_bltn (v := .ty "str") rfl T.n_str bt_str rfl) pa_nil)))) (pss_cons (ps_set (i := 4) sc_law_traced.nd rfl (.inl rfl) (pe_op (op_add_str) (pv 4) (pv 6))) (pss_one ps_continue)) pss_nil) (pss_cons (ps_asg (pv 6) (pg_tup rfl (pgs_cons (pg_name (i := 7) sc_law_traced.nd rfl (.inl rfl)) (pgs_cons (pg_name (i := 8) sc_law_traced.nd rfl (.inl rfl)) (pgs_cons (pg_name (i := 9) sc_law_traced.nd rfl (.inl rfl)) pgs_nil))))) (pss_cons (ps_set (i := 10) sc_law_traced.nd rfl (.inl rfl) (pe_or (pe_cmp (pc_dnotin (rm_cl hr (by decide)) (pv 7) (pv 0)) rfl) (pe_one (pe_and (pe_cmpR (op_eq) (pe_slice sl_str (pv 8) po_none (po_some pe_int)) pe_str (nomark _)) (pe_one (pe_cmpR (op_eq) (pe_dget (rm_cl hr (by decide)) (pv 0) (pv 7) (fun _ _ => rfl)) pe_str (nomark _))))))) (pss_one (ps_if (PW.pt (pw_or (pt_cmpR (op_eq) (pv 8) pe_str (nomark _)) (pw_or1 (PW.pt (pw_and (pt_cmpR (op_ne) (pe_slice sl_str (pv 8) (po_some (pe_un un_neg pe_int)) po_none) pe_str (nomark _)) (pw_and1 (pt_not (pt_val (pv 10))))))))) (pss_one (ps_set (i := 4) sc_law_traced.nd rfl (.inl rfl) (pe_op (op_add_str) (pv 4) (pe_dget2 (rm_cl hr (by decide)) (pv 0) (pv 7) pe_str ⟨rfl, rfl, rfl, rfl⟩)))) (pss_one (ps_if (PW.pt (pw_or (pt_cmpR (op_ne) (pe_slice sl_str (pv 8) (po_some (pe_un un_neg pe_int)) po_none) pe_str (nomark _)) (pw_or1 (pt_not (pt_val (pv 10)))))) (pss_cons (ps_expr (pe_bm PySem.F.plainAttrs_list PySem.F.slot_list_append PySem.F.type_list_append mt_append (pv 3) (pa_cons (pe_op (r := rCatA K) (op_catA) (pv 2) (pe_tup (pa_cons (pv 5) pa_nil))) pa_nil))) (pss_cons (ps_asg (pe_call ih (hr.mono (by omega)) rfl T.g_law_traced T.F_law_traced.kp (b_law_traced T) .nil pass0 (pa_cons (pv 0) (pa_cons (pv 9) (pa_cons (pe_op (r := rCatA K) (op_catA) (pv 2) (pe_tup (pa_cons (pv 5) pa_nil))) (pa_cons (pv 3) pa_nil))))) (pg_tup rfl (pgs_cons (pg_name (i := 11) sc_law_traced.nd rfl (.inl rfl)) (pgs_cons (pg_name (i := 12) sc_law_traced.nd rfl (.inl rfl)) pgs_nil)))) (pss_cons (ps_if (PW.pt (pw_or (pt_val (pv 12)) (pw_or1 (pt_cmpR (op_eq) (pe_slice sl_str (pv 8) (po_some (pe_un un_neg pe_int)) po_none) pe_str (nomark _))))) (pss_one (ps_ret (pe_tup (pa_cons (pv 11) (pa_cons pe_bl pa_nil))))) pss_nil) (pss_cons (ps_if (pt_cmpR (op_eq) (pe_slice sl_str (pv 8) (po_some (pe_un un_neg pe_int)) po_none) pe_str (nomark _)) (pss_one (ps_dput (rm_cl hr (by decide)) (pv 0) (pv 7) (pv 11) rfl)) pss_nil) (pss_one (ps_set (i := 4) sc_law_traced.nd rfl (.inl rfl) (pe_op (op_add_str) (pv 4) (pv 11)))))))) pss_nil)))))))) (pss_one (ps_ret (pe_tup (pa_cons (pv 4) (pa_cons pe_bl pa_nil))))))), ?_⟩
    have hlen := wb_len wf
    have hxl := hx.len
    have hne : ev ≠ me := fun z => by
      obtain ⟨kvs, e, _⟩ := hev
      obtain ⟨vs, e2, _⟩ := hme
      rw [z, e2] at e; cases e
    refine ⟨_, rfl, c, xs, rfl, hq, for_enumT (K := K) (a := c) (xs := xs) (fun i σ H' => ∃ (u0 u1 u2 u3 u4 u5 u6 u7 : Option V) (mi : Mp) (tri : List Spot) (acc : Str), σ = [some (.ref ev), some (.ref c), some (.ref b), some (.ref me), some (.str acc), u0, u1, u2, u3, u4, u5, u6, u7] ∧ Kp [ev, me] H H' ∧ DcAt SV NS H' ev mi ∧ LsAt H' me tri ∧
        run (t.drop i) mi tri sp i acc = run t m tr sp 0 e0 ∧ mi.few 400 ∧ tri.length + (t.drop i).names.length ≤ 1000000 ∧ acc.length ≤ 400 * i)
      ⟨none, none, none, none, none, none, none, none, m, tr, e0, rfl, tr_refl hev hme, hev, hme, by rw [drop_zero], hm, by rw [drop_zero]; exact htr, Nat.zero_le _⟩ (fun i σ H' _ ⟨_, _, _, _, _, _, _, _, _, _, _, _, k, _⟩ => k.sqt hq) ?_ ?_⟩
    · rintro i x σ H1 Tt hi ⟨u0, u1, u2, u3, u4, u5, u6, u7, mi, tri, acc, rfl, k1, hev1, hme1, er, hmi, htri, hacc⟩ hT
      obtain ⟨p, hpc, ep⟩ := hx.get hi
      have hil : i < xs.length := (List.getElem?_eq_some_iff.mp hi).1
      have kT := (Kp.nil H1).new (.tup [.int (i : Nat), x]) hT
      have k1 := k1.new (.tup [.int (i : Nat), x]) hT
      have hev1 : DcAt SV NS (upd H1 Tt (.tup [.int (i : Nat), x])) ev mi := hev1.kp kT (fun z => nomatch z) fun v s h => h
      have hme1 := hme1.kp kT (fun z => nomatch z)
      obtain ⟨l', el', hg⟩ := wb_piece wf ep
      have hpc1 := hpc.kp k1
      have hnames := names_piece ep
      rw [hnames, List.length_append] at htri
      refine ⟨Tt, _, rfl, .inl (.inl upd_same), rfl, _, _, rfl, _, _, rfl, rfl, ?_⟩
      generalize upd H1 Tt (.tup [.int (i : Nat), x]) = H1' at kT k1 hev1 hme1 hpc1
      cases p with
      | lit z =>
        have ex : x = .str z := hpc
        subst ex
        have hz : plainOk z = true := hg
        have hzl := plain_le hz
        have ep : t.drop i = .lit z (t.drop (i + 1)) := ep
        rw [ep] at er
        refine ⟨_, rfl, _, _, _, _, _, rfl, .ty _, .base (.str _), ki_ss, _, rfl, if_t rfl ⟨_, rfl, _, rfl, acc, z, rfl, rfl, by rw [sizeLine_eq]; omega, ?_⟩⟩
        exact ⟨_, _, _, _, _, _, _, _, mi, tri, acc ++ z, rfl, k1, hev1, hme1, er, hmi, by omega, by rw [app_len]; omega⟩
      | part n g u =>
        subst el'
        obtain ⟨a', c', rfl, ha', hc'⟩ := id hpc1
        obtain ⟨hn1, wf', hgno⟩ := hg
        have ep : t.drop i = .part n g u (t.drop (i + 1)) := ep
        have hsub : ∀ y ∈ (t.drop i).names, y ∈ t.names := names_drop t i
        have hnNS : n ∈ NS := hnm n (hsub n (by rw [ep]; exact List.mem_cons_self ..))
        have huNS : ∀ y ∈ u.names, y ∈ NS := fun y hy => hnm y (hsub y (by rw [ep]; exact List.mem_cons_of_mem _ (List.mem_append_left _ hy)))
        have hpn : (Pc.part n g u).names.length = u.names.length + 1 := rfl
        rw [ep] at er
        have er : (match way mi n g with
          | .own => run (t.drop (i + 1)) mi tri sp (i + 1) (acc ++ worth mi n)
          | .nothing => run (t.drop (i + 1)) mi tri sp (i + 1) acc
          | .deep => match run u mi (tri ++ [sp ++ [(i : Int)]]) (sp ++ [(i : Int)]) 0 e0 with
            | .long => .long
            | .stop m tr => .stop m tr
            | .ok m' tr' wd => if g.isK .ask = true then .stop m' tr' else run (t.drop (i + 1)) (m'.putIf (g.isK .eq) n wd) tr' sp (i + 1) (acc ++ wd)) = run t m tr sp 0 e0 := er
        refine ⟨_, rfl, _, _, _, _, _, rfl, .ty _, ty_tup ha', ki_ts, _, rfl, if_f rfl ?_⟩
        refine ⟨_, rfl, a', _, rfl, ha', rfl, _, _, rfl, _, _, rfl, _, _, rfl, rfl, ?_⟩
        obtain ⟨o, hgo, ho⟩ := hev1.look n
        dsimp only [gName, tSeq, tAsg]
        refine via (t := tOrV _ _) (b := .bl (lacks mi n g.hard)) (fun Q' q' => ?_) (fun H2 k2 => ?_)
        ·
          refine ⟨_, rfl, _, rfl, ev, o, rfl, hgo _ (Kp.nil _), _, rfl, ?_⟩
          rcases ho with ⟨e1, e2⟩ | ⟨v, s, e1, e2, e3⟩
          · subst e1
            refine if_t rfl ?_
            have : lacks mi n g.hard = true := by unfold lacks; rw [e2]
            rw [← this]
            exact q' _ (Kp.nil _)
          · subst e1
            have e3 : v = .str s := e3
            subst e3
            have e4 : lacks mi n g.hard = (g.hard && decide (s = e0)) := by unfold lacks; rw [e2]
            rw [e4] at q'
            refine if_f rfl ⟨_, rfl, 1, rfl, g.str, rfl, sg_small g, rfl, _, rfl, ?_⟩
            rw [hard_cut]
            cases hh : g.hard with
            | false =>
              rw [hh] at q'
              exact if_f rfl (q' _ (Kp.nil _))
            | true =>
              rw [hh] at q'
              refine if_t rfl ⟨_, rfl, _, rfl, ev, _, rfl, hgo _ (Kp.nil _), rfl, ?_⟩
              rw [dec_e0]
              exact q' _ (Kp.nil _)
        have k12 := k1.t0 k2
        have hev2 : DcAt SV NS H2 ev mi := hev1.kp k2 (fun z => nomatch z) fun v s h => h
        have hme2 := hme1.kp k2 (fun z => nomatch z)
        have hown : o.getD (.str "") = .str (worth mi n) := by
          rcases ho with ⟨e1, e2⟩ | ⟨v, s, e1, e2, e3⟩
          · rw [e1, show worth mi n = e0 by unfold worth; rw [e2]; rfl]; decide
          · rw [e1, show worth mi n = s by unfold worth; rw [e2]; rfl]; exact e3
        have hwl : (worth mi n).length ≤ 400 := worth_few hmi n
        have dput : DGet H2 ev (.str n) o := hgo _ k2
        cases g with
        | no =>
          refine ⟨_, rfl, rfl, _, rfl, if_t (by decide) ⟨_, rfl, _, rfl, ev, rfl, hev2.isD, _, rfl, o, dput, acc, worth mi n, rfl, hown, by rw [sizeLine_eq]; omega, ?_⟩⟩
          exact ⟨_, _, _, _, _, _, _, _, mi, tri, _, rfl, k12, hev2, hme2, er, hmi, by omega, by rw [app_len]; omega⟩
        | op hd' kd =>
          have hway : way mi n (.op hd' kd) = if kd = .plus then (if lacks mi n hd' = true then .nothing else .deep) else (if lacks mi n hd' = true then .deep else .own) := rfl
          have fst : ∀ b : Bool, lacks mi n hd' = b → lacks mi n (Sg.op hd' kd).hard = b := fun _ e => e
          have ne0 : decide (V.str (Sg.op hd' kd).str = V.str "") = false := by cases kd <;> cases hd' <;> decide
          refine ⟨_, rfl, rfl, _, rfl, if_f ne0 ⟨_, rfl, 1, rfl, -1, rfl, (Sg.op hd' kd).str, rfl, sg_small _, rfl, _, rfl, ?_⟩⟩
          rw [kind_cut]
          by_cases hk : kd = .plus
          · subst hk
            rw [if_pos rfl] at hway
            have np : (!decide (V.str (Sg.op hd' .plus).kind = V.str "+")) = false := by cases hd' <;> decide
            refine if_f np (if_f rfl ⟨_, rfl, 1, rfl, -1, rfl, (Sg.op hd' .plus).str, rfl, sg_small _, rfl, _, rfl, ?_⟩)
            rw [kind_cut]
            refine if_f np ⟨_, rfl, _, rfl, ?_⟩
            cases hlk : lacks mi n hd' with
            | true =>
              rw [hlk, if_pos rfl] at hway
              rw [hway] at er
              refine if_f (by rw [fst _ hlk]; rfl) ?_
              exact ⟨_, _, _, _, _, _, _, _, mi, tri, acc, rfl, k12, hev2, hme2, er, hmi, by omega, by omega⟩
            | false =>
              rw [hlk, if_neg Bool.false_ne_true] at hway
              rw [hway] at er
              refine if_t (by rw [fst _ hlk]; rfl) ?_
              have hfew := run_few u mi (tri ++ [sp ++ [(i : Int)]]) (sp ++ [(i : Int)]) 0 e0 hmi
              rw [List.length_append] at hfew
              simp only [List.length_cons, List.length_nil] at hfew
              obtain ⟨vs, hme3, hvs⟩ := id hme2
              -- met.append(spot + (at,))
              refine ⟨_, rfl, .inl ⟨rfl, _, .inl (.inl hme3)⟩, _, rfl, _, rfl, sz1, fun t1 ht1 => ?_⟩
              have k3 := (Kp.nil H2).new (.tup [.int (i : Nat)]) ht1
              refine catH ((k12.t0 k3).tup hb) upd_same (by rw [List.length_map, sizeLine_eq]; simp only [List.length_cons, List.length_nil]; omega) fun p1 H3 k4 hp1 => ?_
              have k34 := k3.trans k4
              have hsp1 : sp.map V.int ++ [V.int (i : Nat)] = (sp ++ [(i : Int)]).map V.int := by rw [List.map_append]; rfl
              rw [hsp1] at hp1
              have hme4 : H3 me = some (.lst vs) := k34.keep me _ (fun z => nomatch z) hme3
              refine ⟨me, vs, _, rfl, rfl, hme4, by rw [Paired.length hvs, sizeLine_eq]; omega, ?_⟩
              have kF : Kp [me] H3 (upd H3 me (.lst (vs ++ [.ref p1]))) := Kp.wr1 hme4 trivial trivial
              have k5 : Kp [ev, me] H (upd H3 me (.lst (vs ++ [.ref p1]))) := (k12.t0 k34).put (by simp) trivial
              have hev5 : DcAt SV NS (upd H3 me (.lst (vs ++ [.ref p1]))) ev mi := (hev2.kp k34 (fun z => nomatch z) fun v s h => h).kp kF (fun z => hne (List.mem_singleton.mp z)) fun v s h => h
              have hme5 : LsAt (upd H3 me (.lst (vs ++ [.ref p1]))) me (tri ++ [sp ++ [(i : Int)]]) := ⟨_, upd_same, paired_app (spots_kp (spots_kp hvs k34) kF) (.cons ⟨p1, rfl, kF.tup hp1⟩ .nil)⟩
              have hc5 := ((hc'.kp k2).kp k34).kp kF
              generalize upd H3 me (.lst (vs ++ [.ref p1])) = H5 at kF k5 hev5 hme5 hc5
              -- _law_traced(env, inner, spot + (at,), met)
              refine ⟨_, rfl, _, rfl, _, rfl, _, rfl, sz1, fun t2 ht2 => ?_⟩
              have k6 := (Kp.nil H5).new (.tup [.int (i : Nat)]) ht2
              refine catH ((k5.t0 k6).tup hb) upd_same (by rw [List.length_map, sizeLine_eq]; simp only [List.length_cons, List.length_nil]; omega) fun p2 H6 k7 hp2 => ?_
              rw [hsp1] at hp2
              have k67 := k6.trans k7
              refine ⟨_, rfl, l', rfl, ev, c', p2, me, u, sp ++ [(i : Int)], mi, tri ++ [sp ++ [(i : Int)]], NS, rfl, hev5.kp k67 (fun z => nomatch z) (fun v s h => h), hc5.kp k67, hp2, hme5.kp k67 (fun z => nomatch z), wf', by omega, by rw [List.length_append]; simp only [List.length_cons, List.length_nil]; omega, huNS, hNS, hmi, by rw [List.length_append]; simp only [List.length_cons, List.length_nil]; omega, ?_⟩
              have k57 := k5.t0 k67
              cases hrun : run u mi (tri ++ [sp ++ [(i : Int)]]) (sp ++ [(i : Int)]) 0 e0 with
              | long =>
                rw [hrun] at er
                have er : Res.long = run t m tr sp 0 e0 := er
                rw [← er] at hend
                exact hend.elim
              | stop m4 tr4 =>
                rw [hrun] at er
                have er : Res.stop m4 tr4 = run t m tr sp 0 e0 := er
                rw [← er] at hend
                intro wd p8 H8 k8 hev8 hme8 hp8
                refine ⟨p8, _, rfl, hp8, rfl, _, _, rfl, _, _, rfl, rfl, _, rfl, _, rfl, if_t rfl ⟨_, rfl, sz2, fun p hp => ?_⟩⟩
                have k9 := (Kp.nil H8).new (.tup [.str wd, .bl true]) hp
                exact hend wd p _ ((k57.trans k8).t0 k9) (hev8.kp k9 (fun z => nomatch z) fun v s h => h) (hme8.kp k9 fun z => nomatch z) (.inl (.inl upd_same))
              | ok m4 tr4 w4 =>
                rw [hrun] at er hfew
                have er : (if (Sg.op hd' .plus).isK .ask = true then Res.stop m4 tr4 else run (t.drop (i + 1)) (m4.putIf ((Sg.op hd' .plus).isK .eq) n w4) tr4 sp (i + 1) (acc ++ w4)) = run t m tr sp 0 e0 := er
                obtain ⟨f1, f2, f3⟩ := hfew
                intro p8 H8 k8 hev8 hme8 hp8
                have k58 := k57.trans k8
                refine ⟨p8, _, rfl, hp8, rfl, _, _, rfl, _, _, rfl, rfl, _, rfl, _, rfl, if_f rfl ⟨_, rfl, 1, rfl, -1, rfl, (Sg.op hd' .plus).str, rfl, sg_small _, rfl, _, rfl, ?_⟩⟩
                have ask : decide (V.str (Sg.op hd' .plus).kind = V.str "?") = (Sg.op hd' .plus).isK .ask := by cases hd' <;> decide
                rw [kind_cut, ask]
                cases hask : (Sg.op hd' .plus).isK .ask with
                | true =>
                  rw [hask, if_pos rfl] at er
                  rw [← er] at hend
                  refine if_t rfl ⟨_, rfl, sz2, fun p hp => ?_⟩
                  have k9 := (Kp.nil H8).new (.tup [.str w4, .bl true]) hp
                  exact hend w4 p _ (k58.t0 k9) (hev8.kp k9 (fun z => nomatch z) fun v s h => h) (hme8.kp k9 fun z => nomatch z) (.inl (.inl upd_same))
                | false =>
                  rw [hask, if_neg Bool.false_ne_true] at er
                  have eqq : decide (V.str (Sg.op hd' .plus).kind = V.str "=") = (Sg.op hd' .plus).isK .eq := by cases hd' <;> decide
                  refine if_f rfl ⟨_, rfl, 1, rfl, -1, rfl, (Sg.op hd' .plus).str, rfl, sg_small _, rfl, _, rfl, ?_⟩
                  rw [kind_cut, eqq]
                  cases heq : (Sg.op hd' .plus).isK .eq with
                  | false =>
                    rw [heq] at er
                    have er : run (t.drop (i + 1)) m4 tr4 sp (i + 1) (acc ++ w4) = run t m tr sp 0 e0 := er
                    refine if_f rfl ⟨_, rfl, _, rfl, acc, w4, rfl, rfl, by rw [sizeLine_eq]; omega, ?_⟩
                    exact ⟨_, _, _, _, _, _, _, _, m4, tr4, _, rfl, k58, hev8, hme8, er, f1, by omega, by rw [app_len]; omega⟩
                  | true =>
                    rw [heq] at er
                    have er : run (t.drop (i + 1)) (m4.put n w4) tr4 sp (i + 1) (acc ++ w4) = run t m tr sp 0 e0 := er
                    obtain ⟨kvs4, e4, _⟩ := id hev8
                    obtain ⟨H9, hput, hd9, o9, eo9, mo9⟩ := hev8.put (v := .str w4) (s := w4) hnNS (by rw [sizeLine_eq]; omega) rfl fun o v s mo h => h
                    have k9 : Kp [ev] H8 H9 := by rw [eo9]; exact Kp.wr1 e4 trivial mo9
                    refine if_t rfl ⟨_, rfl, _, rfl, _, rfl, ev, H9, rfl, hput, ?_⟩
                    refine ⟨_, rfl, _, rfl, acc, w4, rfl, rfl, by rw [sizeLine_eq]; omega, ?_⟩
                    exact ⟨_, _, _, _, _, _, _, _, m4.put n w4, tr4, _, rfl, k58.call k9 (fun d hd => .inl (by rw [List.mem_singleton.mp hd]; simp)), hd9, hme8.kp k9 (fun z => hne (List.mem_singleton.mp z).symm), er, f1.put f3, by omega, by rw [app_len]; omega⟩
          · rw [if_neg hk] at hway
            have np : (!decide (V.str (Sg.op hd' kd).kind = V.str "+")) = true := by cases kd <;> first | exact absurd rfl hk | (cases hd' <;> decide)
            refine if_t np ⟨_, rfl, _, rfl, ?_⟩
            cases hlk : lacks mi n hd' with
            | false =>
              rw [hlk, if_neg Bool.false_ne_true] at hway
              refine if_t (by rw [fst _ hlk]; rfl) ⟨_, rfl, _, rfl, ev, rfl, hev2.isD, _, rfl, o, dput, acc, worth mi n, rfl, hown, by rw [sizeLine_eq]; omega, ?_⟩
              rw [hway] at er
              exact ⟨_, _, _, _, _, _, _, _, mi, tri, _, rfl, k12, hev2, hme2, er, hmi, by omega, by rw [app_len]; omega⟩
            | true =>
              rw [hlk, if_pos rfl] at hway
              rw [hway] at er
              refine if_f (by rw [fst _ hlk]; rfl) ⟨_, rfl, 1, rfl, -1, rfl, (Sg.op hd' kd).str, rfl, sg_small _, rfl, _, rfl, ?_⟩
              rw [kind_cut]
              refine if_t np ?_
              have hfew := run_few u mi (tri ++ [sp ++ [(i : Int)]]) (sp ++ [(i : Int)]) 0 e0 hmi
              rw [List.length_append] at hfew
              simp only [List.length_cons, List.length_nil] at hfew
              obtain ⟨vs, hme3, hvs⟩ := id hme2
              -- met.append(spot + (at,))
              refine ⟨_, rfl, .inl ⟨rfl, _, .inl (.inl hme3)⟩, _, rfl, _, rfl, sz1, fun t1 ht1 => ?_⟩
              have k3 := (Kp.nil H2).new (.tup [.int (i : Nat)]) ht1
              refine catH ((k12.t0 k3).tup hb) upd_same (by rw [List.length_map, sizeLine_eq]; simp only [List.length_cons, List.length_nil]; omega) fun p1 H3 k4 hp1 => ?_
              have k34 := k3.trans k4
              have hsp1 : sp.map V.int ++ [V.int (i : Nat)] = (sp ++ [(i : Int)]).map V.int := by rw [List.map_append]; rfl
              rw [hsp1] at hp1
              have hme4 : H3 me = some (.lst vs) := k34.keep me _ (fun z => nomatch z) hme3
              refine ⟨me, vs, _, rfl, rfl, hme4, by rw [Paired.length hvs, sizeLine_eq]; omega, ?_⟩
              have kF : Kp [me] H3 (upd H3 me (.lst (vs ++ [.ref p1]))) := Kp.wr1 hme4 trivial trivial
              have k5 : Kp [ev, me] H (upd H3 me (.lst (vs ++ [.ref p1]))) := (k12.t0 k34).put (by simp) trivial
              have hev5 : DcAt SV NS (upd H3 me (.lst (vs ++ [.ref p1]))) ev mi := (hev2.kp k34 (fun z => nomatch z) fun v s h => h).kp kF (fun z => hne (List.mem_singleton.mp z)) fun v s h => h
              have hme5 : LsAt (upd H3 me (.lst (vs ++ [.ref p1]))) me (tri ++ [sp ++ [(i : Int)]]) := ⟨_, upd_same, paired_app (spots_kp (spots_kp hvs k34) kF) (.cons ⟨p1, rfl, kF.tup hp1⟩ .nil)⟩
              have hc5 := ((hc'.kp k2).kp k34).kp kF
              generalize upd H3 me (.lst (vs ++ [.ref p1])) = H5 at kF k5 hev5 hme5 hc5
              -- _law_traced(env, inner, spot + (at,), met)
              refine ⟨_, rfl, _, rfl, _, rfl, _, rfl, sz1, fun t2 ht2 => ?_⟩
              have k6 := (Kp.nil H5).new (.tup [.int (i : Nat)]) ht2
              refine catH ((k5.t0 k6).tup hb) upd_same (by rw [List.length_map, sizeLine_eq]; simp only [List.length_cons, List.length_nil]; omega) fun p2 H6 k7 hp2 => ?_
              rw [hsp1] at hp2
              have k67 := k6.trans k7
              refine ⟨_, rfl, l', rfl, ev, c', p2, me, u, sp ++ [(i : Int)], mi, tri ++ [sp ++ [(i : Int)]], NS, rfl, hev5.kp k67 (fun z => nomatch z) (fun v s h => h), hc5.kp k67, hp2, hme5.kp k67 (fun z => nomatch z), wf', by omega, by rw [List.length_append]; simp only [List.length_cons, List.length_nil]; omega, huNS, hNS, hmi, by rw [List.length_append]; simp only [List.length_cons, List.length_nil]; omega, ?_⟩
              have k57 := k5.t0 k67
              cases hrun : run u mi (tri ++ [sp ++ [(i : Int)]]) (sp ++ [(i : Int)]) 0 e0 with
              | long =>
                rw [hrun] at er
                have er : Res.long = run t m tr sp 0 e0 := er
                rw [← er] at hend
                exact hend.elim
              | stop m4 tr4 =>
                rw [hrun] at er
                have er : Res.stop m4 tr4 = run t m tr sp 0 e0 := er
                rw [← er] at hend
                intro wd p8 H8 k8 hev8 hme8 hp8
                refine ⟨p8, _, rfl, hp8, rfl, _, _, rfl, _, _, rfl, rfl, _, rfl, _, rfl, if_t rfl ⟨_, rfl, sz2, fun p hp => ?_⟩⟩
                have k9 := (Kp.nil H8).new (.tup [.str wd, .bl true]) hp
                exact hend wd p _ ((k57.trans k8).t0 k9) (hev8.kp k9 (fun z => nomatch z) fun v s h => h) (hme8.kp k9 fun z => nomatch z) (.inl (.inl upd_same))
              | ok m4 tr4 w4 =>
                rw [hrun] at er hfew
                have er : (if (Sg.op hd' kd).isK .ask = true then Res.stop m4 tr4 else run (t.drop (i + 1)) (m4.putIf ((Sg.op hd' kd).isK .eq) n w4) tr4 sp (i + 1) (acc ++ w4)) = run t m tr sp 0 e0 := er
                obtain ⟨f1, f2, f3⟩ := hfew
                intro p8 H8 k8 hev8 hme8 hp8
                have k58 := k57.trans k8
                refine ⟨p8, _, rfl, hp8, rfl, _, _, rfl, _, _, rfl, rfl, _, rfl, _, rfl, if_f rfl ⟨_, rfl, 1, rfl, -1, rfl, (Sg.op hd' kd).str, rfl, sg_small _, rfl, _, rfl, ?_⟩⟩
                have ask : decide (V.str (Sg.op hd' kd).kind = V.str "?") = (Sg.op hd' kd).isK .ask := by cases kd <;> cases hd' <;> decide
                rw [kind_cut, ask]
                cases hask : (Sg.op hd' kd).isK .ask with
                | true =>
                  rw [hask, if_pos rfl] at er
                  rw [← er] at hend
                  refine if_t rfl ⟨_, rfl, sz2, fun p hp => ?_⟩
                  have k9 := (Kp.nil H8).new (.tup [.str w4, .bl true]) hp
                  exact hend w4 p _ (k58.t0 k9) (hev8.kp k9 (fun z => nomatch z) fun v s h => h) (hme8.kp k9 fun z => nomatch z) (.inl (.inl upd_same))
                | false =>
                  rw [hask, if_neg Bool.false_ne_true] at er
                  have eqq : decide (V.str (Sg.op hd' kd).kind = V.str "=") = (Sg.op hd' kd).isK .eq := by cases kd <;> cases hd' <;> decide
                  refine if_f rfl ⟨_, rfl, 1, rfl, -1, rfl, (Sg.op hd' kd).str, rfl, sg_small _, rfl, _, rfl, ?_⟩
                  rw [kind_cut, eqq]
                  cases heq : (Sg.op hd' kd).isK .eq with
                  | false =>
                    rw [heq] at er
                    have er : run (t.drop (i + 1)) m4 tr4 sp (i + 1) (acc ++ w4) = run t m tr sp 0 e0 := er
                    refine if_f rfl ⟨_, rfl, _, rfl, acc, w4, rfl, rfl, by rw [sizeLine_eq]; omega, ?_⟩
                    exact ⟨_, _, _, _, _, _, _, _, m4, tr4, _, rfl, k58, hev8, hme8, er, f1, by omega, by rw [app_len]; omega⟩
                  | true =>
                    rw [heq] at er
                    have er : run (t.drop (i + 1)) (m4.put n w4) tr4 sp (i + 1) (acc ++ w4) = run t m tr sp 0 e0 := er
                    obtain ⟨kvs4, e4, _⟩ := id hev8
                    obtain ⟨H9, hput, hd9, o9, eo9, mo9⟩ := hev8.put (v := .str w4) (s := w4) hnNS (by rw [sizeLine_eq]; omega) rfl fun o v s mo h => h
                    have k9 : Kp [ev] H8 H9 := by rw [eo9]; exact Kp.wr1 e4 trivial mo9
                    refine if_t rfl ⟨_, rfl, _, rfl, _, rfl, ev, H9, rfl, hput, ?_⟩
                    refine ⟨_, rfl, _, rfl, acc, w4, rfl, rfl, by rw [sizeLine_eq]; omega, ?_⟩
                    exact ⟨_, _, _, _, _, _, _, _, m4.put n w4, tr4, _, rfl, k58.call k9 (fun d hd => .inl (by rw [List.mem_singleton.mp hd]; simp)), hd9, hme8.kp k9 (fun z => hne (List.mem_singleton.mp z).symm), er, f1.put f3, by omega, by rw [app_len]; omega⟩
    · rintro σ H1 ⟨u0, u1, u2, u3, u4, u5, u6, u7, mi, tri, acc, rfl, k1, hev1, hme1, er, hmi, htri, hacc⟩
      rw [hxl, drop_len] at er
      have er : (if 400 < acc.length then Res.long else .ok mi tri acc) = run t m tr sp 0 e0 := er
      rw [← er] at hend
      by_cases hz : 400 < acc.length
      · rw [if_pos hz] at hend
        exact hend.elim
      · rw [if_neg hz] at hend
        refine ⟨_, rfl, sz2, fun p hp => ?_⟩
        have k3 := (Kp.nil H1).new (.tup [.str acc, .bl false]) hp
        exact hend p _ (k1.t0 k3) (hev1.kp k3 (fun z => nomatch z) fun v s h => h) (hme1.kp k3 fun z => nomatch z) (.inl (.inl upd_same))
end
end EV
end

section
set_option Elab.async false
set_option linter.all false
set_option maxRecDepth 100000
set_option maxHeartbeats 4000000
/-! bodies of the law: what a world meets, the spots of a text, a world's size -/
namespace EV
open PySem PySem.Spec PyProof.Rows L2
section
variable {P : Program} {w : World} {K : PySem.W.Frag} {mg : Str → Option Value} {base : Heap}
theorem ok_tr_all (T : Top K mg) : ∀ l : Nat, FnOk P w K mg base CX0 (2 + l) T.a_law_traced T.d_law_traced ["env", "text", "spot", "met"] (spTr K l)
  | 0 => ok_tr_of T 0 (ok_none_X fun _ _ _ _ ⟨_, e, _⟩ => nomatch e)
  | l + 1 => (ok_tr_of T (l + 1) (((ok_tr_all T l).imp fun vs H Q E ⟨l', e, h⟩ => by cases e; exact h).mono (by omega))).mono (by omega)
theorem ok_law_traced (T : Top K mg) : FnOk P w K mg base CX0 7 T.a_law_traced T.d_law_traced ["env", "text", "spot", "met"] (spTr K 5) := ok_tr_all T 5
def spMet (K : PySem.W.Frag) : Sp := fun vs H Q _ => ∃ (ev a : Addr) (c : Case) (F : File) (NS : List Str) (tr : List Spot), vs = [.ref ev, .ref a] ∧ EnvAt H ev (envOf c) ∧ CaseOk c ∧ (∀ p ∈ c, p.1 ∈ NS) ∧ FileAt K H a F ∧ GoodFile F ∧ (∀ x ∈ rawNames F, x ∈ NS) ∧ NS.length ≤ 60 ∧
  met F (mpOf c) = some tr ∧ ∀ p H', Kp [] H H' → H p = none → LsAt H' p tr → Q (.ref p) H'
theorem ok_law_met (T : Top K mg) : FnOk P w K mg base CX0 8 T.a_law_met T.d_law_met ["env", "rows"] (spMet K) := by
  refine T.F_law_met.ok sc_law_met (fun vs H Q E h => ?_) (fun cdv A outer s H vs Q E hr h => ?_)
  · obtain ⟨ev, a, _, _, _, _, rfl, _⟩ := h
    rfl
  · obtain ⟨ev, a, c, F, NS, tr, rfl, hev, hok, hcn, ⟨as, hq, hF⟩, ⟨hF40, hg, hfew, h6⟩, hraw, hNS, hmet, q⟩ := h
    refine ⟨_, PSs.nox (pss_cons (ps_par (i := 0) (j := 2) rfl sc_law_met.nd rfl rfl (by decide) rfl rfl (pa_cons (pe_callTy cr_dict1 rfl T.n_dict bt_dict (pa_cons (pv 0) pa_nil)) (pa_cons (pe_lst pa_nil) pa_nil)) rfl) (pss_cons (ps_for PassesOwn.never rfl (pi_enumT rfl T.n_enumerate (pa_cons (pv 1) pa_nil)) (pg_tup rfl (pgs_cons (pg_name (i := 3) sc_law_met.nd rfl (.inl rfl)) (pgs_cons (pg_name (i := 4) sc_law_met.nd rfl (.inl rfl)) pgs_nil))) (pss_one (ps_if (pt_cmpR (op_eq) (pe_ix (r := rIxT K) ix_tup (pv 4) pe_int (fun _ _ => rfl)) pe_str (nomark _)) (pss_one (ps_expr (pe_dpop2 (pv 0) (pe_ix (r := rIxT K) ix_tup (pv 4) pe_int (fun _ _ => rfl)) pe_non ⟨rfl, rfl, rfl, rfl⟩))) (pss_one (ps_if (PW.pt (pw_or (pt_cmpR (op_ne) (pe_ix (r := rIxT K) ix_tup (pv 4) pe_int (fun _ _ => rfl)) pe_str (nomark _)) (pw_or1 (pt_cmp (pc_dnotin (rm_cl hr (by decide)) (pe_ix (r := rIxT K) ix_tup (pv 4) pe_int (fun _ _ => rfl)) (pv 0)) rfl)))) (pss_cons (ps_asg (pe_call (ok_law_traced T) (hr.mono (by omega)) rfl T.g_law_traced T.F_law_traced.kp (b_law_traced T) .nil pass0 (pa_cons (pv 0) (pa_cons (pe_ix (r := rIxT K) ix_tup (pv 4) (pe_un un_neg pe_int) (fun _ _ => rfl)) (pa_cons (pe_tup (pa_cons (pv 3) pa_nil)) (pa_cons (pv 2) pa_nil))))) (pg_tup rfl (pgs_cons (pg_name (i := 5) sc_law_met.nd rfl (.inl rfl)) (pgs_cons (pg_name (i := 6) sc_law_met.nd rfl (.inl rfl)) pgs_nil)))) (pss_cons (ps_if (pt_val (pv 6)) (pss_one (ps_ret (pv 2))) pss_nil) (pss_one (ps_if (pt_cmpR (op_ne) (pe_ix (r := rIxT K) ix_tup (pv 4) pe_int (fun _ _ => rfl)) pe_str (nomark _)) (pss_one (ps_dput (rm_cl hr (by decide)) (pv 0) (pe_ix (r := rIxT K) ix_tup (pv 4) pe_int (fun _ _ => rfl)) (pv 5) rfl)) pss_nil)))) pss_nil))))) (pss_one (ps_ret (pv 2))))), ?_⟩
    refine ⟨_, rfl, ev, _, rfl, .inl hev, fun d hd => ⟨Nat.zero_le _, fun me hme => ⟨_, _, rfl, ?_⟩⟩⟩
    have k0 := ((Kp.nil H).new (.dK (kvsOf (envOf c))) hd).new (.lst []) hme
    have nme : H me = none := ((Kp.nil H).new (.dK (kvsOf (envOf c))) hd).same.free hme
    have hdc0 : DcAt SV NS (upd H d (.dK (kvsOf (envOf c)))) d (mpOf c) := env_dc hok.1 hcn upd_same
    have hdc : DcAt SV NS (upd (upd H d (.dK (kvsOf (envOf c)))) me (.lst [])) d (mpOf c) := hdc0.kp ((Kp.nil _).new _ hme) (fun z => nomatch z) fun v s h => h
    have nds : d ≠ me := ne_of_none upd_same hme
    have hnl := names_le F
    have hmet : runRows F (mpOf c) [] 0 = some tr := hmet
    refine ⟨_, rfl, a, _, rfl, k0.sqt hq, for_enumT (K := K) (a := a) (xs := as.map V.ref) (fun i σ H' => ∃ (u1 u2 u3 u4 : Option V) (mi : Mp) (tri : List Spot), σ = [some (.ref d), some (.ref a), some (.ref me), u1, u2, u3, u4] ∧ Kp [] H H' ∧ DcAt SV NS H' d mi ∧ LsAt H' me tri ∧ runRows (F.drop i) mi tri i = some tr ∧ mi.few 400 ∧
        tri.length + ((F.drop i).flatMap fun r => r.text.names).length ≤ 1000000)
      ⟨none, none, none, none, mpOf c, [], rfl, k0, hdc, ⟨[], upd_same, .nil⟩, hmet, case_few hok, by show 0 + _ ≤ _; rw [List.drop_zero]; omega⟩ (fun i σ H' _ ⟨_, _, _, _, _, _, _, k, _⟩ => k.sqt hq) ?_ ?_⟩
    · rintro i x σ H1 Tt hi ⟨u1, u2, u3, u4, mi, tri, rfl, k1, hd1, hme1, er, hmi, htri⟩ hT
      obtain ⟨b, r, eb, hri, hb⟩ := file_row hF hi
      subst eb
      have kT := (Kp.nil H1).new (.tup [.int (i : Nat), .ref b]) hT
      have k1 := k1.new (.tup [.int (i : Nat), .ref b]) hT
      have hd1 : DcAt SV NS (upd H1 Tt (.tup [.int (i : Nat), .ref b])) d mi := hd1.kp kT (fun z => nomatch z) fun v s h => h
      have hme1 := hme1.kp kT (fun z => nomatch z)
      have hb := hb.kp k1
      have hmem := List.mem_of_getElem? hri
      obtain ⟨n1, n2⟩ := raw_row hmem
      have hrow := hg r hmem
      obtain ⟨wf, _⟩ := Bool.and_eq_true_iff.mp hrow
      rw [drop_cons hri] at er htri
      rw [List.flatMap_cons, List.length_append] at htri
      have er : (if r.works mi = true then (match run r.text mi tri [(i : Int)] 0 e0 with
        | .long => none
        | .stop _ tr => some tr
        | .ok m tr wd => runRows (F.drop (i + 1)) (r.store m wd) tr (i + 1)) else runRows (F.drop (i + 1)) (r.pass mi) tri (i + 1)) = some tr := er
      obtain ⟨ys, hy, h0, h1⟩ := row_parts hb
      refine ⟨Tt, _, rfl, .inl (.inl upd_same), rfl, _, _, rfl, _, _, rfl, rfl, ?_⟩
      generalize upd H1 Tt (.tup [.int (i : Nat), .ref b]) = H1' at kT k1 hd1 hme1 hb hy
      refine ⟨_, rfl, b, ys, 0, _, rfl, rfl, hy, h0, rfl, _, rfl, ?_⟩
      cases r with
      | drop n =>
        refine if_t (by show decide (V.str "drop" = V.str "drop") = true; decide) ?_
        have er : runRows (F.drop (i + 1)) (mi.del n) tri (i + 1) = some tr := er
        obtain ⟨kvs, e, h4, h5⟩ := hd1.del n fun o v s mo h => h
        refine ⟨_, rfl, d, rfl, hd1.isD, _, rfl, b, ys, 1, _, rfl, rfl, hy, h1 n rfl, kvs, .inr n, e, rfl, fun v _ => ?_, fun z => ?_⟩
        · have kd : Kp [d] H1' (upd H1' d (.dK (dropK kvs (.inr n)))) := Kp.wr1 e trivial trivial
          exact ⟨_, _, _, _, mi.del n, tri, rfl, k1.own hd, h4, hme1.kp kd (fun z => nds (List.mem_singleton.mp z).symm), er, hmi.del, by omega⟩
        · exact ⟨_, _, _, _, mi.del n, tri, rfl, k1, h5 z, hme1, er, hmi.del, by omega⟩
      | set n t =>
        refine if_f (by show decide (V.str "set" = V.str "drop") = false; decide) ?_
        refine ⟨_, rfl, b, ys, 0, _, rfl, rfl, hy, h0, rfl, _, rfl, if_t (by show (!decide (V.str "set" = V.str "give")) = true; decide) ?_⟩
        have er : (match run t mi tri [(i : Int)] 0 e0 with
          | .long => none
          | .stop _ tr => some tr
          | .ok m tr wd => runRows (F.drop (i + 1)) (m.put n wd) tr (i + 1)) = some tr := er
        obtain ⟨ys2, c2, hy2, hat2, hc2⟩ := row_last hb (fun n z => nomatch z)
        have hlt : (Row.text (.set n t)).names.length = t.names.length := rfl
        have hfew2 := run_few t mi tri [(i : Int)] 0 e0 hmi
        refine ⟨_, rfl, _, rfl, 1, rfl, b, ys2, -1, _, rfl, rfl, hy2, hat2, _, rfl, sz1, fun t1 ht1 => ?_⟩
        have k2 := (Kp.nil H1').new (.tup [.int (i : Nat)]) ht1
        refine ⟨_, rfl, d, c2, t1, me, t, [(i : Int)], mi, tri, NS, rfl, hd1.kp k2 (fun z => nomatch z) (fun v s h => h), hc2.kp k2, upd_same, hme1.kp k2 (fun z => nomatch z), wf, by omega, by simp only [List.length_cons, List.length_nil]; omega, fun y hy => hraw y (n2 y hy), by omega, hmi, by omega, ?_⟩
        have k12 := k1.trans k2
        have own : ∀ {H3 : Hp}, Kp [d, me] (upd H1' t1 (.tup [.int (i : Nat)])) H3 → Kp [] H H3 := fun k => k12.call k fun x hx => by
          rcases List.mem_cons.mp hx with e | hx
          · rw [e]; exact .inr hd
          · rw [List.mem_singleton.mp hx]; exact .inr nme
        cases hrun : run t mi tri [(i : Int)] 0 e0 with
        | long =>
          rw [hrun] at er
          cases er
        | stop m4 tr4 =>
          rw [hrun] at er
          obtain rfl : tr4 = tr := Option.some.inj er
          intro wd p8 H8 k8 hd8 hme8 hp8
          exact ⟨p8, _, rfl, hp8, rfl, _, _, rfl, _, _, rfl, rfl, _, rfl, _, rfl, if_t rfl ⟨_, rfl, q me H8 (own k8) nme hme8⟩⟩
        | ok m4 tr4 w4 =>
          rw [hrun] at er hfew2
          obtain ⟨f1, f2, f3⟩ := hfew2
          intro p8 H8 k8 hd8 hme8 hp8
          have k18 := own k8
          refine ⟨p8, _, rfl, hp8, rfl, _, _, rfl, _, _, rfl, rfl, _, rfl, _, rfl, if_f rfl ⟨_, rfl, b, ys, 0, _, rfl, rfl, k8.sqt (k2.sqt hy), h0, rfl, _, rfl, ?_⟩⟩
          have er : runRows (F.drop (i + 1)) (m4.put n w4) tr4 (i + 1) = some tr := er
          obtain ⟨kvs4, e4, _⟩ := id hd8
          obtain ⟨H9, hput, hd9, o9, eo9, mo9⟩ := hd8.put (v := .str w4) (s := w4) (hraw n (n1 n (List.mem_singleton.mpr rfl))) (by rw [sizeLine_eq]; omega) rfl fun o v s mo h => h
          have k9 : Kp [d] H8 H9 := by rw [eo9]; exact Kp.wr1 e4 trivial mo9
          refine if_t (by show (!decide (V.str "set" = V.str "check")) = true; decide) ⟨_, rfl, _, rfl, _, rfl, b, ys, 1, _, rfl, rfl, k8.sqt (k2.sqt hy), h1 n rfl, d, H9, rfl, hput, ?_⟩
          exact ⟨_, _, _, _, m4.put n w4, tr4, rfl, k18.call k9 (fun x hx => .inr (by rw [List.mem_singleton.mp hx]; exact hd)), hd9, hme8.kp k9 (fun z => nds (List.mem_singleton.mp z).symm), er, f1.put f3, by omega⟩
      | check t =>
        refine if_f (by show decide (V.str "check" = V.str "drop") = false; decide) ?_
        refine ⟨_, rfl, b, ys, 0, _, rfl, rfl, hy, h0, rfl, _, rfl, if_t (by show (!decide (V.str "check" = V.str "give")) = true; decide) ?_⟩
        have er : (match run t mi tri [(i : Int)] 0 e0 with
          | .long => none
          | .stop _ tr => some tr
          | .ok m tr wd => runRows (F.drop (i + 1)) m tr (i + 1)) = some tr := er
        obtain ⟨ys2, c2, hy2, hat2, hc2⟩ := row_last hb (fun n z => nomatch z)
        have hlt : (Row.text (.check t)).names.length = t.names.length := rfl
        have hfew2 := run_few t mi tri [(i : Int)] 0 e0 hmi
        refine ⟨_, rfl, _, rfl, 1, rfl, b, ys2, -1, _, rfl, rfl, hy2, hat2, _, rfl, sz1, fun t1 ht1 => ?_⟩
        have k2 := (Kp.nil H1').new (.tup [.int (i : Nat)]) ht1
        refine ⟨_, rfl, d, c2, t1, me, t, [(i : Int)], mi, tri, NS, rfl, hd1.kp k2 (fun z => nomatch z) (fun v s h => h), hc2.kp k2, upd_same, hme1.kp k2 (fun z => nomatch z), wf, by omega, by simp only [List.length_cons, List.length_nil]; omega, fun y hy => hraw y (n2 y hy), by omega, hmi, by omega, ?_⟩
        have k12 := k1.trans k2
        have own : ∀ {H3 : Hp}, Kp [d, me] (upd H1' t1 (.tup [.int (i : Nat)])) H3 → Kp [] H H3 := fun k => k12.call k fun x hx => by
          rcases List.mem_cons.mp hx with e | hx
          · rw [e]; exact .inr hd
          · rw [List.mem_singleton.mp hx]; exact .inr nme
        cases hrun : run t mi tri [(i : Int)] 0 e0 with
        | long =>
          rw [hrun] at er
          cases er
        | stop m4 tr4 =>
          rw [hrun] at er
          obtain rfl : tr4 = tr := Option.some.inj er
          intro wd p8 H8 k8 hd8 hme8 hp8
          exact ⟨p8, _, rfl, hp8, rfl, _, _, rfl, _, _, rfl, rfl, _, rfl, _, rfl, if_t rfl ⟨_, rfl, q me H8 (own k8) nme hme8⟩⟩
        | ok m4 tr4 w4 =>
          rw [hrun] at er hfew2
          obtain ⟨f1, f2, f3⟩ := hfew2
          intro p8 H8 k8 hd8 hme8 hp8
          have k18 := own k8
          refine ⟨p8, _, rfl, hp8, rfl, _, _, rfl, _, _, rfl, rfl, _, rfl, _, rfl, if_f rfl ⟨_, rfl, b, ys, 0, _, rfl, rfl, k8.sqt (k2.sqt hy), h0, rfl, _, rfl, ?_⟩⟩
          have er : runRows (F.drop (i + 1)) m4 tr4 (i + 1) = some tr := er
          refine if_f (by show (!decide (V.str "check" = V.str "check")) = false; decide) ?_
          exact ⟨_, _, _, _, m4, tr4, rfl, k18, hd8, hme8, er, f1, by omega⟩
      | give n t =>
        refine if_f (by show decide (V.str "give" = V.str "drop") = false; decide) ?_
        obtain ⟨o, hgo, ho⟩ := hd1.look n
        refine ⟨_, rfl, b, ys, 0, _, rfl, rfl, hy, h0, rfl, _, rfl, if_f (by show (!decide (V.str "give" = V.str "give")) = false; decide) ⟨_, rfl, b, ys, 1, _, rfl, rfl, hy, h1 n rfl, _, rfl, d, o, rfl, hgo _ (Kp.nil _), _, rfl, ?_⟩⟩
        have er : (if (mi n).isNone = true then (match run t mi tri [(i : Int)] 0 e0 with
          | .long => none
          | .stop _ tr => some tr
          | .ok m tr wd => runRows (F.drop (i + 1)) (m.put n wd) tr (i + 1)) else runRows (F.drop (i + 1)) mi tri (i + 1)) = some tr := er
        rcases ho with ⟨e1, e2⟩ | ⟨v, s, e1, e2, e3⟩
        · subst e1
          rw [e2, if_pos (show (none : Option Str).isNone = true from rfl)] at er
          refine if_t rfl ?_
          obtain ⟨ys2, c2, hy2, hat2, hc2⟩ := row_last hb (fun n z => nomatch z)
          have hlt : (Row.text (.give n t)).names.length = t.names.length := rfl
          have hfew2 := run_few t mi tri [(i : Int)] 0 e0 hmi
          refine ⟨_, rfl, _, rfl, 1, rfl, b, ys2, -1, _, rfl, rfl, hy2, hat2, _, rfl, sz1, fun t1 ht1 => ?_⟩
          have k2 := (Kp.nil H1').new (.tup [.int (i : Nat)]) ht1
          refine ⟨_, rfl, d, c2, t1, me, t, [(i : Int)], mi, tri, NS, rfl, hd1.kp k2 (fun z => nomatch z) (fun v s h => h), hc2.kp k2, upd_same, hme1.kp k2 (fun z => nomatch z), wf, by omega, by simp only [List.length_cons, List.length_nil]; omega, fun y hy => hraw y (n2 y hy), by omega, hmi, by omega, ?_⟩
          have k12 := k1.trans k2
          have own : ∀ {H3 : Hp}, Kp [d, me] (upd H1' t1 (.tup [.int (i : Nat)])) H3 → Kp [] H H3 := fun k => k12.call k fun x hx => by
            rcases List.mem_cons.mp hx with e | hx
            · rw [e]; exact .inr hd
            · rw [List.mem_singleton.mp hx]; exact .inr nme
          cases hrun : run t mi tri [(i : Int)] 0 e0 with
          | long =>
            rw [hrun] at er
            cases er
          | stop m4 tr4 =>
            rw [hrun] at er
            obtain rfl : tr4 = tr := Option.some.inj er
            intro wd p8 H8 k8 hd8 hme8 hp8
            exact ⟨p8, _, rfl, hp8, rfl, _, _, rfl, _, _, rfl, rfl, _, rfl, _, rfl, if_t rfl ⟨_, rfl, q me H8 (own k8) nme hme8⟩⟩
          | ok m4 tr4 w4 =>
            rw [hrun] at er hfew2
            obtain ⟨f1, f2, f3⟩ := hfew2
            intro p8 H8 k8 hd8 hme8 hp8
            have k18 := own k8
            refine ⟨p8, _, rfl, hp8, rfl, _, _, rfl, _, _, rfl, rfl, _, rfl, _, rfl, if_f rfl ⟨_, rfl, b, ys, 0, _, rfl, rfl, k8.sqt (k2.sqt hy), h0, rfl, _, rfl, ?_⟩⟩
            have er : runRows (F.drop (i + 1)) (m4.put n w4) tr4 (i + 1) = some tr := er
            obtain ⟨kvs4, e4, _⟩ := id hd8
            obtain ⟨H9, hput, hd9, o9, eo9, mo9⟩ := hd8.put (v := .str w4) (s := w4) (hraw n (n1 n (List.mem_singleton.mpr rfl))) (by rw [sizeLine_eq]; omega) rfl fun o v s mo h => h
            have k9 : Kp [d] H8 H9 := by rw [eo9]; exact Kp.wr1 e4 trivial mo9
            refine if_t (by show (!decide (V.str "give" = V.str "check")) = true; decide) ⟨_, rfl, _, rfl, _, rfl, b, ys, 1, _, rfl, rfl, k8.sqt (k2.sqt hy), h1 n rfl, d, H9, rfl, hput, ?_⟩
            exact ⟨_, _, _, _, m4.put n w4, tr4, rfl, k18.call k9 (fun x hx => .inr (by rw [List.mem_singleton.mp hx]; exact hd)), hd9, hme8.kp k9 (fun z => nds (List.mem_singleton.mp z).symm), er, f1.put f3, by omega⟩
        · subst e1
          rw [e2, if_neg (fun z => Bool.noConfusion z)] at er
          exact if_f rfl ⟨_, _, _, _, mi, tri, rfl, k1, hd1, hme1, er, hmi, by omega⟩
    · rintro σ H1 ⟨u1, u2, u3, u4, mi, tri, rfl, k1, hd1, hme1, er, hmi, htri⟩
      rw [List.length_map, ← paired_len hF, List.drop_length] at er
      obtain rfl : tri = tr := Option.some.inj er
      exact ⟨_, rfl, q me H1 k1 nme hme1⟩
/-! the spots of a text -/
theorem ok_lsp_of (T : Top K mg) (lv : Nat) (ih : FnOk P w K mg base CX0 (1 + lv) T.a_law_spots T.d_law_spots ["text", "spot"] (below (spSpots K) lv)) : FnOk P w K mg base CX0 (1 + lv + 1) T.a_law_spots T.d_law_spots ["text", "spot"] (spSpots K lv) := by
  refine T.F_law_spots.ok sc_law_spots (fun vs H Q E h => ?_) (fun cdv A outer s H vs Q E hr h => ?_)
  · obtain ⟨a, b, t, sp, rfl, _⟩ := h
    rfl
  · obtain ⟨a, b, t, sp, rfl, ⟨xs, hq, hx⟩, hb, wf, hlv, hsp, q⟩ := h
    have hfew : (t.spots sp 0).length ≤ 37448 := Nat.le_trans (spots_le t sp 0) (names_few' wf hlv)
    refine ⟨_, PSs.nox (pss_cons (ps_set (i := 2) sc_law_spots.nd rfl (.inl rfl) (pe_lst pa_nil)) (pss_cons (ps_for PassesOwn.never rfl (pi_enumT rfl T.n_enumerate (pa_cons (pv 0) pa_nil)) (pg_tup rfl (pgs_cons (pg_name (i := 3) sc_law_spots.nd rfl (.inl rfl)) (pgs_cons (pg_name (i := 4) sc_law_spots.nd rfl (.inl rfl)) pgs_nil))) (pss_one (ps_if (PW.pt (pw_and (pt_val (pe_callB (r := rIsi K) call_isi rfl T.n_isinstance bt_isinstance (pa_cons (pv 4) (pa_cons (pe_bltn (v := .ty "tuple") rfl T.n_tuple bt_tuple rfl) pa_nil)))) (pw_and1 (pt_cmpR (op_ne) (pe_ix (r := rIxT K) ix_tup (pv 4) pe_int (fun _ _ => rfl)) pe_str (nomark _))))) (pss_cons (ps_expr (pe_bm PySem.F.plainAttrs_list PySem.F.slot_list_append PySem.F.type_list_append mt_append (pv 2) (pa_cons (pe_op (r := rCatA K) (op_catA) (pv 1) (pe_tup (pa_cons (pv 3) pa_nil))) pa_nil))) (pss_one (ps_set (i := 2) sc_law_spots.nd rfl (.inl rfl) (pe_op (op_cat) (pv 2) (pe_call ih hr rfl T.g_law_spots T.F_law_spots.kp (b_law_spots T) .nil pass0 (pa_cons (pe_ix (r := rIxT K) ix_tup (pv 4) pe_int (fun _ _ => rfl)) (pa_cons (pe_op (r := rCatA K) (op_catA) (pv 1) (pe_tup (pa_cons (pv 3) pa_nil))) pa_nil))))))) pss_nil))) (pss_one (ps_ret (pv 2))))), ?_⟩
    refine ⟨Nat.zero_le _, fun f0 hf0 => ?_⟩
    have k0 := (Kp.nil H).new (.lst []) hf0
    refine ⟨_, rfl, a, xs, rfl, k0.sqt hq, for_enumT (K := K) (a := a) (xs := xs) (fun i σ H' => ∃ f u v done, σ = [some (.ref a), some (.ref b), some (.ref f), u, v] ∧ Kp [] H H' ∧ H f = none ∧ LsAt H' f done ∧ done ++ (t.drop i).spots sp i = t.spots sp 0)
      ⟨f0, none, none, [], rfl, k0, hf0, ⟨[], upd_same, .nil⟩, by cases t <;> rfl⟩ (fun i σ H' _ ⟨_, _, _, _, _, k, _⟩ => k.sqt hq) ?_ ?_⟩
    · rintro i x σ H1 Tt hi ⟨f, u, v, done, rfl, k1, hf, ⟨vs, hl, hp⟩, ed⟩ hT
      obtain ⟨p, hpc, ep⟩ := hx.get hi
      have kT := (Kp.nil H1).new (.tup [.int (i : Nat), x]) hT
      have k2 := k1.new (.tup [.int (i : Nat), x]) hT
      have hl2 : (upd H1 Tt (.tup [.int (i : Nat), x])) f = some (.lst vs) := by rw [upd_ne (ne_of_none hl hT)]; exact hl
      obtain ⟨l', el', hg⟩ := wb_piece wf ep
      subst el'
      rw [spots_piece sp ep] at ed
      have hpc2 := hpc.kp k2
      refine ⟨Tt, _, rfl, .inl (.inl upd_same), rfl, _, _, rfl, _, _, rfl, rfl, ?_⟩
      cases p with
      | lit z =>
        have ex : x = .str z := hpc
        subst ex
        exact ⟨_, rfl, _, _, _, _, _, rfl, .ty _, .base (.str _), ki_st, _, rfl, if_f rfl (if_f rfl ⟨f, _, _, done, rfl, k2, hf, ⟨vs, hl2, spots_kp hp kT⟩, ed⟩)⟩
      | part n g u' =>
        obtain ⟨c, d, rfl, hc, hd⟩ := hpc2
        refine ⟨_, rfl, _, _, _, _, _, rfl, .ty _, ty_tup hc, ki_tt, _, rfl, if_t rfl ⟨_, rfl, c, _, 1, _, rfl, rfl, hc, atI_nat (j := 1) rfl, rfl, _, rfl, ?_⟩⟩
        rw [sg_ne]
        cases g with
        | no => exact if_f rfl ⟨f, _, _, done, rfl, k2, hf, ⟨vs, hl2, spots_kp hp kT⟩, ed⟩
        | op hd' kd =>
          have hlen : done.length + (1 + (u'.spots (sp ++ [(i : Int)]) 0).length) ≤ 37448 := by
            have e2 := congrArg List.length ed
            rw [List.length_append, List.length_append] at e2
            have e3 : (Pc.spots sp i (.part n (.op hd' kd) u')).length = (u'.spots (sp ++ [(i : Int)]) 0).length + 1 := rfl
            omega
          have hvl := Paired.length hp
          refine if_t rfl ⟨_, rfl, .inl ⟨rfl, _, .inl (.inl hl2)⟩, _, rfl, _, rfl, sz1, fun t1 ht1 => ?_⟩
          have k3 := k2.new (.tup [.int (i : Nat)]) ht1
          have kT3 := kT.new (.tup [.int (i : Nat)]) ht1
          have hb3 : (upd (upd H1 Tt (.tup [.int (i : Nat), .ref c])) t1 (.tup [.int (i : Nat)])) b = some (.tup (sp.map V.int)) := k3.tup hb
          refine catH hb3 upd_same (by rw [List.length_map, sizeLine_eq]; simp only [List.length_cons, List.length_nil]; omega) fun p1 H2 k4 hp1 => ?_
          have k5 := k3.trans k4
          have kT5 := kT3.trans k4
          have hl3 : H2 f = some (.lst vs) := kT5.keep f _ (fun z => nomatch z) hl
          refine ⟨f, vs, _, rfl, rfl, hl3, by rw [hvl, sizeLine_eq]; omega, ?_⟩
          have hsp1 : sp.map V.int ++ [V.int (i : Nat)] = (sp ++ [(i : Int)]).map V.int := by rw [List.map_append]; rfl
          rw [hsp1] at hp1
          have kF : Kp [f] H2 (upd H2 f (.lst (vs ++ [.ref p1]))) := Kp.wr1 hl3 trivial trivial
          have k6 := k5.own (o := .lst (vs ++ [.ref p1])) hf
          have hc6 := kF.sqt (k4.sqt (((Kp.nil _).new (.tup [.int (i : Nat)]) ht1).sqt hc))
          refine ⟨_, rfl, _, rfl, c, _, 2, _, rfl, rfl, hc6, atI_nat (j := 2) rfl, _, rfl, _, rfl, sz1, fun t2 ht2 => ?_⟩
          have k7 := k6.new (.tup [.int (i : Nat)]) ht2
          have kF7 := kF.new (.tup [.int (i : Nat)]) ht2
          refine catH (kF7.tup (k4.tup hb3)) upd_same (by rw [List.length_map, sizeLine_eq]; simp only [List.length_cons, List.length_nil]; omega) fun p2 H3 k8 hp2 => ?_
          rw [hsp1] at hp2
          have k9 := k7.trans k8
          have hl4 : H3 f = some (.lst (vs ++ [.ref p1])) := k8.keep f _ (fun z => nomatch z) (by rw [upd_ne (ne_of_none upd_same ht2)]; exact upd_same)
          refine ⟨d, p2, u', sp ++ [(i : Int)], rfl, (((hd.kp ((Kp.nil _).new _ ht1)).kp k4).kp kF7).kp k8, hp2, hg.2.1, by omega, by rw [List.length_append]; simp only [List.length_cons, List.length_nil]; omega, fun p3 H4 k10 hp3 hL => ?_⟩
          obtain ⟨ws, hw, hws⟩ := hL
          have hl5 : H4 f = some (.lst (vs ++ [.ref p1])) := k10.keep f _ (fun z => nomatch z) hl4
          have hwl := Paired.length hws
          refine ⟨f, p3, _, _, rfl, rfl, hl5, hw, by rw [List.length_append, hvl, hwl, sizeLine_eq]; simp only [List.length_cons, List.length_nil]; omega, fun f2 hf2 => ?_⟩
          have kN := (Kp.nil H4).new (.lst (vs ++ [.ref p1] ++ ws)) hf2
          have kA := k9.trans k10
          refine ⟨f2, _, _, done ++ (sp ++ [(i : Int)]) :: u'.spots (sp ++ [(i : Int)]) 0, rfl, kA.trans kN, kA.same.free hf2, ⟨_, upd_same, ?_⟩, by rw [List.append_assoc]; exact ed⟩
          rw [List.append_assoc] at kN ⊢
          refine paired_app ?_ (.cons ?_ (spots_kp hws kN))
          · exact spots_kp (spots_kp (spots_kp (spots_kp (spots_kp hp kT5) kF7) k8) k10) kN
          · exact ⟨p1, rfl, kN.tup (k10.tup (k8.tup (kF7.tup hp1)))⟩
    · rintro σ H1 ⟨f, u, v, done, rfl, k1, hf, hl, ed⟩
      rw [hx.len, drop_len] at ed
      have ed : done = t.spots sp 0 := by rw [← ed]; exact (List.append_nil _).symm
      subst ed
      exact ⟨_, rfl, q f H1 k1 hf hl⟩
theorem ok_lsp_at (T : Top K mg) : ∀ l : Nat, FnOk P w K mg base CX0 (2 + l) T.a_law_spots T.d_law_spots ["text", "spot"] (spSpots K l)
  | 0 => (ok_lsp_of T 0 ok_none).mono (by omega)
  | l + 1 => (ok_lsp_of T (l + 1) ((ok_lsp_at T l).mono (by omega))).mono (by omega)
theorem ok_law_spots (T : Top K mg) : FnOk P w K mg base CX0 7 T.a_law_spots T.d_law_spots ["text", "spot"] (spSpots K 5) := ok_lsp_at T 5
/-! a world's size -/
def spSize : Sp := fun vs H Q _ => ∃ (d : Addr) (e : List (Str × Str)), vs = [.ref d] ∧ EnvAt H d e ∧ EnvOk e ∧ ∀ p H', Kp [] H H' → H p = none → H' p = some (.tup ((szI e).map V.int)) → Q (.ref p) H'
theorem ok_law_size (T : Top K mg) : FnOk P w K mg base CX0 1 T.a_law_size T.d_law_size ["env"] spSize := by
  refine T.F_law_size.ok sc_law_size (fun vs H Q E h => ?_) (fun cdv A outer s H vs Q E hr h => ?_)
  · obtain ⟨d, _, rfl, _⟩ := h
    rfl
  · obtain ⟨d, e, rfl, he, ⟨nd, h60, hval⟩, q⟩ := h
    refine ⟨_, PSs.nox (pss_one (ps_ret (pe_tup (pa_cons (pe_callB call_lenD rfl T.n_len bt_len (pa_cons (pv 0) pa_nil)) (pa_cons (pe_callB (r := rSum K) (cr_sum rfl) rfl T.n_sum bt_sum (pa_cons (pe_lock (pe_lc rfl sc_law_size.nd (pi_values (pv 0)) (blkOk_by (own := [("value", 1)]) (by kernel_rfl)) (fun _ _ _ _ _ => (pg_name (i := 1) sc_law_size.nd rfl (.inl rfl))) (fun _ _ _ _ _ => pts_nil) (fun _ _ _ _ _ => (pe_callB cr_lenS rfl T.n_len bt_len (pa_cons (pv 1) pa_nil))))) pa_nil)) pa_nil))))), ?_⟩
    refine ⟨_, rfl, d, _, rfl, he, ?_⟩
    refine ⟨d, _, he, trivial, fun od => ?_⟩
    refine ⟨_, rfl, d, od, _, rfl, upd_same, fun D hD => lc_gen walk_values (fun j H' => Kp [] (upd H d (.frz od (.dK (kvsOf e)))) H' ∧ ∃ ns : List Int, H' D = some (.lst (ns.map V.int)) ∧ ns.length = j ∧ ns.sum = ((((e.take j).map fun p => p.2.length).sum : Nat) : Int))
      ⟨(Kp.nil _).new _ hD, [], upd_same, rfl, rfl⟩ (fun j H' _ ⟨k, _⟩ => k.keep d _ (fun z => nomatch z) upd_same) ?_ ?_⟩
    · rintro j y H2 H2' hj ⟨k2, ns, hD2, en, es⟩ ⟨rfl, k, hkv⟩
      obtain ⟨n, s, hq, rfl, rfl⟩ := kvs_at hkv
      rw [kvs_len] at hj
      have hs : s.length ≤ 1000 := hval _ (List.mem_of_getElem? hq)
      refine ⟨rfl, _, rfl, s, rfl, by rw [sizeLine_eq]; omega, _, hD2, by rw [List.length_map, en, sizeLine_eq]; omega, k2.own hD, ns ++ [(s.length : Int)], by rw [upd_same, List.map_append]; rfl, by rw [List.length_append, en]; rfl, ?_⟩
      rw [List.sum_append, es, take_snoc hq, List.map_append, List.sum_append]
      simp
    · rintro H2 ⟨k2, ns, hD2, en, es⟩
      rw [kvs_len, List.take_length] at es
      have hf : H2 d = some (.frz od (.dK (kvsOf e))) := k2.keep d _ (fun z => nomatch z) upd_same
      have k3 := Kp.unlock he k2
      have nD : D ≠ d := fun z => by rw [z, hf] at hD2; cases hD2
      refine ⟨hf, D, ns, rfl, .inl (.inl (by rw [upd_ne nD]; exact hD2)), sz2, fun t2 ht2 => ?_⟩
      have k4 := k3.new (.tup [.int ((kvsOf e).length : Nat), .int ns.sum]) ht2
      have hsz : [V.int ((kvsOf e).length : Nat), V.int ns.sum] = (szI e).map V.int := by
        rw [kvs_len, es]; rfl
      exact q t2 _ k4 (k3.free ht2) (by rw [← hsz]; exact upd_same)
end
end EV
end

section
set_option Elab.async false
set_option linter.all false
set_option maxRecDepth 100000
set_option maxHeartbeats 4000000
/-! bodies of the law: is it refused -/
namespace EV
open PySem PySem.Spec PyProof.Rows L2
/-! ### what lies stays, but for the tables of code objects -/
section
variable {K : PySem.W.Frag} {H H' : Hp}
theorem ext_sqt {a : Addr} {xs : List V} (k : LamX.ExtN H H') (h : SqT K H a xs) : SqT K H' a xs := by
  rcases h with (h | ⟨o, h⟩) | h
  · exact .inl (.inl (k a _ h fun _ z => nomatch z))
  · exact .inl (.inr ⟨o, k a _ h fun _ z => nomatch z⟩)
  · exact .inr h
theorem PcAt.ext (k : LamX.ExtN H H') : ∀ {t : Txt} {xs : List V}, PcAt K H t xs → PcAt K H' t xs
  | .nil, _, h => h
  | .lit s r, _, ⟨ys, e, h⟩ => ⟨ys, e, PcAt.ext k h⟩
  | .part n g t r, _, ⟨a, c, ts, ys, e, h1, h2, h3, h4⟩ => ⟨a, c, ts, ys, e, ext_sqt k h1, ext_sqt k h2, PcAt.ext k h3, PcAt.ext k h4⟩
theorem TextAt.ext {a : Addr} {t : Txt} (h : TextAt K H a t) (k : LamX.ExtN H H') : TextAt K H' a t := let ⟨xs, h1, h2⟩ := h; ⟨xs, ext_sqt k h1, h2.ext k⟩
theorem RowAt.ext (k : LamX.ExtN H H') : ∀ {r : Row} {a : Addr}, RowAt K H a r → RowAt K H' a r
  | .set _ _, _, ⟨c, h1, h2⟩ => ⟨c, ext_sqt k h1, h2.ext k⟩
  | .give _ _, _, ⟨c, h1, h2⟩ => ⟨c, ext_sqt k h1, h2.ext k⟩
  | .drop _, _, h => ext_sqt k h
  | .check _, _, ⟨c, h1, h2⟩ => ⟨c, ext_sqt k h1, h2.ext k⟩
theorem FileAt.ext {a : Addr} {F : File} (h : FileAt K H a F) (k : LamX.ExtN H H') : FileAt K H' a F :=
  let ⟨as, h1, h2⟩ := h; ⟨as, ext_sqt k h1, Paired.mapP h2 fun _ _ r => r.ext k⟩
theorem ext_kp (k : Kp [] H H') : LamX.ExtN H H' := .of fun b o e => k.keep b o (fun z => nomatch z) e
end
/-! ### an exception's wish, told of slots of the right number -/
theorem takes_len {X : Cx} {W : WX} (tk : Takes X W) : Takes X (fun cls d σ H => σ.length = X.N.length → W cls d σ H) := fun u s' xx => by
  obtain ⟨a, B, sI, pins, σ, H, cls, d, rfl, I, nb, up, sky, na, os, ag, w⟩ := xx
  exact tk _ _ ⟨a, B, sI, pins, σ, H, cls, d, rfl, I, nb, up, sky, na, os, ag, w I.len⟩
/-- an expression that never ends well -/
theorem pe_bad {X : Cx} {e : Expr} {te : TE} (he : PE X e te) : PE X e fun σ H _ => te σ H fun _ _ => False := ⟨fun pins s σ H Q I h => wpAny_mono (he.run pins s σ H _ I h) (fun v s' ⟨_, _, _, _, z⟩ => z.elim) fun _ _ z => z⟩
/-- what the def makes of the lambda: an error TooLong(400) makes it true -/
def TTref (C : Addr) : (XK → Hp → VK → Prop) → Hp → VK → Prop := fun tl H Q =>
  tl (fun cls d H' => cls = .ref C ∧ ∃ dd, d = some dd ∧ H' dd = some (.xd [("most", .int 400)]) ∧ ∀ H'', Kp [] H' H'' → Q (.bl true) H'') H fun _ _ => False
section
variable {X : Cx}
theorem refused_gives (T : Top X.K X.mg) {q : Str} {cdg : Value} : LamX.GivesTo X ["call", "caught", "e"] "_law_is_refused" (defScope s_law_is_refused) T.a_law_is_refused cdg (defBody s_law_is_refused) "call" q (TTref T.a_TooLong) := by
  intro f c' s H Q tl act hc h
  refine ⟨_, pss_cons (ps_set (i := 1) sc_law_is_refused.nd rfl (.inl rfl) pe_non) (pss_cons (ps_try_keep (i := 2) (X := (cxOf C8.CX0 X.prog X.w X.K X.mg X.base ["call", "caught", "e"] "_law_is_refused" (defScope s_law_is_refused) T.a_law_is_refused cdg X.A X.stack s H C8.E0).nox)
      (tb := fun W D σ H => ∃ Ech : XK, (∀ cls d σ' H', Ech cls d H' → σ'.length = 3 → W cls d σ' H') ∧ σ[0]? = some (some (.ref f)) ∧ H c' = some (LamX.CodeO c' q) ∧ tl Ech H fun _ _ => False)
      (ts := tAsg (tVar 2) (gName 1)) (Wout := fun _ _ _ _ => False)
      rfl rfl rfl sc_law_is_refused.nd rfl rfl ⟨rfl, by decide, .inl T.g_RowsError⟩ LamX.takes0 (fun W pn xe tk _ => ?_) (fun a pn => pss_one (ps_set (i := 1) sc_law_is_refused.nd rfl (.inl rfl) (pv 2))))
      (pss_one (ps_ret (pe_and (pe_callB (r := rIsK X.K) call_isK rfl T.n_isinstance bt_isinstance (pa_cons (pv 1) (pa_cons (pe_glob (v := .ref T.a_TooLong) rfl T.g_TooLong rfl) pa_nil))) (pe_one (pe_cmpR (op_eq) (pe_xk (pv 1)) pe_int (nomark _))))))), ?_⟩
  · refine ⟨fun pins s' σ H' D I h' => ?_⟩
    obtain ⟨Ech, hW, h1, h2, h3⟩ := h'
    have hp := fun p1 p2 => act (fun cls d σ H => σ.length = 3 → W cls d σ H) pn xe Ech p1 p2 (takes_len tk) hW
    exact (pss_one (ps_expr (pe_bad (hp _ _)))).run pins s' σ H' D I ⟨h1, h2, h3⟩
  · refine ⟨fun cls d H' => cls = .ref T.a_TooLong ∧ ∃ dd, d = some dd ∧ H' dd = some (.xd [("most", .int 400)]) ∧ ∀ H'', Kp [] H' H'' → Q (.bl true) H'', ?_, rfl, hc, ?_⟩
    · rintro cls d σ' H' ⟨rfl, dd, rfl, hdd, hq⟩ hl
      obtain ⟨x, y, z, rfl⟩ : ∃ x y z, σ' = [x, y, z] := by
        match σ', hl with
        | [x, y, z], _ => exact ⟨x, y, z, rfl⟩
      refine ⟨true, T.r_TooLong, fun _ a ha => ?_, fun z => nomatch z⟩
      have k1 := (Kp.nil H').new (exk a (.ref T.a_TooLong) (some dd)) ha
      have hdd2 : (upd H' a (exk a (.ref T.a_TooLong) (some dd))) dd = some (.xd [("most", .int 400)]) := by rw [upd_ne (ne_of_none hdd ha)]; exact hdd
      refine ⟨_, rfl, _, rfl, a, T.a_TooLong, dd, _, _, .ref T.a_TooLong, true, rfl, upd_same, hdd2, T.e_TooLong, (fun u e => e), T.c_TooLong, _, rfl, if_t rfl ?_⟩
      exact ⟨_, rfl, a, T.a_TooLong, dd, _, _, rfl, upd_same, hdd2, T.x_TooLong, T.m_TooLong, rfl, rfl, hq _ k1⟩
    · exact h
end
end EV
end

section
set_option Elab.async false
set_option linter.all false
set_option maxRecDepth 100000
set_option maxHeartbeats 4000000
/-! spots as a shown text -/
namespace EV
open PySem PySem.Spec PyProof.Rows L2
/-- a spot of small numbers -/
def SpotOk (s : Spot) : Prop := s.length ≤ 6 ∧ ∀ x ∈ s, 0 ≤ x ∧ x < 100
theorem spots_small : ∀ (t : Txt) (lv : Nat) (sp : Spot) (i : Nat), t.good lv = true → i + t.len ≤ 8 → sp.length + lv ≤ 6 → (∀ x ∈ sp, 0 ≤ x ∧ x < (100 : Int)) → ∀ s ∈ t.spots sp i, SpotOk s
  | .nil, lv, sp, i, _, _, _, _, s, h => nomatch h
  | .lit z r, lv, sp, i, hg, hl, hs, hp, s, h => spots_small r lv sp (i + 1) (Bool.and_eq_true_iff.mp hg).2 (by have : (Txt.lit z r).len = r.len + 1 := rfl; omega) hs hp s h
  | .part n .no t r, lv, sp, i, hg, hl, hs, hp, s, h => spots_small r lv sp (i + 1) (Bool.and_eq_true_iff.mp hg).2 (by have : (Txt.part n .no t r).len = r.len + 1 := rfl; omega) hs hp s h
  | .part n (.op hd k) t r, lv, sp, i, hg, hl, hs, hp, s, h => by
    have e : (Txt.part n (.op hd k) t r).len = r.len + 1 := rfl
    cases lv with
    | zero =>
      obtain ⟨g1, _⟩ := Bool.and_eq_true_iff.mp (show (nameOk n && false && r.good 0) = true from hg)
      obtain ⟨_, g3⟩ := Bool.and_eq_true_iff.mp g1
      cases g3
    | succ l =>
      obtain ⟨g1, g2⟩ := Bool.and_eq_true_iff.mp (show (nameOk n && (decide (t.len ≤ 8) && (decide (0 < l) && t.good l)) && r.good (l + 1)) = true from hg)
      obtain ⟨_, g3⟩ := Bool.and_eq_true_iff.mp g1
      obtain ⟨g4, g5⟩ := Bool.and_eq_true_iff.mp g3
      obtain ⟨_, g7⟩ := Bool.and_eq_true_iff.mp g5
      have g4 := of_decide_eq_true g4
      have hp2 : ∀ x ∈ sp ++ [(i : Int)], 0 ≤ x ∧ x < (100 : Int) := fun x hx => by
        rcases List.mem_append.mp hx with z | z
        · exact hp x z
        · rw [List.mem_singleton.mp z]; omega
      have hlen : (sp ++ [(i : Int)]).length = sp.length + 1 := by rw [List.length_append]; rfl
      rcases List.mem_cons.mp h with e1 | h
      · rw [e1]; exact ⟨by rw [hlen]; omega, hp2⟩
      rcases List.mem_append.mp h with h | h
      · exact spots_small t l (sp ++ [(i : Int)]) 0 g7 (by omega) (by rw [hlen]; omega) hp2 s h
      · exact spots_small r (l + 1) sp (i + 1) g2 (by omega) hs hp s h
theorem from_small : ∀ (F : File) (i : Nat), (∀ r ∈ F, r.good = true) → i + F.length ≤ 41 → ∀ s ∈ spotsFrom i F, SpotOk s
  | [], _, _, _, s, h => nomatch h
  | r :: F, i, hg, hl, s, h => by
    rw [List.length_cons] at hl
    rcases List.mem_append.mp h with h | h
    · obtain ⟨wf, _⟩ := Bool.and_eq_true_iff.mp (hg r (List.mem_cons_self ..))
      obtain ⟨w1, w2⟩ := Bool.and_eq_true_iff.mp wf
      have w1 := of_decide_eq_true w1
      exact spots_small r.text 4 [(i : Int)] 0 w2 (by omega) (by simp) (fun x hx => by rw [List.mem_singleton.mp hx]; omega) s h
    · exact from_small F (i + 1) (fun r hr => hg r (List.mem_cons_of_mem _ hr)) (by omega) s h
theorem all_small {F : File} (hF : GoodFile F) : ∀ s ∈ allSpots F, SpotOk s := from_small F 0 hF.2.1 (by have := hF.1; omega)
theorem log_small {x : Int} (h : 0 ≤ x ∧ x < 100) : x.natAbs.log2 + 1 ≤ 7 ∧ x.natAbs < 100 := by
  have h1 : x.natAbs < 100 := by omega
  refine ⟨?_, h1⟩
  have h2 : x.natAbs < 2 ^ 7 := by omega
  by_cases z : x.natAbs = 0
  · rw [z]; decide
  · have := (Nat.log2_lt z).mpr h2
    omega
theorem spD_weight : ∀ {s : Spot}, (∀ x ∈ s, 0 ≤ x ∧ x < (100 : Int)) → PyData.weightAll (s.map PyData.int) ≤ 8 * s.length
  | [], _ => by simp [PyData.weightAll]
  | x :: s, h => by
    have h1 := (log_small (h x (List.mem_cons_self ..))).1
    have h2 := spD_weight (s := s) fun y hy => h y (List.mem_cons_of_mem _ hy)
    simp only [List.map_cons, PyData.weightAll, PyData.weight, List.length_cons]
    split <;> omega
theorem spsD_weight : ∀ {ss : List Spot}, (∀ s ∈ ss, SpotOk s) → PyData.weightAll (ss.map spD) ≤ 50 * ss.length
  | [], _ => by simp [PyData.weightAll]
  | s :: ss, h => by
    have h0 := h s (List.mem_cons_self ..)
    have h1 := spD_weight h0.2
    have h2 := spsD_weight (ss := ss) fun y hy => h y (List.mem_cons_of_mem _ hy)
    have h3 := h0.1
    have e : PyData.weight (spD s) = PyData.weightAll (s.map PyData.int) := by simp only [spD, PyData.weight]
    simp only [List.map_cons, PyData.weightAll, List.length_cons]
    rw [e]
    omega
theorem spsD_layable {ss : List Spot} (h : ∀ s ∈ ss, SpotOk s) (hl : ss.length ≤ 4000) : PyData.layable0 (spsD ss) = true := by
  have h1 := spsD_depth ss
  have h2 := spsD_weight h
  show (PyData.canLay0 (spsD ss) && decide (PyData.depth (spsD ss) ≤ 64) && decide (PyData.weight (spsD ss) ≤ 2 ^ 20)) = true
  have e1 : PyData.canLay0 (spsD ss) = true := by simp only [spsD, PyData.canLay0]; exact spsD_lay ss
  have e2 : PyData.depth (spsD ss) ≤ 64 := by simp only [spsD, PyData.depth]; omega
  have e3 : PyData.weight (spsD ss) ≤ 2 ^ 20 := by simp only [spsD, PyData.weight]; omega
  rw [e1, decide_eq_true e2, decide_eq_true e3]; rfl
theorem spsD_show : ∀ {ss : List Spot}, (∀ s ∈ ss, SpotOk s) → PyData.showableAll (ss.map spD) = true
  | [], _ => by simp [PyData.showableAll]
  | s :: ss, h => by
    have h2 := spsD_show (ss := ss) fun y hy => h y (List.mem_cons_of_mem _ hy)
    have h3 : ∀ {t : Spot}, (∀ x ∈ t, 0 ≤ x ∧ x < (100 : Int)) → PyData.showableAll (t.map PyData.int) = true := fun {t} => by
      induction t with
      | nil => intro _; simp [PyData.showableAll]
      | cons x t ih =>
        intro ht
        have a := (log_small (ht x (List.mem_cons_self ..))).1
        have b := ih fun y hy => ht y (List.mem_cons_of_mem _ hy)
        simp only [List.map_cons, PyData.showableAll, PyData.showable, b, Bool.and_true]
        exact decide_eq_true (by omega)
    have h4 : (spD s).showable = true := by simp only [spD, PyData.showable]; exact h3 (h s (List.mem_cons_self ..)).2
    simp only [List.map_cons, PyData.showableAll, h4, h2, Bool.and_self]
theorem short2 : ∀ n : Nat, n < 100 → PyData.intsShort 13 (.int (n : Int)) = true := by decide +kernel
theorem spsD_short {ss : List Spot} (h : ∀ s ∈ ss, SpotOk s) : PyData.intsShort 13 (spsD ss) = true := by
  simp only [spsD, PyData.intsShort]
  refine intsShortAll_of fun d hd => ?_
  obtain ⟨s, hs, rfl⟩ := List.mem_map.mp hd
  simp only [spD, PyData.intsShort]
  refine intsShortAll_of fun d hd => ?_
  obtain ⟨x, hx, rfl⟩ := List.mem_map.mp hd
  obtain ⟨h1, h2⟩ := (h s hs).2 x hx
  have := short2 x.toNat (by omega)
  rw [show ((x.toNat : Nat) : Int) = x by omega] at this
  exact this
/-- repr of a list of spots -/
theorem repr_spots {K : PySem.W.Frag} {H : Hp} {p : Addr} {ss : List Spot} {Q : VK} (hL : LsAt H p ss) (h : ∀ s ∈ ss, SpotOk s) (hl : ss.length ≤ 4000) (q : Q (.str (spsD ss).shown) H) : rRepr K [.ref p] H Q :=
  ⟨p, spsD ss, rfl, sps_dp hL, by simp only [spsD, PyData.showable]; exact spsD_show h, PyData.hasDict_of_canLay _ (by simp only [spsD, PyData.canLay0]; exact spsD_lay ss), by have := spsD_depth ss; simp only [spsD, PyData.depth]; omega,
    by have := shown_le13 (spsD_layable h hl) (spsD_short h); rw [sizeLine_eq]; omega, q⟩
end EV
end

section
set_option Elab.async false
set_option linter.all false
set_option maxRecDepth 100000
set_option maxHeartbeats 4000000
/-! bodies of the law: is a file answered right -/
namespace EV
open PySem PySem.Spec PyProof.Rows L2
def lamQ : Str := (envOfC "_law_file_right" (defScope s_law_file_right) 0 0 .none).qual ++ "<lambda>"
section
variable {P : Program} {w : World} {K : PySem.W.Frag} {mg : Str → Option Value} {base : Heap}
theorem refused_at {X : Cx} {K : PySem.W.Frag} {mg : Str → Option Value} (T : Top K mg) (hK : X.K = K) (hm : X.mg = mg) {q : Str} {cdg : Value} : LamX.GivesTo X ["call", "caught", "e"] "_law_is_refused" (defScope s_law_is_refused) T.a_law_is_refused cdg (defBody s_law_is_refused) "call" q (TTref T.a_TooLong) := by
  subst hK hm
  exact refused_gives T
def spRight (K : PySem.W.Frag) (TS : List (Addr × Str)) : Sp := fun vs H Q _ => ∃ (nl a : Addr) (ns : List Str) (F : File), vs = [.ref nl, .ref a] ∧ H nl = some (.lst (ns.map V.str)) ∧ NsOk ns ∧ FileAt K H a F ∧ GoodFile F ∧ (∀ x ∈ rawNames F, x ∈ ns) ∧ LamX.Tabs TS H ∧
  ∀ H', LamX.ExtN H H' → LamX.Tabs TS H' → Q (.bl true) H'
/-- the least sizes of the worlds so far that meet a spot -/
def LeastAt (H : Hp) (d : Addr) (D : Case → Spot → Prop) (n : Nat) : Prop := ∃ kvs : List (List Key × V), H d = some (.dT kvs) ∧ kvs.length ≤ n ∧ ∀ s, match valV kvs (kOf s) with
  | none => ∀ c, ¬ D c s
  | some v => ∃ (q : Addr) (c : Case), v = .ref q ∧ H q = some (.tup ((szI (envOf c)).map V.int)) ∧ D c s ∧ ∀ c', D c' s → szLe (envSize (envOf c)) (envSize (envOf c'))
theorem LeastAt.kp {H H' : Hp} {d : Addr} {D : Case → Spot → Prop} {n : Nat} (h : LeastAt H d D n) (k : Kp [] H H') : LeastAt H' d D n := by
  obtain ⟨kvs, h1, h2, h3⟩ := h
  refine ⟨kvs, k.keep d _ (fun z => nomatch z) h1, h2, fun s => ?_⟩
  have := h3 s
  cases e : valV kvs (kOf s) with
  | none => rw [e] at this; exact this
  | some v =>
    rw [e] at this
    obtain ⟨q, c, e1, e2, e3⟩ := this
    exact ⟨q, c, e1, k.tup e2, e3⟩
theorem LeastAt.imp {H : Hp} {d : Addr} {D D' : Case → Spot → Prop} {n m : Nat} (h : LeastAt H d D n) (hn : n ≤ m) (hd : ∀ c s, D c s ↔ D' c s) : LeastAt H d D' m := by
  have e : D = D' := funext fun c => funext fun s => propext (hd c s)
  subst e
  obtain ⟨kvs, h1, h2, h3⟩ := h
  exact ⟨kvs, h1, Nat.le_trans h2 hn, h3⟩
theorem LeastAt.step {H : Hp} {d : Addr} {D D' : Case → Spot → Prop} {n : Nat} {kvs : List (List Key × V)} {s : Spot} {r : Addr} {c1 : Case} (h : LeastAt H d D n) (e : H d = some (.dT kvs)) (hr : H r = some (.tup ((szI (envOf c1)).map V.int))) (h1 : D' c1 s)
    (h2 : ∀ c', D' c' s → szLe (envSize (envOf c1)) (envSize (envOf c'))) (ho : ∀ c' s', s' ≠ s → (D c' s' ↔ D' c' s')) : LeastAt (upd H d (.dT (putK kvs (kOf s) (.ref r)))) d D' (n + 1) := by
  obtain ⟨kvs0, e0', hn, hv⟩ := h
  obtain rfl : kvs0 = kvs := by rw [e] at e0'; cases e0'; rfl
  have ne : ∀ {q : Addr} {xs : List V}, H q = some (.tup xs) → q ≠ d := fun {q xs} z w => by rw [w, e] at z; cases z
  refine ⟨_, upd_same, Nat.le_trans (putT_len _ _ _) (by omega), fun s' => ?_⟩
  rw [valV_put]
  by_cases z : s' = s
  · subst z
    rw [if_pos rfl]
    exact ⟨r, c1, rfl, by rw [upd_ne (ne hr)]; exact hr, h1, h2⟩
  · rw [if_neg fun w => z (kOf_inj w)]
    have := hv s'
    cases ev : valV kvs0 (kOf s') with
    | none => rw [ev] at this; exact fun c' hc => this c' ((ho c' s' z).mpr hc)
    | some v =>
      rw [ev] at this
      obtain ⟨q, c, e1, e2, e3, e4⟩ := this
      exact ⟨q, c, e1, by rw [upd_ne (ne e2)]; exact e2, (ho c s' z).mp e3, fun c' hc => e4 c' ((ho c' s' z).mpr hc)⟩
theorem spots_row (F : File) (r : Row) (i : Nat) (h : F[i]? = some r) : spotsFrom i (F.drop i) = r.text.spots [(i : Int)] 0 ++ spotsFrom (i + 1) (F.drop (i + 1)) := by rw [drop_cons h]; rfl
theorem szI_first (e : List (Str × Str)) (h : e.length ≤ 60) : HT.lexLt (szI e) [99, 0] = true := by
  unfold szI
  rw [HT.lexLt_cons, if_neg (by show ¬ ((e.length : Nat) : Int) = 99; omega)]
  exact decide_eq_true (by show ((e.length : Nat) : Int) < 99; omega)
theorem ok_law_file_right (T : Top K mg) {cd Pt : Addr} (hcode : T.d_law_file_right.code = .ref cd) (TB : LamX.TabB base mg cd Pt) : FnOkG P w K mg base CX0 23 T.a_law_file_right T.d_law_file_right ["names", "rows"] (spRight K [(Pt, lamQ)]) := by
  obtain ⟨oc1, od1, dV1, kV1, doc1, pm1, an1, cdv1, ct1, osl1, hfd1, lk1, hcd1, _, _⟩ := T.F_law_is_refused.ex
  have hb1 := b_law_is_refused T
  rw [hfd1] at hb1 lk1
  generalize hTS : [(Pt, lamQ)] = TS
  have hmT : (Pt, lamQ) ∈ TS := by rw [← hTS]; exact List.mem_singleton.mpr rfl
  have hu : ∀ p ∈ TS, p.1 = Pt → p.2 = lamQ := fun p hp _ => by rw [← hTS] at hp; rw [List.mem_singleton.mp hp]
  refine okG T.F_law_file_right sc_law_file_right (fun vs H Q E h => ?_) (fun cdv A outer s H vs Q E hcv hr hG h => ?_)
  · obtain ⟨nl, a, _, _, rfl, _⟩ := h
    rfl
  · obtain rfl : cdv = .ref cd := by rw [← hcv, hcode]
    obtain ⟨nl, a, ns, F, rfl, hnl, hns, hF, hgf, hraw, hTb, q⟩ := h
    refine ⟨_, PSs.nox (pss_cons (ps_if (pt_val (pe_call (ok_law_is_long T) (hr.mono (by omega)) rfl T.g_law_is_long T.F_law_is_long.kp (b_law_is_long T) .nil pass0 (pa_cons (pv 0) (pa_cons (pv 1) pa_nil)))) (pss_one (ps_ret (LamX.pe_lamcall (T := TS) (TT := TTref T.a_TooLong) (k := 19) rfl T.g_law_is_refused T.F_law_is_refused.kp lk1 hcd1 hb1 sc_law_is_refused rfl (.inl rfl) (refused_at T rfl rfl) TB rfl hmT hu (hr.mono (by omega)) (LamX.lamS_by (by kernel_rfl)) rfl (fun _ _ _ _ _ => rfl) (fun A outer s H E f c hr => pe_call (ok_dead T) (hr.mono (by omega)) rfl T.g_dead T.F_dead.kp (b_dead T) .nil (passes_call (takes_of rfl rfl rfl rfl) (fun _ _ _ _ h => h)) (pa_cons (pv 1) pa_nil))))) pss_nil) (pss_cons (ps_asg (pe_tup (pa_cons (pe_lst pa_nil) (pa_cons pe_dnewT pa_nil))) (pg_tup rfl (pgs_cons (pg_name (i := 2) sc_law_file_right.nd rfl (.inl rfl)) (pgs_cons (pg_name (i := 3) sc_law_file_right.nd rfl (.inr rfl)) pgs_nil)))) (pss_cons (ps_for PassesOwn.never rfl (pi_enumT rfl T.n_enumerate (pa_cons (pv 1) pa_nil)) (pg_tup rfl (pgs_cons (pg_name (i := 4) sc_law_file_right.nd rfl (.inl rfl)) (pgs_cons (pg_name (i := 5) sc_law_file_right.nd rfl (.inl rfl)) pgs_nil))) (pss_one (ps_set (i := 2) sc_law_file_right.nd rfl (.inl rfl) (pe_op (op_cat) (pv 2) (pe_call (ok_law_spots T) (hr.mono (by omega)) rfl T.g_law_spots T.F_law_spots.kp (b_law_spots T) .nil pass0 (pa_cons (pe_ifExp (pt_cmpR (op_eq) (pe_ix (r := rIxT K) ix_tup (pv 5) pe_int (fun _ _ => rfl)) pe_str (nomark _)) (pe_tup pa_nil) (pe_ix (r := rIxT K) ix_tup (pv 5) (pe_un un_neg pe_int) (fun _ _ => rfl))) (pa_cons (pe_tup (pa_cons (pv 4) pa_nil)) pa_nil))))))) (pss_cons (ps_for PassesOwn.never rfl (pi_list (pe_call (ok_law_worlds T) (hr.mono (by omega)) rfl T.g_law_worlds T.F_law_worlds.kp (b_law_worlds T) .nil pass0 (pa_cons (pv 0) (pa_cons (pe_lst (pa_cons pe_str (pa_cons pe_str pa_nil))) pa_nil)))) (pg_name (i := 6) sc_law_file_right.nd rfl (.inl rfl)) (pss_one (ps_for PassesOwn.never rfl (pi_list (pe_call (ok_law_met T) (hr.mono (by omega)) rfl T.g_law_met T.F_law_met.kp (b_law_met T) .nil pass0 (pa_cons (pv 6) (pa_cons (pv 1) pa_nil)))) (pg_name (i := 7) sc_law_file_right.nd rfl (.inl rfl)) (pss_one (ps_dput (rm_cl hr (by decide)) (pv 3) (pv 7) (pe_callB (cr_min2T rfl (rm_cl hr (by decide))) rfl T.n_min bt_min (pa_cons (pe_dget2 (rm_cl hr (by decide)) (pv 3) (pv 7) (pe_tup (pa_cons pe_int (pa_cons pe_int pa_nil))) ⟨rfl, rfl, rfl, rfl⟩) (pa_cons (pe_call (ok_law_size T) (hr.mono (by omega)) rfl T.g_law_size T.F_law_size.kp (b_law_size T) .nil pass0 (pa_cons (pv 6) pa_nil)) pa_nil))) rfl))))) (pss_cons (ps_par (i := 8) (j := 9) rfl sc_law_file_right.nd rfl rfl (by decide) rfl rfl (pa_cons (pe_lc rfl sc_law_file_right.nd (pi_list (pv 2)) (blkOk_by (own := [("spot", 7)]) (by kernel_rfl)) (fun _ _ _ _ _ => (pg_name (i := 7) sc_law_file_right.nd rfl (.inl rfl))) (fun _ _ _ _ _ => (pts_one (pt_cmp (pc_dnotin (rm_cl hr (by decide)) (pv 7) (pv 3)) rfl))) (fun _ _ _ _ _ => (pv 7))) (pa_cons (pe_call (ok_dead T) (hr.mono (by omega)) rfl T.g_dead T.F_dead.kp (b_dead T) .nil pass_no (pa_cons (pv 1) pa_nil)) pa_nil)) rfl) (pss_cons (ps_if (pt_cmpR (op_ne) (pe_callB (cr_repr hG (rm_cl hr (by decide))) rfl T.n_repr bt_repr (pa_cons (pv 9) pa_nil)) (pe_callB (cr_repr hG (rm_cl hr (by decide))) rfl T.n_repr bt_repr (pa_cons (pv 8) pa_nil)) (nomark _)) (pss_one (ps_ret pe_bl)) pss_nil) (pss_cons (ps_for PassesOwn.never rfl (pi_list (pv 2)) (pg_name (i := 7) sc_law_file_right.nd rfl (.inl rfl)) (pss_cons (ps_set (i := 6) sc_law_file_right.nd rfl (.inl rfl) (pe_call (ok_taker T) (hr.mono (by omega)) rfl T.g_taker T.F_taker.kp (b_taker T) .nil pass_no (pa_cons (pv 1) (pa_cons (pv 7) pa_nil)))) (pss_one (ps_if (PW.pt (pw_or (pt_cmpR (op_isN) (pv 6) pe_non (nomark _)) (pw_or1 (pt_cmp (pc_dnotin (rm_cl hr (by decide)) (pv 7) (pv 3)) rfl)))) (pss_one (ps_if (PW.pt (pw_or (pt_cmpR (op_notN) (pv 6) pe_non (nomark _)) (pw_or1 (pt_cmp (pc_din (rm_cl hr (by decide)) (pv 7) (pv 3)) rfl)))) (pss_one (ps_ret pe_bl)) pss_nil)) (pss_one (ps_if (PW.pt (pw_or (pt_not (pt_val (pe_callB (r := rIsi K) call_isi rfl T.n_isinstance bt_isinstance (pa_cons (pv 6) (pa_cons (pe_bltn (v := .ty "dict") rfl T.n_dict bt_dict rfl) pa_nil))))) (pw_or (pt_cmpR (r := rNeD K) (op_neD (rm_cl hr (by decide))) (pe_call (ok_law_size T) (hr.mono (by omega)) rfl T.g_law_size T.F_law_size.kp (b_law_size T) .nil pass0 (pa_cons (pv 6) pa_nil)) (pe_dget (rm_cl hr (by decide)) (pv 3) (pv 7) (fun _ _ => rfl)) (nomark _)) (pw_or1 (pt_cmpR (r := rNotInD K) (op_notInD (rm_cl hr (by decide))) (pv 7) (pe_call (ok_law_met T) (hr.mono (by omega)) rfl T.g_law_met T.F_law_met.kp (b_law_met T) .nil pass0 (pa_cons (pv 6) (pa_cons (pv 1) pa_nil))) rfl))))) (pss_one (ps_ret pe_bl)) (pss_one (ps_if (pt_cmpR (r := rNeD K) (op_neD (rm_cl hr (by decide))) (pe_lock (pe_lc rfl sc_law_file_right.nd (pi_keys (pv 6)) (blkOk_by (own := [("name", 10)]) (by kernel_rfl)) (fun _ _ _ _ _ => (pg_name (i := 10) sc_law_file_right.nd rfl (.inl rfl))) (fun _ _ _ _ _ => (pts_one (pt_cmpR (r := rIn K true) (op_notIn_seq) (pv 10) (pv 0) rfl))) (fun _ _ _ _ _ => (pv 10)))) (pe_lst pa_nil) (nomark _)) (pss_one (ps_ret pe_bl)) pss_nil)))))))) (pss_cons (ps_expr (pe_bm PySem.F.plainAttrs_list PySem.F.slot_list_append PySem.F.type_list_append mt_append (pv 9) (pa_cons (pe_tup pa_nil) pa_nil))) (pss_one (ps_ret (pe_cmpR (op_eq) (pe_callB (cr_repr hG (rm_cl hr (by decide))) rfl T.n_repr bt_repr (pa_cons (pe_call (ok_dead T) (hr.mono (by omega)) rfl T.g_dead T.F_dead.kp (b_dead T) .nil pass_no (pa_cons (pv 1) pa_nil)) pa_nil)) (pe_callB (cr_repr hG (rm_cl hr (by decide))) rfl T.n_repr bt_repr (pa_cons (pv 8) pa_nil)) (nomark _)))))))))))), ?_⟩
    have hns3 := hns.2.2.1
    refine ⟨_, rfl, _, rfl, nl, a, ns, F, rfl, hnl, hns, hF, hgf, hraw, fun b H1 k1 hlong hshort => ⟨_, rfl, ?_⟩⟩
    cases b with
    | true =>
      obtain ⟨c, hc, hm⟩ := hlong rfl
      have htab := table_none hns.1 hraw hc hm
      have hT1 : LamX.Tabs TS H1 := hTb.ext fun b o e => k1.keep b o (fun z => nomatch z) e
      refine if_t rfl ⟨hT1, fun H2 e2 hT2 => ?_⟩
      refine ⟨_, rfl, a, F, rfl, (hF.kp k1).ext e2, hgf, ?_⟩
      have hd : deadM F = none := by unfold deadM; rw [htab]; rfl
      rw [hd]
      exact fun d H3 k3 h3 => ⟨rfl, d, rfl, h3, fun H4 k4 => q H4 (((ext_kp k1).trans e2).trans (ext_kp (k3.trans k4))) (hT2.ext fun b o e => (k3.trans k4).keep b o (fun z => nomatch z) e)⟩
    | false =>
      obtain ⟨Tb, htab⟩ := table_some hns.1 hraw (hshort rfl)
      have hnotlong := hshort rfl
      have hnl1 : ∀ {H' : Hp}, Kp [] H H' → H' nl = some (.lst (ns.map V.str)) := fun k => k.keep nl _ (fun z => nomatch z) hnl
      have hall := allSpots_len F
      have hfew := hgf.2.2.1
      have hsm := all_small hgf
      refine if_f rfl ⟨Nat.zero_le _, fun ev0 hev0 le hle => ⟨sz2, fun tt htt => ⟨tt, _, rfl, .inl (.inl upd_same), rfl, _, _, rfl, _, _, rfl, rfl, ?_⟩⟩⟩
      have k2 := ((k1.new (.lst []) hev0).new (.dT []) hle).new (.tup [.ref ev0, .ref le]) htt
      have hev2 : (upd (upd (upd H1 ev0 (.lst [])) le (.dT [])) tt (.tup [.ref ev0, .ref le])) ev0 = some (.lst []) := by
        have h1 : (upd (upd H1 ev0 (.lst [])) le (.dT [])) ev0 = some (.lst []) := by rw [upd_ne (ne_of_none upd_same hle)]; exact upd_same
        rw [upd_ne (ne_of_none h1 htt)]; exact h1
      have hle2 : (upd (upd (upd H1 ev0 (.lst [])) le (.dT [])) tt (.tup [.ref ev0, .ref le])) le = some (.dT []) := by rw [upd_ne (ne_of_none upd_same htt)]; exact upd_same
      generalize upd (upd (upd H1 ev0 (.lst [])) le (.dT [])) tt (.tup [.ref ev0, .ref le]) = H2 at k2 hev2 hle2
      obtain ⟨as, hq, hFr⟩ := id hF
      -- every
      refine ⟨_, rfl, a, _, rfl, k2.sqt hq, for_enumT (K := K) (a := a) (xs := as.map V.ref) (fun i σ H' => ∃ (ev : Addr) (u4 u5 : Option V) (done : List Spot), σ = [some (.ref nl), some (.ref a), some (.ref ev), some (.ref le), u4, u5, none, none, none, none, none] ∧ Kp [] H2 H' ∧ LsAt H' ev done ∧ done ++ spotsFrom i (F.drop i) = allSpots F)
        ⟨ev0, none, none, [], rfl, Kp.nil H2, ⟨[], hev2, .nil⟩, rfl⟩ (fun i σ H' _ ⟨_, _, _, _, _, k, _⟩ => k.sqt (k2.sqt hq)) ?_ ?_⟩
      · rintro i x σ H3 Tt hi ⟨ev, u4, u5, done, rfl, k3, ⟨vs, hl, hvs⟩, ed⟩ hT
        obtain ⟨b, r, eb, hri, hb⟩ := file_row hFr hi
        subst eb
        have kT := (Kp.nil H3).new (.tup [.int (i : Nat), .ref b]) hT
        have k4 := k3.t0 kT
        have hb4 := hb.kp (k2.t0 k4)
        obtain ⟨ys, hy, h0, _⟩ := row_parts hb4
        rw [spots_row F r i hri] at ed
        obtain ⟨wf, _⟩ := Bool.and_eq_true_iff.mp (hgf.2.1 r (List.mem_of_getElem? hri))
        have hlen : done.length + (r.text.spots [(i : Int)] 0).length ≤ 4000 := by
          have e2 := congrArg List.length ed
          rw [List.length_append, List.length_append] at e2
          omega
        refine ⟨Tt, _, rfl, .inl (.inl upd_same), rfl, _, _, rfl, _, _, rfl, rfl, ?_⟩
        generalize hH3' : upd H3 Tt (.tup [.int (i : Nat), .ref b]) = H3' at kT k4 hb4 hy
        refine ⟨_, rfl, _, rfl, b, ys, 0, _, rfl, rfl, hy, h0, rfl, _, rfl, ?_⟩
        by_cases hd : ∃ n, r = .drop n
        · obtain ⟨n, rfl⟩ := hd
          refine if_t (by show decide (V.str "drop" = V.str "drop") = true; decide) ⟨Nat.zero_le _, fun c hc => ?_⟩
          have k5 := (Kp.nil H3').new (.tup []) hc
          have hc5 : TextAt K (upd H3' c (.tup [])) c (Row.text (.drop n)) := nil_text (.inl (.inl upd_same))
          refine ⟨_, rfl, sz1, fun t1 ht1 => ?_⟩
          have k6 := (k4.t0 k5).new (.tup [.int (i : Nat)]) ht1
          have k56 := (kT.t0 k5).new (.tup [.int (i : Nat)]) ht1
          refine ⟨c, t1, _, [(i : Int)], rfl, hc5.kp ((Kp.nil _).new _ ht1), upd_same, wf, by omega, by simp only [List.length_cons, List.length_nil]; omega, fun p H6 k7 hp6 hL => ?_⟩
          obtain ⟨ws, hw, hws⟩ := hL
          have hl6 : H6 ev = some (.lst vs) := (k56.trans k7).keep ev _ (fun z => nomatch z) hl
          refine ⟨ev, p, vs, ws, rfl, rfl, hl6, hw, by rw [Paired.length hvs, Paired.length hws, sizeLine_eq]; omega, fun q9 hq9 => ?_⟩
          have kN := (Kp.nil H6).new (.lst (vs ++ ws)) hq9
          exact ⟨q9, _, _, done ++ _, rfl, (k6.trans k7).trans kN, ⟨_, upd_same, paired_app (spots_kp (spots_kp hvs (k56.trans k7)) kN) (spots_kp hws kN)⟩, by rw [List.append_assoc]; exact ed⟩
        · have hd : ∀ n, r ≠ .drop n := fun n z => hd ⟨n, z⟩
          obtain ⟨ys2, c, hy2, hat2, hc5⟩ := row_last hb4 hd
          have k5 := Kp.nil H3'
          have hkd : decide (V.str r.kind = V.str "drop") = false := by
            cases r with
            | drop n => exact absurd rfl (hd n)
            | set n t => show decide (V.str "set" = V.str "drop") = false; decide
            | give n t => show decide (V.str "give" = V.str "drop") = false; decide
            | check t => show decide (V.str "check" = V.str "drop") = false; decide
          refine if_f hkd ⟨_, rfl, 1, rfl, b, ys2, -1, .ref c, rfl, rfl, hy2, hat2, ?_⟩
          refine ⟨_, rfl, sz1, fun t1 ht1 => ?_⟩
          have k6 := (k4.t0 k5).new (.tup [.int (i : Nat)]) ht1
          have k56 := (kT.t0 k5).new (.tup [.int (i : Nat)]) ht1
          refine ⟨c, t1, _, [(i : Int)], rfl, hc5.kp ((Kp.nil _).new _ ht1), upd_same, wf, by omega, by simp only [List.length_cons, List.length_nil]; omega, fun p H6 k7 hp6 hL => ?_⟩
          obtain ⟨ws, hw, hws⟩ := hL
          have hl6 : H6 ev = some (.lst vs) := (k56.trans k7).keep ev _ (fun z => nomatch z) hl
          refine ⟨ev, p, vs, ws, rfl, rfl, hl6, hw, by rw [Paired.length hvs, Paired.length hws, sizeLine_eq]; omega, fun q9 hq9 => ?_⟩
          have kN := (Kp.nil H6).new (.lst (vs ++ ws)) hq9
          exact ⟨q9, _, _, done ++ _, rfl, (k6.trans k7).trans kN, ⟨_, upd_same, paired_app (spots_kp (spots_kp hvs (k56.trans k7)) kN) (spots_kp hws kN)⟩, by rw [List.append_assoc]; exact ed⟩
      · rintro σ H3 ⟨ev, u4, u5, done, rfl, k3, hev, ed⟩
        rw [List.length_map, ← paired_len hFr, List.drop_length] at ed
        have ed : done ++ [] = allSpots F := ed
        rw [List.append_nil] at ed
        subst ed
        have k13 := k2.t0 k3
        have hle3 : H3 le = some (.dT []) := k3.keep le _ (fun z => nomatch z) hle2
        -- the worlds
        refine ⟨_, rfl, sz2, fun vl hvl => ?_⟩
        have k4 := k13.new (.lst [.str "", .str "a"]) hvl
        have k40 := (Kp.nil H3).new (.lst [.str "", .str "a"]) hvl
        refine ⟨nl, vl, ns, rfl, hnl1 k4, upd_same, hns, fun p xs H4 k5 hp hP => ?_⟩
        have k14 := k4.trans k5
        have k34 := k40.trans k5
        have hle4 : H4 le = some (.dT []) := k34.keep le _ (fun z => nomatch z) hle3
        have hev4 := hev.kp k34 (fun z => nomatch z)
        have npl : p ≠ le := fun z => by rw [z, hle4] at hp; cases hp
        have hcl : (cases ns).length ≤ 27 := by
          have e2 : (cases ns).length = 3 ^ ns.length := by unfold cases; rw [fold_len]; simp
          have e3 : 3 ^ ns.length ≤ 3 ^ 3 := Nat.pow_le_pow_right (by decide) hns3
          omega
        have kr4 : Kp [le] H4 H4 := Kp.refl fun d hd => by rw [List.mem_singleton.mp hd, hle4]; trivial
        refine ⟨p, rfl, ⟨_, .inl (.inl hp)⟩, for_it walk_list (fun i σ H' => ∃ (u6 u7 : Option V), σ = [some (.ref nl), some (.ref a), some (.ref ev), some (.ref le), u4, u5, u6, u7, none, none, none] ∧ Kp [le] H4 H' ∧
            LeastAt H' le (fun c s => c ∈ (cases ns).take i ∧ ∃ tr, met F (mpOf c) = some tr ∧ s ∈ tr) (i * 4000))
          ⟨none, none, rfl, kr4, [], hle4, Nat.zero_le _, fun s c h => nomatch h.1⟩ (fun i σ H' _ ⟨_, _, _, k, _⟩ => k.sql (fun z => npl (List.mem_singleton.mp z)) (.inl (.inl hp))) ?_ ?_⟩
        · rintro i x σ H5 H5' hi ⟨u6, u7, rfl, k6, hL⟩ ⟨rfl, hx⟩
          obtain ⟨c, ec, d, rfl, hd⟩ := paired_at hP hx
          have hd' : H4 d = some (.dK (kvsOf (envOf c))) := hd
          have ndl : d ∉ [le] := fun z => by rw [List.mem_singleton.mp z, hle4] at hd'; cases hd'
          have hcm := List.mem_of_getElem? ec
          obtain ⟨hok, hcn⟩ := case_ok3 hns hcm
          obtain ⟨tr, htr⟩ : ∃ tr, met F (mpOf c) = some tr := by
            cases e : met F (mpOf c) with
            | none => exact absurd e (hnotlong c hcm)
            | some tr => exact ⟨tr, rfl⟩
          have htl : tr.length ≤ 4000 := by
            have := rows_len F _ [] 0 (case_few hok) htr
            have := names_le F
            rw [List.length_nil] at *
            omega
          have hd5 : EnvAt H5' d (envOf c) := k6.keep d _ ndl hd'
          rw [Paired.length hP] at hi
          have kP5 : Kp [le] H4 H5' := k6
          refine ⟨_, rfl, _, rfl, d, a, c, F, ns, tr, rfl, hd5, hok, hcn, (hF.kp k14).kp k6, hgf, hraw, by omega, htr, fun pm H6 k7 npm ⟨vs, hpm, hvs⟩ => ?_⟩
          have hL6 := hL.kp k7
          obtain ⟨kvs0, hle6, _, _⟩ := id hL6
          have kr6 : Kp [le] H6 H6 := Kp.refl fun d hd => by rw [List.mem_singleton.mp hd, hle6]; trivial
          have npm2 : pm ∉ [le] := fun z => by rw [List.mem_singleton.mp z, hle6] at hpm; cases hpm
          have hd6 : H6 d = some (.dK (kvsOf (envOf c))) := k7.keep d _ (fun z => nomatch z) hd5
          have hvl := Paired.length hvs
          refine ⟨pm, rfl, ⟨_, .inl (.inl hpm)⟩, for_it walk_list (fun j σ H' => ∃ (u7 : Option V), σ = [some (.ref nl), some (.ref a), some (.ref ev), some (.ref le), u4, u5, some (.ref d), u7, none, none, none] ∧ Kp [le] H6 H' ∧
              LeastAt H' le (fun c' s => (c' ∈ (cases ns).take i ∧ ∃ tr, met F (mpOf c') = some tr ∧ s ∈ tr) ∨ (c' = c ∧ s ∈ tr.take j)) (i * 4000 + j))
            ⟨_, rfl, kr6, hL6.imp (by omega) fun c' s => ⟨fun h => .inl h, fun h => h.elim id fun z => nomatch z.2⟩⟩ (fun j σ H' _ ⟨_, _, k, _⟩ => k.sql npm2 (.inl (.inl hpm))) ?_ ?_⟩
          · rintro j y σ H7 H7' hj ⟨u7', rfl, k8, hL7⟩ ⟨rfl, hy⟩
            obtain ⟨s, es, b, rfl, hb⟩ := paired_at hvs hy
            have hb7 : H7' b = some (.tup (s.map V.int)) := k8.tup hb
            obtain ⟨kvs, hle7, hkn, hval⟩ := id hL7
            have hvs7 := hval s
            have hd7 : H7' d = some (.dK (kvsOf (envOf c))) := k8.keep d _ ndl hd6
            have hb7' : H7' b = some (.tup ((kOf s).map kV)) := by rw [kOf_kV]; exact hb7
            have hsz : i * 4000 + j < sizeLine := by
              rw [sizeLine_eq]
              have : i * 4000 ≤ 27 * 4000 := Nat.mul_le_mul_right _ (by omega)
              omega
            -- the end of a turn, r the better one
            have fin : ∀ (H8 : Hp) (r : Addr) (c1 : Case), Kp [] H7' H8 → H8 r = some (.tup ((szI (envOf c1)).map V.int)) → ((c1 ∈ (cases ns).take i ∧ ∃ tr, met F (mpOf c1) = some tr ∧ s ∈ tr) ∨ c1 = c) →
                (∀ c', ((c' ∈ (cases ns).take i ∧ ∃ tr, met F (mpOf c') = some tr ∧ s ∈ tr) ∨ c' = c) → szLe (envSize (envOf c1)) (envSize (envOf c'))) →
                DPut H8 le (.ref b) (.ref r) (upd H8 le (.dT (putK kvs (kOf s) (.ref r)))) ∧ ∃ (u7 : Option V), [some (V.ref nl), some (.ref a), some (.ref ev), some (.ref le), u4, u5, some (.ref d), some (.ref b), none, none, none] = [some (.ref nl), some (.ref a), some (.ref ev), some (.ref le), u4, u5, some (.ref d), u7, none, none, none] ∧ Kp [le] H6 (upd H8 le (.dT (putK kvs (kOf s) (.ref r)))) ∧
                  LeastAt (upd H8 le (.dT (putK kvs (kOf s) (.ref r)))) le (fun c' s => (c' ∈ (cases ns).take i ∧ ∃ tr, met F (mpOf c') = some tr ∧ s ∈ tr) ∨ (c' = c ∧ s ∈ tr.take (j + 1))) (i * 4000 + (j + 1)) := fun H8 r c1 k9 hr h1 h2 => by
              have hle8 : H8 le = some (.dT kvs) := k9.keep le _ (fun z => nomatch z) hle7
              have hin : s ∈ tr.take (j + 1) := by rw [take_snoc es]; exact List.mem_append_right _ (List.mem_singleton.mpr rfl)
              refine ⟨DPut.t hle8 (k9.tup hb7') (Nat.lt_of_le_of_lt hkn hsz), _, rfl, (k8.t0 k9).put (List.mem_singleton.mpr rfl) trivial, (hL7.kp k9).step hle8 hr (h1.imp id fun e => ⟨e, hin⟩) (fun c' hc' => h2 c' (hc'.imp id fun z => z.1)) fun c' s' hs' => ?_⟩
              rw [take_snoc es]
              constructor
              · rintro (h | ⟨h, g⟩)
                · exact .inl h
                · exact .inr ⟨h, List.mem_append_left _ g⟩
              · rintro (h | ⟨h, g⟩)
                · exact .inl h
                · rcases List.mem_append.mp g with z | z
                  · exact .inr ⟨h, z⟩
                  · exact absurd (List.mem_singleton.mp z) hs'
            have heok := env_ok hok
            cases ho : valV kvs (kOf s) with
            | none =>
              rw [ho] at hvs7
              refine ⟨_, rfl, le, rfl, .inr ⟨kvs, .inl hle7⟩, _, rfl, sz2, fun t0 ht0 => ?_⟩
              have k9 := (Kp.nil H7').new (.tup [.int 99, .int 0]) ht0
              refine ⟨none, by rw [← ho]; exact DGet.t (k9.keep le _ (fun z => nomatch z) hle7) (k9.tup hb7'), ?_⟩
              refine ⟨_, rfl, d, envOf c, rfl, k9.keep d _ (fun z => nomatch z) hd7, heok, fun q2 H8 k10 nq2 hq2 => ?_⟩
              have k910 := k9.trans k10
              refine ⟨t0, q2, [99, 0], szI (envOf c), rfl, .inl (.inl (k10.tup upd_same)), .inl (.inl hq2), ?_⟩
              obtain ⟨f1, f2⟩ := fin H8 q2 c k910 hq2 (.inr rfl) fun c' hc' => hc'.elim (fun z => absurd (Or.inl z) (hvs7 c')) fun z => by rw [z]; exact szLe.refl _
              refine ⟨_, rfl, _, rfl, le, upd H8 le (.dT (putK kvs (kOf s) (.ref q2))), rfl, ?_, f2⟩
              rw [if_pos (szI_first _ heok.2.1)]
              exact f1
            | some v =>
              rw [ho] at hvs7
              obtain ⟨q0, c0, rfl, hq0, hc0, hmin⟩ := hvs7
              refine ⟨_, rfl, le, rfl, .inr ⟨kvs, .inl hle7⟩, _, rfl, sz2, fun t0 ht0 => ?_⟩
              have k9 := (Kp.nil H7').new (.tup [.int 99, .int 0]) ht0
              refine ⟨some (.ref q0), by rw [← ho]; exact DGet.t (k9.keep le _ (fun z => nomatch z) hle7) (k9.tup hb7'), ?_⟩
              refine ⟨_, rfl, d, envOf c, rfl, k9.keep d _ (fun z => nomatch z) hd7, heok, fun q2 H8 k10 nq2 hq2 => ?_⟩
              have k910 := k9.trans k10
              refine ⟨q0, q2, szI (envOf c0), szI (envOf c), rfl, .inl (.inl (k910.tup hq0)), .inl (.inl hq2), ?_⟩
              have hmin' : ∀ c', (c' ∈ (cases ns).take i ∧ ∃ tr, met F (mpOf c') = some tr ∧ s ∈ tr) → szLe (envSize (envOf c0)) (envSize (envOf c')) := fun c' z => hmin c' (.inl z)
              have hc0' : (c0 ∈ (cases ns).take i ∧ ∃ tr, met F (mpOf c0) = some tr ∧ s ∈ tr) ∨ c0 = c := hc0.imp id fun z => z.1
              rw [szI_lt]
              cases hlt : szLt (envSize (envOf c)) (envSize (envOf c0)) with
              | true =>
                obtain ⟨f1, f2⟩ := fin H8 q2 c k910 hq2 (.inr rfl) fun c' hc' => hc'.elim (fun z => (szLe_of_lt hlt).trans (hmin' c' z)) fun z => by rw [z]; exact szLe.refl _
                exact ⟨_, rfl, _, rfl, le, upd H8 le (.dT (putK kvs (kOf s) (.ref q2))), rfl, f1, f2⟩
              | false =>
                obtain ⟨f1, f2⟩ := fin H8 q0 c0 k910 (k910.tup hq0) hc0' fun c' hc' => hc'.elim (hmin' c') fun z => by rw [z]; exact szLe_of_not hlt
                exact ⟨_, rfl, _, rfl, le, upd H8 le (.dT (putK kvs (kOf s) (.ref q0))), rfl, f1, f2⟩
          · rintro σ H7 ⟨u7', rfl, k8, hL7⟩
            rw [hvl, List.take_length] at hL7
            refine ⟨_, _, rfl, (k6.t0 k7).trans k8, hL7.imp (by omega) fun c' s => ?_⟩
            rw [take_snoc ec]
            constructor
            · rintro (⟨h, g⟩ | ⟨rfl, h⟩)
              · exact ⟨List.mem_append_left _ h, g⟩
              · exact ⟨List.mem_append_right _ (List.mem_singleton.mpr rfl), tr, htr, h⟩
            · rintro ⟨h, g⟩
              rcases List.mem_append.mp h with z | z
              · exact .inl ⟨z, g⟩
              · obtain ⟨tr', h1, h2⟩ := g
                rw [List.mem_singleton.mp z, htr] at h1
                cases h1
                exact .inr ⟨List.mem_singleton.mp z, h2⟩
        · rintro σ H5 ⟨u6, u7, rfl, k6, hL⟩
          rw [Paired.length hP, List.take_length] at hL
          have nle : H le = none := (k1.new (.lst []) hev0).same.free hle
          have k15 : Kp [] H H5 := k14.call k6 fun x hx => .inr (by rw [List.mem_singleton.mp hx]; exact nle)
          obtain ⟨vs, hev5, hvs⟩ : LsAt H5 ev (allSpots F) := hev4.kp k6 fun z => by
            obtain ⟨vs, h, _⟩ := hev4
            rw [List.mem_singleton.mp z, hle4] at h; cases h
          obtain ⟨kvs, hle5, _, hval⟩ := id hL
          have hmet : ∀ s, (valV kvs (kOf s)).isSome = isMet Tb s := fun s => by
            have hv := hval s
            have hi := isMet_iff hns.1 hraw htab s
            cases e : valV kvs (kOf s) with
            | none =>
              rw [e] at hv
              cases q : isMet Tb s with
              | false => rfl
              | true =>
                obtain ⟨c, hc⟩ := hi.mp q
                exact absurd hc (hv c)
            | some v =>
              rw [e] at hv
              obtain ⟨_, c, _, _, hc, _⟩ := hv
              rw [hi.mpr ⟨c, hc⟩]; rfl
          have hdead : deadM F = some ((allSpots F).filter fun s => !isMet Tb s) := by unfold deadM; rw [htab]; rfl
          generalize hdu : (allSpots F).filter (fun s => !isMet Tb s) = du at hdead
          have hdusm : ∀ s ∈ du, SpotOk s := fun s hs => hsm s (by rw [← hdu] at hs; exact (List.mem_filter.mp hs).1)
          have hdul : du.length ≤ 4000 := by rw [← hdu]; have := List.length_filter_le (fun s => !isMet Tb s) (allSpots F); omega
          -- due
          refine ⟨_, rfl, ev, rfl, ⟨vs, .inl (.inl hev5)⟩, fun D hD => lc_gen walk_list (fun j H' => Kp [] H5 H' ∧ ∃ ys done, H' D = some (.lst ys) ∧ Paired (SpAt H') ys done ∧ done.length ≤ j ∧ done ++ ((allSpots F).drop j).filter (fun s => !isMet Tb s) = du)
            ⟨(Kp.nil H5).new _ hD, [], [], upd_same, .nil, Nat.le_refl _, hdu⟩ (fun j H' _ ⟨k, _⟩ => k.sql (fun z => nomatch z) (.inl (.inl hev5))) ?_ ?_⟩
          · rintro j y H6 H6' hj ⟨k7, ys, done, hD6, hys, hdl, ed⟩ ⟨rfl, hy⟩
            obtain ⟨s, es, hs⟩ := paired_at hvs hy
            obtain ⟨b, rfl, hb⟩ := hs.kp k7
            rw [Paired.length hvs] at hj
            rw [drop_cons es, List.filter_cons] at ed
            have hg6 : DGet H6' le (.ref b) (valV kvs (kOf s)) := DGet.t (k7.keep le _ (fun z => nomatch z) hle5) (by rw [kOf_kV]; exact hb)
            refine ⟨rfl, _, rfl, _, rfl, le, _, rfl, hg6, _, rfl, ?_⟩
            rw [hmet s]
            cases hm : isMet Tb s with
            | true =>
              rw [hm] at ed
              exact if_f rfl ⟨k7, ys, done, hD6, hys, by omega, ed⟩
            | false =>
              rw [hm] at ed
              have kD : Kp [D] H6' (upd H6' D (.lst (ys ++ [.ref b]))) := Kp.wr1 hD6 trivial trivial
              refine if_t rfl ⟨_, rfl, ys, hD6, by rw [Paired.length hys, sizeLine_eq]; omega, k7.own hD, ys ++ [.ref b], done ++ [s], upd_same, paired_app (spots_kp hys kD) (.cons ⟨b, rfl, kD.tup hb⟩ .nil), by rw [List.length_append]; simp only [List.length_cons, List.length_nil]; omega, ?_⟩
              rw [List.append_assoc]
              exact ed
          rintro H6 ⟨k7, ys, done, hD6, hys, hdl, ed⟩
          rw [Paired.length hvs, List.drop_length] at ed
          have ed : done ++ [] = du := ed
          rw [List.append_nil] at ed
          subst ed
          have k16 := k15.trans k7
          have hdue : LsAt H6 D done := ⟨ys, hD6, hys⟩
          -- found
          refine ⟨_, rfl, a, F, rfl, hF.kp k16, hgf, ?_⟩
          rw [hdead]
          intro fo H7 k8 nfo hfo
          have k17 := k16.trans k8
          have hdue7 := hdue.kp k8 (fun z => nomatch z)
          refine ⟨_, _, rfl, ?_⟩
          refine ⟨_, rfl, ?_⟩
          dsimp only [tNil, tCons, tCB]
          refine repr_spots hfo hdusm hdul ⟨_, rfl, ?_⟩
          dsimp only [tNil, tCons, tCB]
          refine repr_spots hdue7 hdusm hdul ⟨rfl, _, rfl, if_f (by simp) ?_⟩
          have kE : Kp [] H5 H7 := k7.trans k8
          have hev7 : H7 ev = some (.lst vs) := kE.keep ev _ (fun z => nomatch z) hev5
          have hvs7 := spots_kp hvs kE
          have hle7 : H7 le = some (.dT kvs) := kE.keep le _ (fun z => nomatch z) hle5
          have hval7 := hL.kp kE
          refine ⟨_, rfl, ev, rfl, ⟨vs, .inl (.inl hev7)⟩, for_it walk_list (fun j σ H' => ∃ (u6 u7 : Option V), σ = [some (.ref nl), some (.ref a), some (.ref ev), some (.ref le), u4, u5, u6, u7, some (.ref D), some (.ref fo), none] ∧ Kp [] H7 H')
            ⟨_, _, rfl, Kp.nil H7⟩ (fun j σ H' _ ⟨_, _, _, k⟩ => k.sql (fun z => nomatch z) (.inl (.inl hev7))) ?_ ?_⟩
          · rintro j y σ H8 H8' hj ⟨u6', u7', rfl, k9⟩ ⟨rfl, hy⟩
            obtain ⟨s, es, hs⟩ := paired_at hvs7 hy
            obtain ⟨b, rfl, hb⟩ := hs.kp k9
            have hsm1 := hsm s (List.mem_of_getElem? es)
            have k18 := k17.trans k9
            refine ⟨_, rfl, _, rfl, a, b, F, s, rfl, hF.kp k18, hgf, .inl (.inl hb), by have := hsm1.1; omega, List.contains_iff_mem.mpr (List.mem_of_getElem? es), ?_⟩
            have ht : takerM F s = some (best ((Tb.filter fun p => p.2.contains s).map fun p => envOf p.1)) := by unfold takerM; rw [htab]; rfl
            rw [ht]
            have dg : ∀ {H9}, Kp [] H8' H9 → DGet H9 le (.ref b) (valV kvs (kOf s)) := fun k => DGet.t ((k9.trans k).keep le _ (fun z => nomatch z) hle7) (by rw [kOf_kV]; exact k.tup hb)
            cases hbst : best ((Tb.filter fun p => p.2.contains s).map fun p => envOf p.1) with
            | none =>
              have hnm := taker_none hns.1 hraw htab hbst
              have hv0 : valV kvs (kOf s) = none := by
                have hv := hval s
                cases e : valV kvs (kOf s) with
                | none => rfl
                | some v =>
                  rw [e] at hv
                  obtain ⟨_, c, _, _, hc, _⟩ := hv
                  exact absurd hc (hnm c)
              intro H9 k10
              refine ⟨_, rfl, rfl, _, rfl, if_t rfl ⟨_, rfl, rfl, _, rfl, if_f rfl ⟨_, rfl, _, rfl, le, _, rfl, dg k10, _, rfl, ?_⟩⟩⟩
              rw [hv0]
              exact if_f rfl ⟨_, _, rfl, k9.trans k10⟩
            | some e =>
              obtain ⟨c0, tr0, hc0, rfl, hm0, hs0, ⟨c1, hmc1, hz1⟩, hmin⟩ := taker_some hns.1 hraw htab hbst
              obtain ⟨hok0, hcn0⟩ := case_ok hgf hc0
              have hcn1 : ∀ p ∈ c0, p.1 ∈ ns := fun p hp => hraw _ (mem_sort.mp (hcn0 p hp))
              have hv0 := hval s
              intro pe H9 k10 npe hpe
              obtain ⟨q0, c2, hvq, hq0, hc2, hmin2⟩ : ∃ (q : Addr) (c : Case), valV kvs (kOf s) = some (.ref q) ∧ H5 q = some (.tup ((szI (envOf c)).map V.int)) ∧ Meets F ns c s ∧ ∀ c', Meets F ns c' s → szLe (envSize (envOf c)) (envSize (envOf c')) := by
                cases e : valV kvs (kOf s) with
                | none => rw [e] at hv0; exact absurd hmc1 (hv0 c1)
                | some v =>
                  rw [e] at hv0
                  obtain ⟨q, c, rfl, h2, h3, h4⟩ := hv0
                  exact ⟨q, c, rfl, h2, h3, h4⟩
              have hszeq : szI (envOf c0) = szI (envOf c2) := by
                have h1 := hmin c2 hc2
                have h2 := hmin2 c1 hmc1
                rw [hz1] at h2
                have := szLe.anti h1 h2
                unfold szI
                rw [this]
              have k19 := k9.trans k10
              have kE9 := kE.trans k19
              refine ⟨_, rfl, rfl, _, rfl, if_f rfl ⟨_, rfl, _, rfl, le, _, rfl, dg k10, _, rfl, ?_⟩⟩
              rw [hvq]
              refine if_f rfl ⟨_, rfl, _, _, _, _, _, rfl, .ty _, .base (.dK hpe), ki_dd, _, rfl, if_f rfl ?_⟩
              refine ⟨_, rfl, pe, envOf c0, rfl, hpe, env_ok hok0, fun qz H10 k11 nqz hqz => ?_⟩
              have k10' := k10.trans k11
              refine ⟨_, rfl, _, rfl, le, .ref q0, rfl, by rw [← hvq]; exact dg k10', spD (szI (envOf c0)), spD (szI (envOf c2)), sp_dp (.inl (.inl hqz)), sp_dp (.inl (.inl ((kE9.trans k11).tup hq0))), spD_shaped _, spD_shaped _, _, rfl, ?_⟩
              rw [spD_eqv, hszeq, decide_eq_true rfl]
              refine if_f rfl ⟨_, rfl, _, rfl, _, rfl, pe, a, c0, F, ns, tr0, rfl, hpe.kp k11, hok0, hcn1, hF.kp ((k18.trans k10).trans k11), hgf, hraw, by omega, hm0, fun pm H11 k12 npm hLm => ?_⟩
              have k1012 := k10'.trans k12
              refine ⟨spD s, _, sp_dp (.inl (.inl (k1012.tup hb))), sps_dp hLm, spD_shaped _, spsD_shaped _, _, rfl, ?_⟩
              rw [spsD_any, List.contains_iff_mem.mpr hs0]
              -- names of the environment
              have hpe11 : EnvAt H11 pe (envOf c0) := (hpe.kp k11).kp k12
              refine if_f rfl ⟨pe, _, hpe11, trivial, fun od => ?_⟩
              refine ⟨_, rfl, pe, od, rfl, .inl ⟨_, upd_same, fun D2 hD2 => lc_gen walk_keys (fun i H' => Kp [] (upd H11 pe (.frz od (.dK (kvsOf (envOf c0))))) H' ∧ H' D2 = some (.lst []))
                ⟨(Kp.nil _).new _ hD2, upd_same⟩ (fun i H' _ ⟨k, _⟩ => k.keep pe _ (fun z => nomatch z) upd_same) ?_ ?_⟩⟩
              · rintro i z H12 H12' hi ⟨k13, hD12⟩ ⟨rfl, k, v, hkv, rfl⟩
                obtain ⟨n, s', hq, rfl, rfl⟩ := kvs_at hkv
                have hnn : n ∈ ns := hcn1 _ (env_sub c0 _ (List.mem_of_getElem? hq))
                have hnl11 : H11 nl = some (.lst (ns.map V.str)) := (k18.trans k1012).keep nl _ (fun z => nomatch z) hnl
                have npl2 : nl ≠ pe := fun z => by
                  have h : H11 pe = some (.dK (kvsOf (envOf c0))) := hpe11
                  rw [← z, hnl11] at h; cases h
                have hnl12 : H12' nl = some (.lst (ns.map V.str)) := k13.keep nl _ (fun z => nomatch z) (by rw [upd_ne npl2]; exact hnl11)
                refine ⟨rfl, _, rfl, _, rfl, nl, _, rfl, .inl (.inl (.inl hnl12)), rfl, by rw [List.all_map]; exact List.all_eq_true.mpr fun _ _ => rfl, _, rfl, ?_⟩
                have hin : inV (kV (Sum.inr n)) (ns.map V.str) = true := by
                  show inV (V.str n) (ns.map V.str) = true
                  unfold inV
                  rw [List.any_map]
                  exact List.any_eq_true.mpr ⟨n, hnn, by simp [eqV]⟩
                rw [if_pos rfl, hin]
                exact if_f rfl ⟨k13, hD12⟩
              · rintro H12 ⟨k13, hD12⟩
                have hf : H12 pe = some (.frz od (.dK (kvsOf (envOf c0)))) := k13.keep pe _ (fun z => nomatch z) upd_same
                have k14' := Kp.unlock (show H11 pe = some (.dK (kvsOf (envOf c0))) from hpe11) k13
                have nD : D2 ≠ pe := fun z => by rw [z, hf] at hD12; cases hD12
                refine ⟨hf, Nat.zero_le _, fun e3 he3 => ?_⟩
                have k15' := (Kp.nil (upd H12 pe (.dK (kvsOf (envOf c0))))).new (.lst []) he3
                refine ⟨.list [], .list [], .lst (.inl (.inl (k15'.keep D2 _ (fun z => nomatch z) (by rw [upd_ne nD]; exact hD12)))) .nil, .lst (.inl (.inl upd_same)) .nil, ints_shaped [], ints_shaped [], _, rfl, if_f rfl ⟨_, _, rfl, ?_⟩⟩
                exact (((k9.trans k1012).trans k14').trans k15')
          · rintro σ H8 ⟨u6', u7', rfl, k9⟩
            have hfo8 := hfo.kp k9 (fun z => nomatch z)
            obtain ⟨ws, hw, hws⟩ := hfo8
            refine ⟨_, rfl, .inl ⟨rfl, _, .inl (.inl hw)⟩, Nat.zero_le _, fun e1 he1 => ?_⟩
            have k10 := (Kp.nil H8).new (.tup []) he1
            have hw1 : (upd H8 e1 (.tup [])) fo = some (.lst ws) := k10.keep fo _ (fun z => nomatch z) hw
            refine ⟨fo, ws, _, rfl, rfl, hw1, by rw [Paired.length hws, sizeLine_eq]; omega, ?_⟩
            have nfoH : H fo = none := k16.same.free nfo
            have kW : Kp [fo] (upd H8 e1 (.tup [])) (upd (upd H8 e1 (.tup [])) fo (.lst (ws ++ [.ref e1]))) := Kp.wr1 hw1 trivial trivial
            have kA : Kp [] H (upd (upd H8 e1 (.tup [])) fo (.lst (ws ++ [.ref e1]))) := ((k17.trans k9).trans k10).own nfoH
            have nDf : D ≠ fo := fun z => by
              rw [← z] at nfo
              rw [hD6] at nfo; cases nfo
            have hdueA := (hdue7.kp (k9.trans k10) (fun z => nomatch z)).kp kW fun z => nDf (List.mem_singleton.mp z)
            refine ⟨_, rfl, a, F, rfl, hF.kp kA, hgf, ?_⟩
            rw [hdead]
            intro p9 H9 k11 np9 hp9
            dsimp only [tNil, tCons, tCB]
            refine repr_spots hp9 hdusm hdul ⟨_, rfl, ?_⟩
            dsimp only [tNil, tCons, tCB]
            refine repr_spots (hdueA.kp k11 fun z => nomatch z) hdusm hdul ⟨rfl, ?_⟩
            rw [decide_eq_true rfl]
            have kfin := kA.trans k11
            exact q H9 (ext_kp kfin) (hTb.ext fun b o e => kfin.keep b o (fun z => nomatch z) e)
end
end EV
end

section
set_option Elab.async false
set_option linter.all false
set_option maxRecDepth 100000
set_option maxHeartbeats 4000000
/-! the law -/
namespace EV
open PySem PySem.Spec PyProof.Rows L2
section
variable {P : Program} {w : World} {K : PySem.W.Frag} {mg : Str → Option Value} {base : Heap}
def spLaw (K : PySem.W.Frag) (TS : List (Addr × Str)) : Sp := fun vs H Q _ => ∃ (a : Addr) (ns : List Int), vs = [.ref a] ∧ SqL K H a (ns.map V.int) ∧ ns.length ≤ 900 ∧ LamX.Tabs TS H ∧ ∀ H', Q (.bl true) H'
theorem StAt.ext {H H' : Hp} {st lf cl : Addr} {a : Nat} (h : StAt H st lf cl a) (k : LamX.ExtN H H') : StAt H' st lf cl a := by
  obtain ⟨cells, lefts, h1, h2, h3, h4⟩ := h
  exact ⟨cells, lefts, k _ _ h1 (fun _ z => nomatch z), k _ _ h2 (fun _ z => nomatch z), k _ _ h3 (fun _ z => nomatch z), h4⟩
/-- tables stay, where the state alone is written -/
theorem tabs_kp {TS : List (Addr × Str)} {H H' : Hp} {st lf cl : Addr} {a : Nat} (hT : LamX.Tabs TS H) (hs : StAt H st lf cl a) (k : Kp [st, lf] H H') : LamX.Tabs TS H' := fun p hp => by
  obtain ⟨ps, h1, h2, h3⟩ := hT p hp
  obtain ⟨cells, lefts, e1, e2, e3, _⟩ := hs
  have keep : ∀ {b o}, H b = some o → (∀ kvs, o ≠ .dK kvs) → (∀ xs, o ≠ .lst xs) → H' b = some o := fun {b o} e n1 n2 => k.keep b o (fun z => by
    rcases List.mem_cons.mp z with z | z
    · rw [z, e1] at e; exact n1 _ (Option.some.inj e).symm
    · rw [List.mem_singleton.mp z, e3] at e; exact n2 _ (Option.some.inj e).symm) e
  refine ⟨ps, keep h1 (fun _ z => nomatch z) (fun _ z => nomatch z), h2, fun pos cv hc => ?_⟩
  obtain ⟨c, g1, g2⟩ := h3 pos cv hc
  exact ⟨c, g1, keep g2 (fun _ z => by unfold LamX.CodeO at z; cases z) (fun _ z => by unfold LamX.CodeO at z; cases z)⟩
theorem pc_lit {K : PySem.W.Frag} {H : Hp} {s : Str} {r : Txt} {ys : List V} (h : PcAt K H r ys) : PcAt K H (.lit s r) (.str s :: ys) := ⟨ys, rfl, h⟩
theorem pc_part {K : PySem.W.Frag} {H : Hp} {n : Str} {g : Sg} {t r : Txt} {a : Addr} {ys : List V} (h : PieceAt K H (.part n g t) (.ref a)) (hr : PcAt K H r ys) : PcAt K H (.part n g t r) (.ref a :: ys) := by
  obtain ⟨a', c, e, h1, ts, h2, h3⟩ := h
  obtain rfl : a = a' := V.ref.inj e
  exact ⟨a, c, ts, ys, rfl, h1, h2, h3, hr⟩
theorem gf {F : File} (h : F.all (fun r => r.text.wf 4 && r.head.all nameOk) = true) (h1 : F.length ≤ 40) (h2 : (rawNames F).length ≤ 4000) (h3 : (namesIn F).length ≤ 6) : GoodFile F := ⟨h1, fun r hr => List.all_eq_true.mp h r hr, h2, h3⟩
theorem g_fileA : GoodFile fileA := gf goodA (by decide) (by decide +kernel) (by decide +kernel)
theorem g_fileB : GoodFile fileB := gf goodB (by decide) (by decide +kernel) (by decide +kernel)
theorem g_fileC : GoodFile fileC := gf goodC (by decide) (by decide +kernel) (by decide +kernel)
theorem g_fileD : GoodFile fileD := gf goodD (by decide) (by decide +kernel) (by decide +kernel)
theorem g_file0 : GoodFile [] := gf rfl (by decide) (by decide +kernel) (by decide +kernel)
theorem sz4 {a b c d : V} : [a, b, c, d].length ≤ sizeLine := by rw [sizeLine_eq]; simp only [List.length_cons, List.length_nil]; omega
theorem three {α β : Type} {R : α → β → Prop} {ds : List α} {a b c : β} (h : Paired R ds [a, b, c]) : ∃ x y z, ds = [x, y, z] ∧ R x a ∧ R y b ∧ R z c := by
  cases h with
  | cons h1 t => cases t with
    | cons h2 t => cases t with
      | cons h3 t => cases t; exact ⟨_, _, _, rfl, h1, h2, h3⟩
theorem sorted_two {ys : List Str} (h : ys.Perm ["B", "C"]) (hs : sortedS ys = true) : ys = (["B", "C"] : List Str) := by
  have hl := h.length_eq
  match ys, hl with
  | [x, y], _ =>
    have hx : x ∈ (["B", "C"] : List Str) := h.mem_iff.mp (List.mem_cons_self ..)
    have hb : (["B", "C"] : List Str).Nodup := by decide +kernel
    have hn := h.nodup_iff.mpr hb
    have hy : y ∈ (["B", "C"] : List Str) := h.mem_iff.mp (List.mem_cons_of_mem _ (List.mem_cons_self ..))
    rcases List.mem_cons.mp hx with rfl | hx
    · rcases List.mem_cons.mp hy with rfl | hy
      · simp at hn
      · rw [List.mem_singleton.mp hy]
    · rw [List.mem_singleton.mp hx] at hs hn ⊢
      rcases List.mem_cons.mp hy with rfl | hy
      · exact absurd hs (by decide +kernel)
      · rw [List.mem_singleton.mp hy] at hn
        simp at hn
theorem ok_law (T : Top K mg) {cd Pt : Addr} (hcode : T.d_law_file_right.code = .ref cd) (TB : LamX.TabB base mg cd Pt) : FnOkG P w K mg base CX0 25 T.a_law T.d_law ["script"] (spLaw K [(Pt, lamQ)]) := by
  generalize hTS : [(Pt, lamQ)] = TS
  refine okG T.F_law sc_law (fun vs H Q E h => ?_) (fun cdv A outer s H vs Q E hcv hr hG h => ?_)
  · obtain ⟨a, _, rfl, _⟩ := h
    rfl
  · obtain ⟨a, ns, rfl, ha, hl, hTb, q⟩ := h
    refine ⟨_, PSs.nox (pss_cons (ps_set (i := 1) sc_law.nd rfl (.inl rfl) (pe_call (ok_law_begin T) (hr.mono (by omega)) rfl T.g_law_begin T.F_law_begin.kp (b_law_begin T) .nil pass0 (pa_cons (pv 0) pa_nil))) (pss_cons (ps_for PassesOwn.never rfl (pi_range1 rfl T.n_range (pa_cons pe_int pa_nil)) (pg_name (i := 2) sc_law.nd rfl (.inl rfl)) (pss_cons (ps_set (i := 3) sc_law.nd rfl (.inl rfl) (pe_call (ok_law_names T) (hr.mono (by omega)) rfl T.g_law_names T.F_law_names.kp (b_law_names T) .nil pass0 (pa_cons (pv 1) (pa_cons (pe_op (op_add) pe_int (pe_call (ok_law_draw T) (hr.mono (by omega)) rfl T.g_law_draw T.F_law_draw.kp (b_law_draw T) .nil pass0 (pa_cons (pv 1) (pa_cons pe_int pa_nil)))) pa_nil)))) (pss_one (ps_if (pt_not (pt_val (pe_callG (ok_law_file_right T hcode TB) hG (hr.mono (by omega)) rfl T.g_law_file_right T.F_law_file_right.kp (b_law_file_right T) .nil pass0 (pa_cons (pv 3) (pa_cons (pe_call (ok_law_file T) (hr.mono (by omega)) rfl T.g_law_file T.F_law_file.kp (b_law_file T) .nil pass0 (pa_cons (pv 1) (pa_cons (pv 3) (pa_cons pe_int pa_nil)))) pa_nil))))) (pss_one (ps_ret pe_bl)) pss_nil)))) (pss_cons (ps_set (i := 4) sc_law.nd rfl (.inl rfl) (pe_tup (pa_cons pe_str (pa_cons pe_str (pa_cons (pe_tup (pa_cons pe_str pa_nil)) pa_nil))))) (pss_cons (ps_set (i := 5) sc_law.nd rfl (.inl rfl) (pe_tup (pa_cons pe_str (pa_cons (pe_tup (pa_cons (pe_tup (pa_cons pe_str (pa_cons pe_str (pa_cons (pe_tup (pa_cons (pe_tup (pa_cons pe_str (pa_cons pe_str (pa_cons (pe_tup pa_nil) pa_nil)))) (pa_cons (pv 4) pa_nil))) pa_nil)))) (pa_cons (pe_tup (pa_cons pe_str (pa_cons pe_str (pa_cons (pe_tup pa_nil) pa_nil)))) pa_nil))) pa_nil)))) (pss_cons (ps_set (i := 6) sc_law.nd rfl (.inr rfl) (pe_tup (pa_cons (pe_tup (pa_cons pe_str (pa_cons pe_str (pa_cons (pe_tup (pa_cons pe_str (pa_cons (pe_tup (pa_cons pe_str (pa_cons pe_str (pa_cons (pe_tup (pa_cons (pv 4) pa_nil)) pa_nil)))) pa_nil))) pa_nil)))) (pa_cons (pv 5) pa_nil)))) (pss_cons (ps_if (PW.pt (pw_or (pt_cmpR (r := rNeD K) (op_neD (rm_cl hr (by decide))) (pe_call (ok_dead T) (hr.mono (by omega)) rfl T.g_dead T.F_dead.kp (b_dead T) .nil pass_no (pa_cons (pv 6) pa_nil)) (pe_lst (pa_cons (pe_tup (pa_cons pe_int (pa_cons pe_int (pa_cons pe_int pa_nil)))) (pa_cons (pe_tup (pa_cons pe_int (pa_cons pe_int pa_nil))) (pa_cons (pe_tup (pa_cons pe_int (pa_cons pe_int (pa_cons pe_int pa_nil)))) pa_nil)))) (nomark _)) (pw_or (pt_cmpR (r := rNeDA) (op_ne_dictA (rm_cl0 hr)) (pe_call (ok_taker T) (hr.mono (by omega)) rfl T.g_taker T.F_taker.kp (b_taker T) .nil pass_no (pa_cons (pv 6) (pa_cons (pe_tup (pa_cons pe_int (pa_cons pe_int pa_nil))) pa_nil))) pe_dnewK (nomark _)) (pw_or1 (pt_cmpR (op_notN) (pe_call (ok_taker T) (hr.mono (by omega)) rfl T.g_taker T.F_taker.kp (b_taker T) .nil pass_no (pa_cons (pv 6) (pa_cons (pe_tup (pa_cons pe_int (pa_cons pe_int pa_nil))) pa_nil))) pe_non (nomark _)))))) (pss_one (ps_ret pe_bl)) pss_nil) (pss_cons (ps_set (i := 6) sc_law.nd rfl (.inr rfl) (pe_tup (pa_cons (pe_tup (pa_cons pe_str (pa_cons pe_str (pa_cons (pe_tup (pa_cons (pe_tup (pa_cons pe_str (pa_cons pe_str (pa_cons (pe_tup (pa_cons (pe_tup (pa_cons pe_str (pa_cons pe_str (pa_cons (pe_tup (pa_cons pe_str pa_nil)) pa_nil)))) (pa_cons (pe_tup (pa_cons pe_str (pa_cons pe_str (pa_cons (pe_tup (pa_cons pe_str pa_nil)) pa_nil)))) pa_nil))) pa_nil)))) pa_nil)) pa_nil)))) (pa_cons (pe_tup (pa_cons pe_str (pa_cons pe_str pa_nil))) pa_nil)))) (pss_cons (ps_setLc (i := 7) rfl sc_law.nd rfl rfl rfl (pi_tup (pe_tup (pa_cons (pe_tup (pa_cons pe_int (pa_cons pe_int pa_nil))) (pa_cons (pe_tup (pa_cons pe_int (pa_cons pe_int (pa_cons pe_int pa_nil)))) (pa_cons (pe_tup (pa_cons pe_int (pa_cons pe_int (pa_cons pe_int pa_nil)))) pa_nil))))) (blkOk_by (own := [("spot", 9)]) (by kernel_rfl)) (fun _ _ _ _ _ => (pg_name (i := 9) sc_law.nd rfl (.inl rfl))) (fun _ _ _ _ _ => pts_nil) (fun _ _ _ _ _ => (pe_call (ok_taker T) (hr.mono (by omega)) rfl T.g_taker T.F_taker.kp (b_taker T) .nil pass_no (pa_cons (pv 6) (pa_cons (pv 9) pa_nil))))) (pss_cons (ps_if (PW.pt (pw_or (pt_cmpR (r := rNeD K) (op_neD (rm_cl hr (by decide))) (pe_lc rfl sc_law.nd (pi_list (pv 7)) (blkOk_by (own := [("env", 10)]) (by kernel_rfl)) (fun _ _ _ _ _ => (pg_name (i := 10) sc_law.nd rfl (.inl rfl))) (fun _ _ _ _ _ => pts_nil) (fun _ _ _ _ _ => (pe_call (ok_law_size T) (hr.mono (by omega)) rfl T.g_law_size T.F_law_size.kp (b_law_size T) .nil pass0 (pa_cons (pv 10) pa_nil)))) (pe_lst (pa_cons (pe_tup (pa_cons pe_int (pa_cons pe_int pa_nil))) (pa_cons (pe_tup (pa_cons pe_int (pa_cons pe_int pa_nil))) (pa_cons (pe_tup (pa_cons pe_int (pa_cons pe_int pa_nil))) pa_nil)))) (nomark _)) (pw_or1 (pt_cmpR (r := rNeD K) (op_neD (rm_cl hr (by decide))) (pe_callB (call_sortedD rfl) rfl T.n_sorted bt_sorted (pa_cons (pe_ix (r := rIxL K) ix_list (pv 7) pe_int (fun _ _ => rfl)) pa_nil)) (pe_lst (pa_cons pe_str (pa_cons pe_str pa_nil))) (nomark _))))) (pss_one (ps_ret pe_bl)) pss_nil) (pss_cons (ps_if (PW.pt (pw_or (pt_cmpR (r := rNeD K) (op_neD (rm_cl hr (by decide))) (pe_call (ok_dead T) (hr.mono (by omega)) rfl T.g_dead T.F_dead.kp (b_dead T) .nil pass_no (pa_cons (pv 6) pa_nil)) (pe_lst pa_nil) (nomark _)) (pw_or (pt_cmpR (r := rNeD K) (op_neD (rm_cl hr (by decide))) (pe_call (ok_dead T) (hr.mono (by omega)) rfl T.g_dead T.F_dead.kp (b_dead T) .nil pass_no (pa_cons (pe_tup pa_nil) pa_nil)) (pe_lst pa_nil) (nomark _)) (pw_or1 (pt_cmpR (op_ne) (pe_dget (rm_cl hr (by decide)) (pe_ix (r := rIxL K) ix_list (pv 7) pe_int (fun _ _ => rfl)) pe_str (fun _ _ => rfl)) pe_str (nomark _)))))) (pss_one (ps_ret pe_bl)) pss_nil) (pss_cons (ps_set (i := 6) sc_law.nd rfl (.inr rfl) (pe_tup (pa_cons (pe_tup (pa_cons pe_str (pa_cons (pe_tup (pa_cons (pe_tup (pa_cons pe_str (pa_cons pe_str (pa_cons (pe_tup (pa_cons (pe_tup (pa_cons pe_str (pa_cons pe_str (pa_cons (pe_tup pa_nil) pa_nil)))) pa_nil)) pa_nil)))) pa_nil)) pa_nil))) (pa_cons (pe_tup (pa_cons pe_str (pa_cons (pe_tup (pa_cons (pe_tup (pa_cons pe_str (pa_cons pe_str (pa_cons (pe_tup (pa_cons (pe_tup (pa_cons pe_str (pa_cons pe_str (pa_cons (pe_tup (pa_cons pe_str pa_nil)) pa_nil)))) pa_nil)) pa_nil)))) pa_nil)) pa_nil))) pa_nil)))) (pss_cons (ps_set (i := 8) sc_law.nd rfl (.inl rfl) (pe_call (ok_taker T) (hr.mono (by omega)) rfl T.g_taker T.F_taker.kp (b_taker T) .nil pass_no (pa_cons (pv 6) (pa_cons (pe_tup (pa_cons pe_int (pa_cons pe_int (pa_cons pe_int pa_nil)))) pa_nil)))) (pss_cons (ps_if (PW.pt (pw_or (pt_cmpR (r := rNeDA) (op_ne_dictA (rm_cl0 hr)) (pv 8) (pe_disp (pps_cons pe_str pe_str pps_nil) rfl rfl (by decide) (by decide)) (nomark _)) (pw_or1 (pt_cmpR (op_ne) (pe_callB call_lenD rfl T.n_len bt_len (pa_cons (pe_call (ok_taker T) (hr.mono (by omega)) rfl T.g_taker T.F_taker.kp (b_taker T) .nil pass_no (pa_cons (pv 6) (pa_cons (pe_tup (pa_cons pe_int (pa_cons pe_int (pa_cons pe_int pa_nil)))) pa_nil))) pa_nil)) pe_int (nomark _))))) (pss_one (ps_ret pe_bl)) pss_nil) (pss_cons (ps_dput (rm_cl hr (by decide)) (pv 8) pe_str pe_str rfl) (pss_cons (ps_if (pt_cmpR (r := rNeDA) (op_ne_dictA (rm_cl0 hr)) (pe_call (ok_taker T) (hr.mono (by omega)) rfl T.g_taker T.F_taker.kp (b_taker T) .nil pass_no (pa_cons (pv 6) (pa_cons (pe_tup (pa_cons pe_int (pa_cons pe_int (pa_cons pe_int pa_nil)))) pa_nil))) (pe_disp (pps_cons pe_str pe_str pps_nil) rfl rfl (by decide) (by decide)) (nomark _)) (pss_one (ps_ret pe_bl)) pss_nil) (pss_cons (ps_set (i := 6) sc_law.nd rfl (.inr rfl) (pe_tup (pa_cons (pe_tup (pa_cons pe_str (pa_cons (pe_tup (pa_cons (pe_tup (pa_cons pe_str (pa_cons pe_str (pa_cons (pe_tup (pa_cons pe_str (pa_cons (pe_tup (pa_cons pe_str (pa_cons pe_str (pa_cons (pe_tup (pa_cons (pe_tup (pa_cons pe_str (pa_cons pe_str (pa_cons (pe_tup (pa_cons pe_str pa_nil)) pa_nil)))) pa_nil)) pa_nil)))) pa_nil))) pa_nil)))) pa_nil)) pa_nil))) pa_nil))) (pss_cons (ps_setLc (i := 7) rfl sc_law.nd rfl rfl rfl (pi_tup (pe_tup (pa_cons (pe_tup (pa_cons pe_int (pa_cons pe_int pa_nil))) (pa_cons (pe_tup (pa_cons pe_int (pa_cons pe_int (pa_cons pe_int pa_nil)))) (pa_cons (pe_tup (pa_cons pe_int (pa_cons pe_int (pa_cons pe_int (pa_cons pe_int pa_nil))))) pa_nil))))) (blkOk_by (own := [("spot", 9)]) (by kernel_rfl)) (fun _ _ _ _ _ => (pg_name (i := 9) sc_law.nd rfl (.inl rfl))) (fun _ _ _ _ _ => pts_nil) (fun _ _ _ _ _ => (pe_call (ok_taker T) (hr.mono (by omega)) rfl T.g_taker T.F_taker.kp (b_taker T) .nil pass_no (pa_cons (pv 6) (pa_cons (pv 9) pa_nil))))) (pss_one (ps_ret (pe_and (pe_cmpR (r := rEqD K) (op_eqD (rm_cl hr (by decide))) (pe_call (ok_dead T) (hr.mono (by omega)) rfl T.g_dead T.F_dead.kp (b_dead T) .nil pass_no (pa_cons (pv 6) pa_nil)) (pe_lst pa_nil) (nomark _)) (pe_one (pe_cmpR (r := rEqD K) (op_eqD (rm_cl hr (by decide))) (pe_lc rfl sc_law.nd (pi_list (pv 7)) (blkOk_by (own := [("env", 10)]) (by kernel_rfl)) (fun _ _ _ _ _ => (pg_name (i := 10) sc_law.nd rfl (.inl rfl))) (fun _ _ _ _ _ => pts_nil) (fun _ _ _ _ _ => (pe_call (ok_law_size T) (hr.mono (by omega)) rfl T.g_law_size T.F_law_size.kp (b_law_size T) .nil pass0 (pa_cons (pv 10) pa_nil)))) (pe_lst (pa_cons (pe_tup (pa_cons pe_int (pa_cons pe_int pa_nil))) (pa_cons (pe_tup (pa_cons pe_int (pa_cons pe_int pa_nil))) (pa_cons (pe_tup (pa_cons pe_int (pa_cons pe_int pa_nil))) pa_nil)))) (nomark _))))))))))))))))))))))), ?_⟩
    refine ⟨_, rfl, a, ns, rfl, ha, hl, fun st lf cl H1 k1 hst1 => ?_⟩
    have hT1 : LamX.Tabs TS H1 := hTb.ext fun b o e => k1.keep b o (fun z => nomatch z) e
    refine ⟨3, rfl, by omega, by omega, for_it walk_range (fun i σ H' => ∃ (u2 u3 : Option V) (b : Nat), σ = [some (.ref a), some (.ref st), u2, u3, none, none, none, none, none, none, none] ∧ StAt H' st lf cl b ∧ b ≤ 700 * i ∧ LamX.Tabs TS H')
      ⟨none, none, 0, rfl, hst1, Nat.zero_le _, hT1⟩ (fun _ _ _ _ _ => trivial) ?_ ?_⟩
    · rintro i x σ H2 H2' hi ⟨u2, u3, b, rfl, hst2, hb, hT2⟩ ⟨rfl, rfl⟩
      have hi3 : i < 3 := hi
      refine ⟨_, rfl, _, rfl, st, lf, cl, b, 3, rfl, hst2, by omega, by omega, by omega, fun r H3 hr3 k3 hst3 => ⟨_, _, rfl, rfl, ?_⟩⟩
      have e1 : ((1 : Int) + (r : Nat)) = ((1 + r : Nat) : Int) := by omega
      have hT3 := tabs_kp hT2 hst2 k3
      refine ⟨st, lf, cl, b + 1, 1 + r, by show [V.ref st, V.int ((1 : Int) + (r : Nat))] = _; rw [e1], hst3, by omega, by omega, by omega, fun names nl b4 H4 k4 hst4 hb4 hns nnl hnl => ?_⟩
      have hT4 := tabs_kp hT3 hst3 k4
      have hNl : NlAt K H4 st lf nl names := ⟨hnl, k4.fresh nnl⟩
      refine ⟨_, rfl, _, rfl, _, rfl, st, lf, cl, nl, b4, names, rfl, hst4, hNl, hns, by omega, fun F fa b5 H5 k5 hst5 hb5 hF hgf hraw => ?_⟩
      have hT5 := tabs_kp hT4 hst4 k5
      subst hTS
      refine ⟨nl, fa, names, F, rfl, (hNl.kp k5).1, hns, hF, hgf, hraw, hT5, fun H6 e6 hT6 => ⟨_, rfl, if_f rfl ?_⟩⟩
      exact ⟨_, _, b5, rfl, hst5.ext e6, by omega, hT6⟩
    · rintro σ H2 ⟨u2, u3, b, rfl, hst2, hb, hT2⟩
      refine ⟨sz1, fun p1 h1 => ?_⟩
      have k1 : Kp [] H2 (upd H2 p1 (.tup [.str "x"])) := (Kp.nil H2).new (.tup [.str "x"]) h1
      generalize hX1 : upd H2 p1 (.tup [.str "x"]) = X1 at k1
      have e1 : X1 p1 = some (.tup [.str "x"]) := by rw [← hX1]; exact upd_same
      have t1 : TextAt K X1 p1 (.lit "x" .nil) := ⟨_, .inl (.inl e1), (pc_lit rfl)⟩
      refine ⟨sz3, fun p2 h2 => ?_⟩
      have k2 : Kp [] X1 (upd X1 p2 (.tup [.str "B", .str "+", .ref p1])) := (Kp.nil X1).new (.tup [.str "B", .str "+", .ref p1]) h2
      generalize hX2 : upd X1 p2 (.tup [.str "B", .str "+", .ref p1]) = X2 at k2
      have t1 := t1.kp k2
      have e2 : X2 p2 = some (.tup [.str "B", .str "+", .ref p1]) := by rw [← hX2]; exact upd_same
      have q2 : PieceAt K X2 (.part "B" (.op false .plus) (.lit "x" .nil)) (.ref p2) := ⟨p2, p1, rfl, .inl (.inl e2), t1⟩
      refine ⟨Nat.zero_le _, fun p3 h3 => ?_⟩
      have k3 : Kp [] X2 (upd X2 p3 (.tup [])) := (Kp.nil X2).new (.tup []) h3
      generalize hX3 : upd X2 p3 (.tup []) = X3 at k3
      have q2 := q2.kp k3
      have e3 : X3 p3 = some (.tup []) := by rw [← hX3]; exact upd_same
      have t3 : TextAt K X3 p3 .nil := ⟨_, .inl (.inl e3), rfl⟩
      refine ⟨sz3, fun p4 h4 => ?_⟩
      have k4 : Kp [] X3 (upd X3 p4 (.tup [.str "C", .str "", .ref p3])) := (Kp.nil X3).new (.tup [.str "C", .str "", .ref p3]) h4
      generalize hX4 : upd X3 p4 (.tup [.str "C", .str "", .ref p3]) = X4 at k4
      have q2 := q2.kp k4
      have t3 := t3.kp k4
      have e4 : X4 p4 = some (.tup [.str "C", .str "", .ref p3]) := by rw [← hX4]; exact upd_same
      have q4 : PieceAt K X4 (.part "C" .no .nil) (.ref p4) := ⟨p4, p3, rfl, .inl (.inl e4), t3⟩
      refine ⟨_, rfl, ?_⟩
      refine ⟨sz2, fun p5 h5 => ?_⟩
      have k5 : Kp [] X4 (upd X4 p5 (.tup [.ref p4, .ref p2])) := (Kp.nil X4).new (.tup [.ref p4, .ref p2]) h5
      generalize hX5 : upd X4 p5 (.tup [.ref p4, .ref p2]) = X5 at k5
      have q2 := q2.kp k5
      have q4 := q4.kp k5
      have e5 : X5 p5 = some (.tup [.ref p4, .ref p2]) := by rw [← hX5]; exact upd_same
      have t5 : TextAt K X5 p5 (.part "C" .no .nil (.part "B" (.op false .plus) (.lit "x" .nil) .nil)) := ⟨_, .inl (.inl e5), (pc_part q4 (pc_part q2 rfl))⟩
      refine ⟨sz3, fun p6 h6 => ?_⟩
      have k6 : Kp [] X5 (upd X5 p6 (.tup [.str "A", .str ":-", .ref p5])) := (Kp.nil X5).new (.tup [.str "A", .str ":-", .ref p5]) h6
      generalize hX6 : upd X5 p6 (.tup [.str "A", .str ":-", .ref p5]) = X6 at k6
      have q2 := q2.kp k6
      have t5 := t5.kp k6
      have e6 : X6 p6 = some (.tup [.str "A", .str ":-", .ref p5]) := by rw [← hX6]; exact upd_same
      have q6 : PieceAt K X6 (.part "A" (.op true .dash) (.part "C" .no .nil (.part "B" (.op false .plus) (.lit "x" .nil) .nil))) (.ref p6) := ⟨p6, p5, rfl, .inl (.inl e6), t5⟩
      refine ⟨Nat.zero_le _, fun p7 h7 => ?_⟩
      have k7 : Kp [] X6 (upd X6 p7 (.tup [])) := (Kp.nil X6).new (.tup []) h7
      generalize hX7 : upd X6 p7 (.tup []) = X7 at k7
      have q2 := q2.kp k7
      have q6 := q6.kp k7
      have e7 : X7 p7 = some (.tup []) := by rw [← hX7]; exact upd_same
      have t7 : TextAt K X7 p7 .nil := ⟨_, .inl (.inl e7), rfl⟩
      refine ⟨sz3, fun p8 h8 => ?_⟩
      have k8 : Kp [] X7 (upd X7 p8 (.tup [.str "A", .str "+", .ref p7])) := (Kp.nil X7).new (.tup [.str "A", .str "+", .ref p7]) h8
      generalize hX8 : upd X7 p8 (.tup [.str "A", .str "+", .ref p7]) = X8 at k8
      have q2 := q2.kp k8
      have q6 := q6.kp k8
      have t7 := t7.kp k8
      have e8 : X8 p8 = some (.tup [.str "A", .str "+", .ref p7]) := by rw [← hX8]; exact upd_same
      have q8 : PieceAt K X8 (.part "A" (.op false .plus) .nil) (.ref p8) := ⟨p8, p7, rfl, .inl (.inl e8), t7⟩
      refine ⟨sz2, fun p9 h9 => ?_⟩
      have k9 : Kp [] X8 (upd X8 p9 (.tup [.ref p6, .ref p8])) := (Kp.nil X8).new (.tup [.ref p6, .ref p8]) h9
      generalize hX9 : upd X8 p9 (.tup [.ref p6, .ref p8]) = X9 at k9
      have q2 := q2.kp k9
      have q6 := q6.kp k9
      have q8 := q8.kp k9
      have e9 : X9 p9 = some (.tup [.ref p6, .ref p8]) := by rw [← hX9]; exact upd_same
      have t9 : TextAt K X9 p9 (.part "A" (.op true .dash) (.part "C" .no .nil (.part "B" (.op false .plus) (.lit "x" .nil) .nil)) (.part "A" (.op false .plus) .nil .nil)) := ⟨_, .inl (.inl e9), (pc_part q6 (pc_part q8 rfl))⟩
      refine ⟨sz2, fun p10 h10 => ?_⟩
      have k10 : Kp [] X9 (upd X9 p10 (.tup [.str "check", .ref p9])) := (Kp.nil X9).new (.tup [.str "check", .ref p9]) h10
      generalize hX10 : upd X9 p10 (.tup [.str "check", .ref p9]) = X10 at k10
      have q2 := q2.kp k10
      have t9 := t9.kp k10
      have e10 : X10 p10 = some (.tup [.str "check", .ref p9]) := by rw [← hX10]; exact upd_same
      have r10 : RowAt K X10 p10 (.check (.part "A" (.op true .dash) (.part "C" .no .nil (.part "B" (.op false .plus) (.lit "x" .nil) .nil)) (.part "A" (.op false .plus) .nil .nil))) := ⟨p9, .inl (.inl e10), t9⟩
      refine ⟨_, rfl, ?_⟩
      refine ⟨sz1, fun p11 h11 => ?_⟩
      have k11 : Kp [] X10 (upd X10 p11 (.tup [.ref p2])) := (Kp.nil X10).new (.tup [.ref p2]) h11
      generalize hX11 : upd X10 p11 (.tup [.ref p2]) = X11 at k11
      have q2 := q2.kp k11
      have r10 := r10.kp k11
      have e11 : X11 p11 = some (.tup [.ref p2]) := by rw [← hX11]; exact upd_same
      have t11 : TextAt K X11 p11 (.part "B" (.op false .plus) (.lit "x" .nil) .nil) := ⟨_, .inl (.inl e11), (pc_part q2 rfl)⟩
      refine ⟨sz3, fun p12 h12 => ?_⟩
      have k12 : Kp [] X11 (upd X11 p12 (.tup [.str "B", .str "-", .ref p11])) := (Kp.nil X11).new (.tup [.str "B", .str "-", .ref p11]) h12
      generalize hX12 : upd X11 p12 (.tup [.str "B", .str "-", .ref p11]) = X12 at k12
      have q2 := q2.kp k12
      have r10 := r10.kp k12
      have t11 := t11.kp k12
      have e12 : X12 p12 = some (.tup [.str "B", .str "-", .ref p11]) := by rw [← hX12]; exact upd_same
      have q12 : PieceAt K X12 (.part "B" (.op false .dash) (.part "B" (.op false .plus) (.lit "x" .nil) .nil)) (.ref p12) := ⟨p12, p11, rfl, .inl (.inl e12), t11⟩
      refine ⟨sz2, fun p13 h13 => ?_⟩
      have k13 : Kp [] X12 (upd X12 p13 (.tup [.str "a", .ref p12])) := (Kp.nil X12).new (.tup [.str "a", .ref p12]) h13
      generalize hX13 : upd X12 p13 (.tup [.str "a", .ref p12]) = X13 at k13
      have q2 := q2.kp k13
      have r10 := r10.kp k13
      have q12 := q12.kp k13
      have e13 : X13 p13 = some (.tup [.str "a", .ref p12]) := by rw [← hX13]; exact upd_same
      have t13 : TextAt K X13 p13 (.lit "a" (.part "B" (.op false .dash) (.part "B" (.op false .plus) (.lit "x" .nil) .nil) .nil)) := ⟨_, .inl (.inl e13), (pc_lit (pc_part q12 rfl))⟩
      refine ⟨sz3, fun p14 h14 => ?_⟩
      have k14 : Kp [] X13 (upd X13 p14 (.tup [.str "set", .str "A", .ref p13])) := (Kp.nil X13).new (.tup [.str "set", .str "A", .ref p13]) h14
      generalize hX14 : upd X13 p14 (.tup [.str "set", .str "A", .ref p13]) = X14 at k14
      have q2 := q2.kp k14
      have r10 := r10.kp k14
      have t13 := t13.kp k14
      have e14 : X14 p14 = some (.tup [.str "set", .str "A", .ref p13]) := by rw [← hX14]; exact upd_same
      have r14 : RowAt K X14 p14 (.set "A" (.lit "a" (.part "B" (.op false .dash) (.part "B" (.op false .plus) (.lit "x" .nil) .nil) .nil))) := ⟨p13, .inl (.inl e14), t13⟩
      refine ⟨_, rfl, ?_⟩
      refine ⟨sz2, fun p15 h15 => ?_⟩
      have k15 : Kp [] X14 (upd X14 p15 (.tup [.ref p14, .ref p10])) := (Kp.nil X14).new (.tup [.ref p14, .ref p10]) h15
      generalize hX15 : upd X14 p15 (.tup [.ref p14, .ref p10]) = X15 at k15
      have q2 := q2.kp k15
      have r10 := r10.kp k15
      have r14 := r14.kp k15
      have e15 : X15 p15 = some (.tup [.ref p14, .ref p10]) := by rw [← hX15]; exact upd_same
      have FA : FileAt K X15 p15 fileA := ⟨[p14, p10], .inl (.inl e15), (.cons r14 (.cons r10 .nil))⟩
      refine ⟨_, rfl, ?_⟩
      refine ⟨p15, fileA, rfl, FA, g_fileA, ?_⟩
      rw [deadA]
      intro p16 X16 k16 n16 s16
      have FA := FA.kp k16
      refine ⟨sz3, fun p17 h17 => ?_⟩
      have k17 : Kp [] X16 (upd X16 p17 (.tup [.int 0, .int 1, .int 0])) := (Kp.nil X16).new (.tup [.int 0, .int 1, .int 0]) h17
      generalize hX17 : upd X16 p17 (.tup [.int 0, .int 1, .int 0]) = X17 at k17
      have FA := FA.kp k17
      have s16 := s16.kp k17 (fun z => nomatch z)
      have e17 : X17 p17 = some (.tup [.int 0, .int 1, .int 0]) := by rw [← hX17]; exact upd_same
      refine ⟨sz2, fun p18 h18 => ?_⟩
      have k18 : Kp [] X17 (upd X17 p18 (.tup [.int 1, .int 0])) := (Kp.nil X17).new (.tup [.int 1, .int 0]) h18
      generalize hX18 : upd X17 p18 (.tup [.int 1, .int 0]) = X18 at k18
      have FA := FA.kp k18
      have s16 := s16.kp k18 (fun z => nomatch z)
      have e17 := k18.tup e17
      have e18 : X18 p18 = some (.tup [.int 1, .int 0]) := by rw [← hX18]; exact upd_same
      refine ⟨sz3, fun p19 h19 => ?_⟩
      have k19 : Kp [] X18 (upd X18 p19 (.tup [.int 1, .int 0, .int 1])) := (Kp.nil X18).new (.tup [.int 1, .int 0, .int 1]) h19
      generalize hX19 : upd X18 p19 (.tup [.int 1, .int 0, .int 1]) = X19 at k19
      have FA := FA.kp k19
      have s16 := s16.kp k19 (fun z => nomatch z)
      have e17 := k19.tup e17
      have e18 := k19.tup e18
      have e19 : X19 p19 = some (.tup [.int 1, .int 0, .int 1]) := by rw [← hX19]; exact upd_same
      refine ⟨sz3, fun p20 h20 => ?_⟩
      have k20 : Kp [] X19 (upd X19 p20 (.lst [.ref p17, .ref p18, .ref p19])) := (Kp.nil X19).new (.lst [.ref p17, .ref p18, .ref p19]) h20
      generalize hX20 : upd X19 p20 (.lst [.ref p17, .ref p18, .ref p19]) = X20 at k20
      have FA := FA.kp k20
      have s16 := s16.kp k20 (fun z => nomatch z)
      have e17 := k20.tup e17
      have e18 := k20.tup e18
      have e19 := k20.tup e19
      have e20 : X20 p20 = some (.lst [.ref p17, .ref p18, .ref p19]) := by rw [← hX20]; exact upd_same
      have l20 : LsAt X20 p20 [[0, 1, 0], [1, 0], [1, 0, 1]] := ⟨_, e20, (.cons ⟨p17, rfl, e17⟩ (.cons ⟨p18, rfl, e18⟩ (.cons ⟨p19, rfl, e19⟩ .nil)))⟩
      refine ⟨spsD [[0, 1, 0], [1, 0], [1, 0, 1]], spsD [[0, 1, 0], [1, 0], [1, 0, 1]], sps_dp s16, sps_dp l20, spsD_shaped _, spsD_shaped _, _, rfl, ?_⟩
      rw [spsD_eqv, decide_eq_true rfl]
      refine if_f rfl ?_
      refine ⟨_, rfl, ?_⟩
      refine ⟨sz2, fun p21 h21 => ?_⟩
      have k21 : Kp [] X20 (upd X20 p21 (.tup [.int 0, .int 1])) := (Kp.nil X20).new (.tup [.int 0, .int 1]) h21
      generalize hX21 : upd X20 p21 (.tup [.int 0, .int 1]) = X21 at k21
      have FA := FA.kp k21
      have e21 : X21 p21 = some (.tup [.int 0, .int 1]) := by rw [← hX21]; exact upd_same
      refine ⟨p15, p21, fileA, [0, 1], rfl, FA, g_fileA, .inl (.inl e21), by decide, by decide +kernel, ?_⟩
      rw [takerA1]
      intro p22 X22 k22 n22 v22
      have FA := FA.kp k22
      refine fun p23 h23 => ?_
      have k23 : Kp [] X22 (upd X22 p23 (.dK [])) := (Kp.nil X22).new (.dK []) h23
      generalize hX23 : upd X22 p23 (.dK []) = X23 at k23
      have FA := FA.kp k23
      have v22 := v22.kp k23
      have e23 : X23 p23 = some (.dK []) := by rw [← hX23]; exact upd_same
      refine ⟨p22, p23, kvsOf [], [], rfl, rfl, v22, e23, rfl, (fun _ h => nomatch h), _, rfl, if_f rfl ?_⟩
      refine ⟨_, rfl, ?_⟩
      refine ⟨sz2, fun p24 h24 => ?_⟩
      have k24 : Kp [] X23 (upd X23 p24 (.tup [.int 1, .int 0])) := (Kp.nil X23).new (.tup [.int 1, .int 0]) h24
      generalize hX24 : upd X23 p24 (.tup [.int 1, .int 0]) = X24 at k24
      have FA := FA.kp k24
      have e24 : X24 p24 = some (.tup [.int 1, .int 0]) := by rw [← hX24]; exact upd_same
      refine ⟨p15, p24, fileA, [1, 0], rfl, FA, g_fileA, .inl (.inl e24), by decide, by decide +kernel, ?_⟩
      rw [takerA2]
      intro X25 k25
      have FA := FA.kp k25
      refine ⟨rfl, _, rfl, if_f (by decide) ?_⟩
      refine ⟨sz1, fun p26 h26 => ?_⟩
      have k26 : Kp [] X25 (upd X25 p26 (.tup [.str "m"])) := (Kp.nil X25).new (.tup [.str "m"]) h26
      generalize hX26 : upd X25 p26 (.tup [.str "m"]) = X26 at k26
      have e26 : X26 p26 = some (.tup [.str "m"]) := by rw [← hX26]; exact upd_same
      have t26 : TextAt K X26 p26 (.lit "m" .nil) := ⟨_, .inl (.inl e26), (pc_lit rfl)⟩
      refine ⟨sz3, fun p27 h27 => ?_⟩
      have k27 : Kp [] X26 (upd X26 p27 (.tup [.str "C", .str "?", .ref p26])) := (Kp.nil X26).new (.tup [.str "C", .str "?", .ref p26]) h27
      generalize hX27 : upd X26 p27 (.tup [.str "C", .str "?", .ref p26]) = X27 at k27
      have t26 := t26.kp k27
      have e27 : X27 p27 = some (.tup [.str "C", .str "?", .ref p26]) := by rw [← hX27]; exact upd_same
      have q27 : PieceAt K X27 (.part "C" (.op false .ask) (.lit "m" .nil)) (.ref p27) := ⟨p27, p26, rfl, .inl (.inl e27), t26⟩
      refine ⟨sz1, fun p28 h28 => ?_⟩
      have k28 : Kp [] X27 (upd X27 p28 (.tup [.str "n"])) := (Kp.nil X27).new (.tup [.str "n"]) h28
      generalize hX28 : upd X27 p28 (.tup [.str "n"]) = X28 at k28
      have q27 := q27.kp k28
      have e28 : X28 p28 = some (.tup [.str "n"]) := by rw [← hX28]; exact upd_same
      have t28 : TextAt K X28 p28 (.lit "n" .nil) := ⟨_, .inl (.inl e28), (pc_lit rfl)⟩
      refine ⟨sz3, fun p29 h29 => ?_⟩
      have k29 : Kp [] X28 (upd X28 p29 (.tup [.str "C", .str ":?", .ref p28])) := (Kp.nil X28).new (.tup [.str "C", .str ":?", .ref p28]) h29
      generalize hX29 : upd X28 p29 (.tup [.str "C", .str ":?", .ref p28]) = X29 at k29
      have q27 := q27.kp k29
      have t28 := t28.kp k29
      have e29 : X29 p29 = some (.tup [.str "C", .str ":?", .ref p28]) := by rw [← hX29]; exact upd_same
      have q29 : PieceAt K X29 (.part "C" (.op true .ask) (.lit "n" .nil)) (.ref p29) := ⟨p29, p28, rfl, .inl (.inl e29), t28⟩
      refine ⟨sz2, fun p30 h30 => ?_⟩
      have k30 : Kp [] X29 (upd X29 p30 (.tup [.ref p27, .ref p29])) := (Kp.nil X29).new (.tup [.ref p27, .ref p29]) h30
      generalize hX30 : upd X29 p30 (.tup [.ref p27, .ref p29]) = X30 at k30
      have q27 := q27.kp k30
      have q29 := q29.kp k30
      have e30 : X30 p30 = some (.tup [.ref p27, .ref p29]) := by rw [← hX30]; exact upd_same
      have t30 : TextAt K X30 p30 (.part "C" (.op false .ask) (.lit "m" .nil) (.part "C" (.op true .ask) (.lit "n" .nil) .nil)) := ⟨_, .inl (.inl e30), (pc_part q27 (pc_part q29 rfl))⟩
      refine ⟨sz3, fun p31 h31 => ?_⟩
      have k31 : Kp [] X30 (upd X30 p31 (.tup [.str "B", .str ":+", .ref p30])) := (Kp.nil X30).new (.tup [.str "B", .str ":+", .ref p30]) h31
      generalize hX31 : upd X30 p31 (.tup [.str "B", .str ":+", .ref p30]) = X31 at k31
      have t30 := t30.kp k31
      have e31 : X31 p31 = some (.tup [.str "B", .str ":+", .ref p30]) := by rw [← hX31]; exact upd_same
      have q31 : PieceAt K X31 (.part "B" (.op true .plus) (.part "C" (.op false .ask) (.lit "m" .nil) (.part "C" (.op true .ask) (.lit "n" .nil) .nil))) (.ref p31) := ⟨p31, p30, rfl, .inl (.inl e31), t30⟩
      refine ⟨sz1, fun p32 h32 => ?_⟩
      have k32 : Kp [] X31 (upd X31 p32 (.tup [.ref p31])) := (Kp.nil X31).new (.tup [.ref p31]) h32
      generalize hX32 : upd X31 p32 (.tup [.ref p31]) = X32 at k32
      have q31 := q31.kp k32
      have e32 : X32 p32 = some (.tup [.ref p31]) := by rw [← hX32]; exact upd_same
      have t32 : TextAt K X32 p32 (.part "B" (.op true .plus) (.part "C" (.op false .ask) (.lit "m" .nil) (.part "C" (.op true .ask) (.lit "n" .nil) .nil)) .nil) := ⟨_, .inl (.inl e32), (pc_part q31 rfl)⟩
      refine ⟨sz3, fun p33 h33 => ?_⟩
      have k33 : Kp [] X32 (upd X32 p33 (.tup [.str "give", .str "A", .ref p32])) := (Kp.nil X32).new (.tup [.str "give", .str "A", .ref p32]) h33
      generalize hX33 : upd X32 p33 (.tup [.str "give", .str "A", .ref p32]) = X33 at k33
      have t32 := t32.kp k33
      have e33 : X33 p33 = some (.tup [.str "give", .str "A", .ref p32]) := by rw [← hX33]; exact upd_same
      have r33 : RowAt K X33 p33 (.give "A" (.part "B" (.op true .plus) (.part "C" (.op false .ask) (.lit "m" .nil) (.part "C" (.op true .ask) (.lit "n" .nil) .nil)) .nil)) := ⟨p32, .inl (.inl e33), t32⟩
      refine ⟨sz2, fun p34 h34 => ?_⟩
      have k34 : Kp [] X33 (upd X33 p34 (.tup [.str "drop", .str "A"])) := (Kp.nil X33).new (.tup [.str "drop", .str "A"]) h34
      generalize hX34 : upd X33 p34 (.tup [.str "drop", .str "A"]) = X34 at k34
      have r33 := r33.kp k34
      have e34 : X34 p34 = some (.tup [.str "drop", .str "A"]) := by rw [← hX34]; exact upd_same
      have r34 : RowAt K X34 p34 (.drop "A") := .inl (.inl e34)
      refine ⟨sz2, fun p35 h35 => ?_⟩
      have k35 : Kp [] X34 (upd X34 p35 (.tup [.ref p33, .ref p34])) := (Kp.nil X34).new (.tup [.ref p33, .ref p34]) h35
      generalize hX35 : upd X34 p35 (.tup [.ref p33, .ref p34]) = X35 at k35
      have r33 := r33.kp k35
      have r34 := r34.kp k35
      have e35 : X35 p35 = some (.tup [.ref p33, .ref p34]) := by rw [← hX35]; exact upd_same
      have FB : FileAt K X35 p35 fileB := ⟨[p33, p34], .inl (.inl e35), (.cons r33 (.cons r34 .nil))⟩
      refine ⟨sz2, fun p36 h36 => ?_⟩
      have k36 : Kp [] X35 (upd X35 p36 (.tup [.int 0, .int 0])) := (Kp.nil X35).new (.tup [.int 0, .int 0]) h36
      generalize hX36 : upd X35 p36 (.tup [.int 0, .int 0]) = X36 at k36
      have FB := FB.kp k36
      have e36 : X36 p36 = some (.tup [.int 0, .int 0]) := by rw [← hX36]; exact upd_same
      refine ⟨sz3, fun p37 h37 => ?_⟩
      have k37 : Kp [] X36 (upd X36 p37 (.tup [.int 0, .int 0, .int 0])) := (Kp.nil X36).new (.tup [.int 0, .int 0, .int 0]) h37
      generalize hX37 : upd X36 p37 (.tup [.int 0, .int 0, .int 0]) = X37 at k37
      have FB := FB.kp k37
      have e36 := k37.tup e36
      have e37 : X37 p37 = some (.tup [.int 0, .int 0, .int 0]) := by rw [← hX37]; exact upd_same
      refine ⟨sz3, fun p38 h38 => ?_⟩
      have k38 : Kp [] X37 (upd X37 p38 (.tup [.int 0, .int 0, .int 1])) := (Kp.nil X37).new (.tup [.int 0, .int 0, .int 1]) h38
      generalize hX38 : upd X37 p38 (.tup [.int 0, .int 0, .int 1]) = X38 at k38
      have FB := FB.kp k38
      have e36 := k38.tup e36
      have e37 := k38.tup e37
      have e38 : X38 p38 = some (.tup [.int 0, .int 0, .int 1]) := by rw [← hX38]; exact upd_same
      refine ⟨sz3, fun p39 h39 => ?_⟩
      have k39 : Kp [] X38 (upd X38 p39 (.tup [.ref p36, .ref p37, .ref p38])) := (Kp.nil X38).new (.tup [.ref p36, .ref p37, .ref p38]) h39
      generalize hX39 : upd X38 p39 (.tup [.ref p36, .ref p37, .ref p38]) = X39 at k39
      have FB := FB.kp k39
      have e36 := k39.tup e36
      have e37 := k39.tup e37
      have e38 := k39.tup e38
      have e39 : X39 p39 = some (.tup [.ref p36, .ref p37, .ref p38]) := by rw [← hX39]; exact upd_same
      refine ⟨p39, rfl, ⟨_, .inl (.inl e39)⟩, fun D40 hD40 => ?_⟩
      refine lc_gen walk_tup (fun i H' => Kp [] X39 H' ∧ ∃ ds : List Addr, H' D40 = some (.lst (ds.map V.ref)) ∧ Paired (fun d e => EnvAt H' d e) ds ([[pr "B" "a"], [pr "B" "a"], [pr "B" "a", pr "C" ""]].take i)) ⟨(Kp.nil X39).new _ hD40, [], upd_same, .nil⟩ (fun i H' _ ⟨k, _⟩ => k.sqt (.inl (.inl e39))) ?_ ?_
      · rintro i x Ha Hb hi ⟨ka, ds, hDa, hds⟩ ⟨rfl, hx⟩
        obtain ⟨b, sp, e, rfl, hb, hlen, hcon, ht, hee⟩ : ∃ (b : Addr) (sp : Spot) (e : List (Str × Str)), x = .ref b ∧ X39 b = some (.tup (sp.map V.int)) ∧ sp.length ≤ 1000 ∧ (allSpots fileB).contains sp = true ∧ takerM fileB sp = some (some e) ∧ ([[pr "B" "a"], [pr "B" "a"], [pr "B" "a", pr "C" ""]] : List (List (Str × Str)))[i]? = some e := by
          rcases i with _ | _ | _ | i
          · cases hx; exact ⟨_, [0, 0], _, rfl, e36, by decide, by decide +kernel, takerB1, rfl⟩
          · cases hx; exact ⟨_, [0, 0, 0], _, rfl, e37, by decide, by decide +kernel, takerB2, rfl⟩
          · cases hx; exact ⟨_, [0, 0, 1], _, rfl, e38, by decide, by decide +kernel, takerB3, rfl⟩
          · simp only [List.length_cons, List.length_nil] at hi; omega
        refine ⟨rfl, _, rfl, _, rfl, p35, b, fileB, sp, rfl, FB.kp ka, g_fileB, .inl (.inl (ka.tup hb)), hlen, hcon, ?_⟩
        rw [ht]
        intro p Hc kc np hp
        have hDc : Hc D40 = some (.lst (ds.map V.ref)) := kc.keep D40 _ (fun z => nomatch z) hDa
        have dl := Paired.length hds
        have env : ∀ {d : Addr} {e : List (Str × Str)} {ys : List V}, EnvAt Hc d e → EnvAt (upd Hc D40 (.lst ys)) d e := fun {d e ys} h => by
          have h : Hc d = some (.dK (kvsOf e)) := h
          show upd Hc D40 _ d = _
          rw [upd_ne (fun z => by rw [z, hDc] at h; cases h)]; exact h
        refine ⟨_, hDc, by rw [List.length_map, dl, List.length_take, sizeLine_eq]; simp only [List.length_cons, List.length_nil] at hi ⊢; omega, (ka.trans kc).own hD40, ds ++ [p], by rw [upd_same, List.map_append]; rfl, ?_⟩
        rw [take_snoc hee]
        exact paired_app (Paired.mapP hds fun _ _ h => env (h.kp kc)) (.cons (env hp) .nil)
      rintro X40 ⟨k40, ds40, eD40, w40⟩
      obtain ⟨a40, b40, c40, rfl, va40, vb40, vc40⟩ := three (show Paired (fun d e => EnvAt X40 d e) ds40 [[pr "B" "a"], [pr "B" "a"], [pr "B" "a", pr "C" ""]] from w40)
      have eD40 : X40 D40 = some (.lst [.ref a40, .ref b40, .ref c40]) := eD40
      have FB := FB.kp k40
      refine ⟨_, rfl, D40, rfl, ⟨_, .inl (.inl eD40)⟩, fun E41 hE41 => ?_⟩
      refine lc_gen walk_list (fun i H' => Kp [] X40 H' ∧ ∃ ys : List V, H' E41 = some (.lst ys) ∧ Paired (SpAt H') ys (([[pr "B" "a"], [pr "B" "a"], [pr "B" "a", pr "C" ""]].map szI).take i)) ⟨(Kp.nil X40).new _ hE41, [], upd_same, .nil⟩ (fun i H' _ ⟨k, _⟩ => k.sql (fun z => nomatch z) (.inl (.inl eD40))) ?_ ?_
      · rintro i x Ha Hb hi ⟨ka, ys, hDa, hys⟩ ⟨rfl, hx⟩
        obtain ⟨d, e, rfl, he, hok, hee⟩ : ∃ (d : Addr) (e : List (Str × Str)), x = .ref d ∧ EnvAt X40 d e ∧ EnvOk e ∧ (([[pr "B" "a"], [pr "B" "a"], [pr "B" "a", pr "C" ""]] : List (List (Str × Str))).map szI)[i]? = some (szI e) := by
          rcases i with _ | _ | _ | i
          · cases hx; exact ⟨_, _, rfl, va40, ⟨by decide +kernel, by decide +kernel, by decide +kernel⟩, rfl⟩
          · cases hx; exact ⟨_, _, rfl, vb40, ⟨by decide +kernel, by decide +kernel, by decide +kernel⟩, rfl⟩
          · cases hx; exact ⟨_, _, rfl, vc40, ⟨by decide +kernel, by decide +kernel, by decide +kernel⟩, rfl⟩
          · simp only [List.length_cons, List.length_nil] at hi; omega
        refine ⟨rfl, _, rfl, d, e, rfl, he.kp ka, hok, fun p Hc kc np hp => ?_⟩
        have hDc : Hc E41 = some (.lst ys) := kc.keep E41 _ (fun z => nomatch z) hDa
        have kE : Kp [E41] Hc (upd Hc E41 (.lst (ys ++ [.ref p]))) := Kp.wr1 hDc trivial trivial
        have dl := Paired.length hys
        refine ⟨ys, hDc, by rw [dl, List.length_take, List.length_map, sizeLine_eq]; simp only [List.length_cons, List.length_nil] at hi ⊢; omega, (ka.trans kc).own hE41, ys ++ [.ref p], upd_same, ?_⟩
        rw [take_snoc hee]
        exact paired_app (spots_kp (spots_kp hys kc) kE) (.cons ⟨p, rfl, kE.tup hp⟩ .nil)
      rintro X41 ⟨k41, ys41, eE41, w41⟩
      have z41 : LsAt X41 E41 ([[pr "B" "a"], [pr "B" "a"], [pr "B" "a", pr "C" ""]].map szI) := ⟨ys41, eE41, w41⟩
      have FB := FB.kp k41
      have va40 := va40.kp k41
      have vb40 := vb40.kp k41
      have vc40 := vc40.kp k41
      have eD40 := k41.keep _ _ (fun z => nomatch z) eD40
      refine ⟨sz2, fun p42 h42 => ?_⟩
      have k42 : Kp [] X41 (upd X41 p42 (.tup [.int 1, .int 1])) := (Kp.nil X41).new (.tup [.int 1, .int 1]) h42
      generalize hX42 : upd X41 p42 (.tup [.int 1, .int 1]) = X42 at k42
      have FB := FB.kp k42
      have va40 := va40.kp k42
      have vb40 := vb40.kp k42
      have vc40 := vc40.kp k42
      have eD40 := k42.keep _ _ (fun z => nomatch z) eD40
      have z41 := z41.kp k42 (fun z => nomatch z)
      have e42 : X42 p42 = some (.tup [.int 1, .int 1]) := by rw [← hX42]; exact upd_same
      refine ⟨sz2, fun p43 h43 => ?_⟩
      have k43 : Kp [] X42 (upd X42 p43 (.tup [.int 1, .int 1])) := (Kp.nil X42).new (.tup [.int 1, .int 1]) h43
      generalize hX43 : upd X42 p43 (.tup [.int 1, .int 1]) = X43 at k43
      have FB := FB.kp k43
      have va40 := va40.kp k43
      have vb40 := vb40.kp k43
      have vc40 := vc40.kp k43
      have eD40 := k43.keep _ _ (fun z => nomatch z) eD40
      have z41 := z41.kp k43 (fun z => nomatch z)
      have e42 := k43.tup e42
      have e43 : X43 p43 = some (.tup [.int 1, .int 1]) := by rw [← hX43]; exact upd_same
      refine ⟨sz2, fun p44 h44 => ?_⟩
      have k44 : Kp [] X43 (upd X43 p44 (.tup [.int 2, .int 1])) := (Kp.nil X43).new (.tup [.int 2, .int 1]) h44
      generalize hX44 : upd X43 p44 (.tup [.int 2, .int 1]) = X44 at k44
      have FB := FB.kp k44
      have va40 := va40.kp k44
      have vb40 := vb40.kp k44
      have vc40 := vc40.kp k44
      have eD40 := k44.keep _ _ (fun z => nomatch z) eD40
      have z41 := z41.kp k44 (fun z => nomatch z)
      have e42 := k44.tup e42
      have e43 := k44.tup e43
      have e44 : X44 p44 = some (.tup [.int 2, .int 1]) := by rw [← hX44]; exact upd_same
      refine ⟨sz3, fun p45 h45 => ?_⟩
      have k45 : Kp [] X44 (upd X44 p45 (.lst [.ref p42, .ref p43, .ref p44])) := (Kp.nil X44).new (.lst [.ref p42, .ref p43, .ref p44]) h45
      generalize hX45 : upd X44 p45 (.lst [.ref p42, .ref p43, .ref p44]) = X45 at k45
      have FB := FB.kp k45
      have va40 := va40.kp k45
      have vb40 := vb40.kp k45
      have vc40 := vc40.kp k45
      have eD40 := k45.keep _ _ (fun z => nomatch z) eD40
      have z41 := z41.kp k45 (fun z => nomatch z)
      have e42 := k45.tup e42
      have e43 := k45.tup e43
      have e44 := k45.tup e44
      have e45 : X45 p45 = some (.lst [.ref p42, .ref p43, .ref p44]) := by rw [← hX45]; exact upd_same
      have l45 : LsAt X45 p45 [[1, 1], [1, 1], [2, 1]] := ⟨_, e45, (.cons ⟨p42, rfl, e42⟩ (.cons ⟨p43, rfl, e43⟩ (.cons ⟨p44, rfl, e44⟩ .nil)))⟩
      refine ⟨spsD ([[pr "B" "a"], [pr "B" "a"], [pr "B" "a", pr "C" ""]].map szI), spsD [[1, 1], [1, 1], [2, 1]], sps_dp z41, sps_dp l45, spsD_shaped _, spsD_shaped _, _, rfl, ?_⟩
      rw [spsD_eqv, decide_eq_true (show ([[pr "B" "a"], [pr "B" "a"], [pr "B" "a", pr "C" ""]].map szI : List Spot) = [[1, 1], [1, 1], [2, 1]] by decide +kernel)]
      refine if_f rfl ?_
      refine ⟨_, rfl, D40, _, 2, .ref c40, rfl, rfl, .inl (.inl eD40), atI_nat (j := 2) rfl, c40, _, ["B", "C"], rfl, .inl vc40, rfl, by decide, fun ys46 p46 hy46 hs46 h46 => ?_⟩
      obtain rfl : ys46 = (["B", "C"] : List Str) := sorted_two hy46 hs46
      have k46 : Kp [] X45 (upd X45 p46 (.lst ((["B", "C"] : List Str).map V.str))) := (Kp.nil X45).new (.lst ((["B", "C"] : List Str).map V.str)) h46
      generalize hX46 : upd X45 p46 (.lst ((["B", "C"] : List Str).map V.str)) = X46 at k46
      have FB := FB.kp k46
      have va40 := va40.kp k46
      have vb40 := vb40.kp k46
      have vc40 := vc40.kp k46
      have eD40 := k46.keep _ _ (fun z => nomatch z) eD40
      have e46 : X46 p46 = some (.lst ((["B", "C"] : List Str).map V.str)) := by rw [← hX46]; exact upd_same
      refine ⟨sz2, fun p47 h47 => ?_⟩
      have k47 : Kp [] X46 (upd X46 p47 (.lst [.str "B", .str "C"])) := (Kp.nil X46).new (.lst [.str "B", .str "C"]) h47
      generalize hX47 : upd X46 p47 (.lst [.str "B", .str "C"]) = X47 at k47
      have FB := FB.kp k47
      have va40 := va40.kp k47
      have vb40 := vb40.kp k47
      have vc40 := vc40.kp k47
      have eD40 := k47.keep _ _ (fun z => nomatch z) eD40
      have e46 := k47.keep _ _ (fun z => nomatch z) e46
      have e47 : X47 p47 = some (.lst [.str "B", .str "C"]) := by rw [← hX47]; exact upd_same
      refine ⟨.list [.str "B", .str "C"], .list [.str "B", .str "C"], .lst (.inl (.inl e46)) (.cons (.str _) (.cons (.str _) .nil)), .lst (.inl (.inl e47)) (.cons (.str _) (.cons (.str _) .nil)), by decide +kernel, by decide +kernel, _, rfl, ?_⟩
      rw [show PyData.eqv (.list [.str "B", .str "C"]) (.list [.str "B", .str "C"]) = true by decide +kernel]
      refine if_f rfl ?_
      refine ⟨_, rfl, ?_⟩
      refine ⟨p35, fileB, rfl, FB, g_fileB, ?_⟩
      rw [deadB]
      intro p48 X48 k48 n48 s48
      have FB := FB.kp k48
      have va40 := va40.kp k48
      have vb40 := vb40.kp k48
      have vc40 := vc40.kp k48
      have eD40 := k48.keep _ _ (fun z => nomatch z) eD40
      refine ⟨Nat.zero_le _, fun p49 h49 => ?_⟩
      have k49 : Kp [] X48 (upd X48 p49 (.lst [])) := (Kp.nil X48).new (.lst []) h49
      generalize hX49 : upd X48 p49 (.lst []) = X49 at k49
      have FB := FB.kp k49
      have va40 := va40.kp k49
      have vb40 := vb40.kp k49
      have vc40 := vc40.kp k49
      have eD40 := k49.keep _ _ (fun z => nomatch z) eD40
      have s48 := s48.kp k49 (fun z => nomatch z)
      have e49 : X49 p49 = some (.lst []) := by rw [← hX49]; exact upd_same
      have l49 : LsAt X49 p49 [] := ⟨_, e49, .nil⟩
      refine ⟨spsD [], spsD [], sps_dp s48, sps_dp l49, spsD_shaped _, spsD_shaped _, _, rfl, ?_⟩
      rw [spsD_eqv, decide_eq_true rfl]
      refine if_f rfl ?_
      refine ⟨Nat.zero_le _, fun p50 h50 => ?_⟩
      have k50 : Kp [] X49 (upd X49 p50 (.tup [])) := (Kp.nil X49).new (.tup []) h50
      generalize hX50 : upd X49 p50 (.tup []) = X50 at k50
      have FB := FB.kp k50
      have va40 := va40.kp k50
      have vb40 := vb40.kp k50
      have vc40 := vc40.kp k50
      have eD40 := k50.keep _ _ (fun z => nomatch z) eD40
      have e50 : X50 p50 = some (.tup []) := by rw [← hX50]; exact upd_same
      have F0 : FileAt K X50 p50 [] := ⟨[], .inl (.inl e50), .nil⟩
      refine ⟨p50, [], rfl, F0, g_file0, ?_⟩
      rw [dead0]
      intro p51 X51 k51 n51 s51
      have FB := FB.kp k51
      have va40 := va40.kp k51
      have vb40 := vb40.kp k51
      have vc40 := vc40.kp k51
      have eD40 := k51.keep _ _ (fun z => nomatch z) eD40
      refine ⟨Nat.zero_le _, fun p52 h52 => ?_⟩
      have k52 : Kp [] X51 (upd X51 p52 (.lst [])) := (Kp.nil X51).new (.lst []) h52
      generalize hX52 : upd X51 p52 (.lst []) = X52 at k52
      have FB := FB.kp k52
      have va40 := va40.kp k52
      have vb40 := vb40.kp k52
      have vc40 := vc40.kp k52
      have eD40 := k52.keep _ _ (fun z => nomatch z) eD40
      have s51 := s51.kp k52 (fun z => nomatch z)
      have e52 : X52 p52 = some (.lst []) := by rw [← hX52]; exact upd_same
      have l52 : LsAt X52 p52 [] := ⟨_, e52, .nil⟩
      refine ⟨spsD [], spsD [], sps_dp s51, sps_dp l52, spsD_shaped _, spsD_shaped _, _, rfl, ?_⟩
      rw [spsD_eqv, decide_eq_true rfl]
      refine if_f rfl ?_
      refine ⟨_, rfl, D40, _, 2, .ref c40, rfl, rfl, .inl (.inl eD40), atI_nat (j := 2) rfl, c40, .str "", rfl, DGet.k (k := .inr "C") vc40, rfl, _, rfl, if_f (by decide) ?_⟩
      refine ⟨Nat.zero_le _, fun p53 h53 => ?_⟩
      have k53 : Kp [] X52 (upd X52 p53 (.tup [])) := (Kp.nil X52).new (.tup []) h53
      generalize hX53 : upd X52 p53 (.tup []) = X53 at k53
      have e53 : X53 p53 = some (.tup []) := by rw [← hX53]; exact upd_same
      have t53 : TextAt K X53 p53 .nil := ⟨_, .inl (.inl e53), rfl⟩
      refine ⟨sz3, fun p54 h54 => ?_⟩
      have k54 : Kp [] X53 (upd X53 p54 (.tup [.str "A", .str "=", .ref p53])) := (Kp.nil X53).new (.tup [.str "A", .str "=", .ref p53]) h54
      generalize hX54 : upd X53 p54 (.tup [.str "A", .str "=", .ref p53]) = X54 at k54
      have t53 := t53.kp k54
      have e54 : X54 p54 = some (.tup [.str "A", .str "=", .ref p53]) := by rw [← hX54]; exact upd_same
      have q54 : PieceAt K X54 (.part "A" (.op false .eq) .nil) (.ref p54) := ⟨p54, p53, rfl, .inl (.inl e54), t53⟩
      refine ⟨sz1, fun p55 h55 => ?_⟩
      have k55 : Kp [] X54 (upd X54 p55 (.tup [.ref p54])) := (Kp.nil X54).new (.tup [.ref p54]) h55
      generalize hX55 : upd X54 p55 (.tup [.ref p54]) = X55 at k55
      have q54 := q54.kp k55
      have e55 : X55 p55 = some (.tup [.ref p54]) := by rw [← hX55]; exact upd_same
      have t55 : TextAt K X55 p55 (.part "A" (.op false .eq) .nil .nil) := ⟨_, .inl (.inl e55), (pc_part q54 rfl)⟩
      refine ⟨sz3, fun p56 h56 => ?_⟩
      have k56 : Kp [] X55 (upd X55 p56 (.tup [.str "B", .str ":+", .ref p55])) := (Kp.nil X55).new (.tup [.str "B", .str ":+", .ref p55]) h56
      generalize hX56 : upd X55 p56 (.tup [.str "B", .str ":+", .ref p55]) = X56 at k56
      have t55 := t55.kp k56
      have e56 : X56 p56 = some (.tup [.str "B", .str ":+", .ref p55]) := by rw [← hX56]; exact upd_same
      have q56 : PieceAt K X56 (.part "B" (.op true .plus) (.part "A" (.op false .eq) .nil .nil)) (.ref p56) := ⟨p56, p55, rfl, .inl (.inl e56), t55⟩
      refine ⟨sz1, fun p57 h57 => ?_⟩
      have k57 : Kp [] X56 (upd X56 p57 (.tup [.ref p56])) := (Kp.nil X56).new (.tup [.ref p56]) h57
      generalize hX57 : upd X56 p57 (.tup [.ref p56]) = X57 at k57
      have q56 := q56.kp k57
      have e57 : X57 p57 = some (.tup [.ref p56]) := by rw [← hX57]; exact upd_same
      have t57 : TextAt K X57 p57 (.part "B" (.op true .plus) (.part "A" (.op false .eq) .nil .nil) .nil) := ⟨_, .inl (.inl e57), (pc_part q56 rfl)⟩
      refine ⟨sz2, fun p58 h58 => ?_⟩
      have k58 : Kp [] X57 (upd X57 p58 (.tup [.str "check", .ref p57])) := (Kp.nil X57).new (.tup [.str "check", .ref p57]) h58
      generalize hX58 : upd X57 p58 (.tup [.str "check", .ref p57]) = X58 at k58
      have t57 := t57.kp k58
      have e58 : X58 p58 = some (.tup [.str "check", .ref p57]) := by rw [← hX58]; exact upd_same
      have r58 : RowAt K X58 p58 (.check (.part "B" (.op true .plus) (.part "A" (.op false .eq) .nil .nil) .nil)) := ⟨p57, .inl (.inl e58), t57⟩
      refine ⟨sz1, fun p59 h59 => ?_⟩
      have k59 : Kp [] X58 (upd X58 p59 (.tup [.str "x"])) := (Kp.nil X58).new (.tup [.str "x"]) h59
      generalize hX59 : upd X58 p59 (.tup [.str "x"]) = X59 at k59
      have r58 := r58.kp k59
      have e59 : X59 p59 = some (.tup [.str "x"]) := by rw [← hX59]; exact upd_same
      have t59 : TextAt K X59 p59 (.lit "x" .nil) := ⟨_, .inl (.inl e59), (pc_lit rfl)⟩
      refine ⟨sz3, fun p60 h60 => ?_⟩
      have k60 : Kp [] X59 (upd X59 p60 (.tup [.str "A", .str ":-", .ref p59])) := (Kp.nil X59).new (.tup [.str "A", .str ":-", .ref p59]) h60
      generalize hX60 : upd X59 p60 (.tup [.str "A", .str ":-", .ref p59]) = X60 at k60
      have r58 := r58.kp k60
      have t59 := t59.kp k60
      have e60 : X60 p60 = some (.tup [.str "A", .str ":-", .ref p59]) := by rw [← hX60]; exact upd_same
      have q60 : PieceAt K X60 (.part "A" (.op true .dash) (.lit "x" .nil)) (.ref p60) := ⟨p60, p59, rfl, .inl (.inl e60), t59⟩
      refine ⟨sz1, fun p61 h61 => ?_⟩
      have k61 : Kp [] X60 (upd X60 p61 (.tup [.ref p60])) := (Kp.nil X60).new (.tup [.ref p60]) h61
      generalize hX61 : upd X60 p61 (.tup [.ref p60]) = X61 at k61
      have r58 := r58.kp k61
      have q60 := q60.kp k61
      have e61 : X61 p61 = some (.tup [.ref p60]) := by rw [← hX61]; exact upd_same
      have t61 : TextAt K X61 p61 (.part "A" (.op true .dash) (.lit "x" .nil) .nil) := ⟨_, .inl (.inl e61), (pc_part q60 rfl)⟩
      refine ⟨sz3, fun p62 h62 => ?_⟩
      have k62 : Kp [] X61 (upd X61 p62 (.tup [.str "A", .str "+", .ref p61])) := (Kp.nil X61).new (.tup [.str "A", .str "+", .ref p61]) h62
      generalize hX62 : upd X61 p62 (.tup [.str "A", .str "+", .ref p61]) = X62 at k62
      have r58 := r58.kp k62
      have t61 := t61.kp k62
      have e62 : X62 p62 = some (.tup [.str "A", .str "+", .ref p61]) := by rw [← hX62]; exact upd_same
      have q62 : PieceAt K X62 (.part "A" (.op false .plus) (.part "A" (.op true .dash) (.lit "x" .nil) .nil)) (.ref p62) := ⟨p62, p61, rfl, .inl (.inl e62), t61⟩
      refine ⟨sz1, fun p63 h63 => ?_⟩
      have k63 : Kp [] X62 (upd X62 p63 (.tup [.ref p62])) := (Kp.nil X62).new (.tup [.ref p62]) h63
      generalize hX63 : upd X62 p63 (.tup [.ref p62]) = X63 at k63
      have r58 := r58.kp k63
      have q62 := q62.kp k63
      have e63 : X63 p63 = some (.tup [.ref p62]) := by rw [← hX63]; exact upd_same
      have t63 : TextAt K X63 p63 (.part "A" (.op false .plus) (.part "A" (.op true .dash) (.lit "x" .nil) .nil) .nil) := ⟨_, .inl (.inl e63), (pc_part q62 rfl)⟩
      refine ⟨sz2, fun p64 h64 => ?_⟩
      have k64 : Kp [] X63 (upd X63 p64 (.tup [.str "check", .ref p63])) := (Kp.nil X63).new (.tup [.str "check", .ref p63]) h64
      generalize hX64 : upd X63 p64 (.tup [.str "check", .ref p63]) = X64 at k64
      have r58 := r58.kp k64
      have t63 := t63.kp k64
      have e64 : X64 p64 = some (.tup [.str "check", .ref p63]) := by rw [← hX64]; exact upd_same
      have r64 : RowAt K X64 p64 (.check (.part "A" (.op false .plus) (.part "A" (.op true .dash) (.lit "x" .nil) .nil) .nil)) := ⟨p63, .inl (.inl e64), t63⟩
      refine ⟨sz2, fun p65 h65 => ?_⟩
      have k65 : Kp [] X64 (upd X64 p65 (.tup [.ref p58, .ref p64])) := (Kp.nil X64).new (.tup [.ref p58, .ref p64]) h65
      generalize hX65 : upd X64 p65 (.tup [.ref p58, .ref p64]) = X65 at k65
      have r58 := r58.kp k65
      have r64 := r64.kp k65
      have e65 : X65 p65 = some (.tup [.ref p58, .ref p64]) := by rw [← hX65]; exact upd_same
      have FC : FileAt K X65 p65 fileC := ⟨[p58, p64], .inl (.inl e65), (.cons r58 (.cons r64 .nil))⟩
      refine ⟨_, rfl, ?_⟩
      refine ⟨sz3, fun p66 h66 => ?_⟩
      have k66 : Kp [] X65 (upd X65 p66 (.tup [.int 1, .int 0, .int 0])) := (Kp.nil X65).new (.tup [.int 1, .int 0, .int 0]) h66
      generalize hX66 : upd X65 p66 (.tup [.int 1, .int 0, .int 0]) = X66 at k66
      have FC := FC.kp k66
      have e66 : X66 p66 = some (.tup [.int 1, .int 0, .int 0]) := by rw [← hX66]; exact upd_same
      refine ⟨p65, p66, fileC, [1, 0, 0], rfl, FC, g_fileC, .inl (.inl e66), by decide, by decide +kernel, ?_⟩
      rw [takerC1]
      intro p67 X67 k67 n67 v67
      have FC := FC.kp k67
      refine ⟨_, rfl, ?_⟩
      refine fun p68 h68 => ⟨upd_same, [(.inr "A", .str "")], rfl, (show 1 ≤ 15 by omega), ?_⟩
      have k68 : Kp [] X67 (upd (upd X67 p68 (.dK [])) p68 (.dK (mergeK [] [(.inr "A", .str "")]))) := ((Kp.nil X67).new (.dK []) h68).own h68
      generalize hX68 : upd (upd X67 p68 (.dK [])) p68 (.dK (mergeK [] [(.inr "A", .str "")])) = X68 at k68
      have FC := FC.kp k68
      have v67 := v67.kp k68
      have e68 : X68 p68 = some (.dK [(.inr "A", .str "")]) := by rw [← hX68, upd_same]; rfl
      refine ⟨p67, p68, kvsOf [pr "A" ""], [(.inr "A", .str "")], rfl, rfl, v67, e68, rfl, (fun p hp => by rw [List.mem_singleton.mp hp]; exact ⟨rfl, rfl⟩), _, rfl, if_f rfl ?_⟩
      refine ⟨_, rfl, ?_⟩
      refine ⟨sz3, fun p69 h69 => ?_⟩
      have k69 : Kp [] X68 (upd X68 p69 (.tup [.int 0, .int 0, .int 0])) := (Kp.nil X68).new (.tup [.int 0, .int 0, .int 0]) h69
      generalize hX69 : upd X68 p69 (.tup [.int 0, .int 0, .int 0]) = X69 at k69
      have FC := FC.kp k69
      have v67 := v67.kp k69
      have e69 : X69 p69 = some (.tup [.int 0, .int 0, .int 0]) := by rw [← hX69]; exact upd_same
      refine ⟨p65, p69, fileC, [0, 0, 0], rfl, FC, g_fileC, .inl (.inl e69), by decide, by decide +kernel, ?_⟩
      rw [takerC2]
      intro p70 X70 k70 n70 v70
      have FC := FC.kp k70
      have v67 := v67.kp k70
      refine ⟨p70, kvsOf [pr "B" "a"], rfl, v70, rfl, _, rfl, if_f (by decide) ?_⟩
      refine ⟨_, rfl, p67, _, rfl, DPut.k (k := .inr "B") (v := .str "x") v67 (by rw [sizeLine_eq]; show 1 < _; omega), ?_⟩
      have k71 : Kp [p67] X70 (upd X70 p67 (.dK (putK (kvsOf [pr "A" ""]) (.inr "B") (.str "x")))) := Kp.wr1 v67 trivial trivial
      generalize upd X70 p67 (.dK (putK (kvsOf [pr "A" ""]) (.inr "B") (.str "x"))) = X71 at k71
      have FC := FC.kp k71
      refine ⟨_, rfl, ?_⟩
      refine ⟨sz3, fun p72 h72 => ?_⟩
      have k72 : Kp [] X71 (upd X71 p72 (.tup [.int 1, .int 0, .int 0])) := (Kp.nil X71).new (.tup [.int 1, .int 0, .int 0]) h72
      generalize hX72 : upd X71 p72 (.tup [.int 1, .int 0, .int 0]) = X72 at k72
      have FC := FC.kp k72
      have e72 : X72 p72 = some (.tup [.int 1, .int 0, .int 0]) := by rw [← hX72]; exact upd_same
      refine ⟨p65, p72, fileC, [1, 0, 0], rfl, FC, g_fileC, .inl (.inl e72), by decide, by decide +kernel, ?_⟩
      rw [takerC1]
      intro p73 X73 k73 n73 v73
      have FC := FC.kp k73
      refine fun p74 h74 => ⟨upd_same, [(.inr "A", .str "")], rfl, (show 1 ≤ 15 by omega), ?_⟩
      have k74 : Kp [] X73 (upd (upd X73 p74 (.dK [])) p74 (.dK (mergeK [] [(.inr "A", .str "")]))) := ((Kp.nil X73).new (.dK []) h74).own h74
      generalize hX74 : upd (upd X73 p74 (.dK [])) p74 (.dK (mergeK [] [(.inr "A", .str "")])) = X74 at k74
      have FC := FC.kp k74
      have v73 := v73.kp k74
      have e74 : X74 p74 = some (.dK [(.inr "A", .str "")]) := by rw [← hX74, upd_same]; rfl
      refine ⟨p73, p74, kvsOf [pr "A" ""], [(.inr "A", .str "")], rfl, rfl, v73, e74, rfl, (fun p hp => by rw [List.mem_singleton.mp hp]; exact ⟨rfl, rfl⟩), _, rfl, if_f rfl ?_⟩
      refine ⟨sz1, fun p75 h75 => ?_⟩
      have k75 : Kp [] X74 (upd X74 p75 (.tup [.str "x"])) := (Kp.nil X74).new (.tup [.str "x"]) h75
      generalize hX75 : upd X74 p75 (.tup [.str "x"]) = X75 at k75
      have e75 : X75 p75 = some (.tup [.str "x"]) := by rw [← hX75]; exact upd_same
      have t75 : TextAt K X75 p75 (.lit "x" .nil) := ⟨_, .inl (.inl e75), (pc_lit rfl)⟩
      refine ⟨sz3, fun p76 h76 => ?_⟩
      have k76 : Kp [] X75 (upd X75 p76 (.tup [.str "D", .str ":+", .ref p75])) := (Kp.nil X75).new (.tup [.str "D", .str ":+", .ref p75]) h76
      generalize hX76 : upd X75 p76 (.tup [.str "D", .str ":+", .ref p75]) = X76 at k76
      have t75 := t75.kp k76
      have e76 : X76 p76 = some (.tup [.str "D", .str ":+", .ref p75]) := by rw [← hX76]; exact upd_same
      have q76 : PieceAt K X76 (.part "D" (.op true .plus) (.lit "x" .nil)) (.ref p76) := ⟨p76, p75, rfl, .inl (.inl e76), t75⟩
      refine ⟨sz1, fun p77 h77 => ?_⟩
      have k77 : Kp [] X76 (upd X76 p77 (.tup [.ref p76])) := (Kp.nil X76).new (.tup [.ref p76]) h77
      generalize hX77 : upd X76 p77 (.tup [.ref p76]) = X77 at k77
      have q76 := q76.kp k77
      have e77 : X77 p77 = some (.tup [.ref p76]) := by rw [← hX77]; exact upd_same
      have t77 : TextAt K X77 p77 (.part "D" (.op true .plus) (.lit "x" .nil) .nil) := ⟨_, .inl (.inl e77), (pc_part q76 rfl)⟩
      refine ⟨sz3, fun p78 h78 => ?_⟩
      have k78 : Kp [] X77 (upd X77 p78 (.tup [.str "C", .str "+", .ref p77])) := (Kp.nil X77).new (.tup [.str "C", .str "+", .ref p77]) h78
      generalize hX78 : upd X77 p78 (.tup [.str "C", .str "+", .ref p77]) = X78 at k78
      have t77 := t77.kp k78
      have e78 : X78 p78 = some (.tup [.str "C", .str "+", .ref p77]) := by rw [← hX78]; exact upd_same
      have q78 : PieceAt K X78 (.part "C" (.op false .plus) (.part "D" (.op true .plus) (.lit "x" .nil) .nil)) (.ref p78) := ⟨p78, p77, rfl, .inl (.inl e78), t77⟩
      refine ⟨sz2, fun p79 h79 => ?_⟩
      have k79 : Kp [] X78 (upd X78 p79 (.tup [.str "a", .ref p78])) := (Kp.nil X78).new (.tup [.str "a", .ref p78]) h79
      generalize hX79 : upd X78 p79 (.tup [.str "a", .ref p78]) = X79 at k79
      have q78 := q78.kp k79
      have e79 : X79 p79 = some (.tup [.str "a", .ref p78]) := by rw [← hX79]; exact upd_same
      have t79 : TextAt K X79 p79 (.lit "a" (.part "C" (.op false .plus) (.part "D" (.op true .plus) (.lit "x" .nil) .nil) .nil)) := ⟨_, .inl (.inl e79), (pc_lit (pc_part q78 rfl))⟩
      refine ⟨sz3, fun p80 h80 => ?_⟩
      have k80 : Kp [] X79 (upd X79 p80 (.tup [.str "B", .str "+", .ref p79])) := (Kp.nil X79).new (.tup [.str "B", .str "+", .ref p79]) h80
      generalize hX80 : upd X79 p80 (.tup [.str "B", .str "+", .ref p79]) = X80 at k80
      have t79 := t79.kp k80
      have e80 : X80 p80 = some (.tup [.str "B", .str "+", .ref p79]) := by rw [← hX80]; exact upd_same
      have q80 : PieceAt K X80 (.part "B" (.op false .plus) (.lit "a" (.part "C" (.op false .plus) (.part "D" (.op true .plus) (.lit "x" .nil) .nil) .nil))) (.ref p80) := ⟨p80, p79, rfl, .inl (.inl e80), t79⟩
      refine ⟨sz1, fun p81 h81 => ?_⟩
      have k81 : Kp [] X80 (upd X80 p81 (.tup [.ref p80])) := (Kp.nil X80).new (.tup [.ref p80]) h81
      generalize hX81 : upd X80 p81 (.tup [.ref p80]) = X81 at k81
      have q80 := q80.kp k81
      have e81 : X81 p81 = some (.tup [.ref p80]) := by rw [← hX81]; exact upd_same
      have t81 : TextAt K X81 p81 (.part "B" (.op false .plus) (.lit "a" (.part "C" (.op false .plus) (.part "D" (.op true .plus) (.lit "x" .nil) .nil) .nil)) .nil) := ⟨_, .inl (.inl e81), (pc_part q80 rfl)⟩
      refine ⟨sz2, fun p82 h82 => ?_⟩
      have k82 : Kp [] X81 (upd X81 p82 (.tup [.str "check", .ref p81])) := (Kp.nil X81).new (.tup [.str "check", .ref p81]) h82
      generalize hX82 : upd X81 p82 (.tup [.str "check", .ref p81]) = X82 at k82
      have t81 := t81.kp k82
      have e82 : X82 p82 = some (.tup [.str "check", .ref p81]) := by rw [← hX82]; exact upd_same
      have r82 : RowAt K X82 p82 (.check (.part "B" (.op false .plus) (.lit "a" (.part "C" (.op false .plus) (.part "D" (.op true .plus) (.lit "x" .nil) .nil) .nil)) .nil)) := ⟨p81, .inl (.inl e82), t81⟩
      refine ⟨sz1, fun p83 h83 => ?_⟩
      have k83 : Kp [] X82 (upd X82 p83 (.tup [.ref p82])) := (Kp.nil X82).new (.tup [.ref p82]) h83
      generalize hX83 : upd X82 p83 (.tup [.ref p82]) = X83 at k83
      have r82 := r82.kp k83
      have e83 : X83 p83 = some (.tup [.ref p82]) := by rw [← hX83]; exact upd_same
      have FD : FileAt K X83 p83 fileD := ⟨[p82], .inl (.inl e83), (.cons r82 .nil)⟩
      refine ⟨sz2, fun p84 h84 => ?_⟩
      have k84 : Kp [] X83 (upd X83 p84 (.tup [.int 0, .int 0])) := (Kp.nil X83).new (.tup [.int 0, .int 0]) h84
      generalize hX84 : upd X83 p84 (.tup [.int 0, .int 0]) = X84 at k84
      have FD := FD.kp k84
      have e84 : X84 p84 = some (.tup [.int 0, .int 0]) := by rw [← hX84]; exact upd_same
      refine ⟨sz3, fun p85 h85 => ?_⟩
      have k85 : Kp [] X84 (upd X84 p85 (.tup [.int 0, .int 0, .int 1])) := (Kp.nil X84).new (.tup [.int 0, .int 0, .int 1]) h85
      generalize hX85 : upd X84 p85 (.tup [.int 0, .int 0, .int 1]) = X85 at k85
      have FD := FD.kp k85
      have e84 := k85.tup e84
      have e85 : X85 p85 = some (.tup [.int 0, .int 0, .int 1]) := by rw [← hX85]; exact upd_same
      refine ⟨sz4, fun p86 h86 => ?_⟩
      have k86 : Kp [] X85 (upd X85 p86 (.tup [.int 0, .int 0, .int 1, .int 0])) := (Kp.nil X85).new (.tup [.int 0, .int 0, .int 1, .int 0]) h86
      generalize hX86 : upd X85 p86 (.tup [.int 0, .int 0, .int 1, .int 0]) = X86 at k86
      have FD := FD.kp k86
      have e84 := k86.tup e84
      have e85 := k86.tup e85
      have e86 : X86 p86 = some (.tup [.int 0, .int 0, .int 1, .int 0]) := by rw [← hX86]; exact upd_same
      refine ⟨sz3, fun p87 h87 => ?_⟩
      have k87 : Kp [] X86 (upd X86 p87 (.tup [.ref p84, .ref p85, .ref p86])) := (Kp.nil X86).new (.tup [.ref p84, .ref p85, .ref p86]) h87
      generalize hX87 : upd X86 p87 (.tup [.ref p84, .ref p85, .ref p86]) = X87 at k87
      have FD := FD.kp k87
      have e84 := k87.tup e84
      have e85 := k87.tup e85
      have e86 := k87.tup e86
      have e87 : X87 p87 = some (.tup [.ref p84, .ref p85, .ref p86]) := by rw [← hX87]; exact upd_same
      refine ⟨p87, rfl, ⟨_, .inl (.inl e87)⟩, fun D88 hD88 => ?_⟩
      refine lc_gen walk_tup (fun i H' => Kp [] X87 H' ∧ ∃ ds : List Addr, H' D88 = some (.lst (ds.map V.ref)) ∧ Paired (fun d e => EnvAt H' d e) ds ([[pr "B" ""], [pr "B" "", pr "C" ""], [pr "B" "", pr "C" "", pr "D" "a"]].take i)) ⟨(Kp.nil X87).new _ hD88, [], upd_same, .nil⟩ (fun i H' _ ⟨k, _⟩ => k.sqt (.inl (.inl e87))) ?_ ?_
      · rintro i x Ha Hb hi ⟨ka, ds, hDa, hds⟩ ⟨rfl, hx⟩
        obtain ⟨b, sp, e, rfl, hb, hlen, hcon, ht, hee⟩ : ∃ (b : Addr) (sp : Spot) (e : List (Str × Str)), x = .ref b ∧ X87 b = some (.tup (sp.map V.int)) ∧ sp.length ≤ 1000 ∧ (allSpots fileD).contains sp = true ∧ takerM fileD sp = some (some e) ∧ ([[pr "B" ""], [pr "B" "", pr "C" ""], [pr "B" "", pr "C" "", pr "D" "a"]] : List (List (Str × Str)))[i]? = some e := by
          rcases i with _ | _ | _ | i
          · cases hx; exact ⟨_, [0, 0], _, rfl, e84, by decide, by decide +kernel, takerD1, rfl⟩
          · cases hx; exact ⟨_, [0, 0, 1], _, rfl, e85, by decide, by decide +kernel, takerD2, rfl⟩
          · cases hx; exact ⟨_, [0, 0, 1, 0], _, rfl, e86, by decide, by decide +kernel, takerD3, rfl⟩
          · simp only [List.length_cons, List.length_nil] at hi; omega
        refine ⟨rfl, _, rfl, _, rfl, p83, b, fileD, sp, rfl, FD.kp ka, g_fileD, .inl (.inl (ka.tup hb)), hlen, hcon, ?_⟩
        rw [ht]
        intro p Hc kc np hp
        have hDc : Hc D88 = some (.lst (ds.map V.ref)) := kc.keep D88 _ (fun z => nomatch z) hDa
        have dl := Paired.length hds
        have env : ∀ {d : Addr} {e : List (Str × Str)} {ys : List V}, EnvAt Hc d e → EnvAt (upd Hc D88 (.lst ys)) d e := fun {d e ys} h => by
          have h : Hc d = some (.dK (kvsOf e)) := h
          show upd Hc D88 _ d = _
          rw [upd_ne (fun z => by rw [z, hDc] at h; cases h)]; exact h
        refine ⟨_, hDc, by rw [List.length_map, dl, List.length_take, sizeLine_eq]; simp only [List.length_cons, List.length_nil] at hi ⊢; omega, (ka.trans kc).own hD88, ds ++ [p], by rw [upd_same, List.map_append]; rfl, ?_⟩
        rw [take_snoc hee]
        exact paired_app (Paired.mapP hds fun _ _ h => env (h.kp kc)) (.cons (env hp) .nil)
      rintro X88 ⟨k88, ds88, eD88, w88⟩
      obtain ⟨a88, b88, c88, rfl, va88, vb88, vc88⟩ := three (show Paired (fun d e => EnvAt X88 d e) ds88 [[pr "B" ""], [pr "B" "", pr "C" ""], [pr "B" "", pr "C" "", pr "D" "a"]] from w88)
      have eD88 : X88 D88 = some (.lst [.ref a88, .ref b88, .ref c88]) := eD88
      have FD := FD.kp k88
      refine ⟨_, rfl, ?_⟩
      refine ⟨p83, fileD, rfl, FD, g_fileD, ?_⟩
      rw [deadD]
      intro p89 X89 k89 n89 s89
      have FD := FD.kp k89
      have va88 := va88.kp k89
      have vb88 := vb88.kp k89
      have vc88 := vc88.kp k89
      have eD88 := k89.keep _ _ (fun z => nomatch z) eD88
      refine ⟨Nat.zero_le _, fun p90 h90 => ?_⟩
      have k90 : Kp [] X89 (upd X89 p90 (.lst [])) := (Kp.nil X89).new (.lst []) h90
      generalize hX90 : upd X89 p90 (.lst []) = X90 at k90
      have FD := FD.kp k90
      have va88 := va88.kp k90
      have vb88 := vb88.kp k90
      have vc88 := vc88.kp k90
      have eD88 := k90.keep _ _ (fun z => nomatch z) eD88
      have s89 := s89.kp k90 (fun z => nomatch z)
      have e90 : X90 p90 = some (.lst []) := by rw [← hX90]; exact upd_same
      have l90 : LsAt X90 p90 [] := ⟨_, e90, .nil⟩
      refine ⟨spsD [], spsD [], sps_dp s89, sps_dp l90, spsD_shaped _, spsD_shaped _, ?_⟩
      rw [spsD_eqv, decide_eq_true rfl]
      refine ⟨_, rfl, if_t rfl ?_⟩
      refine ⟨_, rfl, D88, rfl, ⟨_, .inl (.inl eD88)⟩, fun E91 hE91 => ?_⟩
      refine lc_gen walk_list (fun i H' => Kp [] X90 H' ∧ ∃ ys : List V, H' E91 = some (.lst ys) ∧ Paired (SpAt H') ys (([[pr "B" ""], [pr "B" "", pr "C" ""], [pr "B" "", pr "C" "", pr "D" "a"]].map szI).take i)) ⟨(Kp.nil X90).new _ hE91, [], upd_same, .nil⟩ (fun i H' _ ⟨k, _⟩ => k.sql (fun z => nomatch z) (.inl (.inl eD88))) ?_ ?_
      · rintro i x Ha Hb hi ⟨ka, ys, hDa, hys⟩ ⟨rfl, hx⟩
        obtain ⟨d, e, rfl, he, hok, hee⟩ : ∃ (d : Addr) (e : List (Str × Str)), x = .ref d ∧ EnvAt X90 d e ∧ EnvOk e ∧ (([[pr "B" ""], [pr "B" "", pr "C" ""], [pr "B" "", pr "C" "", pr "D" "a"]] : List (List (Str × Str))).map szI)[i]? = some (szI e) := by
          rcases i with _ | _ | _ | i
          · cases hx; exact ⟨_, _, rfl, va88, ⟨by decide +kernel, by decide +kernel, by decide +kernel⟩, rfl⟩
          · cases hx; exact ⟨_, _, rfl, vb88, ⟨by decide +kernel, by decide +kernel, by decide +kernel⟩, rfl⟩
          · cases hx; exact ⟨_, _, rfl, vc88, ⟨by decide +kernel, by decide +kernel, by decide +kernel⟩, rfl⟩
          · simp only [List.length_cons, List.length_nil] at hi; omega
        refine ⟨rfl, _, rfl, d, e, rfl, he.kp ka, hok, fun p Hc kc np hp => ?_⟩
        have hDc : Hc E91 = some (.lst ys) := kc.keep E91 _ (fun z => nomatch z) hDa
        have kE : Kp [E91] Hc (upd Hc E91 (.lst (ys ++ [.ref p]))) := Kp.wr1 hDc trivial trivial
        have dl := Paired.length hys
        refine ⟨ys, hDc, by rw [dl, List.length_take, List.length_map, sizeLine_eq]; simp only [List.length_cons, List.length_nil] at hi ⊢; omega, (ka.trans kc).own hE91, ys ++ [.ref p], upd_same, ?_⟩
        rw [take_snoc hee]
        exact paired_app (spots_kp (spots_kp hys kc) kE) (.cons ⟨p, rfl, kE.tup hp⟩ .nil)
      rintro X91 ⟨k91, ys91, eE91, w91⟩
      have z91 : LsAt X91 E91 ([[pr "B" ""], [pr "B" "", pr "C" ""], [pr "B" "", pr "C" "", pr "D" "a"]].map szI) := ⟨ys91, eE91, w91⟩
      have FD := FD.kp k91
      have va88 := va88.kp k91
      have vb88 := vb88.kp k91
      have vc88 := vc88.kp k91
      have eD88 := k91.keep _ _ (fun z => nomatch z) eD88
      refine ⟨sz2, fun p92 h92 => ?_⟩
      have k92 : Kp [] X91 (upd X91 p92 (.tup [.int 1, .int 0])) := (Kp.nil X91).new (.tup [.int 1, .int 0]) h92
      generalize hX92 : upd X91 p92 (.tup [.int 1, .int 0]) = X92 at k92
      have FD := FD.kp k92
      have va88 := va88.kp k92
      have vb88 := vb88.kp k92
      have vc88 := vc88.kp k92
      have eD88 := k92.keep _ _ (fun z => nomatch z) eD88
      have z91 := z91.kp k92 (fun z => nomatch z)
      have e92 : X92 p92 = some (.tup [.int 1, .int 0]) := by rw [← hX92]; exact upd_same
      refine ⟨sz2, fun p93 h93 => ?_⟩
      have k93 : Kp [] X92 (upd X92 p93 (.tup [.int 2, .int 0])) := (Kp.nil X92).new (.tup [.int 2, .int 0]) h93
      generalize hX93 : upd X92 p93 (.tup [.int 2, .int 0]) = X93 at k93
      have FD := FD.kp k93
      have va88 := va88.kp k93
      have vb88 := vb88.kp k93
      have vc88 := vc88.kp k93
      have eD88 := k93.keep _ _ (fun z => nomatch z) eD88
      have z91 := z91.kp k93 (fun z => nomatch z)
      have e92 := k93.tup e92
      have e93 : X93 p93 = some (.tup [.int 2, .int 0]) := by rw [← hX93]; exact upd_same
      refine ⟨sz2, fun p94 h94 => ?_⟩
      have k94 : Kp [] X93 (upd X93 p94 (.tup [.int 3, .int 1])) := (Kp.nil X93).new (.tup [.int 3, .int 1]) h94
      generalize hX94 : upd X93 p94 (.tup [.int 3, .int 1]) = X94 at k94
      have FD := FD.kp k94
      have va88 := va88.kp k94
      have vb88 := vb88.kp k94
      have vc88 := vc88.kp k94
      have eD88 := k94.keep _ _ (fun z => nomatch z) eD88
      have z91 := z91.kp k94 (fun z => nomatch z)
      have e92 := k94.tup e92
      have e93 := k94.tup e93
      have e94 : X94 p94 = some (.tup [.int 3, .int 1]) := by rw [← hX94]; exact upd_same
      refine ⟨sz3, fun p95 h95 => ?_⟩
      have k95 : Kp [] X94 (upd X94 p95 (.lst [.ref p92, .ref p93, .ref p94])) := (Kp.nil X94).new (.lst [.ref p92, .ref p93, .ref p94]) h95
      generalize hX95 : upd X94 p95 (.lst [.ref p92, .ref p93, .ref p94]) = X95 at k95
      have FD := FD.kp k95
      have va88 := va88.kp k95
      have vb88 := vb88.kp k95
      have vc88 := vc88.kp k95
      have eD88 := k95.keep _ _ (fun z => nomatch z) eD88
      have z91 := z91.kp k95 (fun z => nomatch z)
      have e92 := k95.tup e92
      have e93 := k95.tup e93
      have e94 := k95.tup e94
      have e95 : X95 p95 = some (.lst [.ref p92, .ref p93, .ref p94]) := by rw [← hX95]; exact upd_same
      have l95 : LsAt X95 p95 [[1, 0], [2, 0], [3, 1]] := ⟨_, e95, (.cons ⟨p92, rfl, e92⟩ (.cons ⟨p93, rfl, e93⟩ (.cons ⟨p94, rfl, e94⟩ .nil)))⟩
      refine ⟨spsD ([[pr "B" ""], [pr "B" "", pr "C" ""], [pr "B" "", pr "C" "", pr "D" "a"]].map szI), spsD [[1, 0], [2, 0], [3, 1]], sps_dp z91, sps_dp l95, spsD_shaped _, spsD_shaped _, ?_⟩
      rw [spsD_eqv, decide_eq_true (show ([[pr "B" ""], [pr "B" "", pr "C" ""], [pr "B" "", pr "C" "", pr "D" "a"]].map szI : List Spot) = [[1, 0], [2, 0], [3, 1]] by decide +kernel)]
      exact q _
end
end EV
end

section
set_option Elab.async false
set_option linter.all false
set_option maxRecDepth 100000
set_option maxHeartbeats 2000000
namespace EV
open PySem PySem.Spec PyProof.Rows L2 LamX
/-! the call of the law by the harness, for functions known at guard-free callers, one code object with its table -/
def clearT : Obj := { cls := .none, data := .fields #[] }
def scriptO (vs : List Value) : Obj := { cls := .type "list", data := .seq vs.toArray }
/-- what may be tracked when the law is called: the script at a and the table at p -/
structure StartH (K : PySem.W.Frag) (vs : List Value) (a p : Addr) (h : Heap) (H : Hp) : Prop where
  sc : h.get? a = some (scriptO vs)
  tb : h.get? p = some clearT
  tab : H p = some (.tbl #[])
  only : ∀ b, b ≠ a → b ≠ p → H b = none
  frz : H a = none ∨ ∃ o xs, H a = some (.frz o (.lst xs))
  kA : H a ≠ none → K.lookup a = none
  kP : K.lookup p = none
namespace StartH
variable {K : PySem.W.Frag} {vs : List Value} {a p : Addr} {h : Heap} {H : Hp} (S : StartH K vs a p h H)
include S
theorem other {b : Addr} {o : Obj} (e : h.get? b = some o) (n1 : o ≠ scriptO vs) (n2 : o ≠ clearT) : (hidT h H).get? b = some o :=
  hidT_get e (S.only b (fun z => n1 (by rw [z, S.sc] at e; exact (Option.some.inj e).symm)) fun z => n2 (by rw [z, S.tb] at e; exact (Option.some.inj e).symm))
theorem space {b : Addr} {m : Str → Option Value} (N : h.Ns b m) : (hidT h H).Ns b m := by
  obtain ⟨o, es, ep, e, d, r⟩ := N
  exact ⟨o, es, ep, S.other e (fun z => by rw [z] at d; cases d) (fun z => by rw [z] at d; cases d), d, r⟩
theorem frag (X : K.In h) : K.In (hidT h H) := fun b o e => by
  have notP : b ≠ p := fun z => by rw [z, S.kP] at e; cases e
  by_cases za : b = a
  · cases q : H a with
    | none => exact hidT_get (X b o e) (by rw [za]; exact q)
    | some u => rw [za, S.kA (by rw [q]; simp)] at e; cases e
  · exact hidT_get (X b o e) (S.only b za notP)
theorem code {c : Addr} (C : PySem.W.CodeHd h c p) : PySem.W.CodeHd (hidT h H) c p := by
  obtain ⟨o, us, file, tf, flags, tg, inF, text, tt, e1, r1, r2, r⟩ := C
  have n2 : o ≠ clearT := fun z => by
    rw [z] at r2
    cases r2
    simp at r
  have n1 : o ≠ scriptO vs := fun z => by rw [z] at r2; cases r2
  exact ⟨o, us, file, tf, flags, tg, inF, text, tt, S.other e1 n1 n2, r1, r2, r⟩
section
variable {q : Program} {loose : List Str} {mean : ExcName → Option Value} {mg mb : Str → Option Value} (T : PyProof.Rows.Top q loose mean mg mb h)
include T
theorem hm0 (X : K.In h) : L2.Mod K mg (hidT h H) := by
  obtain ⟨mc, l1, l2⟩ := T.nolimit
  exact ⟨S.frag X, S.space T.g, ⟨mb, S.space T.b, T.builtins⟩, mc, S.space l1, l2⟩
theorem tabB {c : Addr} (C : PySem.W.CodeHd h c p) : LamX.TabB (hidT h H) mg c p := by
  obtain ⟨og, es, ep, g1, g2, _⟩ := T.g
  obtain ⟨bm, ob, b1, b2, b3, b4, b5, b6⟩ := T.bmain
  have k1 : ob ≠ scriptO vs := fun z => by rw [z] at b6; cases b6
  have k2 : ob ≠ clearT := fun z => by rw [z] at b6; cases b6
  refine ⟨S.code C, ⟨bm, ob, b1, b2, fun z => ?_, fun z => ?_, S.other b3 k1 k2, b4, b5, b6⟩, fun z => ?_⟩
  · rw [z, g1] at b3; cases b3; rw [g2] at b6; cases b6
  · rw [z, S.tb] at b3; exact k2 (Option.some.inj b3).symm
  · rw [z, S.tb] at g1; cases g1; cases g2
end
/-- what the call leaves: all that was there is kept, the table may have grown -/
theorem left {P : Program} {w : World} {h' : Heap} {H' : Hp} {c : Addr} (C : PySem.W.CodeHd h c p) (kp : ∀ b o, H b = none → h.get? b = some o → h'.get? b = some o) (fz : ∀ b o u, H b = some (.frz o u) → H' b = some (.frz o u))
    (tb : ∃ more : Array Value, h'.get? p = some { cls := .none, data := .fields more }) (ok : HOk P w H h) (ok' : HOk P w H' h') : OldK h h' := by
  have away : ∀ b o, b ≠ p → h.get? b = some o → h'.get? b = some o := fun b o nb e => by
    cases q : H b with
    | none => exact kp b o q e
    | some u =>
      have ea : b = a := Classical.byContradiction fun z => by rw [S.only b z nb] at q; cases q
      rcases S.frz with z | ⟨ob, xs, z⟩
      · rw [ea, z] at q; cases q
      · have e1 := (ok a _ z).1
        have e2 := (ok' a _ (fz a ob _ z)).1
        rw [ea, e1] at e
        cases e
        rw [ea]
        exact e2
  obtain ⟨more, tm⟩ := tb
  refine ⟨fun b o e => ?_, fun b o e => ?_⟩ <;> by_cases z : b = p
  · subst z
    rw [S.tb] at e
    cases e
    exact .inr (.inl ⟨(C.tab S.tb).isCodeTable, rfl, #[], more, rfl, by rw [Array.empty_append]; exact tm⟩)
  · exact .inl (away b o z e)
  · exact ⟨_, by rw [z]; exact tm⟩
  · exact ⟨o, away b o z e⟩
end StartH
/-- the table, and at the script what v says -/
def startHp (v : Option HO) (a p : Addr) : Hp := fun b => if b = p then some (.tbl #[]) else if b = a then v else none
theorem startHp_a {v : Option HO} {a p : Addr} (n : a ≠ p) : startHp v a p a = v := by
  unfold startHp
  rw [if_neg n, if_pos rfl]
theorem startHp_p {v : Option HO} {a p : Addr} : startHp v a p p = some (.tbl #[]) := by
  unfold startHp
  rw [if_pos rfl]
section
variable {P : Program} {w : World} {K : PySem.W.Frag} {vs : List Value} {a p : Addr} {h : Heap} {v : Option HO}
theorem start_apart (sc : h.get? a = some (scriptO vs)) (tb : h.get? p = some clearT) : a ≠ p := fun z => by
  rw [z, tb] at sc
  cases sc
theorem startH_mk (sc : h.get? a = some (scriptO vs)) (tb : h.get? p = some clearT) (kP : K.lookup p = none) (hv : v = none ∨ ∃ o xs, v = some (.frz o (.lst xs))) (kA : v ≠ none → K.lookup a = none) : StartH K vs a p h (startHp v a p) where
  sc := sc
  tb := tb
  tab := startHp_p
  only b n m := by
    unfold startHp
    rw [if_neg m, if_neg n]
  frz := by rw [startHp_a (start_apart sc tb)]; exact hv
  kA := by rw [startHp_a (start_apart sc tb)]; exact kA
  kP := kP
theorem startHp_ok (tb : h.get? p = some clearT) (hv : ∀ u, v = some u → ∀ H : Hp, ObjOk P w H h a u) : HOk P w (startHp v a p) h := fun b u e => by
  unfold startHp at e
  split at e
  · rename_i z
    cases e
    rw [z]
    exact tb
  · split at e
    · rename_i z
      rw [z]
      exact hv u e _
    · cases e
end
/-- what is known of the law at the head's heap -/
structure LawG (P : Program) (w : World) (K : PySem.W.Frag) (CX : CXT) (k n : Nat) (x : Str) (mg : Str → Option Value) (fa : Addr) (h : Heap) (fd : FuncData) (c p : Addr) (sp : Sp) : Prop where
  tb : h.get? p = some clearT
  out : K.lookup p = none
  code : PySem.W.CodeHd h c p
  bind : ∀ (s : Shared) (u : Value), BindsTo s fd ⟨[u], []⟩ [(x, u)]
  ask : ∀ (H : Hp) (a : Addr) (ns : List Int), ns.length ≤ n → H p = some (.tbl #[]) → SqL K H a (ns.map V.int) → sp [.ref a] H (fun v _ => v = .bl true) fun _ _ _ => False
  ok : ∀ base : Heap, K.In base → base.Ns mainGlobals mg → LamX.TabB base mg c p → FnOkG P w K mg base CX k fa fd [x] sp
section
variable {P : Program} {w : World} {K : PySem.W.Frag} {CX : CXT} {k n : Nat} {fa a c p : Addr} {fd : FuncData} {x : Str} {sp : Sp} {s : Shared} {vs : List Value} {ns : List Int}
variable {q : Program} {loose : List Str} {mean : ExcName → Option Value} {mg mb : Str → Option Value}
/-- the end that the harness asks for: true, and what was there is there -/
def TrueEnd (s : Shared) (r : Result) (s' : Shared) : Prop := r = .ok (.ret (.bool true)) ∧ OldK s.heap s'.heap ∧ s'.os = s.os ∧ AllBare s'.gens
theorem call_one (L : LawG P w K CX k n x mg fa s.heap fd c p sp) (T : PyProof.Rows.Top q loose mean mg mb s.heap) (KX : K.In s.heap) (gens : s.gens = #[]) (hr : Room k callerA)
    (len : ns.length ≤ n) (hCX : ∀ H e s', CX [] H s (fun _ _ _ => False) e s' → False)
    (H : Hp) (S : StartH K vs a p s.heap H) (ok : HOk P w H s.heap) (sq : SqL K H a (ns.map V.int)) :
    codeAny (model P w) callerA (.call (.ref fa) ⟨[.ref a], []⟩) (TrueEnd s) s := by
  have env : Env0 P w K mg (hidT s.heap H) callerA [] s H :=
    ⟨rfl, S.hm0 T KX, fun _ _ e => of_hidT e, Nat.le_of_eq (hidT_size s.heap H), trivial, fun b hb => absurd (show b ∈ ([] : List Addr) from hb) (by simp), ok, .of_eq gens⟩
  have go := (L.ok (hidT s.heap H) (S.frag KX) (S.space T.g) (S.tabB T L.code)).run callerA [] s H ⟨[.ref a], []⟩ [.ref a] [.ref a] _ _ rfl hr env (L.bind s (.ref a)) (.cons rfl .nil) (L.ask H a ns len S.tab sq)
  refine codeAny_mono go ?_
  rintro (e | fl) s' q
  · exact (hCX H e s' q).elim
  · cases fl with
    | ret u =>
      obtain ⟨v, H', os, bare, un, ok', rv, ev⟩ := q
      have ev' : v = .bl true := ev
      subst ev'
      have eu : u = Value.bool true := rv
      subst eu
      obtain ⟨more, ht⟩ := un.tbls p #[] S.tab
      exact ⟨rfl, S.left L.code (fun b o n e => un.keep b o e n (fun z => nomatch z) (by simp)) (fun b o u e => un.frzs b o u e) ⟨_, ok' p _ ht⟩ ok ok', os, bare⟩
    | next => exact False.elim q
    | brk => exact False.elim q
    | cont => exact False.elim q
theorem call_law (L : LawG P w K CX k n x mg fa s.heap fd c p sp) (T : PyProof.Rows.Top q loose mean mg mb s.heap) (KX : K.In s.heap) (gens : s.gens = #[]) (hr : Room k callerA)
    (len : ns.length ≤ n) (most : n ≤ sizeLine) (hCX : ∀ H e s', CX [] H s (fun _ _ _ => False) e s' → False)
    (sc : s.heap.get? a = some (scriptO vs)) (are : IntsAre vs ns) :
    codeAny (model P w) callerA (.call (.ref fa) ⟨[.ref a], []⟩) (TrueEnd s) s := by
  have rv := vals_ints are
  have room : ns.length ≤ sizeLine := Nat.le_trans len most
  have ne := start_apart sc L.tb
  cases hk : K.lookup a with
  | some o =>
    have e := KX a o hk
    rw [sc] at e
    cases e
    exact call_one L T KX gens hr len hCX (startHp none a p) (startH_mk sc L.tb L.out (.inl rfl) fun z => absurd rfl z) (startHp_ok L.tb fun u z => nomatch z)
      (.inr ⟨_, vs.toArray, _, hk, rfl, rfl, rfl, by rw [List.size_toArray, are.length]; exact room, by simpa using rv⟩)
  | none =>
    exact call_one L T KX gens hr len hCX (startHp (some (.frz (scriptO vs) (.lst (ns.map V.int)))) a p) (startH_mk sc L.tb L.out (.inr ⟨_, _, rfl⟩) fun _ => hk)
      (startHp_ok L.tb fun u z H => by
        cases z
        exact ⟨sc, by rw [List.length_map]; exact room, vs, _, rv, sc⟩)
      (.inl (.inr ⟨_, startHp_a ne⟩))
end
/-- the walk of the law by what is known of it -/
theorem walk_ofG {l : PySem.W.OpenLaw} {n k : Nat} {q : Program} {loose : List Str} {XP : (Str → Option Value) → Heap → Prop} {YP : World → Heap → Prop} {d : DefRec} {x : Str}
    (most : l.most = some n) (small : n ≤ sizeLine) (noD : d.params.defaults = []) (hr : Room k callerA)
    (known : ∀ (w : World) (mg : Str → Option Value) (fa : Addr) (h : Heap), YP w h → h.Ns mainGlobals mg → mg d.name = some (.ref fa) →
      ∃ (K : PySem.W.Frag) (fd : FuncData) (c p : Addr) (sp : Sp), K.In h ∧ LawG l.prog w K L2.CX0 k n x mg fa h fd c p sp) :
    PySem.W.WalkO q loose XP YP l.row.toRowW d [] fun f vs => PySem.call f vs :=
  Att.attach_callB most noD fun w _ s mg _ fa _ _ _ _ a vs ns G Y _ _ _ atN sc are len _ gens => by
    obtain ⟨K, fd, c, p, sp, KX, L⟩ := known w mg fa s.heap Y G.T.g atN
    exact call_law L G.T KX gens hr len small (fun _ _ _ z => z) sc are
end EV
end

set_option Elab.async false
set_option linter.all false
set_option maxRecDepth 100000
set_option maxHeartbeats 0
namespace EV
open PySem PySem.Spec PyProof.Rows L2
theorem law_at {w : World} {h : Heap} {K : PySem.W.Frag} {mg : Str → Option Value} {fa0 : Addr} (X : K.In h) (G : h.Ns mainGlobals mg) (hfa : mg ("law" : Str) = some (.ref fa0)) (c : He.SaysX fa fnL [] tf exAll w h K) :
    ∃ (fd : FuncData) (cd Pt : Addr) (sp : Sp), LawG PySem.Challenge.rw_envrows_k25_whole_dead_parts.prog w K L2.CX0 25 63 "script" mg fa0 h fd cd Pt sp := by
  obtain ⟨T, eF, eL⟩ := top_of X G c
  obtain ⟨oc, od, dV, kV, doc, pm, an, cdv, ct, osl, hfd, lk, hcd, _, _⟩ := T.F_law_file_right.ex
  obtain ⟨cd, ecd⟩ := He.codeIn_ref hcd
  have hcode : T.d_law_file_right.code = .ref cd := by rw [hfd]; exact ecd
  have lk2 := lk
  rw [eF] at lk2
  have ec : He.codeOf K (("_law_file_right", none) : He.Defn) = cd := He.codeOf_eq lk2 hcode
  have hm : (("_law_file_right", none) : He.Defn) ∈ tf := List.mem_singleton.mpr rfl
  have h1 := c.hd _ hm
  have h2 := c.out _ hm
  have h3 := c.empty _ hm
  unfold He.cT at h1 h2 h3
  rw [ec] at h1 h2 h3
  have el : mg ("law" : Str) = some (.ref T.a_law) := T.g_law
  have e0 : fa0 = T.a_law := by rw [hfa] at el; cases el; rfl
  subst e0
  have bl := T.F_law.bindsA (ps := ["script"]) fun _ _ _ _ _ _ us hl => match us, hl with | [_], _ => rfl
  exact ⟨T.d_law, cd, He.tabOf K cd, spLaw K [(He.tabOf K cd, lamQ)],
    { tb := h3, out := h2, code := PySem.W.codeHd_of_K X h1, bind := fun s u => bl s [u] rfl,
      ask := fun H a ns hl ht hS => ⟨a, ns, rfl, hS, by omega, fun p hp => by rw [List.mem_singleton.mp hp]; exact LamX.TabS.nil ht, fun _ => rfl⟩,
      ok := fun base _ _ TB => ok_law T hcode TB }⟩
end EV
open PySem PySem.W PySem.Calls PyProof.Rows
theorem PySem.Challenge.cw_envrows_k25_whole_dead_parts_holds : PySem.Challenge.rw_envrows_k25_whole_dead_parts.Holds := by
  w_on; o_law
  refine HandSHeadRun.head_any (r := OpenLaw.row PySem.Challenge.rw_envrows_k25_whole_dead_parts) (q := view (OpenLaw.row PySem.Challenge.rw_envrows_k25_whole_dead_parts).prog [79]) (H := EV.hk) (ob := EV.ob) (M := 8000) (loose := EV.loose) (d := HandSHeadRun.topDef (OpenLaw.row PySem.Challenge.rw_envrows_k25_whole_dead_parts).prog 79) (kwd := []) EV.ob_eq
    (by kernel_rfl) (fun s => by kernel_rfl) EV.hdRun (by kernel_rfl) (by kernel_rfl) (by kernel_rfl) (by rfl) (by first | assumption | decide +kernel) (by decide +kernel) ⟨rfl, rfl, rfl, rfl, rfl, by decide +kernel⟩ ?hw ?hc
  case hw => w_witness2
  case hc =>
    refine EV.walk_ofG (l := PySem.Challenge.rw_envrows_k25_whole_dead_parts) (n := 63) (k := 25) (x := "script") rfl (by decide) (by kernel_rfl) ⟨rfl, by decide, by decide⟩ fun w mg fa h Y G hmg0 => ?_
    obtain ⟨K, KX, c⟩ := Y
    have hmg : mg ("law" : PySem.Str) = some (.ref fa) := by
      have e : (HandSHeadRun.topDef (OpenLaw.row PySem.Challenge.rw_envrows_k25_whole_dead_parts).prog 79).name = ("law" : PySem.Str) := by kernel_rfl
      rw [← e]
      exact hmg0
    obtain ⟨fd, cd, Pt, sp, L⟩ := EV.law_at KX G hmg c
    exact ⟨K, fd, cd, Pt, sp, KX, L⟩

