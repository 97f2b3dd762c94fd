import PyProof.Rows.All
import Wide.All
import OpenK.AllK
import Wide.FinOn
import PySem.Challenge.RW_evenpace_k13_delayed_gates
import HandS.Base
import HandS.ExcInit
import KE.KExcInit
import HandS.ExcValue
import HandS.HotCalls
import HandS.TryMany
import HandS.Lambda
import HandS.Defaults
import HandS.ExcCtx
import KE.KTryMore
import HandS.ForMost
import HandS.ExcField
import HandS.Codes
import HandS.Iter
import KE.GoesMore
import KE.GoesEnum
import KE.SortKeyHeap
import HandS.Keys
import HandS.List
import HandS.SortKw
import KE.KeyNested
import HandS.Dict
import HandS.CallSlots
import HandS.OwnEq
import KE.SortKeyed
import PyProof.EqLayable
import HandS.ForExc
import HandS.Comp
import HandS.Zip
import HandS.Wide
import HandS.HeadHook1
import PyProof.Rows.SeqMore
import HandS.IsInst
import HandS.ExcOwn
import HandS.SortRule
import HandS.NoneIn
import HandS.Style
import HandS.More
import HandS.HeadHook4
import HandS.HeadEnd
import HandS.Head2
import HandS.EndBits
import HandS.EndTab
import HandS.Ends
import HandS.NestedK
set_option Elab.async false
set_option linter.all false
set_option maxRecDepth 100000
set_option maxHeartbeats 0

namespace Ev
open PySem

/-! ## The program's errors by name -/
/-- the field of an error that is looked at -/
def selF (t : Str) : Option Str :=
  if (["InvalidGate", "ParseError"] : List Str).any (· == t) then some "position"
  else if (["SamePlace", "NotBarring", "UnknownGate"] : List Str).any (· == t) then some "place"
  else if (["InvalidName", "DuplicateName", "UnknownRoad"] : List Str).any (· == t) then some "name"
  else if (["NotCrossed", "TooMany"] : List Str).any (· == t) then some "quantity"
  else if (["CapacityExceeded", "TooWide"] : List Str).any (· == t) then (if decide (t = "CapacityExceeded") then some "capacity" else some "stage")
  else if (["InvalidFactor", "InvalidCount"] : List Str).any (· == t) then (if decide (t = "InvalidFactor") then some "factor" else some "number")
  else if decide (t = "InvalidCommand") then some "first" else none
/-- errors by name, those under PaceError and NotFound -/
def errPN : List Str := ["InvalidGate", "InvalidFactor", "SamePlace", "CapacityExceeded", "NotBarring", "NotCrossed", "TooWide", "TooMany", "Passable", "InvalidCount", "InvalidName", "DuplicateName", "InvalidCommand", "ParseError", "UnknownGate", "UnknownRoad"]
def errZE : List Str := ["ZeroDenominator", "EmptyHistory"]
def nfl : Option Str → Nat
  | none => 0
  | some _ => 1
def fldN : Option Str → List Str
  | none => ["tag"]
  | some f => [f, "tag"]
end Ev

namespace Ev
open L2 PyProof.Rows PySem.Spec PySem

/-! ## Own exceptions over any built-in base -/
structure XBase (B n i : String) (bm : List Value) : Prop where
  fb : ExcBaseFacts B n i bm
  sf : StoreFacts B bm "object.__setattr__" "object"
def overB (K : PySem.W.Frag) (C : Addr) (q : List Value × String) : Bool := PySem.W.excInitIn K C q.1 q.2 && PySem.W.excOver K C q.1
abbrev bVE : List Value := [.type "ValueError", .type "Exception", .type "BaseException", .type "object"]
abbrev bLE : List Value := [.type "LookupError", .type "Exception", .type "BaseException", .type "object"]
abbrev bIE : List Value := [.type "IndexError", .type "LookupError", .type "Exception", .type "BaseException", .type "object"]
abbrev bZE : List Value := [.type "ZeroDivisionError", .type "ArithmeticError", .type "Exception", .type "BaseException", .type "object"]
def xclsB (K : PySem.W.Frag) (C : Addr) : Bool := (overB K C (bVE, "ValueError.__new__") || overB K C (bLE, "LookupError.__new__") || overB K C (bIE, "IndexError.__new__") || overB K C (bZE, "ZeroDivisionError.__new__")) &&
  PySem.W.hasDictIn K C && decide (PySem.W.findIn K (.ref C) "__setattr__" = some (some (.builtin "object.__setattr__"))) && decide (PySem.W.subIn K (.ref C) (.type "BaseException") = some true) && decide (PySem.W.typeIn K (.ref C) = some (.type "type")) && PySem.W.keepIn K (.ref C) &&
  decide (PySem.W.findIn K (.ref C) "__getattribute__" = some (some (.builtin "BaseException.__getattribute__"))) && decide (PySem.W.findIn K (.ref C) "__getattr__" = some none)
/-- what is known of such a class -/
structure XCls (K : PySem.W.Frag) (C : Addr) : Prop where
  base : ∃ B n i bm, XBase B n i bm ∧ PySem.W.excInitIn K C bm n = true ∧ PySem.W.excOver K C bm = true
  hd : PySem.W.hasDictIn K C = true
  sa : PySem.W.findIn K (.ref C) "__setattr__" = some (some (.builtin "object.__setattr__"))
  exC : PySem.W.subIn K (.ref C) (.type "BaseException") = some true
  tyC : PySem.W.typeIn K (.ref C) = some (.type "type")
  kC : PySem.W.keepIn K (.ref C) = true
  ga : PySem.W.findIn K (.ref C) "__getattribute__" = some (some (.builtin "BaseException.__getattribute__"))
  gg : PySem.W.findIn K (.ref C) "__getattr__" = some none
theorem xcls_of {K : PySem.W.Frag} {C : Addr} (h : xclsB K C = true) : XCls K C := by
  unfold xclsB overB at h
  simp only [Bool.and_eq_true, Bool.or_eq_true, decide_eq_true_eq] at h
  obtain ⟨⟨⟨⟨⟨⟨⟨hb, h1⟩, h2⟩, h3⟩, h4⟩, h5⟩, h6⟩, h7⟩ := h
  refine ⟨?_, h1, h2, h3, h4, h5, h6, h7⟩
  rcases hb with ((hb | hb) | hb) | hb
  · exact ⟨_, _, _, _, ⟨F.excBase_ValueError, F.store_ValueError⟩, hb⟩
  · exact ⟨_, _, _, _, ⟨F.excBase_LookupError, F.store_LookupError⟩, hb⟩
  · exact ⟨_, _, _, _, ⟨F.excBase_IndexError, F.store_IndexError⟩, hb⟩
  · exact ⟨_, _, _, _, ⟨F.excBase_ZeroDivisionError, F.store_ZeroDivisionError⟩, hb⟩
/-- the object of such an exception -/
abbrev xo (C t : Addr) (d : Option Addr) : Obj := { cls := .ref C, dict := d, data := .fields #[.ref t, .none, .none, .none, .bool false, .none] }
theorem taker_none {K : PySem.W.Frag} {C : Addr} {f : Str} (h : PySem.W.findIn K (.ref C) f = some none) : PySem.W.takerIn K C f = some none := by
  unfold PySem.W.takerIn
  rw [h]
  rfl
section
variable {prog : Program} {w : World} {A : Around} {E : Value → Shared → Prop} {K : PySem.W.Frag} {x C t1 dx : Addr} {f : Str} {u : Value} {s : Shared} {Q : Unit → Shared → Prop}
theorem xset_new (T : XCls K C) (X : K.In s.heap) (hx : s.heap.get? x = some (xo C t1 none)) (hno : PySem.W.findIn K (.ref C) f = some none)
    (h : ∀ h' tk dx, s.heap.objs.size ≤ dx → (∀ b o, b ≠ x → s.heap.get? b = some o → h'.get? b = some o) → h'.get? x = some (xo C t1 (some dx)) → h'.Ns1 dx (fun y => if y = f then some u else none) → Q () { s with heap := h', toks := tk }) :
    wpAny (model prog w) A (setAttr (.ref x) f u) Q E s := by
  obtain ⟨B, n, i, bm, ⟨_, SF⟩, _, ho⟩ := T.base
  obtain ⟨cd, hc, hd⟩ := PySem.W.any_some T.hd
  obtain ⟨hp, g, d, t, os⟩ := s
  have ne : x ≠ hp.objs.size := Nat.ne_of_lt (Heap.lt_size hx)
  refine PySem.W.set_plain (od := none) X ⟨hx, rfl, rfl, trivial⟩ T.sa (PySem.W.osa_openX (od := none) SF X ⟨hx, rfl, rfl, trivial⟩ ho (taker_none hno) fun b => ?_)
  refine wpAny_bind (wpAny_pure (wpAny_bind (PySem.W.instanceDict_exc (t := t1) (c2 := .none) hx (PySem.W.looks_clsIn X hc) hd ?_)))
  have up : ∀ b o, b ≠ x → hp.get? b = some o → ((hp.push (PySem.W.dictOf [] 0)).update x fun o => { o with dict := some hp.objs.size }).get? b = some o := fun b o hb e =>
    (Heap.get?_update_other _ _ (Ne.symm hb)).trans (Heap.get?_push_of_some _ e)
  refine HandSPX.store_in_new (dx := hp.objs.size) ⟨_, #[], _, (Heap.get?_update_other _ _ ne).trans (Heap.get?_push_size _ rfl), rfl, fun e he => absurd he (by simp), fun _ => rfl⟩ fun h' tk' hn' hs => ?_
  refine h h' tk' hp.objs.size (Nat.le_refl _) (fun b o hb e => (hs.2 b (Nat.ne_of_lt (Heap.lt_size e))).trans (up b o hb e)) ?_ hn'
  exact (hs.2 x ne).trans (Heap.get?_update_self _ (Heap.get?_push_of_some _ hx) rfl)
theorem xset_old {m0 : Str → Option Value} {nl : List Str} (T : XCls K C) (X : K.In s.heap) (hx : s.heap.get? x = some (xo C t1 (some dx))) (hns : s.heap.Ns1 dx m0) (hw : Within m0 nl) (hz : nl.length ≤ 1000) (hno : PySem.W.findIn K (.ref C) f = some none)
    (h : ∀ h' tk, (∀ b o, b ≠ dx → s.heap.get? b = some o → h'.get? b = some o) → h'.Ns1 dx (fun y => if y = f then some u else m0 y) → Q () { s with heap := h', toks := tk }) :
    wpAny (model prog w) A (setAttr (.ref x) f u) Q E s := by
  obtain ⟨B, n, i, bm, ⟨_, SF⟩, _, ho⟩ := T.base
  obtain ⟨cd, hc, hd⟩ := PySem.W.any_some T.hd
  obtain ⟨hp, g, d, t, os⟩ := s
  obtain ⟨oD, _, _, hoD, _, _⟩ := hns.count hw
  refine PySem.W.set_plain (od := some oD) X ⟨hx, rfl, rfl, hoD⟩ T.sa (PySem.W.osa_openX (od := some oD) SF X ⟨hx, rfl, rfl, hoD⟩ ho (taker_none hno) fun b => ?_)
  refine wpAny_bind (wpAny_pure (wpAny_bind (wpAny_bind (wpAny_loadPart hx (wpAny_bind ((PySem.W.looks_clsIn X hc).at ?_))))))
  rw [hd]
  refine wpAny_pure (a := some dx) ?_
  exact OEX.store_in_old hns hw hz fun h' tk' hn' hs => h h' tk' (fun b o hb e => (hs.2 b hb).trans e) hn'
end
end Ev

namespace Ev
open L2 PyProof.Rows PySem.Spec PySem

/-- all but the exception at a and its dict at dx stands -/
structure Made (H H' : Hp) (a C dx : Addr) (fs : List (Str × V)) : Prop where
  ex : H' a = some (exo a C (some dx))
  di : H' dx = some (exd dx fs)
  ot : ∀ b, b ≠ a → b ≠ dx → H' b = H b
theorem Made.trans {H H1 H2 : Hp} {a C dx : Addr} {fs gs : List (Str × V)} (m : Made H H1 a C dx fs) (n : Made H1 H2 a C dx gs) : Made H H2 a C dx gs :=
  ⟨n.ex, n.di, fun b h1 h2 => (n.ot b h1 h2).trans (m.ot b h1 h2)⟩
section
variable {X : Cx} {pins : List (Addr × Obj)} {σ : L2.St} {H : Hp} {s : Shared} {a C dx : Addr} {f : Str} {y : V} {u : Value} {fs : List (Str × V)} {Q : Unit → Shared → Prop} {E : Value → Shared → Prop} {A : Around}
theorem ist_new (T : XCls X.K C) (I : Inv X pins σ H s) (e : H a = some (exo a C none)) (hno : PySem.W.findIn X.K (.ref C) f = some none) (ry : RelV y u)
    (h : ∀ dx s' H', H dx = none → dx ≠ a → Made H H' a C dx [(f, y)] → Inv X pins σ H' s' → Q () s') : wpAny (model X.prog X.w) A (setAttr (.ref a) f u) Q E s := by
  obtain ⟨t1, ho⟩ := exo_at I.hok e
  refine xset_new T I.kIn ho hno fun h' tk dx hd k hx hn => ?_
  obtain ⟨G, g1, g2⟩ := restrict h' fun b => decide (b ≠ dx)
  have gk : ∀ b, b ≠ dx → G.get? b = h'.get? b := fun b hb => g1 b (decide_eq_true hb)
  have gd : G.get? dx = none := g2 dx (by simp)
  have nd : H dx = none := I.hok.fresh hd
  have ne : dx ≠ a := fun z => by rw [z, e] at nd; cases nd
  have ga := (gk a ne.symm).trans hx
  have I1 : Inv X pins σ (upd H a (exo a C (some dx))) { s with heap := G, toks := tk } :=
    I.write (x := a) (e := a) (by rw [e]; exact True.intro) (.inl rfl) (fun b o hb q => (gk b (Nat.ne_of_lt (Nat.lt_of_lt_of_le (Heap.lt_size q) hd))).trans (k b o hb q)) ⟨_, ga⟩ (exo_ok ga)
  have I2 := I1.laidN (t' := tk) (h' := h') (a := dx) (o := exd dx [(f, y)]) (fun b o q => by
    by_cases hb : b = dx
    · rw [hb] at q
      exact absurd (q.symm.trans gd) (by simp)
    · exact (gk b hb).symm.trans q) gd (by rw [upd_ne ne]; exact nd) (exd_ok hn (relO_put (fs := []) ry fun g => True.intro))
  exact h dx _ _ nd ne ⟨by rw [upd_ne ne.symm, upd_same], upd_same, fun b h1 h2 => by rw [upd_ne h2, upd_ne h1]⟩ I2
theorem ist_old (T : XCls X.K C) (I : Inv X pins σ H s) (e : H a = some (exo a C (some dx))) (ed : H dx = some (exd dx fs)) (hl : fs.length ≤ 900) (hno : PySem.W.findIn X.K (.ref C) f = some none) (ry : RelV y u)
    (h : ∀ s' H', Made H H' a C dx ((f, y) :: fs) → Inv X pins σ H' s' → Q () s') : wpAny (model X.prog X.w) A (setAttr (.ref a) f u) Q E s := by
  obtain ⟨t1, ho⟩ := exo_at I.hok e
  obtain ⟨mA, hns, rel⟩ := exd_at I.hok ed
  have ne : a ≠ dx := fun z => by
    obtain ⟨o, es, ep, e1, e2, _⟩ := hns
    rw [← z, ho] at e1
    have z2 := Option.some.inj e1
    subst z2
    cases e2
  refine xset_old T I.kIn ho hns (within_of rel) (by rw [List.length_map]; omega) hno fun h' tk k hn => ?_
  have J := I.write (t' := tk) (x := dx) (e := dx) (o := exd dx ((f, y) :: fs)) (by rw [ed]; exact True.intro) (.inl rfl) k (by
    obtain ⟨o, _, _, q, _⟩ := hn
    exact ⟨o, q⟩) (exd_ok hn (relO_put ry rel))
  exact h _ _ ⟨by rw [upd_ne ne]; exact e, upd_same, fun b _ h2 => upd_ne h2⟩ J
end
/-- self.f = e -/
def tSetX (K : PySem.W.Frag) (f : Str) (to te : TE) : TS := fun D σ H => te σ H fun y H1 => to σ H1 fun x H2 => ∃ a C : Addr, x = .ref a ∧ XCls K C ∧ PySem.W.findIn K (.ref C) f = some none ∧
  ((H2 a = some (exo a C none) ∧ ∀ dx H', H2 dx = none → dx ≠ a → Made H2 H' a C dx [(f, y)] → D.nx σ H') ∨
    ∃ (dx : Addr) (fs : List (Str × V)), H2 a = some (exo a C (some dx)) ∧ H2 dx = some (exd dx fs) ∧ fs.length ≤ 900 ∧ ∀ H', Made H2 H' a C dx ((f, y) :: fs) → D.nx σ H')
theorem ps_setx {X : Cx} {o e : Expr} {to te : TE} {f : Str} {p' pos : Pos} (ho : PE X o to) (he : PE X e te) (hs : swapsWith e (some (.Attribute o f p')) pos.line X.env = pure false := by rfl) :
    PS X (.Assign [.Attribute o f p'] e pos) (tSetX X.K f to te) := by
  refine ⟨fun pins s σ H D I h => ?_⟩
  refine plainObj_wpAny_Assign_Attribute (thn (he.run pins s σ H _ I h) fun v s1 ⟨y, H1, I1, r1, q1⟩ => thn (ho.run pins s1 σ H1 _ I1 q1) fun w s2 ⟨x, H2, I2, r2, a, C, ex, T, hno, q⟩ => ?_) hs
  subst ex
  obtain rfl : w = Value.ref a := r2
  rcases q with ⟨ea, q⟩ | ⟨dx, fs, ea, ed, hl, q⟩
  · exact ist_new T I2 ea hno r1 fun dx s' H' n ne m J => ⟨σ, _, J, q dx H' n ne m⟩
  · exact ist_old T I2 ea ed hl hno r1 fun s' H' m J => ⟨σ, _, J, q H' m⟩
/-- the fields behind __init__ -/
def fldV (c : Str) : Option Str → List V → List (Str × V)
  | none, _ => [("tag", .str c)]
  | some f, vs => [(f, vs.headD .non), ("tag", .str c)]
def spI (C : Addr) (c : Str) (fl : Option Str) : Sp := fun vs H Q _ => ∃ a ws, vs = .ref a :: ws ∧ ws.length = nfl fl ∧ H a = some (exo a C none) ∧ ∀ H' dx, H dx = none → dx ≠ a → Made H H' a C dx (fldV c fl ws) → Q .non H'
/-- the text of such an __init__ -/
abbrev InitIs (c : Str) (fl : Option Str) (b : List Stmt) : Prop := match fl with
  | none => ∃ p1 p2 p3 p4 j, b = [.Assign [.Attribute (.Name "self" p1) "tag" p2] (.Constant (.str c) j p3) p4]
  | some f => ∃ p1 p2 p3 p4 j p5 p6 p7 p8, b = [.Assign [.Attribute (.Name "self" p1) "tag" p2] (.Constant (.str c) j p3) p4, .Assign [.Attribute (.Name "self" p5) f p6] (.Name f p7) p8]
def psI : Option Str → List Str
  | none => ["self"]
  | some f => ["self", f]
theorem init_ok {P : Program} {w : World} {K : PySem.W.Frag} {mg : Str → Option Value} {base : Heap} {CX : CXT} {k : Nat} {x qual c : Str} {params : Arguments} {body : List Stmt} {scope : Scope} {fl : Option Str} {C f : Addr} {fd : FuncData}
    (F : FunD K x qual params body scope [] [] f fd) (S : FnScope (psI fl) (psI fl) scope) (hv : ∀ y ∈ psI fl, Vis scope y) (hd : ∀ f, fl = some f → (f == ("__debug__" : Str)) = false ∧ (f == ("__classdict__" : Str)) = false ∧ PySem.W.findIn K (.ref C) f = some none)
    (hi : InitIs c fl body) (T : XCls K C) (ht : PySem.W.findIn K (.ref C) "tag" = some none) : FnOk P w K mg base CX (k + 1) f fd (psI fl) (spI C c fl) := by
  refine F.ok S (fun vs H Q E h => ?_) fun cdv A outer s H vs Q E hr h => ?_
  · obtain ⟨a, ws, rfl, hl, _⟩ := h
    cases fl with
    | none => rw [List.length_cons, hl]; rfl
    | some f => rw [List.length_cons, hl]; rfl
  · obtain ⟨a, ws, rfl, hl, ea, q⟩ := h
    cases fl with
    | none =>
      obtain ⟨p1, p2, p3, p4, j, rfl⟩ := hi
      obtain rfl : ws = [] := List.eq_nil_of_length_eq_zero hl
      refine ⟨_, pss_one (ps_setx (pe_var (i := 0) rfl (hv "self" (by simp [psI])) (by decide) (by decide)) pe_str), ?_⟩
      exact ⟨.ref a, rfl, a, C, rfl, T, ht, .inl ⟨ea, fun dx H' n ne m => q H' dx n ne m⟩⟩
    | some f =>
      obtain ⟨p1, p2, p3, p4, j, p5, p6, p7, p8, rfl⟩ := hi
      obtain ⟨w1, rfl⟩ : ∃ w1, ws = [w1] := by
        match ws, hl with
        | [w1], _ => exact ⟨w1, rfl⟩
      obtain ⟨d1, d2, d3⟩ := hd f rfl
      refine ⟨_, pss_cons (ps_setx (pe_var (i := 0) rfl (hv "self" (by simp [psI])) (by decide) (by decide)) pe_str) (pss_one (ps_setx (pe_var (i := 0) rfl (hv "self" (by simp [psI])) (by decide) (by decide)) (pe_var (i := 1) rfl (hv f (by simp [psI])) d1 d2))), ?_⟩
      refine ⟨.ref a, rfl, a, C, rfl, T, ht, .inl ⟨ea, fun dx H' n ne m => ?_⟩⟩
      refine ⟨w1, rfl, .ref a, rfl, a, C, rfl, T, d3, .inr ⟨dx, _, m.ex, m.di, Nat.le_of_ble_eq_true rfl, fun H2 m2 => ?_⟩⟩
      exact q H2 dx n ne (m.trans m2)
end Ev

namespace Ev
open L2 PyProof.Rows PySem.Spec PySem

/-! ## An own exception made and raised -/
def tMkX (C : Addr) (c : Str) (fl : Option Str) (ta : TA) : L2.St → Hp → XK → Prop := fun σ H Q => ta σ H fun vs H1 => vs.length = nfl fl ∧ ∀ d, H1 d = none → Q (.ref C) (some d) (upd H1 d (.xd (fldV c fl vs)))
theorem made_upd {H1 H2 : Hp} {a C d : Addr} {fs : List (Str × V)} (n : H1 a = none) (m : Made (upd H1 a (exo a C none)) H2 a C d fs) : upd (L2.del H2 a) d (.xd fs) = upd H1 d (.xd fs) := by
  funext b
  by_cases h1 : b = d
  · rw [h1, upd_same, upd_same]
  · rw [upd_ne h1, upd_ne h1]
    by_cases h2 : b = a
    · rw [h2, L2.del_same, n]
    · rw [L2.del_ne h2, m.ot b h2 h1, upd_ne h2]
section
variable {X : Cx} {CX : CXT} {c : Str} {C fI : Addr} {k : Nat} {fd : FuncData} {fl : Option Str}
/-- a class whose instances are made and raised -/
structure XMk (X : Cx) (CX : CXT) (c : Str) (fl : Option Str) (C fI : Addr) (k : Nat) (fd : FuncData) : Prop where
  T : XCls X.K C
  iC : PySem.W.findIn X.K (.ref C) "__init__" = some (some (.ref fI))
  tI : PySem.W.typeIn X.K (.ref fI) = some (.type "function")
  F1 : FnOk X.prog X.w X.K X.mg X.base CX k fI fd (psI fl) (spI C c fl)
  hb : Binds X.K fd (psI fl) []
  hm : X.mg c = some (.ref C)
theorem psI_len : (psI fl).length = nfl fl + 1 := by cases fl <;> rfl
theorem call_x {pins : List (Addr × Obj)} {σ : L2.St} {H1 : Hp} {s1 : Shared} {us : List Value} {vs : List V} {Q : XK} (M : XMk X CX c fl C fI k fd) (hr : Room (k + 1) X.A) (hx : Passes CX X (fun _ _ _ => False)) (I1 : Inv X pins σ H1 s1) (r1 : Vals vs us)
    (q : vs.length = nfl fl ∧ ∀ d, H1 d = none → Q (.ref C) (some d) (upd H1 d (.xd (fldV c fl vs)))) : wpAny (model X.prog X.w) X.A (call (.ref C) us) (L2N.MkP X pins σ Q) X.xe s1 := by
  obtain ⟨B, n, i, bm, ⟨FB, SF⟩, hi, ho⟩ := M.T.base
  obtain ⟨nm, N, qn, bs, bm', hdct, sn, sub, ab, col, dd, k0, k1, k2, k3, k5, hC, hT⟩ := PySem.W.excInit_of I1.kIn hi
  obtain ⟨hp, g, dr, tk, os⟩ := s1
  have lt : hp.objs.size ≤ hp.objs.size + 1 := Nat.le_succ _
  have hn : H1 (hp.objs.size + 1) = none := I1.hok.fresh lt
  have kk : ∀ b o, hp.get? b = some o → ((hp.push (PySem.W.kdv_tup us)).push (HandSPX.excO C hp.objs.size)).get? b = some o := fun b o e => Heap.get?_push_of_some _ (Heap.get?_push_of_some _ e)
  have there : ((hp.push (PySem.W.kdv_tup us)).push (HandSPX.excO C hp.objs.size)).get? (hp.objs.size + 1) = some (HandSPX.excO C hp.objs.size) := by heap_get
  have J := I1.laid (t' := tk) (o := exo (hp.objs.size + 1) C none) kk lt (exo_ok there)
  have hl : us.length = nfl fl := (Paired.length r1).symm.trans q.1
  have small : us.length ≤ sizeLine := by rw [hl]; cases fl <;> exact Nat.le_of_ble_eq_true rfl
  have b := M.hb ⟨_, g, dr, tk, os⟩ (.ref (hp.objs.size + 1) :: us) J.kIn (by rw [List.append_nil, List.length_cons, hl, psI_len])
  rw [List.append_nil] at b
  refine wpAny_call (HandSPX.call_own FB hT hC (PySem.W.looks_findIn I1.kIn M.iC) (fun self => PySem.W.bind_fn I1.kIn self M.tI) small (codeAny_mono (M.F1.run _ X.stack _ _ _ _ (V.ref (hp.objs.size + 1) :: vs)
    (fun v H2 => v = .non ∧ ∃ d, H1 d = none ∧ Made (upd H1 (hp.objs.size + 1) (exo (hp.objs.size + 1) C none)) H2 (hp.objs.size + 1) C d (fldV c fl vs)) (fun _ _ _ => False) (hr.make C us []) (J.env0.make C us []) b (.cons rfl r1) ?_) fun r s' z => ?_))
  · exact ⟨_, vs, rfl, q.1, upd_same, fun H' d n ne m => ⟨rfl, d, (upd_ne ne).symm.trans n, m⟩⟩
  · cases r with
    | error er => exact hx pins σ _ _ er s' J z
    | ok fl' =>
      cases fl' with
      | ret u =>
        obtain ⟨v, H2, os2, bare, un, hok, rv, ev, d, nd, m⟩ := z
        subst ev
        obtain ⟨h2, g2, d2, t2, os'⟩ := s'
        obtain ⟨t0, G, J2, kG, ge, hoe, na⟩ := mk_end0 (d2 := d2) (t2 := t2) I1 lt kk un hok os2 bare m.ex m.di nd
        exact ⟨rv, _, _, _, ⟨G, g2, d2, t2, os'⟩, _, .ref C, some d, rfl, J2, kG, ge, hoe, ⟨rfl, rfl, fun vs e => by cases e; rfl⟩, rfl, rfl, na, rfl, bare, raises_own M.T.exC M.T.tyC, by rw [made_upd hn m]; exact q.2 d nd⟩
      | next => exact False.elim z
      | brk => exact False.elim z
      | cont => exact False.elim z
theorem pmk_x {e : Expr} {es : List Expr} {ta : TA} {p pos : Pos} (M : XMk X CX c fl C fI k fd) (hr : Room (k + 1) X.A) (hx : Passes CX X (fun _ _ _ => False)) (hg : Gl X c) (hdb : (c == ("__debug__" : Str)) = false) (ha : PA X (e :: es) ta)
    (he : starEach (e :: es) X.env = (false, eval e X.env) :: starEach es X.env) (hpl : (backTo pos (starEach es X.env)).any (·.1) = false) : L2N.PMk X (.Call (.Name c p) (e :: es) [] pos) (tMkX C c fl ta) := by
  intro pins s σ H Q I h
  refine wpAny_Call_Name_kw (ld_glob I hg M.hm ?_ hdb)
  exact PySem.W.callWith_K (h₀ := X.base) I.ok.mod.kin M.T.kC (thn (ha.run pos pins s σ H _ I h) fun us s1 ⟨vs, H1, I1, r1, q⟩ => ⟨I1.kIn, call_x M hr hx I1 r1 q⟩) he hpl
theorem pmk_x0 {p pos : Pos} (M : XMk X CX c fl C fI k fd) (hr : Room (k + 1) X.A) (hx : Passes CX X (fun _ _ _ => False)) (hg : Gl X c) (hdb : (c == ("__debug__" : Str)) = false) : L2N.PMk X (.Call (.Name c p) [] [] pos) (tMkX C c fl tNil) := by
  intro pins s σ H Q I h
  refine wpAny_Call_Name_kw (ld_glob I hg M.hm ?_ hdb)
  exact PySem.W.callWith_K0 I.kIn M.T.kC (call_x (us := []) (vs := []) M hr hx I .nil h)
end
/-- any wish that is taken -/
def WAny (X : Cx) : WX := fun cls d σ H => ∃ W : WX, L2N.Takes X W ∧ W cls d σ H
theorem takes_any {X : Cx} : L2N.Takes X (WAny X) := fun u s' ⟨a, B, sI, pins, σ, H, cls, d, e, I, nb, up, sky, na, os, ag, W, tk, w⟩ => tk u s' ⟨a, B, sI, pins, σ, H, cls, d, e, I, nb, up, sky, na, os, ag, w⟩
end Ev

namespace Ev
open L2 PyProof.Rows PySem.Spec PySem

/-! ## try with clauses of one class or of several, with a name or without -/
/-- an except clause's test names the classes cs -/
def TestIs (X : Cx) (e : Expr) (cs : List Value) : Prop :=
  ∀ {a : Addr} {q : Addr × Obj} {pn pins : List (Addr × Obj)} {σ : L2.St} {H : Hp} {s : Shared} {cls : Value} {b : Bool} {Q : Bool → Shared → Prop} {E : Value → Shared → Prop}, Inv (X.suite a (q :: pn)) pins σ H s → PySem.W.Looks (model X.prog X.w) s.heap (typeOf (.ref a)) cls →
    PySem.W.exmAny X.K cls cs = some b → (∀ h', (∀ c o, s.heap.get? c = some o → h'.get? c = some o) → Q b { s with heap := h' }) →
    wpAny (model X.prog X.w) (X.A.mark (some (.ref a))) (eval e X.env) (fun c s1 => wpAny (model X.prog X.w) (X.A.mark (some (.ref a))) (excMatches (.ref a) c) Q E s1) E s
def Nm (X : Cx) (x : Str) (c : Value) : Prop := Gl X x ∧ (x == ("__debug__" : Str)) = false ∧ X.mg x = some c
section
variable {X : Cx} {x x1 x2 x3 x4 : Str} {c c1 c2 c3 c4 : Value} {p p1 p2 p3 p4 pos : Pos} {k : Nat}
theorem test_one (h : Nm X x c) : TestIs X (.Name x p) [c] := by
  intro a q pn pins σ H s cls b Q E S LT hx hq
  obtain ⟨b1, d1, e1, e2, rfl⟩ := PySem.W.exmAny_cons hx
  have e3 : some false = some d1 := e2
  cases e3
  rw [Bool.or_false] at hq
  refine ld_glob (X := X.suite a (q :: pn)) S h.1 h.2.2 ?_ h.2.1
  exact (PySem.W.exm_one S.kIn LT e1).here (hq s.heap fun _ _ z => z)
theorem test_two (h1 : Nm X x1 c1) (h2 : Nm X x2 c2) : TestIs X (.Tuple [.Name x1 p1, .Name x2 p2] k pos) [c1, c2] := by
  intro a q pn pins σ H s cls b Q E S LT hx hq
  have kp : ∀ c o, s.heap.get? c = some o → (s.heap.push { cls := .type "tuple", data := .seq [c1, c2].toArray }).get? c = some o := fun c o z => Heap.get?_push_of_some _ z
  refine wpAny_Tuple_spliced (Calls.spliced_cons (ld_glob (X := X.suite a (q :: pn)) S h1.1 h1.2.2 (Calls.spliced_cons (ld_glob (X := X.suite a (q :: pn)) S h2.1 h2.2.2 (Calls.spliced_nil ⟨Nat.le_of_ble_eq_true rfl, ?_⟩) h2.2.1)) h1.2.1))
  exact (PySem.W.exm_tup2 (S.kIn.keeps kp) (LT.keeps kp) (Heap.get?_push_size _ rfl) hx).here (hq _ kp)
theorem test_three (h1 : Nm X x1 c1) (h2 : Nm X x2 c2) (h3 : Nm X x3 c3) : TestIs X (.Tuple [.Name x1 p1, .Name x2 p2, .Name x3 p3] k pos) [c1, c2, c3] := by
  intro a q pn pins σ H s cls b Q E S LT hx hq
  have kp : ∀ c o, s.heap.get? c = some o → (s.heap.push { cls := .type "tuple", data := .seq [c1, c2, c3].toArray }).get? c = some o := fun c o z => Heap.get?_push_of_some _ z
  refine wpAny_Tuple_spliced (Calls.spliced_cons (ld_glob (X := X.suite a (q :: pn)) S h1.1 h1.2.2 (Calls.spliced_cons (ld_glob (X := X.suite a (q :: pn)) S h2.1 h2.2.2 (Calls.spliced_cons (ld_glob (X := X.suite a (q :: pn)) S h3.1 h3.2.2
    (Calls.spliced_nil ⟨Nat.le_of_ble_eq_true rfl, ?_⟩) h3.2.1)) h2.2.1)) h1.2.1))
  exact (PySem.W.exm_tup3 (S.kIn.keeps kp) (LT.keeps kp) (Heap.get?_push_size _ rfl) hx).here (hq _ kp)
theorem test_four (h1 : Nm X x1 c1) (h2 : Nm X x2 c2) (h3 : Nm X x3 c3) (h4 : Nm X x4 c4) : TestIs X (.Tuple [.Name x1 p1, .Name x2 p2, .Name x3 p3, .Name x4 p4] k pos) [c1, c2, c3, c4] := by
  intro a q pn pins σ H s cls b Q E S LT hx hq
  have kp : ∀ c o, s.heap.get? c = some o → (s.heap.push { cls := .type "tuple", data := .seq [c1, c2, c3, c4].toArray }).get? c = some o := fun c o z => Heap.get?_push_of_some _ z
  refine wpAny_Tuple_spliced (Calls.spliced_cons (ld_glob (X := X.suite a (q :: pn)) S h1.1 h1.2.2 (Calls.spliced_cons (ld_glob (X := X.suite a (q :: pn)) S h2.1 h2.2.2 (Calls.spliced_cons (ld_glob (X := X.suite a (q :: pn)) S h3.1 h3.2.2
    (Calls.spliced_cons (ld_glob (X := X.suite a (q :: pn)) S h4.1 h4.2.2 (Calls.spliced_nil ⟨Nat.le_of_ble_eq_true rfl, ?_⟩) h4.2.1)) h3.2.1)) h2.2.1)) h1.2.1))
  exact (PySem.W.exm_tup4 (S.kIn.keeps kp) (LT.keeps kp) (Heap.get?_push_size _ rfl) hx).here (hq _ kp)
end
structure Hnd where
  cs : List Value
  slot : Option Nat
  ts : Addr → Value → Option Addr → TS
def shutTo : Option Nat → Ends → Ends
  | none, D => D
  | some i, D => { nx := fun σ' H' => D.nx (σ'.set i none) H', rt := D.rt, bk := fun σ' H' => D.bk (σ'.set i none) H', ct := fun σ' H' => D.ct (σ'.set i none) H' }
def openTo (a : Addr) : Option Nat → L2.St → L2.St
  | none, σ => σ
  | some i, σ => σ.set i (some (.ref a))
/-- what is wished of an exception of the body: the first clause that fits has it -/
def wHs (K : PySem.W.Frag) (Wout : WX) (D : Ends) : List Hnd → WX
  | [] => Wout
  | h :: r => fun cls d σ H => ∃ b, PySem.W.exmAny K cls h.cs = some b ∧ (b = true → ∀ a, H a = none → h.ts a cls d (shutTo h.slot D) (openTo a h.slot σ) H) ∧ (b = false → wHs K Wout D r cls d σ H)
def NameFor (X : Cx) : Option Str → Option Nat → Prop
  | none, none => True
  | some n, some i => X.N[i]? = some n ∧ X.env.kindOf n = some .local
  | _, _ => False
inductive HsOk (X : Cx) : List ExceptHandler → List Hnd → Prop
  | nil : HsOk X [] []
  | cons {t : Expr} {cs : List Value} {nm : Option Str} {i : Option Nat} {ts : Addr → Value → Option Addr → TS} {b₀ : Stmt} {suite : List Stmt} {pos : Pos} {hds : List ExceptHandler} {l : List Hnd} (ht : TestIs X t cs) (hn : NameFor X nm i)
      (hsu : ∀ (a : Addr) (oe : Obj) (cls : Value) (d : Option Addr) (pn : List (Addr × Obj)), L2N.Zn cls d oe → (∃ vs, oe.data = .fields vs) → PSs (X.suite a ((a, oe) :: pn)) (b₀ :: suite) (ts a cls d)) (r : HsOk X hds l) :
      HsOk X (.ExceptHandler (some t) nm (b₀ :: suite) pos :: hds) (⟨cs, i, ts⟩ :: l)
theorem fly_keeps {B h h' : Heap} {l : List Env} {a : Addr} {Z : Obj → Prop} (f : HandSPX.FlyingZ B l a Z h) (k : ∀ c o, h.get? c = some o → h'.get? c = some o) : HandSPX.FlyingZ B l a Z h' := by
  obtain ⟨f1, f2, f3, oe, vs, T, oT, ts, e1, e2, e3, e4, e5, e6, e7, e8⟩ := f
  exact ⟨fun c o z => k _ _ (f1 c o z), f2, f3.of_keeps fun c o z _ => ⟨o, k _ _ z, rfl⟩, oe, vs, T, oT, ts, k _ _ e1, e2, e3, e4, e5, e6, k _ _ e7, e8⟩
section
variable {X : Cx} {body : List Stmt} {h₀ : ExceptHandler} {hds : List ExceptHandler} {l : List Hnd} {pos : Pos} {tb : WX → TS} {Wout : WX}
theorem ps_try_hs (hs : X.stack = X.env :: X.outer) (hf : X.env.frame = some X.env.locals) (hN : X.N.Nodup) (tk : L2N.Takes X Wout)
    (hb : ∀ (W : WX) (pn : List (Addr × Obj)) (xe : Value → Shared → Prop), L2N.Takes (X.tr pn xe) W → PassesOwn (model X.prog X.w) X.A X.env xe → PSs (X.tr pn xe) body (tb W))
    (hh : HsOk X (h₀ :: hds) l) : PS X (.Try body (h₀ :: hds) [] [] pos) (fun D σ H => tb (wHs X.K Wout D l) D σ H) := by
  refine ⟨fun pins s σ H D I h => ?_⟩
  have ok := I.ok
  have hfr : X.A.frames = some (X.env :: X.outer) := by rw [ok.frames, hs]
  refine wpAny_Try_except (wpAny_mono ((hb (wHs X.K Wout D l) (X.pn ++ pins) (fun e s₁ => wpAny (model X.prog X.w) X.A (noteFrame e X.env) (fun _ s₂ => wpAny (model X.prog X.w) X.A (setFlight e none) (fun _ s₃ =>
    wpAny (model X.prog X.w) X.A (handleBy e X.env (h₀ :: hds)) (SP X pins D) X.xe s₃) X.xe s₂) X.xe s₁) (fun u s' xx => ?hit) PassesOwn.looking).run [] s σ H D (I.toTry _) h) (fun f s1 z => ?thru) fun e s1 z => z)
  case thru =>
    cases f with
    | next =>
      obtain ⟨σ', H', J, q⟩ := z
      exact wpAny_execs_nil ⟨σ', H', J.ofTry ok, q⟩
    | ret u =>
      obtain ⟨v, σ', H', J, r, q⟩ := z
      exact ⟨v, σ', H', J.ofTry ok, r, q⟩
    | brk =>
      obtain ⟨σ', H', J, q⟩ := z
      exact ⟨σ', H', J.ofTry ok, q⟩
    | cont =>
      obtain ⟨σ', H', J, q⟩ := z
      exact ⟨σ', H', J.ofTry ok, q⟩
  case hit =>
    obtain ⟨a, B, sI, pins', σ', H', cls, d, rfl, J', nb, up, sky, na, os, ag, wish⟩ := xx
    have J : Inv X pins σ' H' sI := J'.ofTry ok
    have sky' : Sky B (X.env :: X.outer) a (L2N.Zn cls d) X.env.locals s'.heap := by rw [← hs]; exact sky
    show wpAny (model X.prog X.w) X.A (noteFrame (.ref a) X.env) _ _ _
    refine L2N.Sky.land L2N.Zn.steady hfr hf sky' fun g fl upg => ?_
    have apart : ∀ {h : Heap}, HandSPX.FlyingZ B (X.env :: X.outer) a (L2N.Zn cls d) h → a ∉ frs (X.env :: X.outer) := fun {h} fl hm => by
      obtain ⟨o, vs, e, _, dd⟩ := fl.there
      obtain ⟨_, o', e', nf⟩ := fl.2.2.1.mem hm
      rw [e] at e'
      cases e'
      exact nf _ dd
    have nfr := apart fl
    have nL : a ≠ X.env.locals := fun z => nfr (List.mem_filterMap.mpr ⟨X.env, List.mem_cons_self, by rw [hf, z]⟩)
    have nF : a ∉ X.fs := fun hm => by
      obtain ⟨e, he, q⟩ := List.mem_filterMap.mp hm
      exact nfr (List.mem_filterMap.mpr ⟨e, List.mem_cons_of_mem _ he, q⟩)
    have key : ∀ {hs' : List ExceptHandler} {l' : List Hnd}, HsOk X hs' l' → wHs X.K Wout D l' cls d σ' H' → ∀ g : Heap, HandSPX.FlyingZ B (X.env :: X.outer) a (L2N.Zn cls d) g → s'.heap.UpToSlots g →
        wpAny (model X.prog X.w) X.A (handleBy (.ref a) X.env hs') (SP X pins D) X.xe { s' with heap := g } := by
      intro hs' l' ok'
      induction ok' with
      | nil =>
        intro wish g fl upg
        refine wpAny_handleBy_nil ?_
        obtain ⟨k1, k2, k3, oe, vs, T, oT, ts', he, hz, hd, h1, hr⟩ := id fl
        have last : wpAny (model X.prog X.w) X.A (setFlight (.ref a) X.env.frame) (fun _ s4 => wpAny (model X.prog X.w) X.A (throw (.ref a) : Sem Flow) (SP X pins D) X.xe s4) X.xe { s' with heap := g } := by
          rw [hf]
          refine HandSPX.setFlight_upZ fl fun g4 held up4 => wpAny_throw (tk _ _ ⟨a, B, sI, pins, σ', H', cls, d, rfl, J, nb, (up.trans upg).trans up4, .inr (.inr (by rw [hs]; exact held)), na, os, ag, wish⟩)
        unfold PySem.passOn
        refine wpAny_bind (wpAny_field he hd h1 ?_)
        rw [if_neg (show ¬ ((Value.ref T == Value.none) = true) by simp)]
        first
          | exact wpAny_bind last
          | exact wpAny_bind (wpAny_pure (wpAny_bind last))
      | @cons t cs nm i ts b₀ suite pos' hds2 l2 ht hn hsu r ih =>
        intro wish g fl upg
        obtain ⟨b, hb1, yes, no⟩ := wish
        have Jg : Inv X pins σ' H' { s' with heap := g } := J.landed nb fl.1 (up.trans upg) os ag
        obtain ⟨oe, vs, he, hz, hd⟩ := fl.there
        refine wpAny_handleBy_cons (codeAny_handlers_test ?_) (by intro q; cases q)
        refine ht (Jg.suite he hd na nL nF) (fun A Q E s k q => wpAny_typeOf_ref (k _ _ he) (by rw [hz.1]; exact q)) hb1 fun g2 k2 => ?_
        have fl2 := fly_keeps fl k2
        have up2 : s'.heap.UpToSlots g2 := upg.trans (Heap.UpToSlots.of_keeps k2)
        cases b with
        | false => exact ih (no rfl) g2 fl2 up2
        | true =>
          have suiteOk : ∀ {g4 : Heap}, HandSPX.FlyingZ B (X.env :: X.outer) a (L2N.Zn cls d) g4 → s'.heap.UpToSlots g4 → ∃ oe4 vs4, L2N.Zn cls d oe4 ∧ oe4.data = .fields vs4 ∧ Inv (X.suite a ((a, oe4) :: (X.pn ++ pins))) [] σ' H' { s' with heap := g4 } := fun {g4} fl4 up4 => by
            obtain ⟨oe4, vs4, he4, hz4, hd4⟩ := fl4.there
            have J4 : Inv X pins σ' H' { s' with heap := g4 } := J.landed nb fl4.1 (up.trans up4) os ag
            exact ⟨oe4, vs4, hz4, hd4, J4.suite he4 hd4 na nL nF⟩
          cases nm with
          | none =>
            cases i with
            | some i => exact hn.elim
            | none =>
              refine codeAny_handlers_suite (HandSPX.lands_againZ fl2 fun g4 fl4 up4 => ?_)
              obtain ⟨oe4, vs4, hz4, hd4, S4⟩ := suiteOk fl4 (up2.trans up4)
              refine wpAny_mono ((hsu a oe4 cls d (X.pn ++ pins) hz4 ⟨_, hd4⟩).run [] _ σ' H' _ S4 (yes rfl a na)) (fun f s6 z => ?_) (fun _ _ z => False.elim z)
              cases f with
              | next =>
                obtain ⟨σ6, H6, S6, q6⟩ := z
                exact ⟨_, _, S6.unsuite ok, q6⟩
              | brk =>
                obtain ⟨σ6, H6, S6, q6⟩ := z
                exact ⟨_, _, S6.unsuite ok, q6⟩
              | cont =>
                obtain ⟨σ6, H6, S6, q6⟩ := z
                exact ⟨_, _, S6.unsuite ok, q6⟩
              | ret u =>
                obtain ⟨v6, σ6, H6, S6, r6, q6⟩ := z
                exact ⟨_, _, _, S6.unsuite ok, r6, q6⟩
          | some n =>
            cases i with
            | none => exact hn.elim
            | some i =>
              refine codeAny_handlers_suite_as (HandSPX.lands_againZ fl2 fun g4 fl4 up4 => ?_)
              obtain ⟨oe4, vs4, hz4, hd4, S4⟩ := suiteOk fl4 (up2.trans up4)
              refine store_ok (X := X.suite a ((a, oe4) :: (X.pn ++ pins))) (v := .ref a) S4 hN hn.1 (.inl hn.2) rfl (fun s5 S5 => ?_) (.inr hn.2)
              refine wpAny_mono ((hsu a oe4 cls d (X.pn ++ pins) hz4 ⟨_, hd4⟩).run [] s5 _ H' _ S5 (yes rfl a na)) (fun f s6 z => ?_) (fun _ _ z => False.elim z)
              have fin : ∀ {σ6 : L2.St} {H6 : Hp} {Q : Shared → Prop}, Inv (X.suite a ((a, oe4) :: (X.pn ++ pins))) [] σ6 H6 s6 → (∀ s7, Inv X pins (σ6.set i none) H6 s7 → Q s7) →
                  wpAny (model X.prog X.w) X.A (do bindName X.env n .none; unbindBehindTheSuite X.env n pos') (fun _ s7 => Q s7) X.xe s6 := fun {σ6 H6 Q} S6 hq => gone_ok (S6.unsuite ok) hN hn.1 hn.2 hq
              cases f with
              | next =>
                obtain ⟨σ6, H6, S6, q6⟩ := z
                exact fin S6 fun s7 J7 => ⟨_, _, J7, q6⟩
              | brk =>
                obtain ⟨σ6, H6, S6, q6⟩ := z
                exact fin S6 fun s7 J7 => ⟨_, _, J7, q6⟩
              | cont =>
                obtain ⟨σ6, H6, S6, q6⟩ := z
                exact fin S6 fun s7 J7 => ⟨_, _, J7, q6⟩
              | ret u =>
                obtain ⟨v6, σ6, H6, S6, r6, q6⟩ := z
                exact fin S6 fun s7 J7 => ⟨_, _, _, J7, r6, q6⟩
    exact key hh wish g fl upg
end
end Ev

namespace Ev
open L2 PyProof.Rows PySem.Spec PySem

/-! ## The law's look at an exception's field -/
theorem pe_xfG {X : Cx} {a C : Addr} {oe : Obj} {cls : Value} {d : Option Addr} {e : Expr} {te : TE} {pos : Pos} {n : Str} (hp : (a, oe) ∈ X.pn) (T : XCls X.K C) (hno : PySem.W.findIn X.K (.ref C) n = some none)
    (hz : Zc cls d oe) (hf : ∃ vs, oe.data = .fields vs) (he : PE X e te) (hb : attributeBase e n X.env (eval e X.env) = eval e X.env := by rfl) : PE X (.Attribute e n pos) (tXf a cls d C n te) := by
  refine ⟨fun pins s σ H Q I h => attr_of hb (thn (he.run pins s σ H _ I h) fun u s1 hh => ?_)⟩
  obtain ⟨x, H1, I1, rx, rfl, rfl, dd, fs, v, rfl, ea, l, q⟩ := hh
  obtain rfl : u = Value.ref a := rx
  obtain ⟨ha, _⟩ := I1.pin (a, oe) (List.mem_append_left _ hp)
  obtain ⟨vs, hd⟩ := hf
  obtain ⟨mA, hns, hr⟩ := (show ObjOk X.prog X.w H1 s1.heap dd (.xd fs) from I1.hok dd _ ea)
  obtain ⟨od, ho, hl⟩ := lookIn_ns hns
  obtain ⟨w, hw, rw_⟩ := RelO.some_of (v := v) (o := mA n) (by rw [← l]; exact hr n)
  have J : PySem.W.InstAt s1.heap a oe C (some od) := ⟨ha, hz.1, by unfold PySem.W.notCls; rw [hd] <;> rfl, by rw [hz.2]; exact ho⟩
  exact HandSPX.exc_get I1.kIn J T.ga T.gg T.exC (PySem.W.findObj_own T.hd hno rfl (by rw [hl, hw])) (handed_of rw_) ⟨v, H1, I1.tok _, rw_, q⟩
/-- written texts -/
def CsOf : List Expr → List Str → Prop
  | [], [] => True
  | e :: es, x :: xs => (∃ j p, e = .Constant (.str x) j p) ∧ CsOf es xs
  | _, _ => False
theorem cs_nil : CsOf [] [] := trivial
theorem cs_cons {es : List Expr} {x : Str} {xs : List Str} {j : Nat} {p : Pos} (h : CsOf es xs) : CsOf (.Constant (.str x) j p :: es) (x :: xs) := ⟨⟨j, p, rfl⟩, h⟩
theorem pa_strs {X : Cx} : ∀ {es : List Expr} {xs : List Str}, CsOf es xs → PA X es (fun _ H Q => Q (xs.map V.str) H)
  | [], [], _ => pa_nil
  | [], _ :: _, h => h.elim
  | _ :: _, [], h => h.elim
  | e :: es, x :: xs, h => by
    obtain ⟨⟨j, p, rfl⟩, h2⟩ := h
    exact pa_cons pe_str (pa_strs h2)
theorem inV_strs (t : Str) : ∀ xs : List Str, inV (.str t) (xs.map V.str) = xs.any fun x => x == t
  | [] => rfl
  | x :: xs => by
    show (eqV (.str x) (.str t) || inV (.str t) (xs.map V.str)) = _
    rw [inV_strs t xs]
    rfl
theorem flat_strs : ∀ xs : List Str, (xs.map V.str).all flatV = true
  | [] => rfl
  | x :: xs => flat_strs xs
/-- what stands stays -/
def Keeps (H H' : Hp) : Prop := ∀ b o, H b = some o → H' b = some o
theorem Keeps.refl (H : Hp) : Keeps H H := fun _ _ h => h
theorem Keeps.trans {H H1 H2 : Hp} (a : Keeps H H1) (b : Keeps H1 H2) : Keeps H H2 := fun c o h => b c o (a c o h)
theorem Keeps.new {H : Hp} {p : Addr} {o : HO} (h : H p = none) : Keeps H (upd H p o) := fun b x e => by
  rw [upd_ne (ne_of_none e h)]
  exact e
/-- e.tag in (..) | e.tag == x -/
abbrev TagIn (t : Expr) (xs : List Str) : Prop := ∃ p1 p2 p3 k p4 es, t = .Compare (.Attribute (.Name "_law_e" p1) "tag" p2) [.In] [.Tuple es k p4] p3 ∧ CsOf es xs
abbrev TagEq (t : Expr) (x : Str) : Prop := ∃ p1 p2 p3 j p4, t = .Compare (.Attribute (.Name "_law_e" p1) "tag" p2) [.Eq] [.Constant (.str x) j p4] p3
/-- where an exception is looked at: slot i has it, its fields are fs -/
structure XAt (X : Cx) (i : Nat) (a C dd : Addr) (oe : Obj) : Prop where
  hp : (a, oe) ∈ X.pn
  T : XCls X.K C
  hz : L2N.Zn (.ref C) (some dd) oe
  hf : ∃ vs, oe.data = .fields vs
  hN : X.N[i]? = some "_law_e"
  hv : Vis X.env.scope "_law_e"
def Here (i : Nat) (a dd : Addr) (fs : List (Str × V)) (σ : L2.St) (H : Hp) : Prop := σ[i]? = some (some (.ref a)) ∧ H dd = some (.xd fs)
section
variable {X : Cx} {i : Nat} {a C dd : Addr} {oe : Obj} {fs : List (Str × V)} {t : Str}
theorem pe_fld (W : XAt X i a C dd oe) {n : Str} {p pos : Pos} {v : V} (hno : PySem.W.findIn X.K (.ref C) n = some none) (hl : fs.lookup n = some v) (hb : attributeBase (.Name "_law_e" p) n X.env (eval (.Name "_law_e" p) X.env) = eval (.Name "_law_e" p) X.env := by rfl) :
    PE X (.Attribute (.Name "_law_e" p) n pos) (fun σ H Q => Here i a dd fs σ H ∧ Q v H) :=
  PE_imp' (pe_xfG W.hp W.T hno W.hz.zc W.hf (pe_var (i := i) W.hN W.hv (by decide) (by decide)) hb) fun σ H Q h => ⟨.ref a, h.1.1, rfl, rfl, dd, fs, v, rfl, h.1.2, hl, h.2⟩
where
  PE_imp' {e : Expr} {t t' : TE} (h : PE X e t) (hi : ∀ σ H Q, t' σ H Q → t σ H Q) : PE X e t' := ⟨fun pins s σ H Q I hq => h.run pins s σ H Q I (hi σ H Q hq)⟩
theorem pt_tagIn (W : XAt X i a C dd oe) (ht : PySem.W.findIn X.K (.ref C) "tag" = some none) (hl : fs.lookup ("tag" : Str) = some (V.str t)) {e : Expr} {xs : List Str} (hz : xs.length ≤ 100) (h : TagIn e xs) :
    PT X e (fun σ H Q => Here i a dd fs σ H ∧ ∀ H', Keeps H H' → Q (xs.any fun x => x == t) H') := by
  obtain ⟨p1, p2, p3, k, p4, es, rfl, hc⟩ := h
  have q := pt_cmpR (pos := p3) (op := .In) op_in_seq (pe_fld (fs := fs) W ht hl (p := p1) (pos := p2)) (pe_tup (x1 := k) (pos := p4) (pa_strs hc)) (by rfl)
  refine ⟨fun pins s σ H Q I hq => q.run pins s σ H Q I ⟨hq.1, ?_, fun p n => ?_⟩⟩
  · rw [List.length_map]
    exact Nat.le_trans hz (Nat.le_of_ble_eq_true rfl)
  · refine ⟨p, xs.map V.str, rfl, .inr (.inl (.inl upd_same)), rfl, flat_strs xs, _, rfl, ?_⟩
    rw [inV_strs]
    exact hq.2 _ (Keeps.new n)
theorem pt_tagEq (W : XAt X i a C dd oe) (ht : PySem.W.findIn X.K (.ref C) "tag" = some none) (hl : fs.lookup ("tag" : Str) = some (V.str t)) {e : Expr} {x : Str} (h : TagEq e x) :
    PT X e (fun σ H Q => Here i a dd fs σ H ∧ ∀ H', Keeps H H' → Q (decide (t = x)) H') := by
  obtain ⟨p1, p2, p3, j, p4, rfl⟩ := h
  have q := pt_cmpR (pos := p3) (op := .Eq) op_eq (pe_fld (fs := fs) W ht hl (p := p1) (pos := p2)) (pe_str (x := x) (j := j) (pos := p4)) (by rfl)
  refine ⟨fun pins s σ H Q I hq => q.run pins s σ H Q I ⟨hq.1, rfl, _, rfl, ?_⟩⟩
  have e : decide (V.str t = V.str x) = decide (t = x) := by
    by_cases h : t = x
    · rw [h, decide_eq_true rfl, decide_eq_true rfl]
    · rw [decide_eq_false h, decide_eq_false fun z => h (by cases z; rfl)]
  rw [e]
  exact hq.2 H (Keeps.refl H)
def Sel (K : PySem.W.Frag) (C : Addr) (fs : List (Str × V)) (f : Option Str) (v : V) : Prop := match f with
  | some f => fs.lookup f = some v ∧ PySem.W.findIn K (.ref C) f = some none
  | none => v = .non
abbrev GetF (e : Expr) (f : Str) : Prop := ∃ p1 p2, e = .Attribute (.Name "_law_e" p1) f p2
abbrev IfRet (st : Stmt) (xs : List Str) (f : Str) : Prop := ∃ t e p3 p4, st = .If t [.Return (some e) p3] [] p4 ∧ TagIn t xs ∧ GetF e f
abbrev IfRet2 (st : Stmt) (xs : List Str) (x f g : Str) : Prop := ∃ t t2 e e2 p3 p4 p5, st = .If t [.Return (some (.IfExp t2 e e2 p5)) p3] [] p4 ∧ TagIn t xs ∧ TagEq t2 x ∧ GetF e f ∧ GetF e2 g
abbrev LastRet (st : Stmt) (x f : Str) : Prop := ∃ t2 e j p3 p4 p5, st = .Return (some (.IfExp t2 e (.Constant .none j p3) p5)) p4 ∧ TagEq t2 x ∧ GetF e f
abbrev FieldIs (b : List Stmt) : Prop := ∃ s1 s2 s3 s4 s5 s6 s7, b = [s1, s2, s3, s4, s5, s6, s7] ∧ IfRet s1 ["InvalidGate", "ParseError"] "position" ∧ IfRet s2 ["SamePlace", "NotBarring", "UnknownGate"] "place" ∧
  IfRet s3 ["InvalidName", "DuplicateName", "UnknownRoad"] "name" ∧ IfRet s4 ["NotCrossed", "TooMany"] "quantity" ∧ IfRet2 s5 ["CapacityExceeded", "TooWide"] "CapacityExceeded" "capacity" "stage" ∧
  IfRet2 s6 ["InvalidFactor", "InvalidCount"] "InvalidFactor" "factor" "number" ∧ LastRet s7 "InvalidCommand" "first"
/-- a name read, its field -/
def AbOk (X : Cx) : Prop := ∀ (p : Pos) (n : Str), attributeBase (.Name "_law_e" p) n X.env (eval (.Name "_law_e" p) X.env) = eval (.Name "_law_e" p) X.env
theorem ps_dead {st : Stmt} : PS X st (fun _ _ _ => False) := ⟨fun _ _ _ _ _ _ h => h.elim⟩
theorem pe_dead {e : Expr} : PE X e (fun _ _ _ => False) := ⟨fun _ _ _ _ _ _ h => h.elim⟩
variable {xs : List Str} {x f g : Str} {st : Stmt} {v : V}
def tGet (i : Nat) (a dd : Addr) (fs : List (Str × V)) (v : V) : TE := fun σ H Q => Here i a dd fs σ H ∧ Q v H
theorem pe_get (W : XAt X i a C dd oe) {e : Expr} (h : GetF e f) (hs : Sel X.K C fs (some f) v) : PE X e (tGet i a dd fs v) := by
  obtain ⟨p1, p2, rfl⟩ := h
  exact pe_fld W hs.2 hs.1
def tRetV (i : Nat) (a dd : Addr) (fs : List (Str × V)) (v : V) : TS := fun D σ H => Here i a dd fs σ H ∧ ∀ H', Keeps H H' → Here i a dd fs σ H' → D.rt v H'
def tSkip (i : Nat) (a dd : Addr) (fs : List (Str × V)) : TS := fun D σ H => Here i a dd fs σ H ∧ ∀ H', Keeps H H' → Here i a dd fs σ H' → D.nx σ H'
theorem PS_imp' {st : Stmt} {t t' : TS} (h : PS X st t) (hi : ∀ D σ H, t' D σ H → t D σ H) : PS X st t' := ⟨fun pins s σ H D I hq => h.run pins s σ H D I (hi D σ H hq)⟩
theorem Here.keeps {σ : L2.St} {H H' : Hp} (h : Here i a dd fs σ H) (k : Keeps H H') : Here i a dd fs σ H' := ⟨h.1, k _ _ h.2⟩
theorem ifRet_no (W : XAt X i a C dd oe) (ht : PySem.W.findIn X.K (.ref C) "tag" = some none) (hl : fs.lookup ("tag" : Str) = some (V.str t)) (hz : xs.length ≤ 100) (h : IfRet st xs f) (hn : xs.any (· == t) = false) : PS X st (tSkip i a dd fs) := by
  obtain ⟨c, e, p3, p4, rfl, h1, _⟩ := h
  refine PS_imp' (ps_if (pt_tagIn W ht hl hz h1) (pss_one ps_dead) pss_nil) fun D σ H q => ⟨q.1, fun H' k => ?_⟩
  rw [hn]
  exact q.2 H' k (q.1.keeps k)
theorem ifRet_yes (W : XAt X i a C dd oe) (ht : PySem.W.findIn X.K (.ref C) "tag" = some none) (hl : fs.lookup ("tag" : Str) = some (V.str t)) (hz : xs.length ≤ 100) (h : IfRet st xs f) (hn : xs.any (· == t) = true) (hs : Sel X.K C fs (some f) v) : PS X st (tRetV i a dd fs v) := by
  obtain ⟨c, e, p3, p4, rfl, h1, h2⟩ := h
  refine PS_imp' (ps_if (pt_tagIn W ht hl hz h1) (pss_one (ps_ret (pe_get W h2 hs))) pss_nil) fun D σ H q => ⟨q.1, fun H' k => ?_⟩
  rw [hn]
  exact ⟨q.1.keeps k, q.2 H' k (q.1.keeps k)⟩
theorem ifRet2_no (W : XAt X i a C dd oe) (ht : PySem.W.findIn X.K (.ref C) "tag" = some none) (hl : fs.lookup ("tag" : Str) = some (V.str t)) (hz : xs.length ≤ 100) (h : IfRet2 st xs x f g) (hn : xs.any (· == t) = false) : PS X st (tSkip i a dd fs) := by
  obtain ⟨c, t2, e, e2, p3, p4, p5, rfl, h1, _⟩ := h
  refine PS_imp' (ps_if (pt_tagIn W ht hl hz h1) (pss_one ps_dead) pss_nil) fun D σ H q => ⟨q.1, fun H' k => ?_⟩
  rw [hn]
  exact q.2 H' k (q.1.keeps k)
theorem ifRet2_yes (W : XAt X i a C dd oe) (ht : PySem.W.findIn X.K (.ref C) "tag" = some none) (hl : fs.lookup ("tag" : Str) = some (V.str t)) (hz : xs.length ≤ 100) (h : IfRet2 st xs x f g) (hn : xs.any (· == t) = true)
    (hs : Sel X.K C fs (if decide (t = x) then some f else some g) v) : PS X st (tRetV i a dd fs v) := by
  obtain ⟨c, t2, e, e2, p3, p4, p5, rfl, h1, h2, h3, h4⟩ := h
  cases b : decide (t = x) with
  | true =>
    rw [b] at hs
    refine PS_imp' (ps_if (pt_tagIn W ht hl hz h1) (pss_one (ps_ret (pe_ifExp (pt_tagEq W ht hl h2) (pe_get W h3 hs) pe_dead))) pss_nil) fun D σ H q => ⟨q.1, fun H' k => ?_⟩
    rw [hn]
    refine ⟨q.1.keeps k, fun H2 k2 => ?_⟩
    rw [b]
    exact ⟨q.1.keeps (k.trans k2), q.2 H2 (k.trans k2) (q.1.keeps (k.trans k2))⟩
  | false =>
    rw [b] at hs
    refine PS_imp' (ps_if (pt_tagIn W ht hl hz h1) (pss_one (ps_ret (pe_ifExp (pt_tagEq W ht hl h2) pe_dead (pe_get W h4 hs)))) pss_nil) fun D σ H q => ⟨q.1, fun H' k => ?_⟩
    rw [hn]
    refine ⟨q.1.keeps k, fun H2 k2 => ?_⟩
    rw [b]
    exact ⟨q.1.keeps (k.trans k2), q.2 H2 (k.trans k2) (q.1.keeps (k.trans k2))⟩
theorem last_ret (W : XAt X i a C dd oe) (ht : PySem.W.findIn X.K (.ref C) "tag" = some none) (hl : fs.lookup ("tag" : Str) = some (V.str t)) (h : LastRet st x f) (hs : Sel X.K C fs (if decide (t = x) then some f else none) v) : PS X st (tRetV i a dd fs v) := by
  obtain ⟨t2, e, j, p3, p4, p5, rfl, h2, h3⟩ := h
  cases b : decide (t = x) with
  | true =>
    rw [b] at hs
    refine PS_imp' (ps_ret (pe_ifExp (pt_tagEq W ht hl h2) (pe_get W h3 hs) pe_dead)) fun D σ H q => ⟨q.1, fun H2 k2 => ?_⟩
    rw [b]
    exact ⟨q.1.keeps k2, q.2 H2 k2 (q.1.keeps k2)⟩
  | false =>
    rw [b] at hs
    have hv : v = .non := hs
    subst hv
    refine PS_imp' (ps_ret (pe_ifExp (pt_tagEq W ht hl h2) pe_dead pe_non)) fun D σ H q => ⟨q.1, fun H2 k2 => ?_⟩
    rw [b]
    exact q.2 H2 k2 (q.1.keeps k2)
theorem pss_skip {s : Stmt} {r : List Stmt} (h1 : PS X s (tSkip i a dd fs)) (h2 : PSs X r (tRetV i a dd fs v)) : PSs X (s :: r) (tRetV i a dd fs v) := by
  refine ⟨fun pins s σ H D I h => (pss_cons h1 h2).run pins s σ H D I ⟨h.1, fun H' k hh => ⟨hh, fun H2 k2 h2 => h.2 H2 (k.trans k2) h2⟩⟩⟩
theorem pss_stop {s : Stmt} {r : List Stmt} {u : TS} (h1 : PS X s (tRetV i a dd fs v)) (h2 : PSs X r u) : PSs X (s :: r) (tRetV i a dd fs v) := ⟨fun pins s σ H D I h => (pss_cons h1 h2).run pins s σ H D I h⟩
theorem pss_any : ∀ (r : List Stmt), PSs X r (fun _ _ _ => False) := fun r => ⟨fun _ _ _ _ _ _ h => h.elim⟩
theorem field_ok (W : XAt X i a C dd oe) (ht : PySem.W.findIn X.K (.ref C) "tag" = some none) (hl : fs.lookup ("tag" : Str) = some (V.str t)) {b : List Stmt} (h : FieldIs b) (hs : Sel X.K C fs (selF t) v) : PSs X b (tRetV i a dd fs v) := by
  obtain ⟨s1, s2, s3, s4, s5, s6, s7, rfl, h1, h2, h3, h4, h5, h6, h7⟩ := h
  unfold selF at hs
  cases b1 : (["InvalidGate", "ParseError"] : List Str).any (· == t) with
  | true =>
    rw [b1] at hs
    exact pss_stop (ifRet_yes W ht hl (by decide) h1 b1 hs) (pss_any _)
  | false =>
  rw [b1] at hs
  refine pss_skip (ifRet_no W ht hl (by decide) h1 b1) ?_
  cases b2 : (["SamePlace", "NotBarring", "UnknownGate"] : List Str).any (· == t) with
  | true =>
    rw [b2] at hs
    exact pss_stop (ifRet_yes W ht hl (by decide) h2 b2 hs) (pss_any _)
  | false =>
  rw [b2] at hs
  refine pss_skip (ifRet_no W ht hl (by decide) h2 b2) ?_
  cases b3 : (["InvalidName", "DuplicateName", "UnknownRoad"] : List Str).any (· == t) with
  | true =>
    rw [b3] at hs
    exact pss_stop (ifRet_yes W ht hl (by decide) h3 b3 hs) (pss_any _)
  | false =>
  rw [b3] at hs
  refine pss_skip (ifRet_no W ht hl (by decide) h3 b3) ?_
  cases b4 : (["NotCrossed", "TooMany"] : List Str).any (· == t) with
  | true =>
    rw [b4] at hs
    exact pss_stop (ifRet_yes W ht hl (by decide) h4 b4 hs) (pss_any _)
  | false =>
  rw [b4] at hs
  refine pss_skip (ifRet_no W ht hl (by decide) h4 b4) ?_
  cases b5 : (["CapacityExceeded", "TooWide"] : List Str).any (· == t) with
  | true =>
    rw [b5] at hs
    exact pss_stop (ifRet2_yes W ht hl (by decide) h5 b5 hs) (pss_any _)
  | false =>
  rw [b5] at hs
  refine pss_skip (ifRet2_no W ht hl (by decide) h5 b5) ?_
  cases b6 : (["InvalidFactor", "InvalidCount"] : List Str).any (· == t) with
  | true =>
    rw [b6] at hs
    exact pss_stop (ifRet2_yes W ht hl (by decide) h6 b6 hs) (pss_any _)
  | false =>
  rw [b6] at hs
  refine pss_skip (ifRet2_no W ht hl (by decide) h6 b6) ?_
  exact pss_stop (last_ret W ht hl h7 hs) (pss_any _)
end
end Ev

namespace Ev
open L2 PyProof.Rows PySem.Spec PySem

/-! ## Two names at once where an exception is handled -/
section
variable {prog : Program} {w : World} {A : Around} {E : Value → Shared → Prop} {s : Shared}
theorem next_end_hot {it t x1 : Addr} {i : Nat} {items : Array Value} {Q : Option Value → Shared → Prop} (hot : HotX.HotAt A x1 s.heap) (hn : x1 ≠ it) (hit : IsTupIter s.heap it t i) (ht : IsTup s.heap t items) (hx : items[i]? = none)
    (hQ : ∀ h', Heap.ExtBut it s.heap h' → Q none { s with heap := h' }) : wpAny (model prog w) A (pyNext (.ref it)) Q E s := by
  obtain ⟨o, ho, hc, hd⟩ := id hit
  obtain ⟨ol, hol, _, nl, hdl⟩ := ht
  obtain ⟨hh, o1, vs1, h1, d1, c1⟩ := hot
  unfold pyNext
  refine wpAny_bind (wpAny_attempt (wpAny_callSpecial?_slot (name := Str.ofString "__next__") hit.typeIs slot_tupleiter_next (wpAny_call_entry slot_tupleiter_next hit.typeIs entry_tupleiter_next ?_ (args_tupleiter_next _))))
  show wpAny _ _ (field (.ref it) 0 >>= _) _ _ s
  refine wpAny_bind (wpAny_field ho hd (x := .ref t) rfl ?_)
  show wpAny _ _ (if (Value.ref t == Value.none) = true then _ else _) _ _ s
  rw [if_neg (show ¬ ((Value.ref t == Value.none) = true) from Bool.false_ne_true)]
  show wpAny _ _ (field (.ref it) 1 >>= _) _ _ s
  refine wpAny_bind (wpAny_field ho hd (x := .int i 0) rfl ?_)
  show wpAny _ _ (seqItems? (.ref t) >>= _) _ _ s
  refine wpAny_bind (wpAny_seqItems hol hdl ?_)
  simp only [Int.toNat_natCast, hx]
  refine wpAny_bind (wpAny_rule (wpAny_bind (wpAny_setField ho hd (by simp) ?_)))
  show wpAny _ _ (newExc (.type "StopIteration") [] >>= _) _ _ _
  refine wpAny_bind ?_
  simp only [newExc, newTuple]
  refine wpAny_bind (wpAny_newObj_type ?_ (by size_fits))
  refine wpAny_bind (m := firstArgMember _ _) (wpAny_of_eq (a := Value.none) (by first | rfl | (simp only [firstArgMember]; rfl)) ?_)
  refine wpAny_newObj_type ?_ (by size_fits)
  have g1 := (Heap.get?_update_other s.heap (Obj.mapFields (·.setIfInBounds 0 Value.none)) (Ne.symm hn)).trans h1
  refine HotX.raiseNew_hot ⟨hh, o1, vs1, Heap.get?_push_of_some _ (Heap.get?_push_of_some _ g1), d1, c1⟩ (Nat.ne_of_lt (Heap.lt_size (Heap.get?_push_of_some _ g1))) (Heap.get?_push_size _ rfl) rfl (by first | (simp; done) | (simp; omega) | (simp only [Array.size_append]; simp; omega)) ?_
  refine wpAny_bind (wpAny_isInstance (T := "StopIteration") (b := true) ⟨_, Heap.get?_update_self _ (Heap.get?_push_size _ rfl) rfl, rfl⟩ isSubtype_stop ?_)
  refine wpAny_pure (hQ _ fun b o' hb e => ?_)
  have e1 := (Heap.get?_update_other s.heap (Obj.mapFields (·.setIfInBounds 0 Value.none)) (Ne.symm hb)).trans e
  rw [Heap.get?_update_other _ _ (Nat.ne_of_gt (Heap.lt_size (Heap.get?_push_of_some _ e1)))]
  exact Heap.get?_push_of_some _ (Heap.get?_push_of_some _ e1)
theorem unpack_hot {t x1 : Addr} {items : Array Value} {Q : List Value → Shared → Prop} (hot : HotX.HotAt A x1 s.heap) (ht : IsTup s.heap t items) (hQ : ∀ h', Heap.ExtBut s.heap.objs.size s.heap h' → Q items.toList { s with heap := h' }) :
    wpAny (model prog w) A (unpackItems (.ref t) items.size none) Q E s := by
  have hlt : t ≠ s.heap.objs.size := by
    obtain ⟨o, ho, _⟩ := ht
    exact Nat.ne_of_lt (Heap.lt_size ho)
  obtain ⟨hh, o1, vs1, h1, d1, c1⟩ := id hot
  have hx1 : x1 ≠ s.heap.objs.size := Nat.ne_of_lt (Heap.lt_size h1)
  unfold unpackItems notIterableAtAll
  refine wpAny_bind (wpAny_bind (wpAny_specialOf ht.typeIs slot_tuple_iter.lookup (wpAny_pure ?_)))
  simp only [Bool.false_eq_true, if_false]
  refine wpAny_bind (wpAny_holding (iter_tuple ht ?_))
  refine wpAny_bind (wpAny_holding (draw_tuple hlt items.size 0 _ _ ⟨_, Heap.get?_push_size _ rfl, rfl, rfl⟩ (ht.push _) (by omega) fun g hit sb => ?_))
  rw [show List.take items.size (List.drop 0 items.toList) = items.toList by rw [List.drop_zero]; exact List.take_of_length_le (by simp), if_neg (by simp)]
  refine wpAny_bind (wpAny_holding (next_end_hot ⟨hh, o1, vs1, (sb.extBut x1 _ hx1 (Heap.get?_push_of_some _ h1)), d1, c1⟩ hx1 hit ((ht.push _).extBut sb.extBut hlt) (by simp) fun g2 he => ?_))
  simp only [Option.isSome_none, Bool.false_eq_true, if_false]
  exact wpAny_pure (hQ g2 fun b o hb e => he b o hb (sb.extBut b o hb (Heap.get?_push_of_some _ e)))
end
/-- the exception that is handled in X is pinned -/
def HotIn (X : Cx) (a : Addr) (oe : Obj) : Prop := X.A.handled = some (.ref a) ∧ (a, oe) ∈ X.pn ∧ ∃ vs : Array Value, oe.data = .fields vs ∧ vs[2]? = some .none
theorem HotIn.at {X : Cx} {a : Addr} {oe : Obj} {pins : List (Addr × Obj)} {σ : L2.St} {H : Hp} {s : Shared} (h : HotIn X a oe) (I : Inv X pins σ H s) : HotX.HotAt X.A a s.heap := by
  obtain ⟨h1, h2, vs, h3, h4⟩ := h
  exact ⟨h1, oe, vs, (I.pin (a, oe) (List.mem_append_left _ h2)).1, h3, h4⟩
theorem ps_par_hot {X : Cx} {a0 : Addr} {oe : Obj} {i j : Nat} {x y : Str} {a b : Expr} {ta : TA} {px py pt : Pos} {kt k2 : Nat} {pt2 pos : Pos} (hc : HotIn X a0 oe) (hN : X.N.Nodup) (hi : X.N[i]? = some x) (hj : X.N[j]? = some y) (hij : i ≠ j)
    (hx : X.env.scope.names.lookup x = some .local) (hy : X.env.scope.names.lookup y = some .local) (ha : PA X [a, b] ta) (hw : swappedStores [.Tuple [.Name x px, .Name y py] kt pt] (.Tuple [a, b] k2 pt2) X.env = pure (some [x, y])) :
    PS X (.Assign [.Tuple [.Name x px, .Name y py] kt pt] (.Tuple [a, b] k2 pt2) pos) (tPar i j ta) := by
  have hs : swapsWithSole [.Tuple [.Name x px, .Name y py] kt pt] (.Tuple [a, b] k2 pt2) pos.line X.env = pure false := by rfl
  refine ⟨fun pins s σ H D I h => ?_⟩
  rw [exec_Assign_arm]
  refine wpAny_bind (wpAny_standAt ?_)
  rw [hs]
  refine wpAny_bind (wpAny_pure ?_)
  rw [if_neg (by decide)]
  refine wpAny_bind (Tuple_ (thn (ha.run _ pins s σ H _ I h) fun us s1 ⟨vs, H1, I1, r1, v, w, e1, q1⟩ => ?_))
  subst e1
  obtain ⟨u1, u2, rfl, rv, rw_⟩ : ∃ u1 u2, us = [u1, u2] ∧ RelV v u1 ∧ RelV w u2 := by
    cases r1 with
    | cons p q =>
      cases q with
      | cons p' q' =>
        cases q'
        exact ⟨_, _, rfl, p, p'⟩
  refine wpAny_newObj_type ?_ (by show 2 ≤ sizeLine; decide)
  have I2 : Inv X pins σ H1 { s1 with heap := s1.heap.push { cls := .type "tuple", data := .seq [u1, u2].toArray } } := I1.kept (t' := s1.toks) fun b o e => Heap.get?_push_of_some _ e
  rw [hw]
  refine wpAny_bind (wpAny_pure ?_)
  show wpAny (model X.prog X.w) X.A (do rule "assign.swapped-stores"; let items ← unpackItems (.ref s1.heap.objs.size) 2 none; assignInOrder [fun v => bindName X.env y v, fun v => bindName X.env x v] items.reverse; pure Flow.next) _ _ _
  refine wpAny_bind (wpAny_rule (wpAny_bind (unpack_hot (items := #[u1, u2]) (hc.at I2) (IsTup.new s1.heap _) fun g kx => ?_)))
  have I3 := I2.kept (h' := g) (t' := s1.toks) fun b o e => kx b o (Nat.ne_of_lt (Heap.lt_size e)) e
  show wpAny _ _ (assignInOrder [fun v => bindName X.env y v, fun v => bindName X.env x v] [u2, u1] >>= fun _ => pure Flow.next) _ _ _
  refine wpAny_bind (assignInOrder_cons (wpAny_bindName (store_ok I3 hN hj (.inl hy) rw_ (fun s2 I4 => ?_) (.inr hy))))
  refine assignInOrder_cons (wpAny_bindName (store_ok I4 hN hi (.inl hx) rv (fun s3 I5 => assignInOrder_nil (wpAny_pure ?_)) (.inr hx)))
  rw [List.set_comm _ _ (Ne.symm hij)] at I5
  exact ⟨_, H1, I5, q1⟩
end Ev

namespace Ev
open L2H L2 PyProof.Rows PySem.Spec PySem

/-! ## A def called where an exception is handled, told of the very state -/
theorem run_hot {P : Program} {w : World} {K : PySem.W.Frag} {mg : Str → Option Value} {base : Heap} {k : Nat} {f : Addr} {x : Str} {params : Arguments} {body : List Stmt} {scope : Scope} {fd : FuncData} {N ps : List Str}
    (F : FunD K x x params body scope [] [] f fd) (S : FnScope N ps scope) {A : Around} {outer : List Env} {s : Shared} {H : Hp} {args : Args} {us : List Value} {vs : List V} {Q : VK} {p : Addr × Obj} (hr : RoomH (k + 1) A) (hp : PinOk outer H s p)
    (e0 : Env0 P w K mg base A outer s H) (hb : BindsTo s fd args (ps.zip us)) (r : Vals vs us) (hl : vs.length = ps.length)
    (hbody : ∀ cdv, ∃ t, PSs (cxH C8.CX0 P w K mg base N x scope f cdv A outer s H C8.E0 p) body t ∧ t { nx := fun _ H' => Q .non H', rt := Q } (L2.start N vs) H) :
    codeAny (model P w) A (.call (.ref f) args) (CR C8.CX0 outer P w H s Q C8.E0) s := by
  obtain ⟨oc, od, dV, kV, doc, pm, an, cdv, ct, osl, rfl, lk, hcd, _, _⟩ := F.ex
  have KX : K.In s.heap := e0.mod.kin.keeps fun b o e => (e0.bs b o e).1
  have lim : s.heap.NoLimit := e0.mod.nolimit.keeps fun b o e => (e0.bs b o e).1
  have kinds : ∀ y ∈ ps.zip us, scope.names.lookup y.1 = some .local ∨ (scope.names.lookup y.1 = some .cell ∧ ((cellsFrom (s.heap.objs.size + 1) scope.names []).lookup y.1).isSome = true) := fun ⟨n, v⟩ hy =>
    (S.par n (List.of_mem_zip hy).1).elim .inl fun q => .inr ⟨q, PySem.W.cellsFrom_some _ _ _ (.inl q)⟩
  refine codeAny_call_function hr.depth (KX _ _ lk) rfl S.co S.gen rfl (PySem.W.codeRec_of KX hcd) (hb _ _ _ _ (wpAny_newFunctionEnv_cells S.kind kinds fun env he s1 c => ?_))
  subst he
  refine ⟨lim.keeps c.toInCall.keep, codeAny_func ?_⟩
  obtain ⟨t, ht, hq⟩ := hbody cdv
  refine wpAny_mono (ht.run [] s1 (L2.start N vs) H _ (inv_startH S hp e0 hl r c) hq) (fun fl s' z => ?_) fun e s' z => z
  cases fl with
  | ret u =>
    obtain ⟨v, σ', H', J, rv, q⟩ := z
    exact ⟨v, H', J.os, J.bare, J.base, J.hok, rv, q⟩
  | next =>
    obtain ⟨σ', H', J, q⟩ := z
    exact ⟨V.non, H', J.os, J.bare, J.base, J.hok, rfl, q⟩
  | brk =>
    obtain ⟨_, _, _, q⟩ := z
    exact False.elim q
  | cont =>
    obtain ⟨_, _, _, q⟩ := z
    exact False.elim q
/-- what is known of _law_error_field -/
structure FieldF (X : Cx) (g : Addr) (params : Arguments) (body : List Stmt) (scope : Scope) (fd : FuncData) : Prop where
  F : FunD X.K "_law_error_field" "_law_error_field" params body scope [] [] g fd
  S : FnScope ["_law_e"] ["_law_e"] scope
  hb : Binds X.K fd ["_law_e"] []
  hm : X.mg "_law_error_field" = some (.ref g)
  is_ : FieldIs body
theorem pe_fieldcall {X : Cx} {i k : Nat} {a C dd g : Addr} {oe : Obj} {fs : List (Str × V)} {t : Str} {v : V} {params : Arguments} {body : List Stmt} {scope : Scope} {fd : FuncData} {p1 p2 p3 : Pos} (D : FieldF X g params body scope fd) (W : XAt X i a C dd oe)
    (ht : PySem.W.findIn X.K (.ref C) "tag" = some none) (hl : fs.lookup ("tag" : Str) = some (V.str t)) (hs : Sel X.K C fs (selF t) v) (hg : Gl X "_law_error_field") (hr : RoomH (k + 1) X.A) :
    PE X (.Call (.Name "_law_error_field" p1) [.Name "_law_e" p2] [] p3) (fun σ H Q => Here i a dd fs σ H ∧ ∀ H', Keeps H H' → Q v H') := by
  refine ⟨fun pins s σ H Q I h => ?_⟩
  have ha : PA X [.Name "_law_e" p2] (tCons (tVar i) tNil) := pa_cons (pe_var (i := i) W.hN W.hv (by decide) (by decide)) pa_nil
  refine wpAny_Call_Name_kw (ld_glob I hg D.hm ?_ (by decide))
  refine PySem.W.callWith_K (h₀ := X.base) I.ok.mod.kin D.F.kp (thn (ha.run _ pins s σ H (fun vs H1 => vs = [.ref a] ∧ H1 = H) I ⟨.ref a, h.1.1, rfl, rfl⟩) fun us s1 ⟨vs, H1, I1, r, e1, e2⟩ => ⟨I1.kIn, ?_⟩) rfl rfl
  subst e1
  subst e2
  show wpAny _ _ (call (.ref g) us) _ _ _
  have hl1 : us.length = 1 := (Paired.length r).symm
  have b := D.hb s1 us I1.kIn (by rw [List.append_nil]; exact hl1)
  rw [List.append_nil] at b
  have P1 := I1.pin (a, oe) (List.mem_append_left _ W.hp)
  have hpin : PinOk X.stack H1 s1 (a, oe) := ⟨P1.1, P1.2.1, fun hm => (List.mem_cons.mp (I1.stkSub a hm)).elim P1.2.2.1 P1.2.2.2.1, P1.2.2.2.2⟩
  refine wpAny_call (codeAny_mono (run_hot (k := k) (N := ["_law_e"]) (Q := Q) D.F D.S hr hpin I1.env0 b r rfl fun cdv => ?_) fun r s2 hq => ?_)
  · have vis : Vis scope "_law_e" := (D.S.par "_law_e" (by simp)).elim .inl fun q => .inr (.inl q)
    have WZ : XAt (cxH C8.CX0 X.prog X.w X.K X.mg X.base ["_law_e"] "_law_error_field" scope g cdv X.A X.stack s1 H1 C8.E0 (a, oe)) 0 a C dd oe := ⟨List.mem_cons_self, W.T, W.hz, W.hf, rfl, vis⟩
    exact ⟨_, field_ok WZ ht hl D.is_ hs, ⟨rfl, h.1.2⟩, fun H' k2 _ => h.2 H' k2⟩
  · cases r with
    | error e => exact (show False from hq).elim
    | ok fl =>
      cases fl with
      | ret u => exact I1.after hq
      | next => exact False.elim hq
      | brk => exact False.elim hq
      | cont => exact False.elim hq
end Ev

namespace Ev
open L2H L2 PyProof.Rows PySem.Spec PySem

/-! ## The law's _law_outcome -/
theorem swap_two {x y : Str} {px py pt pt2 : Pos} {k1 k2 : Nat} {u v : Expr} {env : PySem.Env} (hk : env.scope.kind = .function) (hx : env.scope.names.lookup x = some .local) (hy : env.scope.names.lookup y = some .local) (hxy : x ≠ y) (hl : px.line = py.line)
    (hs : ([u, v].any fun | .Starred .. => true | _ => false) = false) (hf : [u, v].all (foldedForSure 8) = false) (hc : [u, v].all (constantsAlone 8) = false) : swappedStores [.Tuple [.Name x px, .Name y py] k1 pt] (.Tuple [u, v] k2 pt2) env = pure (some [x, y]) := by
  have e1 : (env.blockKind != ScopeKind.function) = false := by
    unfold Env.blockKind
    rw [hk]
    rfl
  have e2 : (env.kindOf x == some NameKind.local) = true := by rw [show env.kindOf x = some .local from hx]; rfl
  have e3 : (env.kindOf y == some NameKind.local) = true := by rw [show env.kindOf y = some .local from hy]; rfl
  have n1 : (Option.map (fun z : Expr => z.pos.line) [Expr.Name x px, Expr.Name y py].head?).getD 0 = px.line := rfl
  have nd : ([x, y].eraseDups.length != 0 + 1 + 1) = false := by
    have : (y == x) = false := by simpa using fun z : y = x => hxy z.symm
    simp [List.eraseDups_cons, this]
  unfold swappedStores
  simp only [n1, List.filterMap_cons, List.filterMap_nil, e2, e3, hl, Bool.true_and, beq_self_eq_true, if_true]
  simp only [e1, hf, hc, List.length_cons, List.length_nil, Bool.or_false, Bool.or_self, beq_self_eq_true, Bool.true_or, Bool.not_true, bne_self_eq_false, Bool.false_eq_true, if_false]
  refine (if_neg (fun z => absurd (hs.symm.trans z) (by decide))).trans ?_
  simp only [nd, Bool.or_self, Bool.false_eq_true, if_false]
theorem swap_const {ts vs : List Expr} {k k2 : Nat} {p p2 : Pos} {env : PySem.Env} (h : vs.all (foldedForSure 8) = true) : swappedStores [.Tuple ts k p] (.Tuple vs k2 p2) env = pure none := by
  unfold swappedStores
  simp only [h, if_true]
  split <;> first | rfl | (split <;> first | rfl | (split <;> rfl))
abbrev oN : List Str := ["_law_ask", "_law_answer", "_law_tag", "_law_field", "_law_e"]
abbrev OutS1 (s : Stmt) : Prop := ∃ p1 p2 p3 k p4 j1 p5 j2 p6 j3 p7 k2 p8 p9, s = .Assign [.Tuple [.Name "_law_answer" p1, .Name "_law_tag" p2, .Name "_law_field" p3] k p4] (.Tuple [.Constant .none j1 p5, .Constant (.str "") j2 p6, .Constant .none j3 p7] k2 p8) p9
abbrev OutB (b : Stmt) : Prop := ∃ p1 p2 p3 p4, b = .Assign [.Name "_law_answer" p1] (.Call (.Name "_law_ask" p2) [] [] p3) p4
abbrev OutH1 (h : ExceptHandler) : Prop := ∃ p1 p2 k p3 q1 q2 k2 q3 r1 r2 r3 r4 r5 k3 q4 q5 p4, h = .ExceptHandler (some (.Tuple [.Name "PaceError" p1, .Name "NotFound" p2] k p3)) (some "_law_e")
  [.Assign [.Tuple [.Name "_law_tag" q1, .Name "_law_field" q2] k2 q3] (.Tuple [.Attribute (.Name "_law_e" r1) "tag" r2, .Call (.Name "_law_error_field" r3) [.Name "_law_e" r4] [] r5] k3 q4) q5] p4 ∧ q1.line = q2.line
abbrev OutH2 (h : ExceptHandler) : Prop := ∃ p1 p2 k p3 q1 r1 r2 q5 p4, h = .ExceptHandler (some (.Tuple [.Name "ZeroDenominator" p1, .Name "EmptyHistory" p2] k p3)) (some "_law_e") [.Assign [.Name "_law_tag" q1] (.Attribute (.Name "_law_e" r1) "tag" r2) q5] p4
abbrev OutS3 (s : Stmt) : Prop := ∃ p1 p2 p3 k p4 p5, s = .Return (some (.Tuple [.Name "_law_answer" p1, .Name "_law_tag" p2, .Name "_law_field" p3] k p4)) p5
abbrev OutIs (b : List Stmt) : Prop := ∃ s1 bb h1 h2 pos s3, b = [s1, .Try [bb] [h1, h2] [] [] pos, s3] ∧ OutS1 s1 ∧ OutB bb ∧ OutH1 h1 ∧ OutH2 h2 ∧ OutS3 s3
/-- what is known of an error's class -/
def ErrK (K : PySem.W.Frag) (pe nf zd eh : Addr) (c : Str) (C : Addr) : Prop := XCls K C ∧ PySem.W.findIn K (.ref C) "tag" = some none ∧
  ((c ∈ errPN ∧ PySem.W.exmAny K (.ref C) [.ref pe, .ref nf] = some true ∧ ∀ f, selF c = some f → PySem.W.findIn K (.ref C) f = some none) ∨
    (c ∈ errZE ∧ PySem.W.exmAny K (.ref C) [.ref pe, .ref nf] = some false ∧ PySem.W.exmAny K (.ref C) [.ref zd, .ref eh] = some true))
/-- what is known of _law_outcome and what it names -/
structure OutD (K : PySem.W.Frag) (mg : Str → Option Value) where
  g : Addr
  fd : FuncData
  pars : Arguments
  body : List Stmt
  sc : Scope
  F : FunD K "_law_outcome" "_law_outcome" pars body sc [] [] g fd
  S : FnScope oN ["_law_ask"] sc
  lc : ∀ y ∈ oN, sc.names.lookup y = some .local
  gl : ∀ y ∈ (["PaceError", "NotFound", "ZeroDenominator", "EmptyHistory", "_law_error_field"] : List Str), sc.names.lookup y = some .globalImplicit
  hb : Binds K fd ["_law_ask"] []
  hm : mg "_law_outcome" = some (.ref g)
  is_ : OutIs body
  eg : Addr
  efd : FuncData
  epars : Arguments
  ebody : List Stmt
  esc : Scope
  eF : FunD K "_law_error_field" "_law_error_field" epars ebody esc [] [] eg efd
  eS : FnScope ["_law_e"] ["_law_e"] esc
  ehb : Binds K efd ["_law_e"] []
  ehm : mg "_law_error_field" = some (.ref eg)
  eis : FieldIs ebody
  pe : Addr
  nf : Addr
  zd : Addr
  eh : Addr
  mpe : mg "PaceError" = some (.ref pe)
  mnf : mg "NotFound" = some (.ref nf)
  mzd : mg "ZeroDenominator" = some (.ref zd)
  meh : mg "EmptyHistory" = some (.ref eh)
/-- the outcome of an error: its tag, its field -/
def Told (K : PySem.W.Frag) (c : Str) (C : Addr) (fs : List (Str × V)) (v : V) : Prop := if c ∈ errPN then Sel K C fs (selF c) v else v = .non
/-- what the call may raise: an error whose outcome is wished -/
def ErrW (K : PySem.W.Frag) (pe nf zd eh : Addr) (Q : VK) : XK := fun cls od H' => ∃ C dd fs c v, cls = .ref C ∧ od = some dd ∧ H' dd = some (.xd fs) ∧ fs.lookup ("tag" : Str) = some (V.str c) ∧ ErrK K pe nf zd eh c C ∧ Told K c C fs v ∧
  ∀ H2 p, Keeps H' H2 → H2 p = none → Q (.ref p) (upd H2 p (.tup [.non, .str c, v]))
def OutQ (Q : VK) : VK := fun v H' => ∀ H2 p, Keeps H' H2 → H2 p = none → Q (.ref p) (upd H2 p (.tup [v, .str "", .non]))
/-- the call of what was got -/
def tAct (f c' : Addr) (q : Str) (tl : XK → Hp → VK → Prop) (W : WX) : TE := fun σZ HZ Q => ∃ E : XK, σZ[0]? = some (some (.ref f)) ∧ HZ c' = some (LamX.CodeO c' q) ∧ (∀ cls d H', E cls d H' → W cls d σZ H') ∧ tl E HZ Q
theorem takesN0 {X : Cx} : L2N.Takes X (fun _ _ _ _ => False) := fun _ _ x => by
  obtain ⟨_, _, _, _, _, _, _, _, _, _, _, _, _, _, _, _, z⟩ := x
  exact z.elim
section
variable {X : Cx} {a : Addr} {pn : List (Addr × Obj)}
/-- the first suite: tag and field -/
def tSui (K : PySem.W.Frag) (a : Addr) (cls : Value) (d : Option Addr) : TS := fun D σ H => ∃ C dd fs c v, cls = .ref C ∧ d = some dd ∧ XCls K C ∧ PySem.W.findIn K (.ref C) "tag" = some none ∧ Here 4 a dd fs σ H ∧ fs.lookup ("tag" : Str) = some (V.str c) ∧
  Sel K C fs (selF c) v ∧ ∀ H', Keeps H H' → D.nx ((σ.set 2 (some (.str c))).set 3 (some v)) H'
def tSui2 (K : PySem.W.Frag) (a : Addr) (cls : Value) (d : Option Addr) : TS := fun D σ H => ∃ C dd fs c, cls = .ref C ∧ d = some dd ∧ XCls K C ∧ PySem.W.findIn K (.ref C) "tag" = some none ∧ Here 4 a dd fs σ H ∧ fs.lookup ("tag" : Str) = some (V.str c) ∧
  D.nx (σ.set 2 (some (.str c))) H
end
section
variable {P : Program} {w : World} {K : PySem.W.Frag} {mg : Str → Option Value} {base : Heap} {cdv : Value} {A : Around} {outer : List Env} {s : Shared} {H : Hp} {k : Nat} {CX : CXT} {E0 : XK}
abbrev oZ (D : OutD K mg) (P : Program) (w : World) (base : Heap) (CX : CXT) (cdv : Value) (A : Around) (outer : List Env) (s : Shared) (H : Hp) (E0 : XK) : Cx := cxOf CX P w K mg base oN "_law_outcome" D.sc D.g cdv A outer s H E0
theorem out_body (D : OutD K mg) {f c' : Addr} {q : Str} {tl : XK → Hp → VK → Prop} {Q : VK} (hr : Room (k + 1) (A.deeper (envOfC "_law_outcome" D.sc s.heap.objs.size D.g cdv)))
    (act : ∀ (W : WX) (pn : List (Addr × Obj)) (xe : Value → Shared → Prop), L2N.Takes ((oZ D P w base CX cdv A outer s H E0).tr pn xe) W → ∀ p1 p2, PE ((oZ D P w base CX cdv A outer s H E0).tr pn xe) (.Call (.Name "_law_ask" p1) [] [] p2) (tAct f c' q tl W))
    (hc : H c' = some (LamX.CodeO c' q)) (h : ∀ H2, Keeps H H2 → ∀ Q' : VK, (∀ v H', OutQ Q v H' → Q' v H') → tl (ErrW K D.pe D.nf D.zd D.eh Q) H2 Q') :
    ∃ t, PSs (oZ D P w base CX cdv A outer s H E0).nox D.body t ∧ t { nx := fun _ H' => Q .non H', rt := Q } (L2.start oN [.ref f]) H := by
  obtain ⟨s1, bb, h1, h2, pos, s3, hb, o1, ob, oh1, oh2, o3⟩ := D.is_
  obtain ⟨p1, p2, p3, k1, p4, j1, p5, j2, p6, j3, p7, k2, p8, p9, rfl⟩ := o1
  obtain ⟨b1, b2, b3, b4, rfl⟩ := ob
  obtain ⟨c1, c2, k3, c3, q1, q2, k4, q3, r1, r2, r3, r4, r5, k5, q4, q5, c4, rfl, hline⟩ := oh1
  obtain ⟨d1, d2, k6, d3, e1, e2, e3, e4, d4, rfl⟩ := oh2
  obtain ⟨m1, m2, m3, k7, m4, m5, rfl⟩ := o3
  rw [hb]
  have lc : ∀ y, y ∈ oN → (oZ D P w base CX cdv A outer s H E0).nox.env.scope.names.lookup y = some .local := D.lc
  have l1 := lc "_law_answer" (by simp)
  have l2 := lc "_law_tag" (by simp)
  have l3 := lc "_law_field" (by simp)
  have l4 := lc "_law_e" (by simp)
  have nd : (oZ D P w base CX cdv A outer s H E0).nox.N.Nodup := D.S.nd
  have G : ∀ y, y ∈ (["PaceError", "NotFound", "ZeroDenominator", "EmptyHistory", "_law_error_field"] : List Str) → Gl (oZ D P w base CX cdv A outer s H E0).nox y := fun y hy => D.gl y hy
  have t1 : PS (oZ D P w base CX cdv A outer s H E0).nox _ _ := ps_asg (pos := p9) (pe_tup (x1 := k2) (pos := p8) (pa_cons (pe_non (j := j1) (pos := p5)) (pa_cons (pe_str (x := "") (j := j2) (pos := p6)) (pa_cons (pe_non (j := j3) (pos := p7)) pa_nil))))
    (pg_tup (k := k1) (pos := p4) rfl (pgs_cons (pg_name (pos := p1) (i := 1) nd rfl (.inl l1)) (pgs_cons (pg_name (pos := p2) (i := 2) nd rfl (.inl l2)) (pgs_cons (pg_name (pos := p3) (i := 3) nd rfl (.inl l3)) pgs_nil)))) (by rfl) (swap_const (by rfl))
  have su1 : ∀ (a : Addr) (oe : Obj) (cls : Value) (d : Option Addr) (pn : List (Addr × Obj)), L2N.Zn cls d oe → (∃ vs, oe.data = .fields vs) → PSs ((oZ D P w base CX cdv A outer s H E0).nox.suite a ((a, oe) :: pn))
      [.Assign [.Tuple [.Name "_law_tag" q1, .Name "_law_field" q2] k4 q3] (.Tuple [.Attribute (.Name "_law_e" r1) "tag" r2, .Call (.Name "_law_error_field" r3) [.Name "_law_e" r4] [] r5] k5 q4) q5] (tSui K a cls d) := fun a oe cls d pn hz hf => by
    refine ⟨fun pins s' σ H' De I z => ?_⟩
    obtain ⟨C, dd, fs, c, v, rfl, rfl, T, ht, hh, hl, hsel, fin⟩ := z
    have W : XAt ((oZ D P w base CX cdv A outer s H E0).nox.suite a ((a, oe) :: pn)) 4 a C dd oe := ⟨List.mem_cons_self, T, hz, hf, rfl, .inl l4⟩
    have FF : FieldF ((oZ D P w base CX cdv A outer s H E0).nox.suite a ((a, oe) :: pn)) D.eg D.epars D.ebody D.esc D.efd := ⟨D.eF, D.eS, D.ehb, D.ehm, D.eis⟩
    have hot : HotIn ((oZ D P w base CX cdv A outer s H E0).nox.suite a ((a, oe) :: pn)) a oe := by
      obtain ⟨vs, hd⟩ := hf
      exact ⟨rfl, List.mem_cons_self, vs, hd, hz.2.2 vs hd⟩
    have rm : RoomH (k + 1) ((oZ D P w base CX cdv A outer s H E0).nox.suite a ((a, oe) :: pn)).A := ⟨hr.dp, hr.un⟩
    have sw : swappedStores [.Tuple [.Name "_law_tag" q1, .Name "_law_field" q2] k4 q3] (.Tuple [.Attribute (.Name "_law_e" r1) "tag" r2, .Call (.Name "_law_error_field" r3) [.Name "_law_e" r4] [] r5] k5 q4) ((oZ D P w base CX cdv A outer s H E0).nox.suite a ((a, oe) :: pn)).env = pure (some [("_law_tag" : Str), ("_law_field" : Str)]) :=
      by refine swap_two D.S.kind l2 l3 (by decide) hline ?_ ?_ ?_ <;> rfl
    refine (pss_one (ps_par_hot (pos := q5) (i := 2) (j := 3) hot nd rfl rfl (by decide) l2 l3 (pa_cons (pe_fld (fs := fs) W ht hl) (pa_cons (pe_fieldcall (p1 := r3) (p2 := r4) (p3 := r5) FF W ht hl hsel (G _ (by simp)) rm) pa_nil)) sw)).run pins s' σ H' De I ?_
    exact ⟨hh, hh, fun H2 k2 => ⟨_, _, rfl, fin H2 k2⟩⟩
  have su2 : ∀ (a : Addr) (oe : Obj) (cls : Value) (d : Option Addr) (pn : List (Addr × Obj)), L2N.Zn cls d oe → (∃ vs, oe.data = .fields vs) → PSs ((oZ D P w base CX cdv A outer s H E0).nox.suite a ((a, oe) :: pn))
      [.Assign [.Name "_law_tag" e1] (.Attribute (.Name "_law_e" e2) "tag" e3) e4] (tSui2 K a cls d) := fun a oe cls d pn hz hf => by
    refine ⟨fun pins s' σ H' De I z => ?_⟩
    obtain ⟨C, dd, fs, c, rfl, rfl, T, ht, hh, hl, fin⟩ := z
    have W : XAt ((oZ D P w base CX cdv A outer s H E0).nox.suite a ((a, oe) :: pn)) 4 a C dd oe := ⟨List.mem_cons_self, T, hz, hf, rfl, .inl l4⟩
    exact (pss_one (ps_set (X := (oZ D P w base CX cdv A outer s H E0).nox.suite a ((a, oe) :: pn)) (pos := e4) (pos' := e1) (i := 2) nd rfl (.inl l2) (pe_fld (fs := fs) (p := e2) (pos := e3) W ht hl) (by rfl) (.inr l2))).run pins s' σ H' De I ⟨hh, fin⟩
  have hs := HsOk.cons (pos := c4) (test_two (X := (oZ D P w base CX cdv A outer s H E0).nox) (p1 := c1) (p2 := c2) (k := k3) (pos := c3) ⟨G _ (by simp), by decide, D.mpe⟩ ⟨G _ (by simp), by decide, D.mnf⟩) (nm := some "_law_e") (i := some 4) ⟨rfl, l4⟩ su1
      (HsOk.cons (pos := d4) (test_two (p1 := d1) (p2 := d2) (k := k6) (pos := d3) ⟨G _ (by simp), by decide, D.mzd⟩ ⟨G _ (by simp), by decide, D.meh⟩) (nm := some "_law_e") (i := some 4) ⟨rfl, l4⟩ su2 .nil)
  have t2 := ps_try_hs (X := (oZ D P w base CX cdv A outer s H E0).nox) (pos := pos) (Wout := fun _ _ _ _ => False) (tb := fun W De σ H => tAct f c' q tl W σ H fun v H' => De.nx (σ.set 1 (some v)) H') rfl rfl nd takesN0
    (fun W pn xe tk _ => pss_one (ps_set (X := (oZ D P w base CX cdv A outer s H E0).tr pn xe) (pos := b4) (pos' := b1) (i := 1) nd rfl (.inl l1) (act W pn xe tk b2 b3) (by rfl) (.inr l1))) hs
  have t3 : PS (oZ D P w base CX cdv A outer s H E0).nox _ _ := ps_ret (pos := m5) (pe_tup (x1 := k7) (pos := m4) (pa_cons (pe_var (pos := m1) (i := 1) rfl (.inl l1) (by decide) (by decide)) (pa_cons (pe_var (pos := m2) (i := 2) rfl (.inl l2) (by decide) (by decide)) (pa_cons (pe_var (pos := m3) (i := 3) rfl (.inl l3) (by decide) (by decide)) pa_nil))))
  refine ⟨_, pss_cons t1 (pss_cons t2 (pss_one t3)), ?_⟩
  refine ⟨Nat.le_of_ble_eq_true rfl, fun p np => ⟨p, _, rfl, .inl (.inl upd_same), rfl, .non, _, rfl, .str "", _, rfl, .non, _, rfl, rfl, ?_⟩⟩
  have k0 : Keeps H (upd H p (.tup [.non, .str "", .non])) := Keeps.new np
  have tail : ∀ {x : V} {c : Str} {v : V} {H' : Hp} {o : Option V}, (∀ H2 p, Keeps H' H2 → H2 p = none → Q (.ref p) (upd H2 p (.tup [x, .str c, v]))) → tRet (tTup (tCons (tVar 1) (tCons (tVar 2) (tCons (tVar 3) tNil)))) { nx := fun _ H' => Q .non H', rt := Q } [some (.ref f), some x, some (.str c), some v, o] H' := fun hq =>
    ⟨_, rfl, _, rfl, _, rfl, Nat.le_of_ble_eq_true rfl, fun p n => hq _ p (Keeps.refl _) n⟩
  refine ⟨_, rfl, k0 _ _ hc, fun cls od H' e => ?_, h _ k0 _ fun v H' hq => tail hq⟩
  obtain ⟨C, dd, fs, c, v, rfl, rfl, hd, hl, ⟨T, ht, hk⟩, hv, fin⟩ := e
  unfold Told at hv
  rcases hk with ⟨hc1, x1, _⟩ | ⟨hc1, x1, x2⟩
  · rw [if_pos hc1] at hv
    exact ⟨true, x1, fun _ a na => ⟨C, dd, fs, c, v, rfl, rfl, T, ht, ⟨rfl, hd⟩, hl, hv, fun H2 k2 => tail fun H3 p k3 => fin H3 p (k2.trans k3)⟩, fun z => nomatch z⟩
  · have hn : c ∉ errPN := by
      unfold errZE at hc1
      simp only [List.mem_cons, List.not_mem_nil, or_false] at hc1
      rcases hc1 with rfl | rfl <;> decide
    rw [if_neg hn] at hv
    subst hv
    exact ⟨false, x1, fun z => (nomatch z), fun _ => ⟨true, x2, fun _ a na => ⟨C, dd, fs, c, rfl, rfl, T, ht, ⟨rfl, hd⟩, hl, tail fin⟩, fun z => nomatch z⟩⟩
end
end Ev

namespace Ev
open LamX L2H L2 PyProof.Rows PySem.Spec PySem

/-! ## A lambda called in frames above its maker's -/
/-- the lambda's frame; what leaves it is told with its context -/
abbrev lamY (X : Cx) (A : Around) (outer : List Env) (s : Shared) (H : Hp) (E : XK) (scope : Scope) (f c' : Addr) : Cx :=
  (lamCx X A outer s H E scope f c').wish fun e s' => wpAny (model X.prog X.w) (A.deeper (lamEnv X scope s.heap.objs.size f c')) (leaving (lamEnv X scope s.heap.objs.size f c') e) (fun _ s'' => L2N.CX X.prog X.w outer H s E e s'') (fun e' s'' => L2N.CX X.prog X.w outer H s E e' s'') s'
/-- from the maker X at (s, H) to a frame that was entered at (sg, Hg) over the frames outer -/
structure Act (X : Cx) (H : Hp) (s : Shared) (outer : List Env) (sg : Shared) (Hg : Hp) (params : Arguments) (body : Expr) (scope : Scope) (f c' : Addr) (pm ctv : Value) : Prop where
  un : Un (frs X.stack) [] H Hg s.heap sg.heap
  sub : ∀ b ∈ frs X.stack, b ∈ frs outer
  new : ∀ b ∈ frs outer, b ∉ frs X.stack → s.heap.get? b = none
  fo : sg.heap.get? f = some (PySem.W.kla_obj "<lambda>" (X.env.qual ++ "<lambda>") params body scope (cloFrom X.env.cells scope.names []) pm c' ctv)
  fn : Hg f = none
  ff : f ∉ frs outer
theorem un_up {fs fs' : List Addr} {H Hg HZ : Hp} {h hg hz : Heap} (u : Un fs [] H Hg h hg) (v : Un fs' [] Hg HZ hg hz) (sub : ∀ b ∈ fs, b ∈ fs') (new : ∀ b ∈ fs', b ∉ fs → h.get? b = none) : Un fs [] H HZ h hz where
  keep := fun b o e n hb hx => v.keep b o (u.keep b o e n hb hx) (u.free b o e n hx) (fun z => by rw [new b z hb] at e; cases e) hx
  slot := fun b o e n hb hx => by
    obtain ⟨sl, q⟩ := u.slot b o e n hb hx
    obtain ⟨sl2, q2⟩ := v.slot b _ q (u.free b o e n hx) (sub b hb) hx
    exact ⟨sl2, q2⟩
  free := fun b o e n hx => by
    obtain ⟨sl, q⟩ := u.any e n hx
    exact v.free b _ q (u.free b o e n hx) hx
  there := fun b o e hx => by
    obtain ⟨o', q⟩ := u.there b o e hx
    exact v.there b o' q hx
  tups := fun b xs e => v.tups b xs (u.tups b xs e)
  frzs := fun b o x e => v.frzs b o x (u.frzs b o x e)
  tbls := fun b ps e => by
    obtain ⟨m1, e1⟩ := u.tbls b ps e
    obtain ⟨m2, e2⟩ := v.tbls b _ e1
    exact ⟨m1 ++ m2, by rw [e2, Array.append_assoc]⟩
section
variable {X : Cx} {pins : List (Addr × Obj)} {σ : L2.St} {H : Hp} {s : Shared}
theorem pe_act2 {CXg : CXT} {Eg : XK} {Ng : List Str} {qg : Str} {scg : Scope} {g f c' : Addr} {cdg pm ctv : Value} {params : Arguments} {body : Expr} {scope : Scope} {k i : Nat} {a : Str} {pn : List (Addr × Obj)} {xe : Value → Shared → Prop} {W : WX} {A : Around} {outer : List Env} {sg : Shared} {Hg : Hp} {tb : XK → TE} {p1 p2 : Pos}
    (I : L2.Inv X pins σ H s) (L : LamS X.env.scope scope) (T : Act X H s outer sg Hg params body scope f c' pm ctv)
    (hbind : bindArgs (PySem.W.kla_fn "<lambda>" (X.env.qual ++ "<lambda>") params body scope (cloFrom X.env.cells scope.names []) pm (.ref c') ctv) ⟨[], []⟩ = pure [])
    (tk : L2N.Takes ((cxOf CXg X.prog X.w X.K X.mg X.base Ng qg scg g cdg A outer sg Hg Eg).tr pn xe) W) (hr : Room (k + 1) (A.deeper (envOfC qg scg sg.heap.objs.size g cdg)))
    (hbody : ∀ (A : Around) (outer : List Env) (s : Shared) (H : Hp) (E : XK), Room k (A.deeper (lamEnv X scope s.heap.objs.size f c')) → PE (lamY X A outer s H E scope f c') body (tb E))
    (hN : Ng[i]? = some a) (hv : Vis scg a) (hd : (a == ("__debug__" : Str)) = false) (hcd : (a == ("__classdict__" : Str)) = false) :
    PE ((cxOf CXg X.prog X.w X.K X.mg X.base Ng qg scg g cdg A outer sg Hg Eg).tr pn xe) (.Call (.Name a p1) [] [] p2)
      (fun σZ HZ Q => ∃ E : XK, σZ[i]? = some (some (.ref f)) ∧ HZ c' = some (CodeO c' (X.env.qual ++ "<lambda>")) ∧ (∀ cls d H', E cls d H' → W cls d σZ H') ∧ tb E σ HZ Q) := by
  refine ⟨fun pinsZ sZ σZ HZ Q IZ h => ?_⟩
  obtain ⟨E, hs, hc, hW, ht⟩ := h
  refine wpAny_Call_Name_kw (thn ((pe_var (pos := p1) (i := i) hN hv hd hcd).run pinsZ sZ σZ HZ (fun v H1 => v = .ref f ∧ H1 = HZ) IZ ⟨.ref f, hs, rfl, rfl⟩) fun u s1 ⟨v, H1, I1, r1, ev, eH⟩ => ?_)
  subst ev
  rw [eH] at I1
  obtain rfl : u = Value.ref f := r1
  have base1 : Un (frs outer) [] Hg HZ sg.heap s1.heap := I1.base
  have of1 := base1.keep f _ T.fo T.fn T.ff (fun z => nomatch z)
  refine PySem.W.callWith_F0 ⟨_, _, _, _, of1⟩ ?_
  have un : Un (frs X.stack) [] H HZ s.heap s1.heap := un_up T.un base1 T.sub T.new
  obtain ⟨⟨oc, vs, t, hoc, hdc, hvc⟩, _, _⟩ := I1.hok c' _ hc
  have e1 := I1.env0
  have rc : codeAny (model X.prog X.w) (A.deeper (envOfC qg scg sg.heap.objs.size g cdg)) (.call (.ref f) ⟨[], []⟩) (CR (L2N.CX X.prog X.w) (envOfC qg scg sg.heap.objs.size g cdg :: outer) X.prog X.w HZ s1 Q E) s1 := by
    refine PySem.W.kla_callFunE hr.depth of1 rfl L.co L.gen rfl ⟨c', oc, vs, t, rfl, hoc, hdc, hvc⟩ ?_
    rw [hbind]
    refine wpAny_pure (wpAny_newFunctionEnv (fun y hy => (L.own y hy).2) (fun y hy => absurd hy (by simp)) (fun h₁ hns hsb => ⟨I1.nolimit.fresh _ hsb, ?_⟩) L.kind)
    show codeAny _ _ (.expr body (lamEnv X scope s1.heap.objs.size f c')) _ _
    have kp : ∀ b o, s1.heap.get? b = some o → h₁.get? b = some o := fun b o e => hsb.extBut b o (Nat.ne_of_lt (Heap.lt_size e)) (Heap.get?_push_of_some _ e)
    have J : L2.Inv (lamY X (A.deeper (envOfC qg scg sg.heap.objs.size g cdg)) (envOfC qg scg sg.heap.objs.size g cdg :: outer) s1 HZ E scope f c') [] σ HZ { s1 with heap := h₁, toks := s1.toks + ([] : List (Str × Value)).length } :=
      (lam_start2 I L e1 hr.hd un hns kp).wish _
    refine PySem.W.kla_codeExpr (wpAny_mono ((hbody _ _ s1 HZ E (hr.deeper _)).run [] _ _ HZ Q J ht) (fun v s' hq => ?_) fun e s' hq => hq)
    obtain ⟨w', H', J', rv, q⟩ := hq
    exact ⟨w', H', J'.os, J'.bare, J'.base, J'.hok, rv, q⟩
  refine wpAny_call (codeAny_mono rc fun r s' hq => ?_)
  cases r with
  | error e => exact tk _ _ (L2N.XE.of_call I1 (fun cls d H' z => hW cls d H' z) hq)
  | ok fl =>
    cases fl with
    | ret u => exact I1.after hq
    | next => exact False.elim hq
    | brk => exact False.elim hq
    | cont => exact False.elim hq
/-- _law_outcome called with the lambda, in any frame above the maker's -/
theorem call_out (D : OutD X.K X.mg) {A : Around} {outer : List Env} {sg : Shared} {Hg : Hp} {f c' : Addr} {pm ctv : Value} {params : Arguments} {body : Expr} {scope : Scope} {k : Nat} {tb : XK → TE} {Q : VK}
    (I : L2.Inv X pins σ H s) (L : LamS X.env.scope scope) (T : Act X H s outer sg Hg params body scope f c' pm ctv)
    (hbind : bindArgs (PySem.W.kla_fn "<lambda>" (X.env.qual ++ "<lambda>") params body scope (cloFrom X.env.cells scope.names []) pm (.ref c') ctv) ⟨[], []⟩ = pure [])
    (e0 : Env0 X.prog X.w X.K X.mg X.base A outer sg Hg) (hr : Room (k + 2) A)
    (hbody : ∀ (A : Around) (outer : List Env) (s : Shared) (H : Hp) (E : XK), Room k (A.deeper (lamEnv X scope s.heap.objs.size f c')) → PE (lamY X A outer s H E scope f c') body (tb E))
    (hc : Hg c' = some (CodeO c' (X.env.qual ++ "<lambda>"))) (h : ∀ H2, Keeps Hg H2 → ∀ Q' : VK, (∀ v H', OutQ Q v H' → Q' v H') → tb (ErrW X.K D.pe D.nf D.zd D.eh Q) σ H2 Q') :
    codeAny (model X.prog X.w) A (.call (.ref D.g) ⟨[.ref f], []⟩) (CR C8.CX0 outer X.prog X.w Hg sg Q C8.E0) sg := by
  obtain ⟨oc, od, dV, kV, doc, pm2, an, cdv, ct, osl, efd, lk, hcd, _, _⟩ := D.F.ex
  have b := D.hb sg [.ref f] (e0.mod.kin.keeps fun b o e => (e0.bs b o e).1) rfl
  rw [efd] at lk b
  refine run_ofS (N := oN) (ps := ["_law_ask"]) (us := [.ref f]) (vs := [.ref f]) lk hcd D.S hr e0 b (.cons rfl .nil) rfl fun hr' => ?_
  obtain ⟨t, ht, hq⟩ := out_body (P := X.prog) (w := X.w) (base := X.base) (CX := C8.CX0) (E0 := C8.E0) (cdv := cdv) (outer := outer) (H := Hg) (Q := Q) (k := k) (tl := fun E H' Q' => tb E σ H' Q') D hr'
    (fun W pn xe tk p1 p2 => pe_act2 (i := 0) I L T hbind tk hr' hbody rfl (.inl (D.lc "_law_ask" (by simp))) (by decide) (by decide)) hc h
  exact ⟨t, ht.nox, hq⟩
end
/-- the reading of _law_outcome(lambda: ..) -/
def tOut (K : PySem.W.Frag) (mg : Str → Option Value) (D : OutD K mg) (T : List (Addr × Str)) (tb : XK → TE) : TE := fun σ H Q => Tabs T H ∧ ∀ H1, ExtN H H1 → Tabs T H1 → ∀ H2, Keeps H1 H2 → ∀ Q' : VK, (∀ v H', OutQ Q v H' → Q' v H') → tb (ErrW K D.pe D.nf D.zd D.eh Q) σ H2 Q'
section
variable {X : Cx}
/-- what a def must have that makes lambdas -/
structure LamM (X : Cx) (T : List (Addr × Str)) (c P : Addr) : Prop where
  TB : TabB X.base X.mg c P
  code : X.env.code = .ref c
  mem : (P, X.env.qual ++ "<lambda>") ∈ T
  one : ∀ p ∈ T, p.1 = P → p.2 = X.env.qual ++ "<lambda>"
theorem act_self {pins : List (Addr × Obj)} {σ : L2.St} {H : Hp} {s : Shared} {f c' : Addr} {pm ctv : Value} {params : Arguments} {body : Expr} {scope : Scope}
    (hf : s.heap.get? f = some (PySem.W.kla_obj "<lambda>" (X.env.qual ++ "<lambda>") params body scope (cloFrom X.env.cells scope.names []) pm c' ctv)) (hfn : H f = none) (hfr : f ∉ frs X.stack) : Act X H s X.stack s H params body scope f c' pm ctv :=
  ⟨Un.refl, fun _ h => h, fun b h n => absurd h n, hf, hfn, hfr⟩
theorem pe_outc (D : OutD X.K X.mg) {T : List (Addr × Str)} {c P : Addr} {k : Nat} {params : Arguments} {body : Expr} {scope : Scope} {tb : XK → TE} {p lpos pos : Pos} (hg : Gl X "_law_outcome") (M : LamM X T c P) (hr : Room (k + 2) X.A) (L : LamS X.env.scope scope) (hdef : defaultsOf params X.env = ([], []))
    (hbind : ∀ (q : Str) (cl : List (Str × Addr)) (pm cv ctv : Value), bindArgs (PySem.W.kla_fn "<lambda>" q params body scope cl pm cv ctv) ⟨[], []⟩ = pure [])
    (hbody : ∀ (A : Around) (outer : List Env) (s : Shared) (H : Hp) (E : XK) (f c' : Addr), Room k (A.deeper (lamEnv X scope s.heap.objs.size f c')) → PE (lamY X A outer s H E scope f c') body (tb E)) :
    PE X (.Call (.Name "_law_outcome" p) [.Lambda params body scope lpos] [] pos) (tOut X.K X.mg D T tb) := by
  refine ⟨fun pins s σ H Q I h => ?_⟩
  obtain ⟨hT, h⟩ := h
  refine wpAny_Call_Name_kw (ld_glob I hg D.hm ?_ (by decide))
  refine PySem.W.callWith_K (h₀ := X.base) I.ok.mod.kin D.F.kp ?_ (by rfl) (by rfl)
  show wpAny _ _ (spliced ((false, eval (.Lambda params body scope lpos) X.env) :: backTo pos (starEach [] X.env))) _ _ s
  refine Calls.spliced_cons (lam_make2 I M.TB M.code M.mem M.one hT hdef (L.has I.ok) fun f c' pm' ctv H1 s' I1 eN T1 hf hfn hfr hco => ?_)
  refine Calls.spliced_nil ⟨I1.kIn, ?_⟩
  refine wpAny_call (codeAny_mono (call_out (Q := Q) D I1 L (act_self (pins := pins) (σ := σ) hf hfn hfr) (hbind _ _ _ _ _) I1.env0 hr (fun A outer s H E => hbody A outer s H E f c') hco (h H1 eN T1)) fun r s2 hq => ?_)
  cases r with
  | error e => exact (show False from hq).elim
  | ok fl =>
    cases fl with
    | ret u => exact I1.after hq
    | next => exact False.elim hq
    | brk => exact False.elim hq
    | cont => exact False.elim hq
end
end Ev

namespace Ev
open LamX L2H L2 PyProof.Rows PySem.Spec PySem

/-! ## The law's _law_error -/
abbrev ErrIs (b : List Stmt) : Prop := ∃ p1 p2 p3 j p4 p5 p6 p7, b = [.Return (some (.Subscript (.Call (.Name "_law_outcome" p1) [.Name "_law_ask" p2] [] p3) (.Slice (some (.Constant (.int 1) j p4)) none none p5) p6)) p7]
structure ErrD (K : PySem.W.Frag) (mg : Str → Option Value) where
  g : Addr
  fd : FuncData
  pars : Arguments
  body : List Stmt
  sc : Scope
  F : FunD K "_law_error" "_law_error" pars body sc [] [] g fd
  S : FnScope ["_law_ask"] ["_law_ask"] sc
  gl : sc.names.lookup ("_law_outcome" : Str) = some NameKind.globalImplicit
  hb : Binds K fd ["_law_ask"] []
  hm : mg "_law_error" = some (.ref g)
  is_ : ErrIs body
def ErrW1 (K : PySem.W.Frag) (pe nf zd eh : Addr) (Q : VK) : XK := fun cls od H' => ∃ C dd fs c v, cls = .ref C ∧ od = some dd ∧ H' dd = some (.xd fs) ∧ fs.lookup ("tag" : Str) = some (V.str c) ∧ ErrK K pe nf zd eh c C ∧ Told K c C fs v ∧
  ∀ H2 p, Keeps H' H2 → H2 p = none → Q (.ref p) (upd H2 p (.tup [.str c, v]))
def OutQ1 (Q : VK) : VK := fun _ H' => ∀ H2 p, Keeps H' H2 → H2 p = none → Q (.ref p) (upd H2 p (.tup [.str "", .non]))
def tErr (K : PySem.W.Frag) (mg : Str → Option Value) (D : OutD K mg) (T : List (Addr × Str)) (tb : XK → TE) : TE := fun σ H Q => Tabs T H ∧ ∀ H1, ExtN H H1 → Tabs T H1 → ∀ H2, Keeps H1 H2 → ∀ (E : XK) (Q' : VK), (∀ cls od H', ErrW1 K D.pe D.nf D.zd D.eh Q cls od H' → E cls od H') → (∀ v H', OutQ1 Q v H' → Q' v H') → tb E σ H2 Q'
section
variable {X : Cx}
/-- the outcome, less its first item -/
def QSl (K : PySem.W.Frag) (Q : VK) : VK := fun w H' => rSlT K w (some 1) none H' Q
theorem qsl_of {K : PySem.W.Frag} {Q : VK} {H2 : Hp} {p : Addr} {x c v : V} (h : ∀ p', upd H2 p (.tup [x, c, v]) p' = none → Q (.ref p') (upd (upd H2 p (.tup [x, c, v])) p' (.tup [c, v]))) : QSl K Q (.ref p) (upd H2 p (.tup [x, c, v])) :=
  ⟨p, _, rfl, .inl (.inl upd_same), (by decide : ¬ (HT.sIx 3 0 (some 1) = 0 ∧ HT.sIx 3 3 none = 3)), h⟩
theorem pe_errc (D : OutD X.K X.mg) (D2 : ErrD X.K X.mg) {T : List (Addr × Str)} {c P : Addr} {k : Nat} {params : Arguments} {body : Expr} {scope : Scope} {tb : XK → TE} {p lpos pos : Pos} (hg : Gl X "_law_error") (M : LamM X T c P) (hr : Room (k + 3) X.A) (L : LamS X.env.scope scope) (hdef : defaultsOf params X.env = ([], []))
    (hbind : ∀ (q : Str) (cl : List (Str × Addr)) (pm cv ctv : Value), bindArgs (PySem.W.kla_fn "<lambda>" q params body scope cl pm cv ctv) ⟨[], []⟩ = pure [])
    (hbody : ∀ (A : Around) (outer : List Env) (s : Shared) (H : Hp) (E : XK) (f c' : Addr), Room k (A.deeper (lamEnv X scope s.heap.objs.size f c')) → PE (lamY X A outer s H E scope f c') body (tb E)) :
    PE X (.Call (.Name "_law_error" p) [.Lambda params body scope lpos] [] pos) (tErr X.K X.mg D T tb) := by
  refine ⟨fun pins s σ H Q I h => ?_⟩
  obtain ⟨hT, h⟩ := h
  obtain ⟨oc, od, dV, kV, doc, pm2, an, cdv, ct, osl, efd, lk, hcd, _, _⟩ := D2.F.ex
  refine wpAny_Call_Name_kw (ld_glob I hg D2.hm ?_ (by decide))
  refine PySem.W.callWith_K (h₀ := X.base) I.ok.mod.kin D2.F.kp ?_ (by rfl) (by rfl)
  show wpAny _ _ (spliced ((false, eval (.Lambda params body scope lpos) X.env) :: backTo pos (starEach [] X.env))) _ _ s
  refine Calls.spliced_cons (lam_make2 I M.TB M.code M.mem M.one hT hdef (L.has I.ok) fun f c' pm' ctv H1 s' I1 eN T1 hf hfn hfr hco => ?_)
  refine Calls.spliced_nil ⟨I1.kIn, ?_⟩
  have b := D2.hb s' [.ref f] I1.kIn rfl
  rw [efd] at lk b
  obtain ⟨p1, p2, p3, j, p4, p5, p6, p7, hb⟩ := D2.is_
  have rc : codeAny (model X.prog X.w) X.A (.call (.ref D2.g) ⟨[.ref f], []⟩) (CR C8.CX0 X.stack X.prog X.w H1 s' Q C8.E0) s' := by
    refine run_ofS (N := ["_law_ask"]) (ps := ["_law_ask"]) (us := [.ref f]) (vs := [.ref f]) lk hcd D2.S hr I1.env0 b (.cons rfl .nil) rfl fun hr' => ?_
    have vis : Vis D2.sc "_law_ask" := (D2.S.par "_law_ask" (by simp)).elim .inl fun q => .inr (.inl q)
    have ask : PE (cxOf C8.CX0 X.prog X.w X.K X.mg X.base ["_law_ask"] "_law_error" D2.sc D2.g cdv X.A X.stack s' H1 C8.E0).nox (.Call (.Name "_law_outcome" p1) [.Name "_law_ask" p2] [] p3)
        (fun σZ HZ Q1 => σZ[0]? = some (some (.ref f)) ∧ HZ c' = some (CodeO c' (X.env.qual ++ "<lambda>")) ∧ ∀ H2, Keeps HZ H2 → ∀ Q' : VK, (∀ v H', OutQ Q1 v H' → Q' v H') → tb (ErrW X.K D.pe D.nf D.zd D.eh Q1) σ H2 Q') := by
      refine ⟨fun pinsZ sZ σZ HZ Q1 IZ hz => ?_⟩
      refine wpAny_Call_Name_kw (ld_glob IZ D2.gl D.hm ?_ (by decide))
      refine PySem.W.callWith_K (h₀ := X.base) I.ok.mod.kin D.F.kp (thn ((pa_cons (pe_var (X := (cxOf C8.CX0 X.prog X.w X.K X.mg X.base ["_law_ask"] "_law_error" D2.sc D2.g cdv X.A X.stack s' H1 C8.E0).nox) (pos := p2) (i := 0) rfl vis (by decide) (by decide)) pa_nil).run _ pinsZ sZ σZ HZ (fun vs H2 => vs = [.ref f] ∧ H2 = HZ) IZ ⟨.ref f, hz.1, rfl, rfl⟩) fun us s1 ⟨vs, H2, I2, r, e1, e2⟩ => ⟨I2.kIn, ?_⟩) rfl rfl
      subst e1
      subst e2
      obtain rfl : us = [.ref f] := by
        cases r with
        | cons p q =>
          cases q
          cases p
          rfl
      have base1 : Un (frs X.stack) [] H1 H2 s'.heap s1.heap := I2.base
      have T2 : Act X H1 s' (envOfC "_law_error" D2.sc s'.heap.objs.size D2.g cdv :: X.stack) s1 H2 params body scope f c' pm' ctv := {
        un := base1
        sub := fun b hb => List.mem_cons_of_mem _ hb
        new := fun b hb n => by
          rcases List.mem_cons.mp (show b ∈ s'.heap.objs.size :: frs X.stack from hb) with e | e
          · rw [e]
            cases q : s'.heap.get? s'.heap.objs.size with
            | none => rfl
            | some o => exact absurd (Heap.lt_size q) (Nat.lt_irrefl _)
          · exact absurd e n
        fo := base1.keep f _ hf hfn hfr (fun z => nomatch z)
        fn := base1.free f _ hf hfn (fun z => nomatch z)
        ff := fun hm => by
          rcases List.mem_cons.mp (show f ∈ s'.heap.objs.size :: frs X.stack from hm) with e | e
          · rw [e] at hf
            exact absurd (Heap.lt_size hf) (Nat.lt_irrefl _)
          · exact hfr e }
      refine wpAny_call (codeAny_mono (call_out (k := k) (Q := Q1) (A := X.A.deeper (envOfC "_law_error" D2.sc s'.heap.objs.size D2.g cdv)) D I1 L T2 (hbind _ _ _ _ _) I2.env0 hr' (fun A outer s H E => hbody A outer s H E f c') hz.2.1 hz.2.2) fun r s2 hq => ?_)
      cases r with
      | error e => exact (show False from hq).elim
      | ok fl =>
        cases fl with
        | ret u => exact I2.after hq
        | next => exact False.elim hq
        | brk => exact False.elim hq
        | cont => exact False.elim hq
    rw [hb]
    refine ⟨_, (pss_one (ps_ret (pos := p7) (pe_slice (pos := p6) (p2 := p5) (X := (cxOf C8.CX0 X.prog X.w X.K X.mg X.base ["_law_ask"] "_law_error" D2.sc D2.g cdv X.A X.stack s' H1 C8.E0).nox) sl_tup ask (po_some (pe_int (i := 1) (j := j) (pos := p4))) po_none))).nox, ?_⟩
    refine ⟨rfl, hco, fun H2 k2 Q' hq' => h H1 eN T1 H2 k2 _ Q' (fun cls od H' e => ?_) fun v H' ok => hq' v H' fun H3 p k3 n => ?_⟩
    · obtain ⟨C, dd, fs, c1, v, e1, e2, e3, e4, e5, e6, fin⟩ := e
      exact ⟨C, dd, fs, c1, v, e1, e2, e3, e4, e5, e6, fun H3 p k3 n => ⟨1, rfl, qsl_of fun p' n' => fin _ p' (k3.trans (Keeps.new n)) n'⟩⟩
    · exact ⟨1, rfl, qsl_of fun p' n' => ok _ p' (k3.trans (Keeps.new n)) n'⟩
  refine wpAny_call (codeAny_mono rc fun r s2 hq => ?_)
  cases r with
  | error e => exact (show False from hq).elim
  | ok fl =>
    cases fl with
    | ret u => exact I1.after hq
    | next => exact False.elim hq
    | brk => exact False.elim hq
    | cont => exact False.elim hq
end
end Ev

namespace Ev
open L2 PyProof.Rows PySem.Spec PySem
/-! ## enumerate over a tuple -/
theorem meets_enum1 {v : Value} {o : Obj} {H : Heap → Prop} (B : Begins v o H) :
    Meets (Builtin.«enumerate.__new__» ⟨[.type "enumerate", v], []⟩) (fun _ R s => H s.heap ∧
      R (.ok (.ret (.ref (s.heap.push o).objs.size))) { s with heap := (s.heap.push o).push { cls := .type "enumerate", data := .fields #[.none, .bool false, .ref s.heap.objs.size, rawInt 0, .none, .none] } }) :=
  .of_wp fun prog w A R s h => by
    obtain ⟨hp, g, d, tk, os⟩ := s; obtain ⟨h1, h⟩ := h
    have hsub := sub_enumerate
    have q1 : ∀ {A' : Around} {E : Value → Shared → Prop} {Q : Value → Shared → Prop}, Q (.ref hp.objs.size) ⟨hp.push o, g, d, tk, os⟩ → wpAny (model prog w) A' (pyIter v) Q E ⟨hp, g, d, tk, os⟩ :=
      fun q => B.iter prog w _ _ ⟨hp, g, d, tk, os⟩ _ h1 q
    wp_walk using q1
    refine wpAny_stack_any fun st => wpAny_pure ?_
    split
    · rename_i c _ _ _ _ _
      cases (c == Value.type "enumerate")
      · wp_walk using q1
        exact ⟨_, rfl, h⟩
      · wp_walk using q1
        exact ⟨_, rfl, h⟩
    · wp_walk using q1
      exact ⟨_, rfl, h⟩
section
variable {prog : Program} {w : World} {A : Around} {E : Value → Shared → Prop} {s : Shared}
theorem enum_one {v : Value} {o : Obj} {H : Heap → Prop} {Q : Value → Shared → Prop} (B : Begins v o H) (h1 : H s.heap)
    (h : ∀ h', IsEnum h' (s.heap.objs.size + 1) s.heap.objs.size 0 .none → h'.get? s.heap.objs.size = some o → h'.objs.size = s.heap.objs.size + 2 →
      (∀ b o, s.heap.get? b = some o → h'.get? b = some o) → Q (.ref (s.heap.objs.size + 1)) { s with heap := h' }) :
    wpAny (model prog w) A (call (.type "enumerate") [v]) Q E s := by
  refine callType_new F.called_enumerate (by decide) (F.typeCall_enumerate_1 _) (F.newCall_enumerate_1 _) (fun obj => F.args_object_init_2 obj _) F.entry_enumerate_new
    (meets_enum1 B) ⟨h1, ?_⟩
  have hz : (s.heap.push o).objs.size = s.heap.objs.size + 1 := Heap.size_push ..
  show _ ∧ _
  rw [hz]
  have he : IsEnum ((s.heap.push o).push { cls := .type "enumerate", data := .fields #[.none, .bool false, .ref s.heap.objs.size, rawInt 0, .none, .none] }) (s.heap.objs.size + 1) s.heap.objs.size 0 .none := by
    have := Heap.get?_push_size (s.heap.push o) (o := { cls := .type "enumerate", data := .fields #[.none, .bool false, .ref s.heap.objs.size, rawInt 0, .none, .none] }) rfl
    rw [hz] at this; exact this
  exact ⟨⟨_, he, rfl⟩, h _ he (Heap.get?_push_of_some _ (Heap.get?_push_size _ B.free)) (by rw [Heap.size_push, hz]) fun b o x => Heap.get?_push_of_some _ (Heap.get?_push_of_some _ x)⟩
end
section
variable {prog : Program} {w : World} {A : Around} {E : Value → Shared → Prop} {s : Shared}
theorem pyNext_enumT_end {e it a : Addr} {k : Int} {i : Nat} {items : Array Value} {old : Value} {Q : Option Value → Shared → Prop} (hh : A.handled = none)
    (he : IsEnum s.heap e it k old) (hit : s.heap.IsTupleIter it a i) (ht : s.heap.IsTuple a items) (hx : items[i]? = none)
    (hQ : ∀ h', Heap.ExtBut it s.heap h' → Q none { s with heap := h' }) : wpAny (model prog w) A (pyNext (.ref e)) Q E s := by
  have hT : s.TypeIs (.ref e) "enumerate" := ⟨_, he, rfl⟩
  unfold pyNext
  refine wpAny_bind (wpAny_attempt (wpAny_callSpecial?_slot (name := Str.ofString "__next__") hT F.slot_enumerate_next
    (wpAny_call_entry F.slot_enumerate_next hT F.entry_enumerate_next ?_ (F.args_enumerate_next_1 _))))
  show wpAny _ _ (field (.ref e) 2 >>= _) _ _ _
  refine wpAny_bind (wpAny_field he rfl (x := .ref it) rfl ?_)
  refine wpAny_bind (wpAny_nextOf_tuple_end (show A.in1.handled = none from hh) hit ht hx fun h' x he' hx' => ?_)
  obtain ⟨o, ho, hc⟩ := hx'
  refine wpAny_bind (wpAny_isInstance (T := "StopIteration") (b := true) ⟨o, ho, hc⟩ isSubtype_stop ?_)
  exact wpAny_pure (hQ _ he')
end
/-- the tuple at a as it stands at each turn, each item in a new pair -/
def IteT (K : PySem.W.Frag) (a : Addr) : It :=
  ⟨fun i H => ∃ (xs : List V) (x : V), SqT K H a xs ∧ xs[i]? = some x, fun i H v H' => ∃ T x, v = .ref T ∧ H T = none ∧ H' = upd H T (.tup [.int (i : Nat), x]) ∧ ∀ xs, SqT K H a xs → xs[i]? = some x, fun i H => ∃ xs : List V, SqT K H a xs ∧ xs.length ≤ i⟩
theorem turn_enumT {P : Program} {w : World} {K : PySem.W.Frag} {elts : List Expr} {kk : Nat} {tpos : Pos} (a e it : Addr) :
    Turn P w K (.Tuple elts kk tpos) (IteT K a) [e, it] e (fun i h => (∃ old, IsEnum h e it ((i : Nat) : Int) old) ∧ h.IsTupleIter it a i ∧ e ≠ it ∧ a ≠ it ∧ e ≠ a) where
  mem := by simp
  obj := fun i h st b hb => by
    obtain ⟨⟨old, he⟩, ⟨o, ho, hc, hd⟩, _⟩ := st
    have e' : b = e ∨ b = it := by simpa using hb
    rcases e' with z | z
    · rw [z]; exact ⟨_, he, fun v q => nomatch q⟩
    · rw [z]; exact ⟨o, ho, fun v q => by rw [hd] at q; cases q⟩
  keep := fun i h h' st k => let ⟨⟨old, he⟩, hi, hne⟩ := st; ⟨⟨old, k e (by simp) _ he⟩, hi.at fun o q => k it (by simp) o q, hne⟩
  item := by
    intro X hP hw hK hc i pins s σ H E I hf st hg
    subst hP hw hK
    obtain ⟨⟨old, he⟩, hit, hne, hai, hea⟩ := st
    obtain ⟨xs, x, hq, hx⟩ := hg
    obtain ⟨its, rv, p, hz⟩ := I.tuple hq
    obtain ⟨u, hu, ru⟩ := rv.get hx
    have hel : e < s.heap.objs.size := Heap.lt_size he
    have hil : it < s.heap.objs.size := by obtain ⟨_, q, _⟩ := hit; exact Heap.lt_size q
    have pt : s.heap.IsTuple a its.toArray := p
    have hi : i < its.toArray.size := by
      have := (List.getElem?_eq_some_iff.mp hu).1
      simpa using this
    refine wpAny_pyNext_enum_itemD (Draws.tuple (show X.A.in1.handled = none from I.ok.hd hc) it a hai its.toArray) he ⟨hit, pt⟩ hi hne (by simp [hne, hea]) fun u' h' tk hu' ho st' hT hsz hk => ?_
    obtain ⟨hit', pt'⟩ := st'
    have eu : u' = u := by
      have h1 : its.toArray[i]? = some u := by simpa using hu
      rw [h1] at hu'
      exact (Option.some.inj hu').symm
    subst eu
    refine ⟨_, rfl, wpAny_letOwnedTupleGo_enum (s := { s with heap := h', toks := tk + 1 }) ho fun h'' he' sb => ?_⟩
    have hT2 : h''.get? s.heap.objs.size = some { cls := .type "tuple", data := .seq #[.int i tk, u'] } := (sb.2 _ (Nat.ne_of_gt hel)).trans hT
    have new : ObjOk X.prog X.w (upd H s.heap.objs.size (.tup [.int (i : Nat), x])) h'' s.heap.objs.size (.tup [.int (i : Nat), x]) :=
      ⟨by show 2 ≤ sizeLine; decide, [.int i tk, u'], .cons ⟨_, rfl⟩ (.cons ru .nil), ⟨_, hT2, rfl, _, rfl⟩⟩
    have I1 : Inv X pins σ (upd H s.heap.objs.size (.tup [.int (i : Nat), x])) { s with heap := h'', toks := tk + 1 } :=
      I.turnedNew (ch := [e, it]) (fun b ob hb q => (sb.2 b (fun z => hb (by simp [z]))).trans (hk b ob (fun z => hb (by simp [z])) (fun z => hb (by simp [z])) q)) hf (Nat.le_refl _) new
    refine ⟨.ref s.heap.objs.size, _, I1, rfl, ⟨_, x, rfl, I.hok.fresh (Nat.le_refl _), rfl, fun ys hy => by rw [I.tuple_inj hy hq]; exact hx⟩, ⟨⟨u', ?_⟩, hit'.at fun o q => (sb.2 it (Ne.symm hne)).trans q, hne, hai, hea⟩, fun b hb => ?_⟩
    · have e1 : ((i + 1 : Nat) : Int) = (i : Int) + 1 := by omega
      rw [e1]; exact he'
    · have hb' : b < s.heap.objs.size := by
        have e' : b = e ∨ b = it := by simpa using hb
        rcases e' with z | z
        · rw [z]; exact hel
        · rw [z]; exact hil
      rw [upd_ne (Nat.ne_of_lt hb')]
      exact (hf b hb).1
  done := by
    intro X hP hw hK hc i pins s σ H E I hf st hg
    subst hP hw hK
    obtain ⟨⟨old, he⟩, hit, hne, hai, hea⟩ := st
    obtain ⟨xs, hq, hx⟩ := hg
    obtain ⟨its, rv, p, hz⟩ := I.tuple hq
    obtain ⟨f0, f1, f2, f3, f4, f5⟩ := hf it (by simp)
    have hl := rv.length
    have pt : s.heap.IsTuple a its.toArray := p
    exact pyNext_enumT_end (I.ok.hd hc) he hit pt (by simp; omega) fun h' eb => ⟨rfl, I.turned (t' := s.toks) (fun b o hb q => eb b o hb q) f0 f1 f3 f4 f5⟩
  self := fun A i s Q E st h => let ⟨⟨_, he⟩, _⟩ := st; wpAny_pyIter_enum he h
def iEnumA (K : PySem.W.Frag) (ta : TA) : TI := fun σ H R => ta σ H fun vs H1 => ∃ a xs, vs = [.ref a] ∧ ((SqL K H1 a xs ∧ R (Ite K a) H1) ∨ (SqT K H1 a xs ∧ R (IteT K a) H1))
theorem pi_enumA {X : Cx} {e : Expr} {ta : TA} {p pos tpos : Pos} {elts : List Expr} {kk : Nat} (hg : Gl X "enumerate") (hm : X.mg "enumerate" = none) (ha : PA X [e] ta) (hs : starEach [e] X.env = [(false, eval e X.env)] := by rfl) :
    PI X (.Tuple elts kk tpos) (.Call (.Name "enumerate" p) [e] [] pos) (iEnumA X.K ta) := by
  refine ⟨fun pins s σ H R I h => ?_⟩
  refine Call_ (ld_blt I hg hm boot_enumerate (PyProof.Rows.callWith_type1 (thn (ha.run pos pins s σ H _ I h) fun us s1 ⟨vs, H1, I1, r1, q1⟩ => ?_) hs rfl))
  obtain ⟨a, xs, ex, q1⟩ := q1
  subst ex
  cases r1 with
  | cons r rr =>
    cases rr
    cases r
    have fp : ∀ b, b ∈ [s1.heap.objs.size + 1, s1.heap.objs.size] → FpOk X pins H1 b := fun b hb => by
      have e' : b = s1.heap.objs.size + 1 ∨ b = s1.heap.objs.size := by simpa using hb
      have hle : s1.heap.objs.size ≤ b := by
        rcases e' with z | z
        · rw [z]; exact Nat.le_add_right _ _
        · rw [z]; exact Nat.le_refl _
      exact I1.fpOk hle (I1.hok.fresh hle)
    rcases q1 with ⟨hq, q⟩ | ⟨hq, q⟩
    · obtain ⟨its, rv, p', hz⟩ := I1.list hq
      refine call_enumerate_list p'.isList fun h' he hit hsz hk => wpAny_pyIter_enum he ?_
      have I2 : Inv X pins σ H1 { s1 with heap := h' } := I1.kept (t' := s1.toks) hk
      exact ⟨s1.heap.objs.size + 1, [s1.heap.objs.size + 1, s1.heap.objs.size], _, _, H1, rfl, I2, turn_enum a (s1.heap.objs.size + 1) s1.heap.objs.size, ⟨⟨.none, he⟩, hit, Nat.succ_ne_self _⟩, fp, q⟩
    · obtain ⟨its, rv, p', hz⟩ := I1.tuple hq
      have pt : s1.heap.IsTuple a its.toArray := p'
      obtain ⟨o1, ho1, _⟩ := id pt
      have hlt := Heap.lt_size ho1
      refine enum_one (begins_tuple a its.toArray) pt fun h' he hit hsz hk => wpAny_pyIter_enum he ?_
      have I2 : Inv X pins σ H1 { s1 with heap := h' } := I1.kept (t' := s1.toks) hk
      exact ⟨s1.heap.objs.size + 1, [s1.heap.objs.size + 1, s1.heap.objs.size], _, _, H1, rfl, I2, turn_enumT a (s1.heap.objs.size + 1) s1.heap.objs.size, ⟨⟨.none, he⟩, ⟨_, hit, rfl, rfl⟩, Nat.succ_ne_self _, Nat.ne_of_lt hlt, Nat.ne_of_gt (Nat.lt_succ_of_lt hlt)⟩, fp, q⟩
end Ev

namespace Ev
open LamX L2H L2 PyProof.Rows PySem.Spec PySem

/-! ## A lambda with one parameter, called by a built-in -/
structure LamS1 (sc scope : Scope) (x : Str) : Prop where
  kind : scope.kind = .function
  co : scope.isCoroutine = false
  gen : scope.isGenerator = false
  cel : ∀ y ∈ scope.names, y.2 ≠ .cell
  par : scope.names.lookup x = some .local
  own : ∀ y ∈ scope.names, y.2 = .local → y.1 = x
  free : ∀ y ∈ scope.names, y.2 = .free → sc.names.lookup y.1 = some .cell ∨ sc.names.lookup y.1 = some .free
def lamS1B (sc scope : Scope) (x : Str) : Bool :=
  decide (scope.kind = .function) && !scope.isCoroutine && !scope.isGenerator && decide (scope.names.lookup x = some .local) && scope.names.all fun y => !decide (y.2 = .cell) && (!decide (y.2 = .local) || decide (y.1 = x)) && (!decide (y.2 = .free) || decide (sc.names.lookup y.1 = some .cell) || decide (sc.names.lookup y.1 = some .free))
theorem lamS1_by {sc scope : Scope} {x : Str} (h : lamS1B sc scope x = true) : LamS1 sc scope x := by
  unfold lamS1B at h
  simp only [Bool.and_eq_true, Bool.or_eq_true, Bool.not_eq_true', decide_eq_true_eq, decide_eq_false_iff_not, List.all_eq_true] at h
  obtain ⟨⟨⟨⟨h1, h2⟩, h3⟩, h4⟩, h5⟩ := h
  refine ⟨h1, h2, h3, fun y hy => (h5 y hy).1.1, h4, fun y hy e => ?_, fun y hy e => ?_⟩
  · rcases (h5 y hy).1.2 with z | z
    · exact absurd e z
    · exact z
  · rcases (h5 y hy).2 with (z | z) | z
    · exact absurd e z
    · exact .inl z
    · exact .inr z
theorem LamS1.has {X : Cx} {scope : Scope} {x : Str} (L : LamS1 X.env.scope scope x) (ok : X.Ok) : ∀ y ∈ scope.names, y.2 = .free → ∃ c, X.env.cells.lookup y.1 = some c := fun y hy e => by
  rcases L.free y hy e with k | k
  · exact ok.has _ (.inl k)
  · exact ok.has _ (.inr k)
section
variable {X : Cx} {pins : List (Addr × Obj)} {σ : L2.St} {H HZ : Hp} {s s1 : Shared}
theorem lam_start1 {A : Around} {outer : List Env} {E : XK} {scope : Scope} {f c' : Addr} {h₁ : Heap} {tk i : Nat} {x : Str} {u : Value} {v : V} (I : L2.Inv X pins σ H s) (L : LamS1 X.env.scope scope x) (hN : X.N.Nodup) (hi : X.N[i]? = some x) (e0 : Env0 X.prog X.w X.K X.mg X.base A outer s1 HZ) (hd : A.handled = none)
    (un : Un (frs X.stack) [] H HZ s.heap s1.heap) (rv : L2.RelV v u) (hns : h₁.Ns s1.heap.objs.size fun y => ([(x, u)] : List (Str × Value)).reverse.lookup y) (kp : ∀ b o, s1.heap.get? b = some o → h₁.get? b = some o) :
    L2.Inv (lamCx X A outer s1 HZ E scope f c') [] (σ.set i (some v)) HZ { s1 with heap := h₁, toks := tk } := by
  have hfree := L.has I.ok
  have cm : ∀ {y c}, (cloFrom X.env.cells scope.names []).lookup y = some c → X.env.cells.lookup y = some c := fun {y c} e => by
    rcases cloFrom_mem (PySem.mem_of_lookup e) with hm | ⟨h1, h2⟩
    · cases hm
    · obtain ⟨c1, hc⟩ := hfree _ h1 rfl
      have hc : X.env.cells.lookup y = some c1 := hc
      have e2 : c = c1 := by
        rw [h2, hc] <;> rfl
      rw [e2]
      exact hc
  have look : ∀ {y}, scope.names.lookup y = some .free → ∃ c, (cloFrom X.env.cells scope.names []).lookup y = some c := fun {y} hl => by
    have hy : (y, NameKind.free) ∈ scope.names := PySem.mem_of_lookup hl
    exact mem_lookup (cloFrom_has (cells := X.env.cells) (acc := []) hy)
  have cellK : ∀ {c : Addr} {v : Option Value}, H c = none → s.heap.IsCell c v → h₁.IsCell c v := fun {c v} n ⟨o, ho, hd⟩ => by
    obtain ⟨sl, q⟩ := un.any ho n (by simp)
    exact ⟨_, kp _ _ q, hd⟩
  have noA : ∀ b : Addr, b ∉ (lamCx X A outer s1 HZ E scope f c').ex := fun b z => absurd (show b ∈ ([] : List Addr) from z) (by simp)
  refine ⟨⟨e0.mod, L.kind, rfl, rfl, Nat.le_refl _, fun y z c e1 e2 => I.ok.inj y z c (cm e1) (cm e2), fun y hy => ?_, fun y c z _ => ?_, fun _ => hd, Around.frames_deeper e0.frames, .inr ⟨rfl, rfl⟩, fun b z => absurd z (noA b), e0.bs, e0.bsz, fun b _ _ => noA b,
      fun b z => absurd z (noA b), e0.funs, e0.frf⟩,
    rfl, e0.bare, Un.kept kp, ⟨_, hns, fun j y w e1 e2 e3 => ?_⟩, fun y c e => ?_, e0.hok.fresh (Nat.le_refl _), fun y c e => ?_, fun q hq => absurd (show q ∈ ([] : List (Addr × Obj)) ++ [] from hq) (by simp), e0.hok.kept kp, by rw [List.length_set]; exact I.len⟩
  · have hy : scope.names.lookup y = some .cell ∨ scope.names.lookup y = some .free := hy
    rcases hy with hy | hy
    · exact absurd rfl (L.cel _ (PySem.mem_of_lookup hy))
    · exact look hy
  · have z : false = true := z
    cases z
  · have e3 : Vis scope y := e3
    have e1 : X.N[j]? = some y := e1
    rcases e3 with k | k | k
    · have hyx : y = x := L.own _ (PySem.mem_of_lookup k) rfl
      subst hyx
      have hij : i = j := by
        have a1 := List.getElem?_eq_some_iff.mp hi
        have a2 := List.getElem?_eq_some_iff.mp e1
        obtain ⟨l1, q1⟩ := a1
        obtain ⟨l2, q2⟩ := a2
        exact (List.getElem_inj hN).mp (q1.trans q2.symm)
      subst hij
      have hl : i < σ.length := by
        rw [I.len]
        exact (List.getElem?_eq_some_iff.mp hi).1
      rw [List.getElem?_set_self hl] at e2
      cases e2
      refine ⟨u, rv, .inl ⟨k, ?_⟩⟩
      show ([(y, u)] : List (Str × Value)).lookup y = some u
      rw [List.lookup_cons_self]
    · exact absurd rfl (L.cel _ (PySem.mem_of_lookup k))
    · have hne : i ≠ j := fun z => by
        subst z
        rw [hi] at e1
        cases e1
        rw [L.par] at k
        cases k
      rw [List.getElem?_set_ne hne] at e2
      obtain ⟨m, hn, hl⟩ := I.loc
      have hvis : Vis X.env.scope y := (L.free _ (PySem.mem_of_lookup k) rfl).elim (fun k => .inr (.inl k)) (fun k => .inr (.inr k))
      obtain ⟨w', r, q⟩ := hl j y w e1 e2 hvis
      obtain ⟨c2, h2⟩ := look k
      refine ⟨w', r, .inr ⟨.inr k, c2, h2, ?_⟩⟩
      have c1 := cm h2
      rcases q with ⟨k', _⟩ | ⟨_, c3, e', z⟩
      · have k' : X.env.scope.names.lookup y = some .local := k'
        rcases L.free _ (PySem.mem_of_lookup k) rfl with k2 | k2 <;> rw [show X.env.scope.names.lookup y = _ from k2] at k' <;> cases k'
      · rw [c1] at e'
        cases e'
        exact cellK (I.freeC y _ c1) z
  · obtain ⟨w', z⟩ := I.cell y c (cm e)
    exact ⟨w', cellK (I.freeC y c (cm e)) z⟩
  · obtain ⟨v, o, ho, hd⟩ := I.cell y c (cm e)
    exact un.free c o ho (I.freeC y c (cm e)) (by simp)
/-- a call of the lambda, from frames outer -/
theorem lam_call1 {A : Around} {outer : List Env} {f c' : Addr} {pm ctv : Value} {params : Arguments} {body : Expr} {scope : Scope} {k i : Nat} {x : Str} {u : Value} {v : V} {tb : XK → TE} {E : XK} {Q : VK}
    (I : L2.Inv X pins σ H s) (L : LamS1 X.env.scope scope x) (hN : X.N.Nodup) (hi : X.N[i]? = some x) (e1 : Env0 X.prog X.w X.K X.mg X.base A outer s1 HZ) (un : Un (frs X.stack) [] H HZ s.heap s1.heap)
    (of1 : s1.heap.get? f = some (PySem.W.kla_obj "<lambda>" (X.env.qual ++ "<lambda>") params body scope (cloFrom X.env.cells scope.names []) pm c' ctv)) (lim : s1.heap.NoLimit)
    (hbind : bindArgs (PySem.W.kla_fn "<lambda>" (X.env.qual ++ "<lambda>") params body scope (cloFrom X.env.cells scope.names []) pm (.ref c') ctv) ⟨[u], []⟩ = pure [(x, u)])
    (hr : Room (k + 1) A) (rv : L2.RelV v u) (hc : HZ c' = some (CodeO c' (X.env.qual ++ "<lambda>")))
    (hbody : ∀ (A : Around) (outer : List Env) (s : Shared) (H : Hp) (E : XK), Room k (A.deeper (lamEnv X scope s.heap.objs.size f c')) → PE (lamY X A outer s H E scope f c') body (tb E))
    (ht : tb E (σ.set i (some v)) HZ Q) :
    codeAny (model X.prog X.w) A (.call (.ref f) ⟨[u], []⟩) (CR (L2N.CX X.prog X.w) outer X.prog X.w HZ s1 Q E) s1 := by
  obtain ⟨⟨oc, vs, t, hoc, hdc, hvc⟩, _, _⟩ := e1.hok c' _ hc
  refine PySem.W.kla_callFunE hr.depth of1 rfl L.co L.gen rfl ⟨c', oc, vs, t, rfl, hoc, hdc, hvc⟩ ?_
  rw [hbind]
  refine wpAny_pure (wpAny_newFunctionEnv (fun y hy => L.cel y hy) (fun y hy => ?_) (fun h₁ hns hsb => ⟨lim.fresh _ hsb, ?_⟩) L.kind)
  · have : y = (x, u) := by simpa using hy
    subst this
    exact L.par
  show codeAny _ _ (.expr body (lamEnv X scope s1.heap.objs.size f c')) _ _
  have kp : ∀ b o, s1.heap.get? b = some o → h₁.get? b = some o := fun b o e => hsb.extBut b o (Nat.ne_of_lt (Heap.lt_size e)) (Heap.get?_push_of_some _ e)
  have J : L2.Inv (lamY X A outer s1 HZ E scope f c') [] (σ.set i (some v)) HZ { s1 with heap := h₁, toks := s1.toks + ([(x, u)] : List (Str × Value)).length } :=
    (lam_start1 I L hN hi e1 hr.hd un rv hns kp).wish _
  refine PySem.W.kla_codeExpr (wpAny_mono ((hbody _ _ s1 HZ E (hr.deeper _)).run [] _ _ HZ Q J ht) (fun v s' hq => ?_) fun e s' hq => hq)
  obtain ⟨w', H', J', rv, q⟩ := hq
  exact ⟨w', H', J'.os, J'.bare, J'.base, J'.hok, rv, q⟩
end
end Ev

namespace Ev
open PySem.W LamX L2H L2 PyProof.Rows PySem.Spec PySem

section
variable {prog : Program} {w : World} {A : Around} {P : PySem.Fin → Shared → Prop} {E : Value → Shared → Prop}
/-- the loop of key=, told by a word of the state -/
theorem keyJ_rest {a kS : Addr} {f : Value} {b : Bool} {e1 : Nat} {vs : List Value} {s : Shared} (J : Nat → Array Value → Shared → Prop) (h0 : J 0 #[] s)
    (at_ : ∀ i kA s', J i kA s' → kA.size = i ∧ ∃ e, s'.heap.get? kS = some (seqObj "list" kA e)) (hZ : vs.length ≤ sizeLine)
    (turn : ∀ i v kA s', vs[i]? = some v → J i kA s' → wpAny (model prog w) A (call f [v]) (fun u s'' => (∃ e, s''.heap.get? kS = some (seqObj "list" kA e)) ∧ J (i + 1) (kA.push u) { s'' with heap := s''.heap.update kS (Obj.mapSeq (·.push u)) }) (fun _ _ => False) s')
    (fin : ∀ kA s', J vs.length kA s' → wpAny (model prog w) A (ksk_end a b vs.toArray e1 (.ref kS) kA) P E s') :
    wpAny (model prog w) A (ksk_rest a f b vs.toArray e1 (.ref kS)) P E s := by
  unfold ksk_rest
  refine wpAny_bind (wpAny_rule ?_)
  first
    | rw [List.forIn_toArray]
    | (rw [← Array.forIn_toList]; simp only [List.toList_toArray])
    | rw [← Array.forIn_toList]
  refine wpAny_bind (ksk_fold (fun i s' => ∃ kA, J i kA s') vs 0 s ⟨#[], h0⟩ ?step ?done)
  case step =>
    rintro j x s' hx ⟨kA, hJ⟩
    simp only [Nat.zero_add] at hJ ⊢
    have hj : j < vs.length := (List.getElem?_eq_some_iff.mp hx).1
    have hz : kA.size ≤ vs.length := by rw [(at_ _ _ _ hJ).1]; omega
    refine wpAny_bind (wpAny_attempt (wpAny_mono (turn j x kA s' hx hJ) (fun v s'' he => ?_) fun _ _ hF => hF.elim))
    obtain ⟨⟨e, nk⟩, hJ2⟩ := he
    try dsimp only
    refine wpAny_bind (listUpdate_at nk rfl ?_ (Nat.le_trans hz hZ) (Nat.le_trans (Nat.le_of_eq (Array.size_push ..)) (Nat.succ_le_succ (Nat.le_trans hz hZ))))
    exact wpAny_pure ⟨rfl, _, hJ2⟩
  case done =>
    rintro s' ⟨kA, hJ⟩
    rw [Nat.zero_add] at hJ
    obtain ⟨_, e, nk⟩ := at_ _ _ _ hJ
    try dsimp only
    refine wpAny_bind (listItems_at nk rfl ?_)
    exact fin kA s' hJ
end
theorem each_zip {xs : List V} {its : List Value} (r : Vals xs its) : ∀ {kz : List PyData}, kz.length = xs.length → EachIs (fun u (p : V × PyData) => L2.RelV p.1 u) its (xs.zip kz) := by
  induction r with
  | nil => intro kz h; exact .nil
  | cons h _ ih =>
    intro kz hl
    cases kz with
    | nil => simp at hl
    | cons k kz => exact .cons h (ih (by simpa using hl))
theorem each_vals {out : List Value} {ps : List (V × PyData)} (h : EachIs (fun u (p : V × PyData) => L2.RelV p.1 u) out ps) : Vals (ps.map Prod.fst) out := by
  induction h with
  | nil => exact .nil
  | cons h _ ih => exact .cons h ih
theorem each_reads {X : Cx} {pins : List (Addr × Obj)} {σ : L2.St} {H : Hp} {s : Shared} (I : L2.Inv X pins σ H s) : ∀ {kvs : List V} {us : List Value} {kz : List PyData}, DpAll X.K H kvs kz → Vals kvs us → EachIs (fun v d => ∃ as, Reads s.heap v d as) us kz
  | [], _, _, h, r => by
    cases h
    cases r
    exact .nil
  | kv :: kvs, _, _, h, r => by
    cases h with
    | cons h1 h2 => cases r with
      | cons r1 r2 => exact .cons (Dp.reads I _ _ _ h1 r1) (each_reads I h2 r2)
theorem dpAll_len {K : PySem.W.Frag} {H : Hp} : ∀ {vs : List V} {ds : List PyData}, DpAll K H vs ds → ds.length = vs.length
  | [], _, h => by cases h; rfl
  | _ :: _, _, h => by
    cases h with
    | cons _ h2 => simp [dpAll_len h2]
end Ev

namespace Ev
open PySem.W LamX L2H L2 PyProof.Rows PySem.Spec PySem

section
variable {X : Cx} {pins : List (Addr × Obj)} {σ : L2.St} {H : Hp} {s : Shared}
/-- sorted(xs, key=lambda x: ..) once both are there -/
theorem sort_run {l f c' : Addr} {pm ctv : Value} {params : Arguments} {body : Expr} {scope : Scope} {k i : Nat} {x : Str} {xs : List V} {tb : XK → TE} {Q : VK}
    (I : L2.Inv X pins σ H s) (L : LamS1 X.env.scope scope x) (hN : X.N.Nodup) (hi : X.N[i]? = some x) (hs : X.stack = X.env :: X.outer) (hr : Room (k + 3) X.A) (hl : SqL X.K H l xs)
    (hf : s.heap.get? f = some (PySem.W.kla_obj "<lambda>" (X.env.qual ++ "<lambda>") params body scope (cloFrom X.env.cells scope.names []) pm c' ctv)) (hfn : H f = none) (hfr : f ∉ frs X.stack)
    (hbind : ∀ u : Value, bindArgs (PySem.W.kla_fn "<lambda>" (X.env.qual ++ "<lambda>") params body scope (cloFrom X.env.cells scope.names []) pm (.ref c') ctv) ⟨[u], []⟩ = pure [(x, u)])
    (hbody : ∀ (A : Around) (outer : List Env) (s : Shared) (H : Hp) (E : XK), Room k (A.deeper (lamEnv X scope s.heap.objs.size f c')) → PE (lamY X A outer s H E scope f c') body (tb E))
    (W : Nat → List V → Hp → Prop) (w0 : W 0 [] H) (wc : ∀ j kvs H', W j kvs H' → H' c' = some (CodeO c' (X.env.qual ++ "<lambda>")))
    (step : ∀ j kvs H' v, xs[j]? = some v → W j kvs H' → tb (fun _ _ _ => False) (σ.set i (some v)) H' (fun kv H2 => W (j + 1) (kvs ++ [kv]) H2))
    (done : ∀ kvs Hn, W xs.length kvs Hn → kvs.length = xs.length → ∃ kz : List PyData, DpAll X.K Hn kvs kz ∧ AllAlike kz ∧ Sortable kz ∧ (∀ d ∈ kz, d.depth ≤ 64) ∧ ∀ p, Hn p = none → Q (.ref p) (upd Hn p (.lst (((xs.zip kz).mergeSort (dataLe false Prod.snd)).map Prod.fst)))) :
    wpAny (model X.prog X.w) X.A (call (.builtin "sorted") [.ref l] [(Str.ofString "key", .ref f)]) (EP X pins σ Q) X.xe s := by
  obtain ⟨its, rv, PL, hz⟩ := I.list hl
  have hz' : its.length ≤ sizeLine := by rw [← rv.length]; exact hz
  refine sorted_of_sort PL.isList hz' (ksk_s1 _ _) (fun y => ksk_l1 (.ref y) _) fun E' => ?_
  rw [ksk_t1]
  have hoa : (copyHeap s.heap its).get? (s.heap.objs.size + 1) = some (seqObj "list" its.toArray 0) := copyHeap_at s.heap its
  have old : ∀ b o, s.heap.get? b = some o → (copyHeap s.heap its).get? b = some o := fun b o e => copyHeap_old e
  generalize copyHeap s.heap its = hc at hoa old ⊢
  obtain ⟨a, ea⟩ : ∃ a, a = s.heap.objs.size + 1 := ⟨_, rfl⟩
  rw [← ea] at hoa ⊢
  have sa : s.heap.objs.size ≤ a := by omega
  have ha : a < hc.objs.size := Heap.lt_size hoa
  obtain ⟨e1, ho1⟩ : ∃ e1, (hc.update a (Obj.mapSeq fun _ => (#[] : Array Value))).get? a = some (seqObj "list" #[] e1) := ⟨_, get?_update_seq hoa fun _ => #[]⟩
  have hkS : ((hc.update a (Obj.mapSeq fun _ => (#[] : Array Value))).push (seqObj "tuple" its.toArray 0)).objs.size = hc.objs.size + 1 := by rw [size_push', Heap.size_update]
  unfold ksk_tree
  refine wpAny_bind (listItems_at hoa rfl ?_)
  refine wpAny_bind (listUpdate_at hoa rfl ?_ (by rw [List.size_toArray]; exact hz') (Nat.zero_le _))
  refine wpAny_bind (seqEpoch_at ho1 rfl ?_)
  refine wpAny_bind (wpAny_newTuple ?_ (by show its.length ≤ _; exact hz'))
  refine wpAny_bind (wpAny_newList ?_ (Nat.zero_le _))
  refine wpAny_holding ?_
  have u1 := Heap.SameBut.update hc a (Obj.mapSeq fun _ => (#[] : Array Value))
  have kp : ∀ b o, b ≠ a → hc.get? b = some o → (((hc.update a (Obj.mapSeq fun _ => (#[] : Array Value))).push (seqObj "tuple" its.toArray 0)).push (seqObj "list" #[] 0)).get? b = some o := fun b o hb e =>
    Heap.get?_push_of_some _ (Heap.get?_push_of_some _ ((u1.2 b hb).trans e))
  have na : (((hc.update a (Obj.mapSeq fun _ => (#[] : Array Value))).push (seqObj "tuple" its.toArray 0)).push (seqObj "list" #[] 0)).get? a = some (seqObj "list" #[] e1) := Heap.get?_push_of_some _ (Heap.get?_push_of_some _ ho1)
  obtain ⟨kS, ek⟩ : ∃ kS, kS = ((hc.update a (Obj.mapSeq fun _ => (#[] : Array Value))).push (seqObj "tuple" its.toArray 0)).objs.size := ⟨_, rfl⟩
  have nk : (((hc.update a (Obj.mapSeq fun _ => (#[] : Array Value))).push (seqObj "tuple" its.toArray 0)).push (seqObj "list" #[] 0)).get? kS = some (seqObj "list" #[] 0) := by
    rw [ek]
    exact Heap.get?_push_size _ rfl
  rw [← ek]
  have sk : s.heap.objs.size ≤ kS := by omega
  have nak : a ≠ kS := by omega
  generalize (((hc.update a (Obj.mapSeq fun _ => (#[] : Array Value))).push (seqObj "tuple" its.toArray 0)).push (seqObj "list" #[] 0)) = h2 at kp na nk ⊢
  have nfk : f ≠ kS := Nat.ne_of_lt (Nat.lt_of_lt_of_le (Heap.lt_size hf) sk)
  have nfa : f ≠ a := Nat.ne_of_lt (Nat.lt_of_lt_of_le (Heap.lt_size hf) sa)
  have Ha : H a = none := I.hok.fresh sa
  have Hk : H kS = none := I.hok.fresh sk
  have pa : ∀ {H' : Hp}, H' a = none → FpOk X pins H' a := fun h => I.fpOk sa h
  have pk : ∀ {H' : Hp}, H' kS = none → FpOk X pins H' kS := fun h => I.fpOk sk h
  have nL : f ≠ X.env.locals := fun z => by
    obtain ⟨m, hn, _⟩ := I.loc
    obtain ⟨o, es, ep, ho, r⟩ := hn
    rw [← z, hf] at ho
    cases ho
    exact nomatch r.1
  have nF : f ∉ X.fs := fun hm => by
    obtain ⟨e, he, q⟩ := List.mem_filterMap.mp hm
    exact hfr (List.mem_filterMap.mpr ⟨e, by rw [hs]; exact List.mem_cons_of_mem _ he, q⟩)
  obtain ⟨fo, hfo, fob, fox⟩ : ∃ fo, s.heap.get? f = some fo ∧ fo = PySem.W.kla_obj "<lambda>" (X.env.qual ++ "<lambda>") params body scope (cloFrom X.env.cells scope.names []) pm c' ctv ∧ ∀ v, fo.data ≠ .cell v := ⟨_, hf, rfl, fun v z => by cases z⟩
  have I1 : L2.Inv X pins σ H { s with heap := hc } := I.kept (t' := s.toks) old
  have I2 : L2.Inv X pins σ H { s with heap := h2 } := Inv.turnedL (s := { s with heap := hc }) (t' := s.toks) (ch := [a]) I1 (fun b o hb e => kp b o (fun z => hb (by simp [z])) e) (fun b hb => by
    have : b = a := by simpa using hb
    subst this
    exact pa Ha)
  have pinA : ∀ {H' : Hp} {s' : Shared} {pl : List (Addr × Obj)}, L2.Inv X pl σ H' s' → (∀ p ∈ pins, p ∈ pl) → s'.heap.get? f = some fo → H' f = none → s'.heap.get? a = some (seqObj "list" #[] e1) → H' a = none → L2.Inv X (pins ++ [(f, fo), (a, seqObj "list" #[] e1)]) σ H' s' := fun {H' s' pl} J sub h1 h2 h3 h4 => J.pins_of fun p hp => by
    rcases List.mem_append.mp hp with z | z
    · exact J.pin p (List.mem_append_right _ (sub p z))
    · simp only [List.mem_cons, List.not_mem_nil, or_false] at z
      rcases z with rfl | rfl
      · exact ⟨h1, h2, nL, nF, fox⟩
      · have q := pa h4
        exact ⟨h3, h4, q.2.1, q.2.2.1, fun v z => by cases z⟩
  have pinK : ∀ {H' : Hp} {s' : Shared} {kA : Array Value} {e : Nat}, L2.Inv X (pins ++ [(f, fo), (a, seqObj "list" #[] e1)]) σ H' s' → s'.heap.get? kS = some (seqObj "list" kA e) → H' kS = none → L2.Inv X ((pins ++ [(f, fo), (a, seqObj "list" #[] e1)]) ++ [(kS, seqObj "list" kA e)]) σ H' s' := fun {H' s' kA e} J h3 h4 => J.pins_of fun p hp => by
    rcases List.mem_append.mp hp with z | z
    · exact J.pin p (List.mem_append_right _ z)
    · simp only [List.mem_cons, List.not_mem_nil, or_false] at z
      subst z
      have q := pk h4
      exact ⟨h3, h4, q.2.1, q.2.2.1, fun v z => by cases z⟩
  have pinsM : ∀ {q : Addr × Obj}, q = (f, fo) ∨ q = (a, seqObj "list" #[] e1) → q ∈ X.pn ++ (pins ++ [(f, fo), (a, seqObj "list" #[] e1)]) := fun h => List.mem_append_right _ (List.mem_append_right _ (by rcases h with rfl | rfl <;> simp))
  refine keyJ_rest (fun j kA s' => kA.size = j ∧ (∃ e, s'.heap.get? kS = some (seqObj "list" kA e)) ∧ ∃ H' kvs, L2.Inv X (pins ++ [(f, fo), (a, seqObj "list" #[] e1)]) σ H' s' ∧ H' kS = none ∧ Vals kvs kA.toList ∧ W j kvs H')
    ⟨rfl, ⟨_, nk⟩, H, [], pinA I2 (fun _ h => h) (kp f fo nfa (old f fo hfo)) hfn na Ha, Hk, .nil, w0⟩ (fun j kA s' h => ⟨h.1, h.2.1⟩) hz' ?turn ?fin
  case turn =>
    rintro j u kA s' hu ⟨hsz, ⟨e, nk⟩, H', kvs, J, hk, rk, hw⟩
    obtain ⟨v, hv, rvv⟩ : ∃ v, xs[j]? = some v ∧ L2.RelV v u := by
      have hj : j < its.length := (List.getElem?_eq_some_iff.mp hu).1
      obtain ⟨v, hv⟩ : ∃ v, xs[j]? = some v := ⟨_, List.getElem?_eq_getElem (by rw [rv.length]; exact hj)⟩
      obtain ⟨u', hu', r⟩ := rv.get hv
      rw [hu] at hu'
      cases hu'
      exact ⟨v, hv, r⟩
    have J2 := pinK J nk hk
    have of1 := (J.pin _ (pinsM (.inl rfl))).1
    have e0 : Env0 X.prog X.w X.K X.mg X.base X.A.in1.in1 X.stack s' H' := J2.env0.in1.in1
    have r2 : Room (k + 1) X.A.in1.in1 := (hr.in1).in1
    have rc := lam_call1 (params := params) (body := body) (tb := tb) (E := fun _ _ _ => False) J2 L hN hi e0 Un.refl (by rw [← fob]; exact of1) J2.nolimit (hbind u) r2 rvv (wc _ _ _ hw) hbody (step j kvs H' v hv hw)
    refine wpAny_call (codeAny_mono rc fun r s2 hq => ?_)
    cases r with
    | error er =>
      obtain ⟨b, B, sI, H2, cls, d, hb, hq⟩ : ∃ (b : Addr) (B : Heap) (sI : Shared) (H2 : Hp) (cls : Value) (d : Option Addr), True ∧ False := by
        first
          | exact hq.elim
          | (obtain ⟨_, _, _, _, _, _, _, _, _, _, _, _, _, _, _, z⟩ := hq; exact z.elim)
          | (obtain ⟨_, _, _, _, _, _, _, _, _, _, _, _, _, _, z⟩ := hq; exact z.elim)
          | (obtain ⟨_, _, _, _, _, _, _, _, _, _, _, _, _, z⟩ := hq; exact z.elim)
          | (obtain ⟨_, _, _, _, _, _, _, _, _, _, _, _, z⟩ := hq; exact z.elim)
      exact hq.elim
    | ok fl =>
      cases fl with
      | ret w =>
        obtain ⟨kv, H3, J3, r3, q3⟩ := J2.after hq
        have nk3 := (J3.pin (kS, seqObj "list" kA e) (List.mem_append_right _ (List.mem_append_right _ (by simp)))).1
        have hk3 := (J3.pin (kS, seqObj "list" kA e) (List.mem_append_right _ (List.mem_append_right _ (by simp)))).2.1
        have J4 : L2.Inv X (pins ++ [(f, fo), (a, seqObj "list" #[] e1)]) σ H3 s2 := J3.unpinned
        have s1 := Heap.SameBut.update s2.heap kS (Obj.mapSeq (·.push w))
        obtain ⟨c2, hc2⟩ : ∃ c2, (s2.heap.update kS (Obj.mapSeq (·.push w))).get? kS = some (seqObj "list" (kA.push w) c2) := ⟨_, get?_update_seq nk3 (·.push w)⟩
        refine ⟨⟨_, nk3⟩, by rw [Array.size_push, hsz], ⟨_, hc2⟩, H3, kvs ++ [kv], ?_, hk3, ?_, q3⟩
        · refine Inv.turnedL (t' := s2.toks) (ch := [kS]) J4 (fun b o hb z => (s1.2 b (fun y => hb (by simp [y]))).trans z) fun b hb => ?_
          have : b = kS := by simpa using hb
          subst this
          have q := pk (H' := H3) hk3
          refine ⟨q.1, q.2.1, q.2.2.1, q.2.2.2.1, q.2.2.2.2.1, fun p hp z => ?_⟩
          rcases List.mem_append.mp hp with y | y
          · exact q.2.2.2.2.2 p (List.mem_append_left _ y) z
          · rcases List.mem_append.mp y with y | y
            · exact q.2.2.2.2.2 p (List.mem_append_right _ y) z
            · simp only [List.mem_cons, List.not_mem_nil, or_false] at y
              rcases y with rfl | rfl
              · exact nfk z
              · exact nak z
        · rw [Array.toList_push]
          exact rk.append (.cons r3 .nil)
      | next => exact False.elim hq
      | brk => exact False.elim hq
      | cont => exact False.elim hq
  case fin =>
    rintro kA s' ⟨hsz, ⟨e, nk⟩, H', kvs, J, hk, rk, hw⟩
    have hkl : kvs.length = xs.length := by
      have q := rk.length
      have q2 := rv.length
      have q3 : kA.toList.length = kA.size := Array.length_toList ..
      omega
    have hsz2 : kA.size = its.length := hsz
    rw [← rv.length] at hw
    obtain ⟨kz, d1, d2, d3, d4, d5⟩ := done kvs H' hw hkl
    have er := each_reads J d1 rk
    have na' := (J.pin _ (pinsM (.inr rfl))).1
    have Ha' := (J.pin _ (pinsM (.inr rfl))).2.1
    have J5 : L2.Inv X pins σ H' s' := J.unpinned
    have SA := SortsAt.data (prog := X.prog) (w := X.w) (A := X.A.in1.in1) (s := s') er d2 d3 (fun d hd => by
      have q := hr.un
      have q2 := d4 d hd
      show X.A.units + 1 + 1 + _ < _
      omega)
    refine keyH_end (h₁ := s'.heap.hide kS) (κ := dataKind s'.heap kz) ?kb ?kn nk na' (Ne.symm nak) SA hsz2 hz' fun h' tk c K5 n5 => ⟨rfl, ?_⟩
    case kb => exact fun b o hb z => Heap.of_hide z
    case kn => exact Heap.hide_self _ _
    have ko : KeyedOut false kz its (sortVals (dataKind s'.heap kz) false kA.toList its) := ⟨s'.heap, kA.toList, d2, rfl, er⟩
    have kl : kz.length = xs.length := by rw [dpAll_len d1, hkl]
    have ez := each_zip rv kl
    have em : (xs.zip kz).map Prod.snd = kz := by
      rw [List.map_snd_zip]
      omega
    rw [← em] at ko
    have eo := each_vals (keyedOut_each (Prod.snd : V × PyData → PyData) ko ez)
    rw [em] at eo
    have lo : (((xs.zip kz).mergeSort (dataLe false Prod.snd)).map Prod.fst).length ≤ sizeLine := by
      rw [List.length_map, List.length_mergeSort, List.length_zip]
      omega
    have k6 : ∀ b o, b ∉ [kS, a] → s'.heap.get? b = some o → h'.get? b = some o := fun b o hb z => by
      simp only [List.mem_cons, List.not_mem_nil, or_false, not_or] at hb
      exact K5 b o hb.2 (by rw [Heap.hide_ne _ hb.1]; exact z)
    have J6 : L2.Inv X pins σ H' { s' with heap := h', toks := tk } := Inv.turnedL (ch := [kS, a]) J5 k6 fun b hb => by
      simp only [List.mem_cons, List.not_mem_nil, or_false] at hb
      rcases hb with rfl | rfl
      · exact pk hk
      · exact pa Ha'
    have J7 : L2.Inv X pins σ (upd H' a (.lst (((xs.zip kz).mergeSort (dataLe false Prod.snd)).map Prod.fst))) { s' with heap := h', toks := tk } := Inv.take (s := { s' with heap := h', toks := tk }) (t' := tk) J6 (fun _ _ _ z => z) (pa Ha')
      ⟨lo, _, _, eo, n5⟩
    exact ⟨.ref a, _, J7, rfl, d5 a Ha'⟩
end
end Ev

namespace Ev
open PySem.W LamX L2H L2 PyProof.Rows PySem.Spec PySem

theorem sqL_extN {K : PySem.W.Frag} {H H' : Hp} {a : Addr} {xs : List V} (h : SqL K H a xs) (e : ExtN H H') : SqL K H' a xs := by
  rcases h with (h | ⟨o, h⟩) | h
  · exact .inl (.inl (e _ _ h (by intro _ z; cases z)))
  · exact .inl (.inr ⟨o, e _ _ h (by intro _ z; cases z)⟩)
  · exact .inr h
/-- what is asked once the list is there -/
def rSort (K : PySem.W.Frag) (T : List (Addr × Str)) (q : Str) (i : Nat) (tb : XK → TE) (Q : VK) (σ : L2.St) (x : V) (H1 : Hp) : Prop := ∃ l xs, x = .ref l ∧ SqL K H1 l xs ∧ Tabs T H1 ∧ ∀ H2 c', ExtN H1 H2 → Tabs T H2 → H2 c' = some (CodeO c' q) →
  ∃ W : Nat → List V → Hp → Prop, W 0 [] H2 ∧ (∀ j kvs H', W j kvs H' → H' c' = some (CodeO c' q)) ∧ (∀ j kvs H' v, xs[j]? = some v → W j kvs H' → tb (fun _ _ _ => False) (σ.set i (some v)) H' (fun kv H3 => W (j + 1) (kvs ++ [kv]) H3)) ∧
    (∀ kvs Hn, W xs.length kvs Hn → kvs.length = xs.length → ∃ kz : List PyData, DpAll K Hn kvs kz ∧ AllAlike kz ∧ Sortable kz ∧ (∀ d ∈ kz, d.depth ≤ 64) ∧ ∀ p, Hn p = none → Q (.ref p) (upd Hn p (.lst (((xs.zip kz).mergeSort (dataLe false Prod.snd)).map Prod.fst))))
/-- the reading of sorted(y, key=lambda x: ..) -/
def tSort (K : PySem.W.Frag) (T : List (Addr × Str)) (q : Str) (i : Nat) (ta : TE) (tb : XK → TE) : TE := fun σ H Q => ta σ H fun x H1 => rSort K T q i tb Q σ x H1
/-- one parameter -/
def onePar (x : Str) : Arguments → Bool
  | ⟨[], [a], none, [], [], none, []⟩ => decide (a.arg = x)
  | _ => false
theorem onePar_def {X : Cx} {x : Str} {params : Arguments} (h : onePar x params = true) : defaultsOf params X.env = ([], []) := by
  unfold onePar at h
  split at h
  · rfl
  · cases h
theorem bind_one0 {a : Arg} {body : Expr} {scope : Scope} (q : Str) (cl : List (Str × Addr)) (pm cv ctv u : Value) : bindArgs (PySem.W.kla_fn "<lambda>" q ⟨[], [a], none, [], [], none, []⟩ body scope cl pm cv ctv) ⟨[u], []⟩ = pure [(a.arg, u)] := by
  obtain ⟨x, an, ps⟩ := a
  unfold bindArgs PySem.W.kla_fn
  simp [List.lookup_cons_self, seqItems?]
  rfl
theorem bind_one {x : Str} {params : Arguments} {body : Expr} {scope : Scope} (h : onePar x params = true) (q : Str) (cl : List (Str × Addr)) (pm cv ctv u : Value) : bindArgs (PySem.W.kla_fn "<lambda>" q params body scope cl pm cv ctv) ⟨[u], []⟩ = pure [(x, u)] := by
  unfold onePar at h
  split at h
  · rename_i a
    rw [← of_decide_eq_true h]
    exact bind_one0 q cl pm cv ctv u
  · cases h
section
variable {X : Cx}
theorem pe_sortk {T : List (Addr × Str)} {c P : Addr} {k i : Nat} {x : Str} {params : Arguments} {y body : Expr} {scope : Scope} {ta : TE} {tb : XK → TE} {p lpos kpos pos : Pos} (hg : Gl X "sorted") (hm : X.mg "sorted" = none) (M : LamM X T c P) (hr : Room (k + 3) X.A) (L : LamS1 X.env.scope scope x)
    (hN : X.N.Nodup) (hi : X.N[i]? = some x) (hs : X.stack = X.env :: X.outer) (hp : onePar x params = true) (ha : PE X y ta) (hst : starEach [y] X.env = [(false, eval y X.env)])
    (hbody : ∀ (A : Around) (outer : List Env) (s : Shared) (H : Hp) (E : XK) (f c' : Addr), Room k (A.deeper (lamEnv X scope s.heap.objs.size f c')) → PE (lamY X A outer s H E scope f c') body (tb E)) :
    PE X (.Call (.Name "sorted" p) [y] [⟨some "key", .Lambda params body scope lpos, kpos⟩] pos) (tSort X.K T (X.env.qual ++ "<lambda>") i ta tb) := by
  refine ⟨fun pins s σ H Q I h => ?_⟩
  have hA : PA X [y] (tCons ta tNil) := pa_cons ha pa_nil (by rw [hst]; rfl)
  refine wpAny_Call_Name_kw (ld_blt I hg hm PyProof.Rows.boot_sorted ?_ (by decide) (by decide))
  refine PyProof.Rows.callWith_kw (thn (hA.run pos pins s σ H (fun vs H1 => match vs with
    | [v] => rSort X.K T (X.env.qual ++ "<lambda>") i tb Q σ v H1
    | _ => False) I h) fun us s1 hq => ?_) (by rw [hst]; rfl) (by rw [hst]; rfl) (by rfl) (by rfl)
  · obtain ⟨vs, H1, I1, r1, hw⟩ := hq
    match vs, hw with
    | [v], hw =>
    obtain ⟨l, xs, rfl, hl, hT, hw⟩ := hw
    obtain ⟨u, rfl, ru⟩ : ∃ u, us = [u] ∧ L2.RelV (.ref l) u := by
      cases r1 with
      | cons r0 rn => cases rn; exact ⟨_, rfl, r0⟩
    obtain rfl : u = Value.ref l := ru
    show wpAny _ _ (evalAll [do let v ← eval (.Lambda params body scope lpos) X.env; standAt pos; pure v]) _ _ s1
    refine wpAny_evalAll_cons (wpAny_bind (lam_make2 I1 M.TB M.code M.mem M.one hT (onePar_def hp) (L.has I.ok) fun f c' pm' ctv H2 s2 I2 eN T2 hf hfn hfr hco => wpAny_bind (wpAny_standAt (wpAny_pure (wpAny_evalAll_nil ?_)))))
    obtain ⟨W, w1, w2, w3, w4⟩ := hw H2 c' eN T2 hco
    exact sort_run I2 L hN hi hs hr (sqL_extN hl eN) hf hfn hfr (fun u => bind_one hp _ _ _ _ _ u) (fun A outer s H E => hbody A outer s H E f c') W w1 w2 w3 w4
end
end Ev

namespace Ev
open PySem.W LamX L2H L2 PyProof.Rows PySem.Spec PySem

/-! ## Dicts whose keys are tuples, nested -/
def entN (w : World) (x : NestedKey × Addr × Value) : DictEntry := ⟨x.1.hash w, .ref x.2.1, x.2.2⟩
def DTo (w : World) (a : Addr) (xs : List (NestedKey × Addr × Value)) : HO := .ext fun h => (a == sysModules) = false ∧ xs.length ≤ sizeLine ∧
  ∃ o es ep, h.get? a = some o ∧ o.ExactDict ∧ o.data = .dict es ep ∧ es.toList = xs.map (entN w) ∧ (xs.map (·.1)).Nodup
mutual
/-- the value is the key -/
inductive KeyV (K : PySem.W.Frag) (H : Hp) : NestedKey → V → Prop
  | non : KeyV K H .none .non
  | bl (b : Bool) : KeyV K H (.num (if b = true then 1 else 0)) (.bl b)
  | int (i : Int) : KeyV K H (.num i) (.int i)
  | str (x : Str) : KeyV K H (.text x) (.str x)
  | tup {a : Addr} {vs : List V} {ks : List NestedKey} : SqT K H a vs → KeysV K H ks vs → KeyV K H (.tup ks) (.ref a)
inductive KeysV (K : PySem.W.Frag) (H : Hp) : List NestedKey → List V → Prop
  | nil : KeysV K H [] []
  | cons {k : NestedKey} {v : V} {ks : List NestedKey} {vs : List V} : KeyV K H k v → KeysV K H ks vs → KeysV K H (k :: ks) (v :: vs)
end
section
variable {X : Cx} {pins : List (Addr × Obj)} {σ : L2.St} {H : Hp} {s : Shared}
mutual
theorem keyV_is (I : L2.Inv X pins σ H s) : ∀ (k : NestedKey) (v : V) (u : Value), KeyV X.K H k v → L2.RelV v u → NestedIs s.heap k u
  | .none, v, u, h, r => by
    cases h
    cases r
    exact .none
  | .num i, v, u, h, r => by
    cases h with
    | bl b => cases r; exact .bool rfl
    | int _ => obtain ⟨t, rfl⟩ := r; exact .int _ _
  | .text x, v, u, h, r => by
    cases h
    obtain ⟨t, rfl⟩ := r
    exact .text _ _
  | .tup ks, v, u, h, r => by
    cases h with
    | tup h1 h2 =>
      obtain rfl : u = Value.ref _ := r
      obtain ⟨its, rv, ⟨o, e1, e2, n, e3⟩, _⟩ := I.tuple h1
      exact .tup e1 e2 e3 (by rw [List.toList_toArray]; exact keysV_is I ks _ its h2 rv)
theorem keysV_is (I : L2.Inv X pins σ H s) : ∀ (ks : List NestedKey) (vs : List V) (us : List Value), KeysV X.K H ks vs → Vals vs us → NestedAll s.heap ks us
  | [], vs, us, h, r => by
    cases h
    cases r
    exact .nil
  | k :: ks, vs, us, h, r => by
    cases h with
    | cons h1 h2 => cases r with
      | cons r1 r2 => exact .cons (keyV_is I k _ _ h1 r1) (keysV_is I ks _ _ h2 r2)
end
theorem nk_room {A : Around} {P : Program} {w : World} (hu : A.units + 16 < cLine) : (nestedKind P w).room A.in1 := by
  show A.units + 1 + 8 < cLine
  omega
theorem nk_is (I : L2.Inv X pins σ H s) {k : NestedKey} {b : Addr} (h : KeyV X.K H k (.ref b)) (hd : k.depth ≤ 8) : (nestedKind X.prog X.w).is s.heap k b := ⟨keyV_is I _ _ _ h rfl, hd⟩
/-- the dict at a -/
structure DIs (w : World) (K : PySem.W.Frag) (H : Hp) (a : Addr) (xs : List (NestedKey × Addr × Value)) : Prop where
  at_ : H a = some (DTo w a xs)
  keys : ∀ x ∈ xs, KeyV K H x.1 (.ref x.2.1) ∧ x.1.depth ≤ 8
theorem dIs_of (I : L2.Inv X pins σ H s) {a : Addr} {xs : List (NestedKey × Addr × Value)} (d : DIs X.w X.K H a xs) : (a == sysModules) = false ∧ xs.length ≤ sizeLine ∧ s.heap.DictOfH (nestedKind X.prog X.w) a xs := by
  obtain ⟨⟨h1, h2, o, es, ep, h3, h4, h5, h6, h7⟩, _, _⟩ := I.hok a _ d.at_
  refine ⟨h1, h2, o, es, ep, h3, h4, h5, h6, fun x hx => ?_, h7⟩
  have q := d.keys x hx
  exact ⟨keyV_is I _ _ _ q.1 rfl, q.2⟩
theorem dTo_ok {P : Program} {w : World} {H : Hp} {h : Heap} {a : Addr} {xs : List (NestedKey × Addr × Value)} (h1 : (a == sysModules) = false) (h2 : xs.length ≤ sizeLine) (d : h.DictOfH (nestedKind P w) a xs) : ObjOk P w H h a (DTo w a xs) := by
  obtain ⟨o, es, ep, h3, h4, h5, h6, _, h7⟩ := d
  refine ⟨⟨h1, h2, o, es, ep, h3, h4, h5, h6, h7⟩, ⟨o, h3⟩, fun g1 g2 q k => ?_⟩
  obtain ⟨q1, q2, o', es', ep', q3, q4⟩ := q
  exact ⟨q1, q2, o', es', ep', k _ q3, q4⟩
/-- {} -/
def tDN (w : World) : TE := fun _ H Q => ∀ p, H p = none → Q (.ref p) (upd H p (DTo w p []))
theorem pe_dn {pos : Pos} : PE X (.Dict [] [] pos) (tDN X.w) := ⟨fun pins s σ H Q I h =>
  wpAny_Dict_empty ⟨.ref s.heap.objs.size, _, I.laid (a := s.heap.objs.size) (o := DTo X.w s.heap.objs.size []) (t' := s.toks) (fun _ _ q => Heap.get?_push_of_some _ q) (Nat.le_refl _)
    (dTo_ok (beq_eq_false_iff_ne.mpr (Ne.symm (Nat.ne_of_lt I.big))) (Nat.zero_le _) ⟨_, #[], 0, Heap.get?_push_size _ rfl, ⟨rfl, rfl, rfl⟩, rfl, rfl, fun x hx => absurd hx (by simp), List.nodup_nil⟩), rfl, h _ (I.hok.fresh (Nat.le_refl _))⟩⟩
/-- d[k], there -/
def rDG (w : World) (K : PySem.W.Frag) (x y : V) (H : Hp) (Q : VK) : Prop := ∃ a xs k b p v, x = .ref a ∧ DIs w K H a xs ∧ y = .ref b ∧ KeyV K H k y ∧ k.depth ≤ 8 ∧ atKey xs k = some p ∧ L2.RelV v p.2 ∧ Q v H
theorem typeIs_of {P : Program} {w : World} {a : Addr} {xs : List (NestedKey × Addr × Value)} (d : s.heap.DictOfH (nestedKind P w) a xs) : s.TypeIs (.ref a) "dict" := d.typeIs
variable {o i value : Expr} {td ty tv : TE} {pos pos' : Pos}
theorem pe_dg (hu : X.A.units + 16 < cLine) (ho : PE X o td) (hi : PE X i ty) (hs : NoSl i) : PE X (.Subscript o i pos) (fun σ H Q => td σ H fun x H1 => ty σ H1 fun y H2 => rDG X.w X.K x y H2 Q) := by
  refine ⟨fun pins s σ H Q I h => ?_⟩
  refine subD_of PySem.F.slot_dict_getitem.lookup hs (thn (ho.run pins s σ H _ I h) fun u s1 ⟨x, H1, I1, rx, q1⟩ => thn (hi.run pins s1 σ H1 _ I1 q1) fun iv s2 ⟨y, H2, I2, ry, a, xs, k, b, p, v, ex, d, ey, hk, hd, hp, rv, q2⟩ => ?_)
  subst ex ey
  obtain rfl : u = Value.ref a := rx
  obtain rfl : iv = Value.ref b := ry
  obtain ⟨_, _, dd⟩ := dIs_of I2 d
  refine ⟨dd.typeIs, wpAny_getItem_heap (knd := nestedKind X.prog X.w) (nk_room hu) (nk_is I2 hk hd) dd hp ?_⟩
  exact ⟨v, H2, I2.tok _, rv, q2⟩
/-- k in d, k not in d -/
def rDI (neg : Bool) (w : World) (K : PySem.W.Frag) (y x : V) (H : Hp) (Q : VK) : Prop := ∃ a xs k b, x = .ref a ∧ DIs w K H a xs ∧ y = .ref b ∧ KeyV K H k y ∧ k.depth ≤ 8 ∧ Q (.bl (if neg then !(atKey xs k).isSome else (atKey xs k).isSome)) H
theorem pc_dI (hu : X.A.units + 16 < cLine) (hi : PE X i ty) (ho : PE X o td) : PC X .In i o (fun σ H Q => ty σ H fun y H1 => td σ H1 fun x H2 => rDI false X.w X.K y x H2 Q) := by
  refine ⟨fun pins s σ H Q I h => ?_⟩
  refine thn (hi.run pins s σ H _ I h) fun iv s1 ⟨y, H1, I1, ry, q1⟩ => thn (ho.run pins s1 σ H1 _ I1 q1) fun u s2 ⟨x, H2, I2, rx, a, xs, k, b, ex, d, ey, hk, hd, q2⟩ => ?_
  subst ex ey
  obtain rfl : u = Value.ref a := rx
  obtain rfl : iv = Value.ref b := ry
  obtain ⟨n1, _, dd⟩ := dIs_of I2 d
  exact wpAny_in_heap (knd := nestedKind X.prog X.w) (nk_room hu) (nk_is I2 hk hd) n1 dd ⟨.bl _, H2, I2.tok _, rfl, q2⟩
theorem pc_dNI (hu : X.A.units + 16 < cLine) (hi : PE X i ty) (ho : PE X o td) : PC X .NotIn i o (fun σ H Q => ty σ H fun y H1 => td σ H1 fun x H2 => rDI true X.w X.K y x H2 Q) := by
  refine ⟨fun pins s σ H Q I h => ?_⟩
  refine thn (hi.run pins s σ H _ I h) fun iv s1 ⟨y, H1, I1, ry, q1⟩ => thn (ho.run pins s1 σ H1 _ I1 q1) fun u s2 ⟨x, H2, I2, rx, a, xs, k, b, ex, d, ey, hk, hd, q2⟩ => ?_
  subst ex ey
  obtain rfl : u = Value.ref a := rx
  obtain rfl : iv = Value.ref b := ry
  obtain ⟨n1, _, dd⟩ := dIs_of I2 d
  exact wpAny_notIn_heap (knd := nestedKind X.prog X.w) (nk_room hu) (nk_is I2 hk hd) n1 dd ⟨.bl _, H2, I2.tok _, rfl, q2⟩
/-- d[k] = v -/
theorem length_storedH {xs : List (NestedKey × Addr × Value)} {k : NestedKey} {a : Addr} {v : Value} : (storedH xs k a v).length ≤ xs.length + 1 := by
  unfold storedH
  split
  · rw [List.length_map]; omega
  · simp
theorem ps_dp (hu : X.A.units + 16 < cLine) (ho : PE X o td) (hi : PE X i ty) (hv : PE X value tv) (hs : swapsWith value (some (.Subscript o i pos')) pos.line X.env = pure false) :
    PS X (.Assign [.Subscript o i pos'] value pos) (fun D σ H => tv σ H fun v H1 => td σ H1 fun x H2 => ty σ H2 fun y H3 => ∃ a xs k b, x = .ref a ∧ DIs X.w X.K H3 a xs ∧ y = .ref b ∧ KeyV X.K H3 k y ∧ k.depth ≤ 8 ∧ xs.length < sizeLine ∧
      ∀ r, L2.RelV v r → D.nx σ (upd H3 a (DTo X.w a (storedH xs k b r)))) := by
  refine ⟨fun pins s σ H D I h => ?_⟩
  refine wpAny_Assign_Subscript (thn (hv.run pins s σ H _ I h) fun r s1 ⟨v, H1, I1, rv, q1⟩ => thn (ho.run pins s1 σ H1 _ I1 q1) fun u s2 ⟨x, H2, I2, rx, q2⟩ => thn (hi.run pins s2 σ H2 _ I2 q2) fun iv s3 ⟨y, H3, I3, ry, a, xs, k, b, ex, d, ey, hk, hd, hl, q3⟩ => ?_) hs
  subst ex ey
  obtain rfl : u = Value.ref a := rx
  obtain rfl : iv = Value.ref b := ry
  obtain ⟨n1, _, dd⟩ := dIs_of I3 d
  refine wpAny_setItem_heap (knd := nestedKind X.prog X.w) (nk_room hu) (nk_is I3 hk hd) dd (fun h' dd' hs' => ?_) (Nat.le_of_lt hl)
  have he : ∃ q, h'.get? a = some q := let ⟨q, _, _, hq, _⟩ := dd'; ⟨q, hq⟩
  exact ⟨σ, _, d_write I3 (by rw [d.at_]; exact True.intro) hs' he (dTo_ok n1 (Nat.le_trans length_storedH hl) dd'), q3 r rv⟩
end
/-- no code object stands there -/
theorem dTo_code {w : World} {a : Addr} {xs : List (NestedKey × Addr × Value)} {q : Str} : DTo w a xs ≠ CodeO a q := by
  intro z
  unfold DTo CodeO at z
  have e := congrFun (HO.ext.inj z) (({ objs := Array.replicate a default } : Heap).push { cls := .none, data := .fields #[.none, .str q default] })
  have g : (({ objs := Array.replicate a default } : Heap).push { cls := .none, data := .fields #[.none, .str q default] }).get? a = some { cls := .none, data := .fields #[.none, .str q default] } := by
    have := Heap.get?_push_size ({ objs := Array.replicate a default } : Heap) (o := { cls := .none, data := .fields #[.none, .str q default] }) rfl
    simpa using this
  obtain ⟨_, _, o, es, ep, h1, _, h2, _⟩ := e.mpr ⟨_, _, _, g, rfl, rfl⟩
  rw [g] at h1
  cases h1
  cases h2
end Ev

namespace Ev
open LamX L2 PyProof.Rows PySem.Spec PySem

/-! ## A method call, whatever the receiver -/
theorem methCall_any {M : Model} {A : Around} {E : Value → Shared → Prop} {s : Shared} {env : Env} {o : Expr} {name : Str} {apos pos : Pos} {args : List Expr} {kws : List Keyword} {Q : Value → Shared → Prop} (hbase : attributeBase o name env (eval o env) = eval o env)
    (hform : methodCallForm (args.length + kws.length) (backTo pos (starEach args env)) (backToKw pos (keywordEach kws env)) = true) (hline : (apos.endLine == pos.line) = true)
    (h : wpAny M A (eval o env) (fun ov s₁ => wpAny M A (getMethod ov name (do return (← importBound o env).getD true)) (fun fx s₂ => wpAny M A (callWith pos fx.1 fx.2 (backTo pos (starEach args env)) (backToKw pos (keywordEach kws env))) Q E s₂) E s₁) E s) :
    wpAny M A (eval (.Call (.Attribute o name apos) args kws pos) env) Q E s := by
  rw [arm_eval_Call, hbase]
  refine wpAny_bind (wpAny_mono h (fun ov s₁ h₁ => ?_) fun _ _ e => e)
  refine wpAny_bind (wpAny_standAt ?_)
  have hpos : methodCallPos true o env apos pos = pure pos := by unfold methodCallPos; simp [hline]
  unfold methodCall
  rw [hform]
  refine wpAny_bind (wpAny_holding (wpAny_mono h₁ (fun fx s₂ h₂ => ?_) fun _ _ e => e))
  exact wpAny_bind (wpAny_of_eq hpos h₂)
/-! ## Own classes: made, their methods called, what is raised wished for at the caller's slots -/
section
variable {X : Cx} {CX : CXT} {k n : Nat} {f C : Addr} {fd : FuncData} {ps : List Str} {sp : Sp} {dvs : List V} {ds : List Value} {E : L2.St → XK} {x m kn : Str} {p pos apos kp : Pos} {e o v : Expr} {es : List Expr} {ta tv : TE} {t : TA}
def tMethSD (C : Addr) (m : Str) (sp : Sp) (dvs : List V) (E : L2.St → XK) (ta : TE) (t : TA) : TE := fun σ H Q => ta σ H fun x H1 => ∃ a dx fs, x = .ref a ∧ H1 a = some (.ins C dx fs) ∧ fs.lookup m = none ∧ t σ H1 fun vs H2 => sp (x :: (vs ++ dvs)) H2 Q (E σ)
theorem pe_methSD (he : PE X o ta) (c : Cls X.K C) (hm : Meth X.K C m f) (F : FnOk X.prog X.w X.K X.mg X.base CX k f fd ps sp) (hr : Room k X.A) (hb : Binds X.K fd ps ds) (hd : Vals dvs ds) (hx : ∀ σ, PassesAt CX X σ (E σ)) (ha : PA X (e :: es) t)
    (hst : starEach (e :: es) X.env = (false, eval e X.env) :: starEach es X.env) (hpl : (backTo pos (starEach es X.env)).any (·.1) = false)
    (hbase : attributeBase o m X.env (eval o X.env) = eval o X.env) (hform : methodCallForm ((e :: es).length + ([] : List Keyword).length) (backTo pos (starEach (e :: es) X.env)) (backToKw pos (keywordEach [] X.env)) = true) (hline : (apos.endLine == pos.line) = true) :
    PE X (.Call (.Attribute o m apos) (e :: es) [] pos) (tMethSD C m sp dvs E ta t) := by
  refine ⟨fun pins s σ H Q I h => ?_⟩
  refine methCall_any hbase hform hline (thn (he.run pins s σ H _ I h) fun u s1 ⟨x, H1, I1, rx, a, dx, fs, ex, ea, l, q⟩ => ?_)
  subst ex
  obtain rfl : u = Value.ref a := rx
  refine getmeth_ok I1 ea c hm l ?_
  refine PySem.W.callWith_K (first := [.ref a]) (h₀ := X.base) I.ok.mod.kin hm.kp (thn (ha.run pos pins s1 σ H1 _ I1 q) fun us s2 ⟨vs, H2, I2, r, q2⟩ => ⟨I2.kIn, ?_⟩) hst hpl
  exact run_fnSD (us := .ref a :: us) (vs := .ref a :: vs) F hr hb hd (hx σ) I2 (.cons rfl r) q2
theorem pe_methSD0 (he : PE X o ta) (c : Cls X.K C) (hm : Meth X.K C m f) (F : FnOk X.prog X.w X.K X.mg X.base CX k f fd ps sp) (hr : Room k X.A) (hb : Binds X.K fd ps ds) (hd : Vals dvs ds) (hx : ∀ σ, PassesAt CX X σ (E σ))
    (hbase : attributeBase o m X.env (eval o X.env) = eval o X.env) (hform : methodCallForm (([] : List Expr).length + ([] : List Keyword).length) (backTo pos (starEach [] X.env)) (backToKw pos (keywordEach [] X.env)) = true) (hline : (apos.endLine == pos.line) = true) :
    PE X (.Call (.Attribute o m apos) [] [] pos) (tMethSD C m sp dvs E ta tNil) := by
  refine ⟨fun pins s σ H Q I h => ?_⟩
  refine methCall_any hbase hform hline (thn (he.run pins s σ H _ I h) fun u s1 ⟨x, H1, I1, rx, a, dx, fs, ex, ea, l, q⟩ => ?_)
  subst ex
  obtain rfl : u = Value.ref a := rx
  refine getmeth_ok I1 ea c hm l ?_
  exact PySem.W.callWith_K0 (first := [.ref a]) I1.kIn hm.kp (run_fnSD (us := [.ref a]) (vs := [.ref a]) F hr hb hd (hx σ) I1 (.cons rfl .nil) q)
/-- o.m(e, .., k = v) -/
def tMethSK (C : Addr) (m : Str) (n : Nat) (sp : Sp) (E : L2.St → XK) (ta : TE) (t : TA) (tv : TE) : TE := fun σ H Q => ta σ H fun x H1 => ∃ a dx fs, x = .ref a ∧ H1 a = some (.ins C dx fs) ∧ fs.lookup m = none ∧ t σ H1 fun vs H2 => tCons tv tNil σ H2 fun zs H3 => zs.length = 1 ∧ (x :: vs).length = n ∧ sp ((x :: vs) ++ zs) H3 Q (E σ)
theorem pe_methSK (he : PE X o ta) (c : Cls X.K C) (hm : Meth X.K C m f) (F : FnOk X.prog X.w X.K X.mg X.base CX k f fd ps sp) (hr : Room k X.A) (hb : KBn X.K fd ps n [kn] (fun us ws => us ++ ws) (fun vs zs => vs ++ zs)) (hx : ∀ σ, PassesAt CX X σ (E σ)) (ha : PA X (e :: es) t) (hv : PE X v tv)
    (hst : starEach (e :: es) X.env = (false, eval e X.env) :: starEach es X.env) (hpl : (backTo pos (starEach (e :: es) X.env)).any (·.1) = false)
    (hbase : attributeBase o m X.env (eval o X.env) = eval o X.env) (hform : methodCallForm ((e :: es).length + ([⟨some kn, v, kp⟩] : List Keyword).length) (backTo pos (starEach (e :: es) X.env)) (backToKw pos (keywordEach [⟨some kn, v, kp⟩] X.env)) = true) (hline : (apos.endLine == pos.line) = true) :
    PE X (.Call (.Attribute o m apos) (e :: es) [⟨some kn, v, kp⟩] pos) (tMethSK C m n sp E ta t tv) := by
  refine ⟨fun pins s σ H Q I h => ?_⟩
  refine methCall_any hbase hform hline (thn (he.run pins s σ H _ I h) fun u s1 ⟨x, H1, I1, rx, a, dx, fs, ex, ea, l, q⟩ => ?_)
  subst ex
  obtain rfl : u = Value.ref a := rx
  refine getmeth_ok I1 ea c hm l ?_
  refine PySem.W.callWith_KW (first := [.ref a]) (h₀ := X.base) I.ok.mod.kin hm.kp (by rfl) (thn (ha.run pos pins s1 σ H1 _ I1 q) fun us s2 ⟨vs, H2, I2, r, q2⟩ => ?_) (by rw [hpl]; rfl) hst
  refine thn ((pk_cons (nm := some kn) (kpos := kp) hv pk_nil).run pos pins s2 σ H2 _ I2 q2) fun ws s3 ⟨zs, H3, I3, rz, h1, hl, q3⟩ => ⟨I3.kIn, ?_⟩
  rw [show (backToKw pos (keywordEach [⟨some kn, v, kp⟩] X.env)).filterMap (·.1) = [kn] from rfl]
  have r1 : Vals (V.ref a :: vs) (Value.ref a :: us) := .cons rfl r
  have r2 := hb.rel r1 rz
  refine wpAny_call (codeAny_mono (F.run X.A X.stack s3 H3 ⟨.ref a :: us, [kn].zip ws⟩ ((.ref a :: us) ++ ws) ((.ref a :: vs) ++ zs) Q (E σ) hr I3.env0 (hb.to s3 (.ref a :: us) ws I3.kIn (r1.length.symm.trans hl) (rz.length.symm.trans h1)) r2 q3) fun r s' hq => ?_)
  cases r with
  | error e => exact hx σ pins H3 s3 e s' I3 hq
  | ok fl =>
    cases fl with
    | ret u => exact I3.after hq
    | next => exact False.elim hq
    | brk => exact False.elim hq
    | cont => exact False.elim hq
/-- C(e, ..) -/
def tMakeSD (C : Addr) (sp : Sp) (dvs : List V) (E : L2.St → XK) (t : TA) : TE := fun σ H Q => t σ H fun vs H1 => ∀ x dx, H1 x = none → H1 dx = none → dx ≠ x →
  sp (.ref x :: (vs ++ dvs)) (upd (upd H1 dx (.own x)) x (.ins C dx [])) (fun v H2 => v = .non ∧ Q (.ref x) H2) (E σ)
theorem pe_makeSD (M : Mk X.K C f) (F : FnOk X.prog X.w X.K X.mg X.base CX k f fd ps sp) (hr : Room (k + 1) X.A) (hg : Gl X x) (hm : X.mg x = some (.ref C)) (hb : Binds X.K fd ps ds) (hd : Vals dvs ds) (hx : ∀ σ, PassesAt CX X σ (E σ))
    (ha : PA X (e :: es) t) (hdb : (x == ("__debug__" : Str)) = false) (he : starEach (e :: es) X.env = (false, eval e X.env) :: starEach es X.env) (hpl : (backTo pos (starEach es X.env)).any (·.1) = false) :
    PE X (.Call (.Name x p) (e :: es) [] pos) (tMakeSD C sp dvs E t) := by
  refine ⟨fun pins s σ H Q I h => ?_⟩
  refine wpAny_Call_Name_kw (ld_glob I hg hm ?_ hdb)
  refine PySem.W.callWith_K (h₀ := X.base) I.ok.mod.kin M.kp (thn (ha.run pos pins s σ H _ I h) fun us s1 ⟨vs, H1, I1, r, q⟩ => ⟨I1.kIn, ?_⟩) he hpl
  have hq := q (s1.heap.objs.size + 1) s1.heap.objs.size (I1.hok.fresh (Nat.le_succ _)) (I1.hok.fresh (Nat.le_refl _)) (Nat.ne_of_lt (Nat.lt_succ_self _))
  have I2 := Inv.made (C := C) I1
  have r2 : Vals (V.ref (s1.heap.objs.size + 1) :: (vs ++ dvs)) (Value.ref (s1.heap.objs.size + 1) :: (us ++ ds)) := .cons rfl (r.append hd)
  have hl : (Value.ref (s1.heap.objs.size + 1) :: us ++ ds).length = ps.length := by
    have e := r2.length
    rw [F.len _ _ _ _ hq] at e
    exact e.symm
  refine wpAny_call (make_map (f := f) I1.kIn M.makes M.init (beq_iff_eq.mp M.fn) (codeAny_mono (F.run _ X.stack _ _ ⟨Value.ref (s1.heap.objs.size + 1) :: us, []⟩ (Value.ref (s1.heap.objs.size + 1) :: (us ++ ds)) _ _ (E σ) (hr.make C us [])
    (I2.env0.make C us []) (hb _ (Value.ref (s1.heap.objs.size + 1) :: us) I2.kIn hl) r2 hq) fun r s' hq' => ?_))
  cases r with
  | error e => exact hx σ pins _ _ e s' I2 hq'
  | ok fl =>
    cases fl with
    | ret u =>
      obtain ⟨v, H', I3, rv, ev, q3⟩ := I2.after hq'
      subst ev
      exact ⟨rv, ⟨V.ref (s1.heap.objs.size + 1), H', I3, rfl, q3⟩⟩
    | next => exact False.elim hq'
    | brk => exact False.elim hq'
    | cont => exact False.elim hq'
end
end Ev

namespace Ev
open PySem

/-! ## Plain data -/
inductive D where
  | non | bl (b : Bool) | int (i : Int) | str (x : Str)
  | tup (ds : List D) | lst (ds : List D) | ptr (n : Nat) | ty (n : String)
  | exn (c : Str) (ns : List Str) (ds : List D)
  | clo (k : Nat) (ds : List D)
  | obj (c : Str) (ns : List Str) (ds : List D)
  | dic (ks : List D) (ds : List D)
  deriving Inhabited

/-- a mutable cell -/
inductive C where
  | lst (ds : List D) | dic (kvs : List (NestedKey × D × D)) | dead

abbrev Mu := List C
abbrev Env := List (Option D)
structure Exn where
  c : Str
  ns : List Str
  ds : List D
inductive Rs (α : Type) where
  | ok (a : α) | ex (x : Exn)
abbrev M (α : Type) := Mu → Option (Rs α × Mu)

def ret {α : Type} (a : α) : M α := fun μ => some (.ok a, μ)
def bnd {α β : Type} (m : M α) (f : α → M β) : M β := fun μ => match m μ with
  | none => none
  | some (.ok a, μ') => f a μ'
  | some (.ex x, μ') => some (.ex x, μ')
def lft {α : Type} (o : Option α) : M α := fun μ => match o with
  | none => none
  | some a => some (.ok a, μ)
/-- of the data and the cells -/
def rd {α : Type} (f : Mu → Option α) : M α := fun μ => lft (f μ) μ

/-- a cell's list, seen -/
def view (μ : Mu) : D → D
  | .ptr n => match μ[n]? with
    | some (.lst ds) => .lst ds
    | _ => .ptr n
  | d => d

mutual
def toPy : D → Option PyData
  | .non => some .none
  | .bl b => some (.bool b)
  | .int i => some (.int i)
  | .str x => some (.str x)
  | .tup ds => (toPyL ds).map .tuple
  | .lst ds => (toPyL ds).map .list
  | .ptr _ | .ty _ | .exn _ _ _ | .clo _ _ | .obj _ _ _ | .dic _ _ => none
def toPyL : List D → Option (List PyData)
  | [] => some []
  | d :: ds => match toPy d, toPyL ds with
    | some x, some xs => some (x :: xs)
    | _, _ => none
end

inductive Bop where
  | add | sub | mul | fdiv | mod | pow
  deriving DecidableEq
inductive Cop where
  | lt | le | gt | ge | eq | ne | is | isnot | inn | notin
  deriving DecidableEq
inductive Bi where
  | len | abs | list (m : Bool) | tuple | sum | all | any | min | max | int | sorted
  deriving DecidableEq

def bop : Bop → D → D → Option D
  | .add, .int a, .int b => some (.int (a + b))
  | .add, .str a, .str b => if a.length + b.length ≤ sizeLine then some (.str (a ++ b)) else none
  | .add, .lst a, .lst b => if a.length + b.length ≤ sizeLine then some (.lst (a ++ b)) else none
  | .sub, .int a, .int b => some (.int (a - b))
  | .mul, .int a, .int b => if a.natAbs.log2 + b.natAbs.log2 < 1000000 then some (.int (a * b)) else none
  | .fdiv, .int a, .int b => if b ≠ 0 ∧ b.natAbs.log2 < 9000 then some (.int (a.fdiv b)) else none
  | .mod, .int a, .int b => if b ≠ 0 then some (.int (a.fmod b)) else none
  | .pow, .int a, .int b => if 0 ≤ b ∧ b ≤ 1000000 ∧ a.natAbs < 2 ^ 64 then some (.int (a ^ b.toNat)) else none
  | _, _, _ => none

def augOp : Bop → D → D → Option D
  | .add, .int a, .int b => some (.int (a + b))
  | .sub, .int a, .int b => some (.int (a - b))
  | _, _, _ => none

def isNon : D → Bool
  | .non => true
  | _ => false
/-- flat things: for `in` -/
def flat : D → Bool
  | .non | .bl _ | .int _ | .str _ => true
  | _ => false
def eqF : D → D → Bool
  | .non, .non => true
  | .bl a, .bl b => a == b
  | .bl a, .int j => (if a then 1 else 0) == j
  | .int i, .bl b => i == (if b then 1 else 0)
  | .int i, .int j => i == j
  | .str x, .str y => x == y
  | _, _ => false
def eqO (neg : Bool) (a b : D) : Option Bool := match toPy a, toPy b with
  | some x, some y => if SeqAt.shaped x && SeqAt.shaped y then some (if neg then !PyData.eqv x y else PyData.eqv x y) else none
  | _, _ => none
/-- is a among ds (neg: is it not) -/
def inO (neg : Bool) (a : D) (ds : List D) : Option Bool := if flat a && ds.all flat then some (if neg then !ds.any fun y => eqF y a else ds.any fun y => eqF y a) else match toPy a, toPyL ds with
  | some x, some ys => if SeqAt.shaped x && SeqAt.shaped (.list ys) then some (if neg then !ys.any fun y => PyData.eqv y x else ys.any fun y => PyData.eqv y x) else none
  | _, _ => none
def cop : Cop → D → D → Option Bool
  | .lt, .int a, .int b => some (decide (a < b))
  | .le, .int a, .int b => some (decide (a ≤ b))
  | .gt, .int a, .int b => some (decide (b < a))
  | .ge, .int a, .int b => some (decide (b ≤ a))
  | .eq, a, b => eqO false a b
  | .ne, a, b => eqO true a b
  | .is, a, .non => some (isNon a)
  | .isnot, a, .non => some (!isNon a)
  | .inn, a, .lst ds => inO false a ds
  | .inn, a, .tup ds => inO false a ds
  | .notin, a, .lst ds => inO true a ds
  | .notin, a, .tup ds => inO true a ds
  | _, _, _ => none

def ixAt {α : Type} (xs : List α) (i : Int) : Option α := L2.atI xs i
def ixOp : D → D → Option D
  | .lst ds, .int i => L2.atI ds i
  | .tup ds, .int i => L2.atI ds i
  | .str z, .int i => if z.length ≤ sizeLine then (L2.atI z.cps.toList i).map fun c => .str ⟨#[c]⟩ else none
  | _, _ => none
def part : D → Option (Option Int)
  | .non => some none
  | .int i => some (some i)
  | _ => none
def cut {α : Type} (xs : List α) (lo hi : Option Int) : List α := (xs.drop (HT.sIx xs.length 0 lo)).take (HT.sIx xs.length xs.length hi - HT.sIx xs.length 0 lo)
def slcOp (a lo hi : D) : Option D := match part lo, part hi with
  | some l, some h => match a with
    | .lst ds => some (.lst (cut ds l h))
    | .tup ds => if HT.sIx ds.length 0 l = 0 ∧ HT.sIx ds.length ds.length h = ds.length then none else some (.tup (cut ds l h))
    | .str z => if z.length ≤ sizeLine then some (.str (L2.cutS z l h)) else none
    | _ => none
  | _, _ => none

def sumInts : List D → Option Int
  | [] => some 0
  | .int i :: ds => (sumInts ds).map (i + ·)
  | _ => none
def bools : List D → Option (List Bool)
  | [] => some []
  | .bl b :: ds => (bools ds).map (b :: ·)
  | _ => none
def seqOf : D → Option (List D)
  | .lst ds => some ds
  | .tup ds => some ds
  | _ => none
/-- isinstance with a built-in type -/
def tyN (μ : Mu) : D → Option String
  | .non => some "NoneType"
  | .bl _ => some "bool"
  | .int _ => some "int"
  | .str _ => some "str"
  | .tup _ => some "tuple"
  | .lst _ => some "list"
  | .ptr n => match μ[n]? with
    | some (.lst _) => some "list"
    | _ => none
  | _ => none
def isB (a b : String) : Option Bool := if b == "int" || b == "bool" || b == "str" || b == "list" || b == "tuple" then some (a == b || (a == "bool" && b == "int")) else none
def isOf (μ : Mu) (d : D) (t : String) : Option Bool := match tyN μ d with
  | some a => isB a t
  | none => none
def newList (m : Bool) (ds : List D) : M D := fun μ => if ds.length ≤ sizeLine then (if m then some (.ok (.ptr μ.length), μ ++ [.lst ds]) else some (.ok (.lst ds), μ)) else none
def pairsOf : List D → Option (List (Int × Int))
  | [] => some []
  | .tup [.int i, .int j] :: ds => (pairsOf ds).map ((i, j) :: ·)
  | _ => none
def pairD (p : Int × Int) : D := .tup [.int p.1, .int p.2]
def lexLe (p q : Int × Int) : Bool := decide (p.1 < q.1) || (decide (p.1 = q.1) && decide (p.2 ≤ q.2))
def biOp : Bi → List D → M D
  | .sorted, [a] => rd fun μ => match view μ a with
    | .lst ds => (pairsOf ds).map fun ps => .lst ((ps.mergeSort lexLe).map pairD)
    | _ => none
  | .len, [.str z] => lft (if z.length ≤ sizeLine then some (.int z.length) else none)
  | .len, [a] => rd fun μ => (seqOf (view μ a)).map fun ds => .int ds.length
  | .abs, [.int i] => ret (.int (if i < 0 then -i else i))
  | .list m, [a] => fun μ => match seqOf (view μ a) with
    | some ds => newList m ds μ
    | none => none
  | .tuple, [a] => rd fun μ => (seqOf (view μ a)).map .tup
  | .sum, [a] => rd fun μ => match view μ a with
    | .lst ds => (sumInts ds).map .int
    | _ => none
  | .all, [a] => rd fun μ => match view μ a with
    | .lst ds => (bools ds).map fun bs => .bl (bs.all id)
    | _ => none
  | .any, [a] => rd fun μ => match view μ a with
    | .lst ds => (bools ds).map fun bs => .bl (bs.any id)
    | _ => none
  | .min, [.int i, .int j] => ret (.int (if j < i then j else i))
  | .max, [.int i, .int j] => ret (.int (if j > i then j else i))
  | .int, [.int i] => ret (.int i)
  | .int, [.bl b] => ret (.int (if b then 1 else 0))
  | _, _ => fun _ => none
/-! dicts with tuples as keys -/
mutual
def nkOf : D → Option NestedKey
  | .non => some .none
  | .bl b => some (.num (if b = true then 1 else 0))
  | .int i => some (.num i)
  | .str x => some (.text x)
  | .tup ds => (nksOf ds).map .tup
  | .lst _ | .ptr _ | .ty _ | .exn _ _ _ | .clo _ _ | .obj _ _ _ | .dic _ _ => none
def nksOf : List D → Option (List NestedKey)
  | [] => some []
  | d :: ds => match nkOf d, nksOf ds with
    | some k, some ks => some (k :: ks)
    | _, _ => none
end
def tkOf (k : D) : Option NestedKey := match k with
  | .tup ds => match nkOf (.tup ds) with
    | some kk => if kk.depth ≤ 8 then some kk else none
    | none => none
  | _ => none
def atN (kvs : List (NestedKey × D × D)) (k : NestedKey) : Option (D × D) := (kvs.find? fun x => decide (x.1 = k)).map (·.2)
def putN (kvs : List (NestedKey × D × D)) (k : NestedKey) (key v : D) : List (NestedKey × D × D) :=
  if (atN kvs k).isSome then kvs.map (fun x => if x.1 = k then (x.1, x.2.1, v) else x) else kvs ++ [(k, key, v)]
/-- what the dict holds at the key -/
def dLook (a k : D) : Mu → Option (Option D) := fun μ => match a with
  | .ptr n => match μ[n]? with
    | some (.dic kvs) => (tkOf k).map fun kk => (atN kvs kk).map (·.2)
    | _ => none
  | _ => none
def dNew : M D := fun μ => some (.ok (.ptr μ.length), μ ++ [.dic []])
def dPut (a k v : D) : M Unit := fun μ => match a with
  | .ptr n => match μ[n]? with
    | some (.dic kvs) => match tkOf k with
      | some kk => if kvs.length < sizeLine then some (.ok (), μ.set n (.dic (putN kvs kk k v))) else none
      | none => none
    | _ => none
  | _ => none
/-- x.insert(i, e) -/
def insOp (a i x : D) : M D := fun μ => match a, i with
  | .ptr n, .int k => match μ[n]? with
    | some (.lst ds) => if ds.length < sizeLine ∧ 0 ≤ k ∧ k < 2 ^ 63 then some (.ok .non, μ.set n (.lst (ds.take k.toNat ++ [x] ++ ds.drop k.toNat))) else none
    | _ => none
  | _, _ => none
/-! sorted(.., key=lambda x: ..) -/
def noX {α : Type} (m : M α) : M α := fun μ => match m μ with
  | some (.ok a, μ') => some (.ok a, μ')
  | _ => none
def keysM (kf : D → M D) : List D → List D → M (List D)
  | [], acc => ret acc
  | d :: ds, acc => bnd (noX (kf d)) fun k => keysM kf ds (acc ++ [k])
def alikeB (ks : List PyData) : Bool := ks.all fun a => ks.all fun b => PySem.W.alike a b
def sortB (ks : List PyData) : Bool := (ks.all fun d => match d with | .tuple (_ :: _) => true | _ => false) || (ks.all fun d => match d with | .none => false | .tuple _ => false | _ => true)
def byKeys {α : Type} (xs : List α) (kz : List PyData) : List α := ((xs.zip kz).mergeSort (PySem.W.dataLe false Prod.snd)).map Prod.fst
def keyedSort (ds ks : List D) : Option (List D) := match toPyL ks with
  | some kz => if kz.length = ds.length ∧ alikeB kz = true ∧ sortB kz = true ∧ (kz.all fun d => decide (d.depth ≤ 60)) = true then some (byKeys ds kz) else none
  | none => none
def lstOf (d : D) : Option (List D) := match d with
  | .lst ds => some ds
  | _ => none
/-! own classes -/
def isObj (c : Str) : D → Bool
  | .obj c' _ _ => decide (c' = c)
  | _ => false
def fldOp (c f : Str) : D → Option D
  | .obj c' [g] [d] => if c' = c ∧ g = f then some d else none
  | _ => none
def isCell (a : D) : Mu → Option Unit := fun μ => match a with
  | .ptr n => match μ[n]? with
    | some (.lst _) => some ()
    | _ => none
  | _ => none
/-- x.append(e) -/
def appOp (a x : D) : M D := fun μ => match a with
  | .ptr n => match μ[n]? with
    | some (.lst ds) => if ds.length < sizeLine then some (.ok .non, μ.set n (.lst (ds ++ [x]))) else none
    | _ => none
  | _ => none
/-- x.extend(y): y a list that was just made -/
def extOp (a y : D) : M D := fun μ => match a, y with
  | .ptr n, .ptr q => match μ[n]?, μ[q]? with
    | some (.lst ds), some (.lst es) => if n ≠ q ∧ ds.length + es.length ≤ sizeLine then some (.ok .non, μ.set n (.lst (ds ++ es))) else none
    | _, _ => none
  | _, _ => none
def setOp (a i x : D) : M Unit := fun μ => match a, i with
  | .ptr n, .int k => match μ[n]? with
    | some (.lst ds) => match L2.ixN ds.length k with
      | some j => some (.ok (), μ.set n (.lst (ds.set j x)))
      | none => none
    | _ => none
  | _, _ => none
/-- a new list is told for good -/
def frzOp (a : D) : M D := fun μ => match a with
  | .ptr n => match μ[n]? with
    | some (.lst ds) => some (.ok (.lst ds), μ.set n .dead)
    | _ => none
  | _ => none

/-! ## Targets, what is walked -/
mutual
inductive Tg where
  | one (i : Nat) | tup (ts : TgL)
inductive TgL where
  | nil | cons (t : Tg) (ts : TgL)
end
mutual
def store : Tg → D → Env → Option Env
  | .one i, d, δ => if i < δ.length then some (δ.set i (some d)) else none
  | .tup ts, .tup ds, δ => storeL ts ds δ
  | .tup ts, .lst ds, δ => storeL ts ds δ
  | .tup _, _, _ => none
def storeL : TgL → List D → Env → Option Env
  | .nil, [], δ => some δ
  | .cons t ts, d :: ds, δ => match store t d δ with
    | some δ' => storeL ts ds δ'
    | none => none
  | _, _, _ => none
end
inductive Iv where
  | seq (d : D) | rng (lo : Int) (n : Nat) | zip (a b : D) | enum (a : D)
/-- the turn's item: none: no answer; some none: the end -/
def itemAt : Iv → Mu → Nat → Option (Option D)
  | .seq d, μ, i => (seqOf (view μ d)).map fun ds => ds[i]?
  | .rng lo n, _, i => some (if i < n then some (.int (lo + i)) else none)
  | .zip a b, μ, i => match view μ a, view μ b with
    | .lst xs, .lst ys => some (match xs[i]?, ys[i]? with
      | some x, some y => some (.tup [x, y])
      | _, _ => none)
    | .tup xs, .tup ys => some (match xs[i]?, ys[i]? with
      | some x, some y => some (.tup [x, y])
      | _, _ => none)
    | _, _ => none
  | .enum a, μ, i => match view μ a with
    | .lst ds => some ((ds[i]?).map fun x => .tup [.int i, x])
    | .tup ds => some ((ds[i]?).map fun x => .tup [.int i, x])
    | _ => none
def fuelOf : Iv → Mu → Nat
  | .seq d, μ => ((seqOf (view μ d)).map List.length).getD 0
  | .rng _ n, _ => n
  | .zip a _, μ => ((seqOf (view μ a)).map List.length).getD 0
  | .enum a, μ => ((seqOf (view μ a)).map List.length).getD 0
def ckSeq (x : D) : Mu → Option Iv := fun μ => (seqOf (view μ x)).map fun _ => .seq x
@[irreducible] def rng1Of (x : D) : Option Iv := match x with
  | .int n => if -(2 ^ 62) ≤ n ∧ n < 2 ^ 62 then some (.rng 0 n.toNat) else none
  | _ => none
@[irreducible] def rng2Of (x y : D) : Option Iv := match x, y with
  | .int i, .int j => if -(2 ^ 62) ≤ i ∧ i < 2 ^ 62 ∧ -(2 ^ 62) ≤ j ∧ j < 2 ^ 62 then some (.rng i (j - i).toNat) else none
  | _, _ => none
def ckZip (x y : D) : Mu → Option Iv := fun μ => match view μ x, view μ y with
  | .lst _, .lst _ => some (.zip x y)
  | .tup _, .tup _ => some (.zip x y)
  | _, _ => none
def ckEnum (x : D) : Mu → Option Iv := fun μ => match view μ x with
  | .lst _ => some (.enum x)
  | .tup _ => some (.enum x)
  | _ => none
def wipe (δ : Env) : List Nat → Env
  | [] => δ
  | v :: vs => (wipe δ vs).set v none

/-! ## Terms -/
mutual
inductive E where
  | lit (d : D) | var (i : Nat) | con (x : Str)
  | bin (o : Bop) (a b : E) | neg (a : E)
  | cmp (o : Cop) (a b : E) | cmp2 (o p : Cop) (a b c : E)
  | and (a b : E) | or (a b : E) | not (a : E) | ite (c a b : E)
  | tup (es : EL) | lst (m : Bool) (es : EL)
  | ix (a i : E) | slc (a : E) (lo hi : OE)
  | call (f : Str) (es : EL)
  | bi (f : Bi) (es : EL)
  | isi (a : E) (t : String)
  | app (a e : E) | ext (a e : E)
  | frz (a : E)
  | comp (m : Bool) (it : IT) (tg : Tg) (own : List Nat) (cond elt : E)
  | outc (b : E) | err (b : E)
  | callk (f : Str) (es : EL) (k : Str) (e : E)
  | ins (a i e : E) | dnew | dget (a i : E) | din (neg : Bool) (i a : E)
  | sortk (m : Bool) (a : E) (i : Nat) (b : E)
  | mk (c f : Str) (es : EL) | fld (c : Str) (a : E) (g : Str) | meth (c m f : Str) (a : E) (es : EL) | methk (c m f : Str) (a : E) (es : EL) (k : Str) (e : E)
  | oeq (c f : Str) (a b : E) | isc (a : E) (c : Str) | rcd (c g : Str) (e : E)
inductive OE where
  | no | yes (e : E)
inductive EL where
  | nil | cons (e : E) (es : EL)
inductive IT where
  | seq (a : E) | rng1 (a : E) | rng2 (a b : E) | zip (a b : E) | enum (a : E)
end

/-- the turns of a comprehension: no turn may raise -/
def compM (iv : Iv) (body : D → M (Option D)) : Nat → Nat → List D → M (List D)
  | fuel, i, acc => fun μ => match itemAt iv μ i with
    | none => none
    | some none => some (.ok acc, μ)
    | some (some x) => match fuel with
      | 0 => none
      | k + 1 => match body x μ with
        | some (.ok (some y), μ') => if acc.length < sizeLine then compM iv body k (i + 1) (acc ++ [y]) μ' else none
        | some (.ok none, μ') => compM iv body k (i + 1) acc μ'
        | _ => none
def asBool : D → Option Bool
  | .bl b => some b
  | _ => none
def asInt : D → Option Int
  | .int i => some i
  | _ => none

/-- an error's tag and the field that the law looks at -/
def outD (x : Exn) : Option (D × D) := match (x.ns.zip x.ds).lookup ("tag" : Str) with
  | some (.str t) => if t = x.c then (if x.c ∈ errPN then (match selF x.c with
      | some f => ((x.ns.zip x.ds).lookup f).map fun d => (.str t, d)
      | none => some (.str t, .non)) else if x.c ∈ errZE then some (.str t, .non) else none) else none
  | _ => none
/-- what came, or the error that came -/
def outM (m : M D) (ok : D → D) (er : D × D → D) : M D := fun μ => match m μ with
  | none => none
  | some (.ok d, μ') => some (.ok (ok d), μ')
  | some (.ex x, μ') => (outD x).map fun p => (.ok (er p), μ')
section
variable (cf : Str → List D → M D) (gc : Str → Option D)
mutual
def evE : E → Env → M D
  | .lit d, _ => ret d
  | .var i, δ => lft (δ[i]?.join)
  | .con x, _ => lft (gc x)
  | .bin o a b, δ => bnd (evE a δ) fun x => bnd (evE b δ) fun y => rd fun μ => bop o (view μ x) (view μ y)
  | .neg a, δ => bnd (evE a δ) fun x => lft ((asInt x).map fun i => .int (-i))
  | .cmp o a b, δ => bnd (evE a δ) fun x => bnd (evE b δ) fun y => rd fun μ => (cop o (view μ x) (view μ y)).map .bl
  | .cmp2 o p a b c, δ => bnd (evE a δ) fun x => bnd (evE b δ) fun y => bnd (rd fun μ => cop o (view μ x) (view μ y)) fun r =>
      if r then bnd (evE c δ) fun z => rd fun μ => (cop p (view μ y) (view μ z)).map .bl else ret (.bl false)
  | .and a b, δ => bnd (evE a δ) fun x => bnd (lft (asBool x)) fun r => if r then evE b δ else ret (.bl false)
  | .or a b, δ => bnd (evE a δ) fun x => bnd (lft (asBool x)) fun r => if r then ret (.bl true) else evE b δ
  | .not a, δ => bnd (evE a δ) fun x => bnd (lft (asBool x)) fun r => ret (.bl (!r))
  | .ite c a b, δ => bnd (evE c δ) fun x => bnd (lft (asBool x)) fun r => if r then evE a δ else evE b δ
  | .tup es, δ => bnd (evL es δ) fun ds => if ds.length ≤ sizeLine then ret (.tup ds) else fun _ => none
  | .lst m es, δ => bnd (evL es δ) fun ds => newList m ds
  | .ix a i, δ => bnd (evE a δ) fun x => bnd (evE i δ) fun y => rd fun μ => ixOp (view μ x) y
  | .slc a l h, δ => bnd (evE a δ) fun x => bnd (evO l δ) fun y => bnd (evO h δ) fun z => rd fun μ => slcOp (view μ x) y z
  | .call f es, δ => bnd (evL es δ) fun ds => cf f ds
  | .bi f es, δ => bnd (evL es δ) fun ds => biOp f ds
  | .isi a t, δ => bnd (evE a δ) fun x => rd fun μ => (isOf μ x t).map .bl
  | .app a e, δ => bnd (evE a δ) fun x => bnd (rd (isCell x)) fun _ => bnd (evE e δ) fun y => appOp x y
  | .ext a e, δ => bnd (evE a δ) fun x => bnd (rd (isCell x)) fun _ => bnd (evE e δ) fun y => extOp x y
  | .frz a, δ => bnd (evE a δ) fun x => frzOp x
  | .comp m it tg own cond elt, δ => bnd (evI it δ) fun iv μ => bnd (compM iv (fun x => match store tg x (wipe δ own) with
      | none => fun _ => none
      | some δ' => bnd (evE cond δ') fun c => bnd (lft (asBool c)) fun r => if r then bnd (evE elt δ') fun y => ret (some y) else ret none)
      (fuelOf iv μ) 0 []) (fun ds => newList m ds) μ
  | .outc b, δ => outM (evE b δ) (fun d => .tup [d, .str "", .non]) fun p => .tup [.non, p.1, p.2]
  | .err b, δ => outM (evE b δ) (fun _ => .tup [.str "", .non]) fun p => .tup [p.1, p.2]
  | .callk f es _ e, δ => bnd (evL es δ) fun ds => bnd (evE e δ) fun d => cf f (ds ++ [d])
  | .ins a i e, δ => bnd (evE a δ) fun x => bnd (rd (isCell x)) fun _ => bnd (evE i δ) fun y => bnd (evE e δ) fun z => insOp x y z
  | .dnew, _ => dNew
  | .dget a i, δ => bnd (evE a δ) fun x => bnd (evE i δ) fun y => rd fun μ => (dLook x y μ).join
  | .din neg i a, δ => bnd (evE i δ) fun y => bnd (evE a δ) fun x => rd fun μ => (dLook x y μ).map fun o => .bl (if neg then !o.isSome else o.isSome)
  | .sortk m a i b, δ => bnd (evE a δ) fun x => bnd (rd fun μ => lstOf (view μ x)) fun ds => bnd (keysM (fun d => evE b (δ.set i (some d))) ds []) fun ks => bnd (lft (keyedSort ds ks)) fun r => newList m r
  | .mk _ f es, δ => bnd (evL es δ) fun ds => cf f ds
  | .fld c a g, δ => bnd (evE a δ) fun x => lft (fldOp c g x)
  | .meth c _ f a es, δ => bnd (evE a δ) fun x => if isObj c x then bnd (evL es δ) fun ds => cf f (x :: ds) else fun _ => none
  | .methk c _ f a es _ e, δ => bnd (evE a δ) fun x => if isObj c x then bnd (evL es δ) fun ds => bnd (evE e δ) fun d => cf f (x :: (ds ++ [d])) else fun _ => none
  | .oeq c f a b, δ => bnd (evE a δ) fun x => bnd (evE b δ) fun y => if isObj c x && isObj c y then bnd (cf f [x, y]) fun r => lft ((asBool r).map .bl) else fun _ => none
  | .isc a c, δ => bnd (evE a δ) fun x => if isObj c x then ret (.bl true) else fun _ => none
  | .rcd c g e, δ => bnd (evE e δ) fun d => ret (.obj c [g] [d])
def evO : OE → Env → M D
  | .no, _ => ret .non
  | .yes a, δ => bnd (evE a δ) fun x => lft ((asInt x).map D.int)
def evL : EL → Env → M (List D)
  | .nil, _ => ret []
  | .cons e es, δ => bnd (evE e δ) fun x => bnd (evL es δ) fun xs => ret (x :: xs)
def evI : IT → Env → M Iv
  | .seq a, δ => bnd (evE a δ) fun x => rd (ckSeq x)
  | .rng1 a, δ => bnd (evE a δ) fun x => lft (rng1Of x)
  | .rng2 a b, δ => bnd (evE a δ) fun x => bnd (evE b δ) fun y => lft (rng2Of x y)
  | .zip a b, δ => bnd (evE a δ) fun x => bnd (evE b δ) fun y => rd (ckZip x y)
  | .enum a, δ => bnd (evE a δ) fun x => rd (ckEnum x)
end
end

/-! ## Statements -/
mutual
inductive S where
  | expr (e : E) | asg (t : Tg) (e : E) | par (i j : Nat) (a b : E)
  | par3 (i j k : Nat) (a b c : E)
  | setix (o i e : E) | aug (i : Nat) (o : Bop) (e : E)
  | ife (c : E) (a b : SL) | whl (c : E) (b : SL) | fr (tg : Tg) (it : IT) (b : SL)
  | ret (e : E) | retN | pass | brk | cont | never
  | rais (c : Str) (fl : Option Str) (es : EL)
  | dput (o k e : E) | tryn (b : SL)
inductive SL where
  | nil | cons (s : S) (r : SL)
end
inductive Out where
  | nx | brk | cont | ret (d : D)
inductive SR where
  | fin (o : Out) (δ : Env) (μ : Mu) | exc (x : Exn) (δ : Env) (μ : Mu)
/-- an expression within a statement -/
def sE {α : Type} (m : M α) (δ : Env) (f : α → Mu → Option SR) : Mu → Option SR := fun μ => match m μ with
  | none => none
  | some (.ok a, μ') => f a μ'
  | some (.ex x, μ') => some (.exc x δ μ')
def whileN (c : Env → M Bool) (b : Env → Mu → Option SR) : Nat → Env → Mu → Option SR
  | 0, _, _ => none
  | n + 1, δ, μ => sE (c δ) δ (fun r μ' => if r then (match b δ μ' with
    | some (.fin .nx δ' μ2) => whileN c b n δ' μ2
    | some (.fin .cont δ' μ2) => whileN c b n δ' μ2
    | some (.fin .brk δ' μ2) => some (.fin .nx δ' μ2)
    | r => r) else some (.fin .nx δ μ')) μ
open Classical in
noncomputable def whileF (c : Env → M Bool) (b : Env → Mu → Option SR) (δ : Env) (μ : Mu) : Option SR :=
  if h : ∃ n, (whileN c b n δ μ).isSome = true then whileN c b (Classical.choose h) δ μ else none
def forN (iv : Iv) (tg : Tg) (b : Env → Mu → Option SR) : Nat → Nat → Env → Mu → Option SR
  | fuel, i, δ, μ => match itemAt iv μ i with
    | none => none
    | some none => some (.fin .nx δ μ)
    | some (some x) => match fuel with
      | 0 => none
      | k + 1 => match store tg x δ with
        | none => none
        | some δ1 => match b δ1 μ with
          | some (.fin .nx δ' μ2) => forN iv tg b k (i + 1) δ' μ2
          | some (.fin .cont δ' μ2) => forN iv tg b k (i + 1) δ' μ2
          | some (.fin .brk δ' μ2) => some (.fin .nx δ' μ2)
          | r => r
def evT (cf : Str → List D → M D) (gc : Str → Option D) (e : E) (δ : Env) : M Bool := bnd (evE cf gc e δ) fun x => lft (asBool x)
def set1 (δ : Env) (i : Nat) (d : D) : Option Env := if i < δ.length then some (δ.set i (some d)) else none

section
variable (cf : Str → List D → M D) (gc : Str → Option D)
mutual
noncomputable def evS : S → Env → Mu → Option SR
  | .expr e, δ, μ => sE (evE cf gc e δ) δ (fun _ μ' => some (.fin .nx δ μ')) μ
  | .asg t e, δ, μ => sE (evE cf gc e δ) δ (fun x μ' => (store t x δ).map fun δ' => .fin .nx δ' μ') μ
  | .par i j a b, δ, μ => sE (bnd (evE cf gc a δ) fun x => bnd (evE cf gc b δ) fun y => Ev.ret (x, y)) δ (fun p μ' =>
      if i < δ.length ∧ j < δ.length then some (.fin .nx ((δ.set i (some p.1)).set j (some p.2)) μ') else none) μ
  | .par3 i j k a b c, δ, μ => sE (bnd (evE cf gc a δ) fun x => bnd (evE cf gc b δ) fun y => bnd (evE cf gc c δ) fun z => Ev.ret (x, y, z)) δ (fun p μ' =>
      if i < δ.length ∧ j < δ.length ∧ k < δ.length then some (.fin .nx (((δ.set i (some p.1)).set j (some p.2.1)).set k (some p.2.2)) μ') else none) μ
  | .setix o i e, δ, μ => sE (bnd (evE cf gc e δ) fun x => bnd (evE cf gc o δ) fun a => bnd (evE cf gc i δ) fun k => setOp a k x) δ (fun _ μ' => some (.fin .nx δ μ')) μ
  | .aug i o e, δ, μ => sE (bnd (lft (δ[i]?.join)) fun x => bnd (evE cf gc e δ) fun y => lft (augOp o x y)) δ (fun z μ' => if i < δ.length then some (.fin .nx (δ.set i (some z)) μ') else none) μ
  | .ife c a b, δ, μ => sE (evT cf gc c δ) δ (fun r μ' => if r then evSL a δ μ' else evSL b δ μ') μ
  | .whl c b, δ, μ => whileF (evT cf gc c) (evSL b) δ μ
  | .fr tg it b, δ, μ => sE (evI cf gc it δ) δ (fun iv μ' => forN iv tg (evSL b) (fuelOf iv μ') 0 δ μ') μ
  | .ret e, δ, μ => sE (evE cf gc e δ) δ (fun d μ' => some (.fin (.ret d) δ μ')) μ
  | .retN, δ, μ => some (.fin (.ret .non) δ μ)
  | .pass, δ, μ => some (.fin .nx δ μ)
  | .brk, δ, μ => some (.fin .brk δ μ)
  | .cont, δ, μ => some (.fin .cont δ μ)
  | .never, _, _ => none
  | .rais c fl es, δ, μ => sE (evL cf gc es δ) δ (fun ds μ' => if ds.length = nfl fl then some (.exc ⟨c, fldN fl, ds ++ [.str c]⟩ δ μ') else none) μ
  | .dput o k e, δ, μ => sE (bnd (evE cf gc e δ) fun v => bnd (evE cf gc o δ) fun a => bnd (evE cf gc k δ) fun y => dPut a y v) δ (fun _ μ' => some (.fin .nx δ μ')) μ
  | .tryn b, δ, μ => match evSL b δ μ with
    | some (.exc _ _ _) => none
    | r => r
noncomputable def evSL : SL → Env → Mu → Option SR
  | .nil, δ, μ => some (.fin .nx δ μ)
  | .cons s r, δ, μ => match evS s δ μ with
    | some (.fin .nx δ' μ') => evSL r δ' μ'
    | o => o
end
end

/-! ## Functions -/
structure Fn where
  np : Nat
  ns : Nat
  body : SL
  dfl : List D := []
  kws : List Str := []
  /-- a method of a class -/
  own : Option (Str × Str) := none
  /-- the class's __init__ -/
  self : Bool := false
/-- the defaults that fill up -/
def pad (fn : Fn) (ds : List D) : List D := ds ++ fn.dfl.drop (fn.dfl.length - (fn.np - ds.length))
noncomputable def evFn (gc : Str → Option D) (cf : Str → List D → M D) (fn : Fn) (ds : List D) : M D := match fn.self with
  | false => fun μ => if (pad fn ds).length = fn.np then (match evSL cf gc fn.body ((pad fn ds).map some ++ List.replicate (fn.ns - fn.np) none) μ with
    | some (.fin (.ret d) _ μ') => some (.ok d, μ')
    | some (.fin .nx _ μ') => some (.ok .non, μ')
    | some (.exc x _ μ') => some (.ex x, μ')
    | _ => none) else none
  | true => fun μ => if ds.length + 1 = fn.np then (match evSL cf gc fn.body (none :: (ds.map some ++ List.replicate (fn.ns - fn.np) none)) μ with
    | some (.fin (.ret d) _ μ') => some (.ok d, μ')
    | some (.exc x _ μ') => some (.ex x, μ')
    | _ => none) else none
structure Pg where
  fns : Str → Option Fn
  gc : Str → Option D
  fr : List Str
  exs : Str → Option (Option Str) := fun _ => none
  err : Bool := false
  out : Bool := false
  /-- own classes, each with its one attribute -/
  cls : Str → Option Str := fun _ => none
noncomputable def call (P : Pg) : Nat → Str → List D → M D
  | 0, _, _ => fun _ => none
  | n + 1, f, ds => match P.fns f with
    | none => fun _ => none
    | some fn => evFn P.gc (call P n) fn ds
end Ev

namespace Ev
open L2 PyProof.Rows PySem.Spec PySem
abbrev St := L2.St

/-! ## Weakest results -/
def WP {α : Type} (m : M α) (μ : Mu) (Q : α → Mu → Prop) (Ex : Exn → Mu → Prop) : Prop := match m μ with
  | none => False
  | some (.ok a, μ') => Q a μ'
  | some (.ex x, μ') => Ex x μ'
section
variable {α β : Type} {m : M α} {f : α → M β} {μ : Mu} {Q Q' : α → Mu → Prop} {R : β → Mu → Prop} {Ex Ex' : Exn → Mu → Prop}
theorem WP.mono (h : WP m μ Q Ex) (hq : ∀ a μ', Q a μ' → Q' a μ') (hx : ∀ x μ', Ex x μ' → Ex' x μ') : WP m μ Q' Ex' := by
  unfold WP at h ⊢
  cases e : m μ with
  | none => rw [e] at h; exact h
  | some p =>
    obtain ⟨r, μ'⟩ := p
    rw [e] at h
    cases r with
    | ok a => exact hq a μ' h
    | ex x => exact hx x μ' h
theorem WP.bnd (h : WP (bnd m f) μ R Ex) : WP m μ (fun a μ' => WP (f a) μ' R Ex) Ex := by
  unfold WP Ev.bnd at h
  unfold WP
  cases e : m μ with
  | none => rw [e] at h; exact h
  | some p =>
    obtain ⟨r, μ'⟩ := p
    rw [e] at h
    cases r with
    | ok a => exact h
    | ex x => exact h
theorem WP.ret {a : α} (h : WP (ret a) μ Q Ex) : Q a μ := h
theorem WP.lft {o : Option α} (h : WP (lft o) μ Q Ex) : ∃ a, o = some a ∧ Q a μ := by
  cases o with
  | none => exact h.elim
  | some a => exact ⟨a, rfl, h⟩
theorem WP.rd {g : Mu → Option α} (h : WP (rd g) μ Q Ex) : ∃ a, g μ = some a ∧ Q a μ := by
  unfold WP Ev.rd Ev.lft at h
  cases e : g μ with
  | none => rw [e] at h; exact h.elim
  | some a => rw [e] at h; exact ⟨a, rfl, h⟩
theorem WP.none (h : WP (fun _ => none : M α) μ Q Ex) : False := h
end

/-- the tables of code objects that are followed, each with the name that its objects bear -/
class Tb where
  T : List (Addr × Str)
  w : World
/-! ## What stands for what -/
def FrL (K : PySem.W.Frag) (H : Hp) (a : Addr) (xs : List V) : Prop :=
  (∃ o, H a = some (.frz o (.lst xs))) ∨
    ∃ (o : Obj) (its : Array Value) (n : Nat), K.lookup a = some o ∧ o.cls = .type "list" ∧ o.dict = none ∧ o.data = .seq its n ∧ its.size ≤ sizeLine ∧ Vals xs its.toList
theorem FrL.seq {K : PySem.W.Frag} {H : Hp} {a : Addr} {xs : List V} (h : FrL K H a xs) : SqL K H a xs := by
  rcases h with ⟨o, h⟩ | h
  · exact .inl (.inr ⟨o, h⟩)
  · exact .inr h
/-- what never changes stands -/
structure Sta (H H' : Hp) : Prop where
  ins : ∀ b C dx v, H b = some (.ins C dx [("row", v)]) → H' b = some (.ins C dx [("row", v)])
  tup : ∀ b vs, H b = some (.tup vs) → H' b = some (.tup vs)
  frz : ∀ b o u, H b = some (.frz o u) → H' b = some (.frz o u)
  xd : ∀ b fs, H b = some (.xd fs) → H' b = some (.xd fs)
theorem Sta.refl (H : Hp) : Sta H H := ⟨fun _ _ _ _ h => h, fun _ _ h => h, fun _ _ _ h => h, fun _ _ h => h⟩
theorem Sta.trans {H H1 H2 : Hp} (a : Sta H H1) (b : Sta H1 H2) : Sta H H2 := ⟨fun c C dx v h => b.ins c C dx v (a.ins c C dx v h), fun c o h => b.tup c o (a.tup c o h), fun c o u h => b.frz c o u (a.frz c o u h), fun c o h => b.xd c o (a.xd c o h)⟩
theorem Sta.new {H : Hp} {p : Addr} {o : HO} (h : H p = none) : Sta H (upd H p o) :=
  ⟨fun b C dx v e => by rw [upd_ne (ne_of_none e h)]; exact e, fun b vs e => by rw [upd_ne (ne_of_none e h)]; exact e, fun b o u e => by rw [upd_ne (ne_of_none e h)]; exact e, fun b fs e => by rw [upd_ne (ne_of_none e h)]; exact e⟩
/-- what a cell may hold -/
def MutO : HO → Prop
  | .lst _ => True
  | .ext _ => True
  | _ => False
theorem Sta.mut {H : Hp} {p : Addr} {u o : HO} (h : H p = some u) (m : MutO u) : Sta H (upd H p o) :=
  ⟨fun b C dx v e => by rw [upd_ne (ne_of e h (by rintro rfl; exact m))]; exact e, fun b vs e => by rw [upd_ne (ne_of e h (by rintro rfl; exact m))]; exact e, fun b o u e => by rw [upd_ne (ne_of e h (by rintro rfl; exact m))]; exact e, fun b fs e => by rw [upd_ne (ne_of e h (by rintro rfl; exact m))]; exact e⟩
theorem Sta.of_same {H H' : Hp} (h : Same H H') : Sta H H' := ⟨fun b C dx v e => h b _ e, fun b vs e => h b _ e, fun b o u e => h b _ e, fun b fs e => h b _ e⟩
section
variable {K : PySem.W.Frag} {H H' : Hp} {a : Addr} {xs : List V}
theorem FrL.ext (h : FrL K H a xs) (e : Sta H H') : FrL K H' a xs := by
  rcases h with ⟨o, h⟩ | h
  · exact .inl ⟨o, e.frz _ _ _ h⟩
  · exact .inr h
theorem SqT_ext (h : SqT K H a xs) (e : Sta H H') : SqT K H' a xs := by
  rcases h with (h | ⟨o, h⟩) | h
  · exact .inl (.inl (e.tup _ _ h))
  · exact .inl (.inr ⟨o, e.frz _ _ _ h⟩)
  · exact .inr h
end
section
variable (K : PySem.W.Frag) (ρ : List Addr) (H : Hp)
mutual
def Rep : D → V → Prop
  | .non, v => v = .non
  | .bl b, v => v = .bl b
  | .int i, v => v = .int i
  | .str x, v => v = .str x
  | .ty n, v => v = .ty n
  | .tup ds, v => ∃ a vs, v = .ref a ∧ SqT K H a vs ∧ RepL ds vs
  | .lst ds, v => ∃ a vs, v = .ref a ∧ FrL K H a vs ∧ RepL ds vs
  | .ptr n, v => ∃ a, ρ[n]? = some a ∧ v = .ref a
  | .exn _ _ _, _ => False
  | .clo _ _, _ => False
  | .obj c ns ds, v => ∃ a dx ws w, v = .ref a ∧ ns = [("row" : Str)] ∧ RepL ds ws ∧ ws = [w] ∧ H a = some (.ins (He.ga K c) dx [("row", w)])
  | .dic _ _, _ => False
def RepL : List D → List V → Prop
  | [], vs => vs = []
  | d :: ds, vs => ∃ v r, vs = v :: r ∧ Rep d v ∧ RepL ds r
end
/-- a dict's rows -/
def DicR : List (NestedKey × D × D) → List (NestedKey × Addr × Value) → Prop
  | [], xs => xs = []
  | x :: r, xs => ∃ (k : NestedKey) (b : Addr) (u : Value) (v : V) (r' : List (NestedKey × Addr × Value)), xs = (k, b, u) :: r' ∧ x.1 = k ∧ Rep K ρ H x.2.1 (V.ref b) ∧ RelV v u ∧ Rep K ρ H x.2.2 v ∧ DicR r r'
/-- a cell -/
def CellR [Tb] (c : C) (a : Addr) : Prop := match c with
  | .dead => True
  | .dic kvs => ∃ xs, DIs Tb.w K H a xs ∧ DicR K ρ H kvs xs
  | .lst ds => ∃ vs, H a = some (.lst vs) ∧ RepL K ρ H ds vs
structure StR [Tb] (μ : Mu) : Prop where
  len : ρ.length = μ.length
  nd : ρ.Nodup
  cell : ∀ (n : Nat) c a, μ[n]? = some c → ρ[n]? = some a → CellR K ρ H c a
  there : ∀ a ∈ ρ, ∃ o, H a = some o ∧ (∀ ps, o ≠ .tbl ps) ∧ ∀ q, o ≠ LamX.CodeO a q
  tabs : LamX.Tabs Tb.T H
structure EnvR (σ : St) (δ : Env) : Prop where
  len : δ.length = σ.length
  at_ : ∀ (i : Nat) d, δ[i]? = some (some d) → ∃ v, σ[i]? = some (some v) ∧ Rep K ρ H d v
end
section
variable {K : PySem.W.Frag} {ρ ρ' : List Addr} {H H' : Hp}
theorem pre_get {n : Nat} {a : Addr} (p : ρ <+: ρ') (h : ρ[n]? = some a) : ρ'[n]? = some a := by
  obtain ⟨t, rfl⟩ := p
  have hn : n < ρ.length := (List.getElem?_eq_some_iff.mp h).1
  rw [List.getElem?_append_left hn]
  exact h
mutual
theorem Rep.mono (e : Sta H H') (p : ρ <+: ρ') : ∀ (d : D) (v : V), Rep K ρ H d v → Rep K ρ' H' d v
  | .non, _, h => h
  | .bl _, _, h => h
  | .int _, _, h => h
  | .str _, _, h => h
  | .ty _, _, h => h
  | .tup ds, _, h => by
    obtain ⟨a, vs, e1, h1, h2⟩ := h
    exact ⟨a, vs, e1, SqT_ext h1 e, RepL.mono e p ds vs h2⟩
  | .lst ds, _, h => by
    obtain ⟨a, vs, e1, h1, h2⟩ := h
    exact ⟨a, vs, e1, h1.ext e, RepL.mono e p ds vs h2⟩
  | .ptr n, _, h => by
    obtain ⟨a, h1, h2⟩ := h
    exact ⟨a, pre_get p h1, h2⟩
  | .exn _ _ _, _, h => h
  | .clo _ _, _, h => h
  | .obj c ns ds, _, h => by
    obtain ⟨a, dx, ws, w, e1, h1, h2, e2, h3⟩ := h
    exact ⟨a, dx, ws, w, e1, h1, RepL.mono e p ds ws h2, e2, e.ins _ _ _ _ h3⟩
  | .dic _ _, _, h => h
theorem RepL.mono (e : Sta H H') (p : ρ <+: ρ') : ∀ (ds : List D) (vs : List V), RepL K ρ H ds vs → RepL K ρ' H' ds vs
  | [], _, h => h
  | d :: ds, _, h => by
    obtain ⟨v, r, e1, h1, h2⟩ := h
    exact ⟨v, r, e1, Rep.mono e p d v h1, RepL.mono e p ds r h2⟩
end
theorem DicR.mono (e : Sta H H') (p : ρ <+: ρ') : ∀ {kvs : List (NestedKey × D × D)} {xs : List (NestedKey × Addr × Value)}, DicR K ρ H kvs xs → DicR K ρ' H' kvs xs
  | [], _, h => h
  | x :: r, _, ⟨k, b, u, v, r', e1, e2, h1, h2, h3, h4⟩ => ⟨k, b, u, v, r', e1, e2, Rep.mono e p _ _ h1, h2, Rep.mono e p _ _ h3, DicR.mono e p h4⟩
mutual
theorem KeyV.mono (e : Sta H H') : ∀ (k : NestedKey) (v : V), KeyV K H k v → KeyV K H' k v
  | .none, _, h => by cases h; exact .non
  | .num _, _, h => by
    cases h with
    | bl b => exact .bl b
    | int _ => exact .int _
  | .text _, _, h => by cases h; exact .str _
  | .tup ks, _, h => by
    cases h with
    | tup h1 h2 => exact .tup (SqT_ext h1 e) (KeysV.mono e ks _ h2)
theorem KeysV.mono (e : Sta H H') : ∀ (ks : List NestedKey) (vs : List V), KeysV K H ks vs → KeysV K H' ks vs
  | [], _, h => by cases h; exact .nil
  | k :: ks, _, h => by
    cases h with
    | cons h1 h2 => exact .cons (KeyV.mono e k _ h1) (KeysV.mono e ks _ h2)
end
theorem CellR.keep [Tb] {c : C} {a : Addr} (e : Sta H H') (p : ρ <+: ρ') (k : ∀ o, H a = some o → MutO o → H' a = some o) (h : CellR K ρ H c a) : CellR K ρ' H' c a := by
  cases c with
  | dead => trivial
  | lst ds =>
    obtain ⟨vs, q1, q2⟩ := h
    exact ⟨vs, k _ q1 trivial, RepL.mono e p ds vs q2⟩
  | dic kvs =>
    obtain ⟨xs, ⟨q1, q2⟩, q3⟩ := h
    exact ⟨xs, ⟨k _ q1 trivial, fun x hx => ⟨KeyV.mono e _ _ (q2 x hx).1, (q2 x hx).2⟩⟩, q3.mono e p⟩
theorem RepL.length : ∀ {ds : List D} {vs : List V}, RepL K ρ H ds vs → ds.length = vs.length
  | [], _, h => by cases h; rfl
  | d :: ds, _, h => by
    obtain ⟨v, r, rfl, _, h2⟩ := h
    simp [RepL.length h2]
theorem RepL.get : ∀ {ds : List D} {vs : List V} {i : Nat} {d : D}, RepL K ρ H ds vs → ds[i]? = some d → ∃ v, vs[i]? = some v ∧ Rep K ρ H d v
  | [], _, _, _, _, e => by simp at e
  | d :: ds, _, 0, d', h, e => by
    obtain ⟨v, r, rfl, h1, _⟩ := h
    simp at e
    subst e
    exact ⟨v, rfl, h1⟩
  | d :: ds, _, i + 1, d', h, e => by
    obtain ⟨v, r, rfl, _, h2⟩ := h
    obtain ⟨u, h3, h4⟩ := RepL.get (i := i) h2 (by simpa using e)
    exact ⟨u, by simpa using h3, h4⟩
theorem RepL.append : ∀ {ds es : List D} {vs ws : List V}, RepL K ρ H ds vs → RepL K ρ H es ws → RepL K ρ H (ds ++ es) (vs ++ ws)
  | [], es, _, ws, h, h2 => by cases h; exact h2
  | d :: ds, es, _, ws, h, h2 => by
    obtain ⟨v, r, rfl, h3, h4⟩ := h
    exact ⟨v, r ++ ws, rfl, h3, RepL.append h4 h2⟩
theorem RepL.take : ∀ {ds : List D} {vs : List V} (n : Nat), RepL K ρ H ds vs → RepL K ρ H (ds.take n) (vs.take n)
  | ds, vs, 0, h => by
    show RepL K ρ H (ds.take 0) (vs.take 0)
    rw [List.take_zero, List.take_zero]
    exact rfl
  | [], _, n + 1, h => by cases h; exact rfl
  | d :: ds, _, n + 1, h => by
    obtain ⟨v, r, rfl, h3, h4⟩ := h
    exact ⟨v, r.take n, rfl, h3, RepL.take n h4⟩
theorem RepL.drop : ∀ {ds : List D} {vs : List V} (n : Nat), RepL K ρ H ds vs → RepL K ρ H (ds.drop n) (vs.drop n)
  | ds, vs, 0, h => h
  | [], _, n + 1, h => by cases h; exact rfl
  | d :: ds, _, n + 1, h => by
    obtain ⟨v, r, rfl, h3, h4⟩ := h
    exact RepL.drop n h4
theorem RepL.set {d : D} {v : V} (hr : Rep K ρ H d v) : ∀ {ds : List D} {vs : List V} (n : Nat), RepL K ρ H ds vs → RepL K ρ H (ds.set n d) (vs.set n v)
  | [], _, n, h => by cases h; exact rfl
  | d :: ds, _, 0, h => by
    obtain ⟨v', r, rfl, h3, h4⟩ := h
    exact ⟨v, r, rfl, hr, h4⟩
  | d :: ds, _, n + 1, h => by
    obtain ⟨v', r, rfl, h3, h4⟩ := h
    exact ⟨v', r.set n v, rfl, h3, RepL.set hr n h4⟩
theorem RepL.one {d : D} {v : V} (h : Rep K ρ H d v) : RepL K ρ H [d] [v] := ⟨v, [], rfl, h, rfl⟩
theorem RepL.none_of {ds : List D} {vs : List V} {i : Nat} (h : RepL K ρ H ds vs) (e : ds[i]? = none) : vs[i]? = none := by
  have h1 := h.length
  have h2 := List.getElem?_eq_none_iff.mp e
  exact List.getElem?_eq_none_iff.mpr (by omega)
theorem EnvR.mono {σ : St} {δ : Env} (h : EnvR K ρ H σ δ) (e : Sta H H') (p : ρ <+: ρ') : EnvR K ρ' H' σ δ :=
  ⟨h.len, fun i d q => let ⟨v, h1, h2⟩ := h.at_ i d q; ⟨v, h1, Rep.mono e p d v h2⟩⟩
theorem EnvR.set {σ : St} {δ : Env} {d : D} {v : V} (h : EnvR K ρ H σ δ) (i : Nat) (hr : Rep K ρ H d v) : EnvR K ρ H (σ.set i (some v)) (δ.set i (some d)) := by
  refine ⟨by simpa using h.len, fun j d' q => ?_⟩
  by_cases hj : i = j
  · subst hj
    by_cases hi : i < δ.length
    · rw [List.getElem?_set_self hi] at q
      cases q
      exact ⟨v, by rw [List.getElem?_set_self (by rw [← h.len]; exact hi)], hr⟩
    · rw [List.getElem?_eq_none (by simpa using hi)] at q
      cases q
  · rw [List.getElem?_set_ne hj] at q
    obtain ⟨w, h1, h2⟩ := h.at_ j d' q
    exact ⟨w, by rw [List.getElem?_set_ne hj]; exact h1, h2⟩
theorem wipe_len (δ : Env) : ∀ vs : List Nat, (wipe δ vs).length = δ.length
  | [] => rfl
  | v :: vs => by unfold wipe; rw [List.length_set, wipe_len δ vs]
theorem EnvR.set_none {σ : St} {δ : Env} (h : EnvR K ρ H σ δ) (i : Nat) : EnvR K ρ H (σ.set i none) (δ.set i none) := by
  refine ⟨by simpa using h.len, fun j d' q => ?_⟩
  by_cases hj : i = j
  · subst hj
    by_cases hi : i < δ.length
    · rw [List.getElem?_set_self hi] at q
      cases q
    · rw [List.getElem?_eq_none (by simpa using hi)] at q
      cases q
  · rw [List.getElem?_set_ne hj] at q
    obtain ⟨w, h1, h2⟩ := h.at_ j d' q
    exact ⟨w, by rw [List.getElem?_set_ne hj]; exact h1, h2⟩
theorem EnvR.wipe {σ : St} {δ : Env} (h : EnvR K ρ H σ δ) : ∀ vs : List Nat, EnvR K ρ H (L2.wipe σ vs) (Ev.wipe δ vs)
  | [] => h
  | v :: vs => (EnvR.wipe h vs).set_none v
theorem tabs_new [Tb] {p : Addr} {o : HO} (t : LamX.Tabs Tb.T H) (h : H p = none) : LamX.Tabs Tb.T (upd H p o) := t.ext fun b x e => by
  rw [upd_ne (ne_of_none e h)]
  exact e
theorem tabs_mut [Tb] {a : Addr} {u o : HO} (t : LamX.Tabs Tb.T H) (h : H a = some u) (m : MutO u) (nc : ∀ q, u ≠ LamX.CodeO a q) : LamX.Tabs Tb.T (upd H a o) := fun p hp => by
  obtain ⟨ps, h1, h2, h3⟩ := t p hp
  refine ⟨ps, by rw [upd_ne (ne_of h1 h (by rintro rfl; exact m))]; exact h1, h2, fun pos cv hc => ?_⟩
  obtain ⟨c, e1, e2⟩ := h3 pos cv hc
  refine ⟨c, e1, ?_⟩
  have ne : c ≠ a := by
    rintro rfl
    rw [h] at e2
    exact nc _ (Option.some.inj e2)
  rw [upd_ne ne]
  exact e2
/-- cells under a change of the heap -/
theorem StR.ext [Tb] {μ : Mu} (h : StR K ρ H μ) (e : Sta H H') (k : ∀ a o, a ∈ ρ → H a = some o → MutO o → H' a = some o) (t : ∀ a ∈ ρ, ∃ o, H' a = some o ∧ (∀ ps, o ≠ .tbl ps) ∧ ∀ q, o ≠ LamX.CodeO a q) (tb : LamX.Tabs Tb.T H') : StR K ρ H' μ :=
  ⟨h.len, h.nd, fun n c a h1 h2 => (h.cell n c a h1 h2).keep e (List.prefix_refl _) fun o => k a o (List.mem_of_getElem? h2), t, tb⟩
theorem StR.same [Tb] {μ : Mu} (h : StR K ρ H μ) (e : Same H H') : StR K ρ H' μ :=
  h.ext (Sta.of_same e) (fun a o _ q _ => e _ _ q) (fun a ha => let ⟨o, q, n⟩ := h.there a ha; ⟨o, e _ _ q, n⟩) (h.tabs.ext e)
theorem StR.new [Tb] {μ : Mu} (h : StR K ρ H μ) {p : Addr} {o : HO} (hp : H p = none) : StR K ρ (upd H p o) μ :=
  h.same fun b x e => by rw [upd_ne (ne_of_none e hp)]; exact e
/-- what is no table and no code -/
def PlainO (a : Addr) (o : HO) : Prop := (∀ ps, o ≠ .tbl ps) ∧ ∀ q, o ≠ LamX.CodeO a q
theorem plainO_lst {a : Addr} {xs : List V} : PlainO a (.lst xs) := ⟨(by intro _ z; cases z), (by intro _ z; unfold LamX.CodeO at z; cases z)⟩
theorem plain_frz {a : Addr} {o : Obj} {u : HO} : PlainO a (.frz o u) := ⟨(by intro _ z; cases z), (by intro _ z; unfold LamX.CodeO at z; cases z)⟩
theorem plain_dto {a : Addr} {w : World} {xs : List (NestedKey × Addr × Value)} : PlainO a (DTo w a xs) := ⟨(by intro _ z; unfold DTo at z; cases z), fun q => dTo_code⟩
/-- a new cell -/
theorem StR.consC [Tb] {μ : Mu} (h : StR K ρ H μ) {p : Addr} {o : HO} {c : C} (hp : H p = none) (hc : CellR K (ρ ++ [p]) (upd H p o) c p) (ho : PlainO p o) : StR K (ρ ++ [p]) (upd H p o) (μ ++ [c]) := by
  have e1 : Sta H (upd H p o) := Sta.new hp
  have pf : ρ <+: ρ ++ [p] := List.prefix_append _ _
  have hnp : p ∉ ρ := fun z => by
    obtain ⟨o, q, _⟩ := h.there p z
    rw [hp] at q
    cases q
  refine ⟨by simp [h.len], ?_, fun n c' a h1 h2 => ?_, fun a ha => ?_, tabs_new h.tabs hp⟩
  · rw [List.nodup_append]
    exact ⟨h.nd, by simp, fun a ha b hb => by
      have : b = p := by simpa using hb
      subst this
      intro z
      subst z
      exact hnp ha⟩
  · by_cases hn : n < μ.length
    · rw [List.getElem?_append_left hn] at h1
      rw [List.getElem?_append_left (by rw [h.len]; exact hn)] at h2
      exact (h.cell n c' a h1 h2).keep e1 pf fun o q _ => by rw [upd_ne (ne_of_none q hp)]; exact q
    · have hm : n = μ.length := by
        have h3 := (List.getElem?_eq_some_iff.mp h1).1
        simp at h3
        omega
      subst hm
      rw [List.getElem?_append_right (Nat.le_refl _), Nat.sub_self] at h1
      rw [List.getElem?_append_right (by rw [h.len]; exact Nat.le_refl _), h.len, Nat.sub_self] at h2
      have ec : c = c' := by simpa using h1
      have ea : p = a := by simpa using h2
      subst ec
      subst ea
      exact hc
  · rcases List.mem_append.mp ha with z | z
    · obtain ⟨o, q, n⟩ := h.there a z
      exact ⟨o, by rw [upd_ne (ne_of_none q hp)]; exact q, n⟩
    · have : a = p := by simpa using z
      subst this
      exact ⟨_, upd_same, ho⟩
theorem StR.cons [Tb] {μ : Mu} (h : StR K ρ H μ) {p : Addr} {vs : List V} {ds : List D} (hp : H p = none) (hr : RepL K ρ H ds vs) : StR K (ρ ++ [p]) (upd H p (.lst vs)) (μ ++ [.lst ds]) :=
  h.consC hp ⟨vs, upd_same, RepL.mono (Sta.new hp) (List.prefix_append _ _) ds vs hr⟩ plainO_lst
/-- a cell is written -/
theorem StR.putC [Tb] {μ : Mu} (h : StR K ρ H μ) {n : Nat} {a : Addr} {u o : HO} {c : C} (ha : ρ[n]? = some a) (hx : H a = some u) (m : MutO u) (nc : ∀ q, u ≠ LamX.CodeO a q) (hc : CellR K ρ (upd H a o) c a) (ho : PlainO a o) : StR K ρ (upd H a o) (μ.set n c) := by
  have e1 : Sta H (upd H a o) := Sta.mut hx m
  refine ⟨by simp [h.len], h.nd, fun k c' b h1 h2 => ?_, fun b hb => ?_, tabs_mut h.tabs hx m nc⟩
  · by_cases hm : n = k
    · subst hm
      rw [ha] at h2
      cases h2
      have hn : n < μ.length := by
        rw [← h.len]
        exact (List.getElem?_eq_some_iff.mp ha).1
      rw [List.getElem?_set_self hn] at h1
      cases h1
      exact hc
    · rw [List.getElem?_set_ne hm] at h1
      have hab : b ≠ a := fun z => by
        subst z
        obtain ⟨x1, y1⟩ := List.getElem?_eq_some_iff.mp ha
        obtain ⟨x2, y2⟩ := List.getElem?_eq_some_iff.mp h2
        exact hm ((List.getElem_inj h.nd).mp (y1.trans y2.symm))
      exact (h.cell k c' b h1 h2).keep e1 (List.prefix_refl _) fun o q _ => by rw [upd_ne hab]; exact q
  · by_cases hb2 : b = a
    · subst hb2
      exact ⟨_, upd_same, ho⟩
    · obtain ⟨o, q, n⟩ := h.there b hb
      exact ⟨o, by rw [upd_ne hb2]; exact q, n⟩
theorem StR.put [Tb] {μ : Mu} (h : StR K ρ H μ) {n : Nat} {a : Addr} {xs vs : List V} {ds : List D} (ha : ρ[n]? = some a) (hx : H a = some (.lst xs)) (hr : RepL K ρ H ds vs) : StR K ρ (upd H a (.lst vs)) (μ.set n (.lst ds)) :=
  h.putC ha hx trivial plainO_lst.2 ⟨vs, upd_same, RepL.mono (Sta.mut hx trivial) (List.prefix_refl _) ds vs hr⟩ plainO_lst
/-- a cell is told for good -/
theorem StR.freeze [Tb] {μ : Mu} (h : StR K ρ H μ) {n : Nat} {a : Addr} {xs : List V} {o : Obj} (ha : ρ[n]? = some a) (hx : H a = some (.lst xs)) : StR K ρ (upd H a (.frz o (.lst xs))) (μ.set n .dead) :=
  h.putC ha hx trivial plainO_lst.2 trivial plain_frz
end


/-- from (ρ, H) to (ρ', H'): cells are added, what is no cell stands -/
structure Ext (ρ ρ' : List Addr) (H H' : Hp) : Prop where
  sta : Sta H H'
  pre : ρ <+: ρ'
  fresh : ∀ b ∈ ρ', b ∉ ρ → H b = none ∨ ∃ ps, H b = some (.tbl ps)
  keep : ∀ b o, H b = some o → b ∉ ρ → (∀ ps, o ≠ .tbl ps) → H' b = some o
section
variable {ρ ρ' ρ1 ρ2 : List Addr} {H H' H1 H2 : Hp}
theorem Ext.refl (ρ : List Addr) (H : Hp) : Ext ρ ρ H H := ⟨Sta.refl H, List.prefix_refl _, fun _ h n => absurd h n, fun _ _ h _ _ => h⟩
theorem Ext.trans (a : Ext ρ ρ1 H H1) (b : Ext ρ1 ρ2 H1 H2) : Ext ρ ρ2 H H2 := by
  refine ⟨a.sta.trans b.sta, a.pre.trans b.pre, fun c hc n => ?_, fun c o h n ht => ?_⟩
  · by_cases h1 : c ∈ ρ1
    · exact a.fresh c h1 n
    · have h2 := b.fresh c hc h1
      cases e : H c with
      | none => exact .inl rfl
      | some o =>
        by_cases ht : ∃ ps, o = .tbl ps
        · obtain ⟨ps, rfl⟩ := ht
          exact .inr ⟨ps, rfl⟩
        · have q := a.keep c o e n fun ps z => ht ⟨ps, z⟩
          rcases h2 with h2 | ⟨ps, h2⟩
          · rw [q] at h2
            cases h2
          · rw [q] at h2
            exact absurd ⟨ps, Option.some.inj h2⟩ ht
  · have h1 : c ∉ ρ1 := fun z => by
      rcases a.fresh c z n with q | ⟨ps, q⟩
      · rw [q] at h
        cases h
      · rw [q] at h
        exact ht ps (Option.some.inj h).symm
    exact b.keep c o (a.keep c o h n ht) h1 ht
theorem Ext.same (h : Same H H') : Ext ρ ρ H H' := ⟨Sta.of_same h, List.prefix_refl _, fun _ h n => absurd h n, fun _ _ e _ _ => h _ _ e⟩
theorem Ext.new {p : Addr} {o : HO} (h : H p = none) : Ext ρ ρ H (upd H p o) := Ext.same fun b x e => by rw [upd_ne (ne_of_none e h)]; exact e
theorem Ext.cell {p : Addr} {o : HO} (h : H p = none) : Ext ρ (ρ ++ [p]) H (upd H p o) :=
  ⟨Sta.new h, List.prefix_append _ _, fun b hb n => by
    rcases List.mem_append.mp hb with z | z
    · exact absurd z n
    · have : b = p := by simpa using z
      rw [this]
      exact .inl h, fun b x e _ _ => by rw [upd_ne (ne_of_none e h)]; exact e⟩
theorem Ext.putC {p : Addr} {u o : HO} (h : H p = some u) (m : MutO u) (hp : p ∈ ρ) : Ext ρ ρ H (upd H p o) :=
  ⟨Sta.mut h m, List.prefix_refl _, fun _ z n => absurd z n, fun b x e n _ => by rw [upd_ne (fun z => n (by rw [z]; exact hp))]; exact e⟩
theorem Ext.put {p : Addr} {xs : List V} {o : HO} (h : H p = some (.lst xs)) (hp : p ∈ ρ) : Ext ρ ρ H (upd H p o) := Ext.putC h trivial hp
end

/-! ## Freezing -/
section
variable {X : Cx} {pins : List (Addr × Obj)} {σ : St} {H : Hp} {s : Shared} {a : Addr} {xs : List V}
theorem freeze (I : Inv X pins σ H s) (h : H a = some (.lst xs)) : ∃ o, Inv X pins σ (upd H a (.frz o (.lst xs))) s := by
  obtain ⟨z, its, n, r, e⟩ := (show ObjOk X.prog X.w H s.heap a (.lst xs) from I.hok a _ h)
  refine ⟨_, I.un (t' := s.toks) (h' := s.heap) (H' := upd H a (.frz { cls := .type "list", data := .seq its.toArray n } (.lst xs))) ⟨fun b o q _ _ _ => q, fun b o q _ _ _ => ⟨o.slots, q⟩, fun b o q k _ => by rw [upd_ne (fun z => by subst z; rw [h] at k; cases k)]; exact k, fun b o q _ => ⟨o, q⟩,
    fun b vs q => by rw [upd_ne (ne_of q h (by intro z; cases z))]; exact q, fun b o u q => by rw [upd_ne (ne_of q h (by intro z; cases z))]; exact q, fun b ps q => ⟨#[], by rw [upd_ne (ne_of q h (by intro z; cases z)), q]; simp⟩⟩ fun b o q => ?_⟩
  by_cases hb : b = a
  · subst hb
    rw [upd_same] at q
    cases q
    exact ⟨e, z, its, n, r, e⟩
  · rw [upd_ne hb] at q
    exact (I.hok b o q).stay (fun c u _ w => w) (fun c w => by rw [upd_ne (ne_of w h (by intro z; cases z))]; exact w) fun c vs w => by rw [upd_ne (ne_of w h (by intro z; cases z))]; exact w
def frzd {α : Type} (Q : α → Hp → Prop) : α → Hp → Prop := fun v H => Q v H ∨ ∃ a vs, H a = some (.lst vs) ∧ ∀ o, Q v (upd H a (.frz o (.lst vs)))
theorem PE_frz {e : Expr} {t : TE} (h : PE X e t) : PE X e (fun σ H Q => t σ H (frzd Q)) := by
  refine ⟨fun pins s σ H Q I hq => thn (h.run pins s σ H _ I hq) fun u s' ⟨v, H', I', r, q⟩ => ?_⟩
  rcases q with q | ⟨a, vs, ha, q⟩
  · exact ⟨v, H', I', r, q⟩
  · obtain ⟨o, I2⟩ := freeze I' ha
    exact ⟨v, _, I2, r, q o⟩
theorem PE_imp {e : Expr} {t t' : TE} (h : PE X e t) (hi : ∀ σ H Q, t' σ H Q → t σ H Q) : PE X e t' := ⟨fun pins s σ H Q I hq => h.run pins s σ H Q I (hi σ H Q hq)⟩
theorem PT_imp {e : Expr} {t t' : TT} (h : PT X e t) (hi : ∀ σ H Q, t' σ H Q → t σ H Q) : PT X e t' := ⟨fun pins s σ H Q I hq => h.run pins s σ H Q I (hi σ H Q hq)⟩
theorem PA_imp {es : List Expr} {t t' : TA} (h : PA X es t) (hi : ∀ σ H Q, t' σ H Q → t σ H Q) : PA X es t' := ⟨fun pos pins s σ H Q I hq => h.run pos pins s σ H Q I (hi σ H Q hq)⟩
theorem PS_imp {st : Stmt} {t t' : TS} (h : PS X st t) (hi : ∀ D σ H, t' D σ H → t D σ H) : PS X st t' := ⟨fun pins s σ H D I hq => h.run pins s σ H D I (hi D σ H hq)⟩
theorem PSs_imp {st : List Stmt} {t t' : TS} (h : PSs X st t) (hi : ∀ D σ H, t' D σ H → t D σ H) : PSs X st t' := ⟨fun pins s σ H D I hq => h.run pins s σ H D I (hi D σ H hq)⟩
theorem PS_frz {st : Stmt} {t : TS} (h : PS X st t) : PS X st (fun D σ H => t { D with nx := fun σ' H' => frzd D.nx σ' H' } σ H) := by
  refine ⟨fun pins s σ H D I hq => thn (h.run pins s σ H _ I hq) fun f s' hf => ?_⟩
  cases f with
  | next =>
    obtain ⟨σ', H', I', q⟩ := hf
    rcases q with q | ⟨a, vs, ha, q⟩
    · exact ⟨σ', H', I', q⟩
    · obtain ⟨o, I2⟩ := freeze I' ha
      exact ⟨σ', _, I2, q o⟩
  | brk => exact hf
  | cont => exact hf
  | ret u => exact hf
end
end Ev

namespace Ev
open L2 PyProof.Rows PySem.Spec PySem
variable [Tb]

/-! ## The transformer of a term -/
section
variable (X : Cx)
def FldR (K : PySem.W.Frag) (ρ : List Addr) (H : Hp) : List Str → List D → List (Str × V) → Prop
  | n :: ns, d :: ds, fs => (∃ v, fs.lookup n = some v ∧ Rep K ρ H d v) ∧ FldR K ρ H ns ds fs
  | [], [], _ => True
  | _, _, _ => False
def RepX (mg : Str → Option Value) (K : PySem.W.Frag) (ρ : List Addr) (H : Hp) (cls : Value) (od : Option Addr) (x : Exn) : Prop :=
  mg x.c = some cls ∧ ∃ dd fs, od = some dd ∧ H dd = some (.xd fs) ∧ FldR K ρ H x.ns x.ds fs
def XW (x : Exn) (δ : Env) (μ : Mu) (ρ : List Addr) (H : Hp) : WX := fun cls od σ' H' => ∃ ρ', Ext ρ ρ' H H' ∧ EnvR X.K ρ' H' σ' δ ∧ StR X.K ρ' H' μ ∧ RepX X.mg X.K ρ' H' cls od x
/-- the wish behind an expression that gives d -/
def OkW (ρ : List Addr) (H : Hp) (Q : VK) : D → Mu → Prop := fun d μ' => ∀ v H' ρ', Ext ρ ρ' H H' → StR X.K ρ' H' μ' → Rep X.K ρ' H' d v → Q v H'
def ExW (δ : Env) (ρ : List Addr) (H : Hp) : Exn → Mu → Prop := fun x μ' => L2N.Takes X (XW X x δ μ' ρ H)
def teM (m : Env → M D) : TE := fun σ H Q => ∃ δ μ ρ, EnvR X.K ρ H σ δ ∧ StR X.K ρ H μ ∧ WP (m δ) μ (OkW X ρ H Q) (ExW X δ ρ H)
abbrev GE (e : Expr) (m : Env → M D) : Prop := PE X e (teM X m)
end
section
variable {X : Cx} {δ : Env} {ρ ρ' : List Addr} {H H' : Hp}
theorem ExW.up {x : Exn} {μ : Mu} (h : ExW X δ ρ H x μ) (e : Ext ρ ρ' H H') : ExW X δ ρ' H' x μ :=
  L2N.Takes.imp h fun _ _ _ _ ⟨ρ2, e2, r⟩ => ⟨ρ2, e.trans e2, r⟩
theorem OkW.up {Q : VK} {d : D} {μ : Mu} (h : OkW X ρ H Q d μ) (e : Ext ρ ρ' H H') : OkW X ρ' H' Q d μ :=
  fun v H2 ρ2 e2 => h v H2 ρ2 (e.trans e2)
/-- one part of an expression, then the rest -/
theorem te_step {σ : St} {Q : VK} {ma : Env → M D} {μ : Mu} {K2 : D → Mu → Prop} (hE : EnvR X.K ρ H σ δ) (hS : StR X.K ρ H μ) (h : WP (ma δ) μ K2 (ExW X δ ρ H))
    (k : ∀ d μ' v H' ρ', K2 d μ' → Ext ρ ρ' H H' → StR X.K ρ' H' μ' → Rep X.K ρ' H' d v → EnvR X.K ρ' H' σ δ → Q v H') : teM X ma σ H Q :=
  ⟨δ, μ, ρ, hE, hS, h.mono (fun d μ' hk v H' ρ' e s r => k d μ' v H' ρ' hk e s r (hE.mono e.sta e.pre)) fun _ _ z => z⟩
end

/-! ## Operations by data -/
section
variable (X : Cx)
def rD (g : Mu → D → D → Option D) : R2 := fun v w H Q => ∃ ρ μ x y z, StR X.K ρ H μ ∧ Rep X.K ρ H x v ∧ Rep X.K ρ H y w ∧ g μ x y = some z ∧ OkW X ρ H Q z μ
abbrev OpD (f : Value → Value → Sem Value) (g : Mu → D → D → Option D) : Prop := OpR X f (rD X g)
def rD1 (g : Mu → D → Option D) : V → Hp → VK → Prop := fun v H Q => ∃ ρ μ x z, StR X.K ρ H μ ∧ Rep X.K ρ H x v ∧ g μ x = some z ∧ OkW X ρ H Q z μ
end
section
variable {X : Cx} {a b c : Expr} {ma mb mc : Env → M D} {pos : Pos}
theorem OpR_frz {f : Value → Value → Sem Value} {r : R2} (h : OpR X f r) : OpR X f (fun x y H Q => r x y H (frzd Q)) := by
  intro pins s σ H x y v u Q I rx ry hq
  refine thn (h pins s σ H x y v u _ I rx ry hq) fun u s' ⟨v, H', I', r, q⟩ => ?_
  rcases q with q | ⟨a, vs, ha, q⟩
  · exact ⟨v, H', I', r, q⟩
  · obtain ⟨o, I2⟩ := freeze I' ha
    exact ⟨v, _, I2, r, q o⟩
theorem OpR_imp {f : Value → Value → Sem Value} {r r' : R2} (h : OpR X f r) (hi : ∀ x y H Q, r' x y H Q → r x y H Q) : OpR X f r' := fun pins s σ H x y v u Q I rx ry hq => h pins s σ H x y v u Q I rx ry (hi _ _ _ _ hq)
theorem CallR_frz {f : Value} {r : List V → Hp → VK → Prop} (h : CallR X f r) : CallR X f (fun x H Q => r x H (frzd Q)) := by
  intro pins s σ H xs us Q I rx hq
  refine thn (h pins s σ H xs us _ I rx hq) fun u s' ⟨v, H', I', r, q⟩ => ?_
  rcases q with q | ⟨a, vs, ha, q⟩
  · exact ⟨v, H', I', r, q⟩
  · obtain ⟨o, I2⟩ := freeze I' ha
    exact ⟨v, _, I2, r, q o⟩
theorem CallR_imp {f : Value} {r r' : List V → Hp → VK → Prop} (h : CallR X f r) (hi : ∀ x H Q, r' x H Q → r x H Q) : CallR X f r' := fun pins s σ H xs us Q I rx hq => h pins s σ H xs us Q I rx (hi _ _ _ hq)

theorem ge_bin {op : Operator} {g : Mu → D → D → Option D} (ho : OpD X (binaryOp op) g) (ha : GE X a ma) (hb : GE X b mb) : GE X (.BinOp a op b pos) (fun δ => bnd (ma δ) fun x => bnd (mb δ) fun y => rd fun μ => g μ x y) := by
  refine PE_imp (pe_op ho ha hb) fun σ H Q h => ?_
  obtain ⟨δ, μ, ρ, hE, hS, h⟩ := h
  refine te_step hE hS h.bnd fun x μ1 v H1 ρ1 k e1 s1 r1 E1 => ?_
  refine te_step E1 s1 (k.bnd.mono (fun _ _ z => z) fun _ _ z => ExW.up z e1) fun y μ2 w H2 ρ2 k2 e2 s2 r2 E2 => ?_
  obtain ⟨z, hz, q⟩ := k2.rd
  exact ⟨ρ2, μ2, x, y, z, s2, Rep.mono e2.sta e2.pre x v r1, r2, hz, OkW.up q (e1.trans e2)⟩
theorem ge_cmp {op : CmpOp} {g : Mu → D → D → Option D} (ho : OpD X (compareOp op) g) (ha : GE X a ma) (hb : GE X b mb) (hm : behindInMarks op b = false) : GE X (.Compare a [op] [b] pos) (fun δ => bnd (ma δ) fun x => bnd (mb δ) fun y => rd fun μ => g μ x y) := by
  refine PE_imp (pe_cmpR ho ha hb hm) fun σ H Q h => ?_
  obtain ⟨δ, μ, ρ, hE, hS, h⟩ := h
  refine te_step hE hS h.bnd fun x μ1 v H1 ρ1 k e1 s1 r1 E1 => ?_
  refine te_step E1 s1 (k.bnd.mono (fun _ _ z => z) fun _ _ z => ExW.up z e1) fun y μ2 w H2 ρ2 k2 e2 s2 r2 E2 => ?_
  obtain ⟨z, hz, q⟩ := k2.rd
  exact ⟨ρ2, μ2, x, y, z, s2, Rep.mono e2.sta e2.pre x v r1, r2, hz, OkW.up q (e1.trans e2)⟩
theorem ge_lit {d : D} {v : V} {e : Expr} (h : PE X e (tC v)) (hd : ∀ K ρ H, Rep K ρ H d v) : GE X e (fun _ => ret d) := by
  refine PE_imp h fun σ H Q hq => ?_
  obtain ⟨δ, μ, ρ, hE, hS, h⟩ := hq
  exact WP.ret h v H ρ (Ext.refl ρ H) hS (hd _ _ _)
theorem ge_var {i : Nat} {x : Str} (hN : X.N[i]? = some x) (hv : Vis X.env.scope x) (hd : (x == ("__debug__" : Str)) = false) (hcd : (x == ("__classdict__" : Str)) = false) : GE X (.Name x pos) (fun δ => lft (δ[i]?.join)) := by
  refine PE_imp (pe_var hN hv hd hcd) fun σ H Q hq => ?_
  obtain ⟨δ, μ, ρ, hE, hS, h⟩ := hq
  obtain ⟨d, hd, q⟩ := h.lft
  have hj : δ[i]? = some (some d) := by
    cases e : δ[i]? with
    | none => rw [e] at hd; cases hd
    | some o => rw [e] at hd; cases o with
      | none => cases hd
      | some d' => cases hd; rfl
  obtain ⟨v, h1, h2⟩ := hE.at_ i d hj
  exact ⟨v, h1, q v H ρ (Ext.refl ρ H) hS h2⟩
end

/-! ## Views -/
section
variable {K : PySem.W.Frag} {ρ : List Addr} {H : Hp} {μ : Mu}
theorem view_lst (hS : StR K ρ H μ) {x : D} {v : V} {ds : List D} (r : Rep K ρ H x v) (h : view μ x = .lst ds) : ∃ a vs, v = .ref a ∧ SqL K H a vs ∧ RepL K ρ H ds vs := by
  cases x with
  | lst es =>
    have e : es = ds := by
      have h' : D.lst es = D.lst ds := h
      cases h'
      rfl
    subst e
    obtain ⟨a, vs, e1, h1, h2⟩ := r
    exact ⟨a, vs, e1, h1.seq, h2⟩
  | ptr n =>
    obtain ⟨a, h1, h2⟩ := r
    have h' : (match μ[n]? with
      | some (.lst ds) => D.lst ds
      | _ => .ptr n) = D.lst ds := h
    cases hc : μ[n]? with
    | none => rw [hc] at h'; cases h'
    | some c =>
      rw [hc] at h'
      cases c with
      | dead => cases h'
      | dic _ => cases h'
      | lst es =>
        have e : es = ds := by cases h'; rfl
        subst e
        obtain ⟨vs, q1, q2⟩ := hS.cell n _ a hc h1
        exact ⟨a, vs, h2, .inl (.inl q1), q2⟩
  | _ => cases h
theorem view_ne {x d : D} (h : view μ x = d) (hd : ∀ ds, d ≠ .lst ds) : x = d := by
  cases x with
  | ptr n =>
    have h' : (match μ[n]? with
      | some (.lst ds) => D.lst ds
      | _ => .ptr n) = d := h
    cases hc : μ[n]? with
    | none => rw [hc] at h'; exact h'
    | some c =>
      rw [hc] at h'
      cases c with
      | dead => exact h'
      | dic _ => exact h'
      | lst es => exact (hd es h'.symm).elim
  | _ => exact h
theorem rep_tup {ds : List D} {v : V} (r : Rep K ρ H (.tup ds) v) : ∃ a vs, v = .ref a ∧ SqT K H a vs ∧ RepL K ρ H ds vs := r
theorem seqOf_some {x : D} {ds : List D} (h : seqOf x = some ds) : x = .lst ds ∨ x = .tup ds := by
  cases x with
  | lst es => cases h; exact .inl rfl
  | tup es => cases h; exact .inr rfl
  | _ => cases h
theorem view_seq (hS : StR K ρ H μ) {x : D} {v : V} {ds : List D} (r : Rep K ρ H x v) (h : seqOf (view μ x) = some ds) : ∃ a vs, v = .ref a ∧ ((SqL K H a vs ∧ view μ x = .lst ds) ∨ (SqT K H a vs ∧ x = .tup ds)) ∧ RepL K ρ H ds vs := by
  rcases seqOf_some h with e | e
  · obtain ⟨a, vs, h1, h2, h3⟩ := view_lst hS r e
    exact ⟨a, vs, h1, .inl ⟨h2, e⟩, h3⟩
  · have e2 := view_ne e (by intro _ z; cases z)
    subst e2
    obtain ⟨a, vs, h1, h2, h3⟩ := rep_tup r
    exact ⟨a, vs, h1, .inr ⟨h2, rfl⟩, h3⟩
/-! deep data -/
mutual
theorem dp_of : ∀ (d : D) (v : V) (p : PyData), toPy d = some p → Rep K ρ H d v → Dp K H v p
  | .non, _, _, h, r => by cases h; cases r; exact .non
  | .bl b, _, _, h, r => by cases h; cases r; exact .bl b
  | .int i, _, _, h, r => by cases h; cases r; exact .int i
  | .str x, _, _, h, r => by cases h; cases r; exact .str x
  | .tup ds, _, p, h, r => by
    obtain ⟨a, vs, rfl, h1, h2⟩ := r
    have h' : (toPyL ds).map PyData.tuple = some p := h
    obtain ⟨ps, e1, e2⟩ := Option.map_eq_some_iff.mp h'
    subst e2
    exact .tup h1 (dp_ofL ds vs ps e1 h2)
  | .lst ds, _, p, h, r => by
    obtain ⟨a, vs, rfl, h1, h2⟩ := r
    have h' : (toPyL ds).map PyData.list = some p := h
    obtain ⟨ps, e1, e2⟩ := Option.map_eq_some_iff.mp h'
    subst e2
    exact .lst h1.seq (dp_ofL ds vs ps e1 h2)
  | .ptr _, _, _, h, _ => by cases h
  | .ty _, _, _, h, _ => by cases h
  | .exn _ _ _, _, _, h, _ => by cases h
  | .clo _ _, _, _, h, _ => by cases h
  | .obj _ _ _, _, _, h, _ => by cases h
  | .dic _ _, _, _, h, _ => by cases h
theorem dp_ofL : ∀ (ds : List D) (vs : List V) (ps : List PyData), toPyL ds = some ps → RepL K ρ H ds vs → DpAll K H vs ps
  | [], _, _, h, r => by
    cases r
    cases h
    exact .nil
  | d :: ds, _, ps, h, r => by
    obtain ⟨v, r', rfl, h1, h2⟩ := r
    have h' : (match toPy d, toPyL ds with
      | some x, some xs => some (x :: xs)
      | _, _ => none) = some ps := h
    cases e1 : toPy d with
    | none => rw [e1] at h'; cases h'
    | some x =>
      cases e2 : toPyL ds with
      | none => rw [e1, e2] at h'; cases h'
      | some xs =>
        rw [e1, e2] at h'
        cases h'
        exact .cons (dp_of d v x e1 h1) (dp_ofL ds r' xs e2 h2)
end
theorem dp_view (hS : StR K ρ H μ) {x : D} {v : V} {p : PyData} (h : toPy (view μ x) = some p) (r : Rep K ρ H x v) : Dp K H v p := by
  cases x with
  | ptr n =>
    cases e : view μ (.ptr n) with
    | lst ds =>
      obtain ⟨a, vs, rfl, h1, h2⟩ := view_lst hS r e
      rw [e] at h
      have h' : (toPyL ds).map PyData.list = some p := h
      obtain ⟨ps, e1, e2⟩ := Option.map_eq_some_iff.mp h'
      subst e2
      exact .lst h1 (dp_ofL ds vs ps e1 h2)
    | ptr m => rw [e] at h; cases h
    | _ => 
      have h' := view_ne e (by intro _ z; cases z)
      cases h'
  | _ => exact dp_of _ v p h r
end
end Ev

namespace Ev
open L2 PyProof.Rows PySem.Spec PySem
variable [Tb]

section
variable {X : Cx}
theorem some_ite {α : Type} {c : Prop} [Decidable c] {x y : α} (h : (if c then some x else none) = some y) : c ∧ x = y := by
  by_cases hc : c
  · rw [if_pos hc] at h
    exact ⟨hc, Option.some.inj h⟩
  · rw [if_neg hc] at h
    cases h
/-- nothing is made: the value itself -/
theorem OkW.now {ρ : List Addr} {H : Hp} {Q : VK} {d : D} {μ : Mu} {v : V} (h : OkW X ρ H Q d μ) (hS : StR X.K ρ H μ) (hr : Rep X.K ρ H d v) : Q v H := h v H ρ (Ext.refl ρ H) hS hr
/-- a new list, frozen -/
theorem OkW.lst {ρ : List Addr} {H : Hp} {Q : VK} {ds : List D} {μ : Mu} {vs : List V} {p : Addr} (h : OkW X ρ H Q (.lst ds) μ) (hS : StR X.K ρ H μ) (hr : RepL X.K ρ H ds vs) (hp : H p = none) : frzd Q (.ref p) (upd H p (.lst vs)) := by
  refine .inr ⟨p, vs, upd_same, fun o => ?_⟩
  rw [upd_upd]
  have e := Ext.new (ρ := ρ) (o := .frz o (.lst vs)) hp
  exact h _ _ ρ e (hS.new hp) ⟨p, vs, rfl, .inl ⟨o, upd_same⟩, RepL.mono e.sta e.pre ds vs hr⟩
/-- a new tuple -/
theorem OkW.tup {ρ : List Addr} {H : Hp} {Q : VK} {ds : List D} {μ : Mu} {vs : List V} {p : Addr} (h : OkW X ρ H Q (.tup ds) μ) (hS : StR X.K ρ H μ) (hr : RepL X.K ρ H ds vs) (hp : H p = none) : Q (.ref p) (upd H p (.tup vs)) := by
  have e := Ext.new (ρ := ρ) (o := .tup vs) hp
  exact h _ _ ρ e (hS.new hp) ⟨p, vs, rfl, .inl (.inl upd_same), RepL.mono e.sta e.pre ds vs hr⟩
/-- a new cell -/
theorem OkW.cell {ρ : List Addr} {H : Hp} {Q : VK} {ds : List D} {μ : Mu} {vs : List V} {p : Addr} (h : OkW X ρ H Q (.ptr μ.length) (μ ++ [.lst ds])) (hS : StR X.K ρ H μ) (hr : RepL X.K ρ H ds vs) (hp : H p = none) : Q (.ref p) (upd H p (.lst vs)) :=
  h _ _ (ρ ++ [p]) (Ext.cell hp) (hS.cons hp hr) ⟨p, by rw [List.getElem?_append_right (by rw [hS.len]; exact Nat.le_refl _), hS.len, Nat.sub_self]; rfl, rfl⟩

/-! ### lists put together, whatever they are -/
theorem op_catS : OpR X (binaryOp .Add) (fun x y H Q => ∃ l b xs zs, x = .ref l ∧ y = .ref b ∧ SqL X.K H l xs ∧ SqL X.K H b zs ∧ xs.length + zs.length ≤ sizeLine ∧ ∀ p, H p = none → Q (.ref p) (upd H p (.lst (xs ++ zs)))) := by
  intro pins s σ H x y v u Q I rx ry h
  obtain ⟨l, b, xs, zs, rfl, rfl, hH, hB, hz, q⟩ := h
  cases rx
  cases ry
  obtain ⟨its, r, ⟨⟨oc, od, dt, sl⟩, n, g1, g2, g3, g4⟩, z1⟩ := I.list hH
  obtain ⟨its2, r2, ⟨⟨oc2, od2, dt2, sl2⟩, n2, k1, k2, k3, k4⟩, z2⟩ := I.list hB
  simp only at g2 g3 g4 k2 k3 k4
  subst g2 g3 g4 k2 k3 k4
  have l1 := r.length
  have l2 := r2.length
  refine concat_meets ⟨_, g1, rfl⟩ ⟨_, k1, rfl⟩ noFill_list_add seq_list_add PySem.F.slot_list_add PySem.F.entry_list_add (PySem.F.args_list_add_2 _ _)
    (PyProof.Rows.list_addW l b its.toArray its2.toArray n n2 none none sl sl2 (by rw [List.size_toArray, List.size_toArray]; omega)) ⟨g1, k1, ?_⟩
  have ea : its.toArray ++ its2.toArray = (its ++ its2).toArray := by simp
  rw [ea]
  exact ⟨.ref _, _, I.lnew (t' := s.toks) (r.append r2) (by rw [List.length_append]; omega), rfl, q _ I.fresh⟩
/-- // by any divisor that is not nought, below 2 ^ 9000 -/
theorem op_fdivG : OpR X (binaryOp .FloorDiv) (rI (fun _ j => j ≠ 0 ∧ j.natAbs.log2 < 9000) fun i j => .int (i.fdiv j)) := opI fun i j _ _ _ _ _ hc q =>
  floordiv_int hc.1 q (.inl (PyProof.noPylong_of_log2 hc.2))

def bopD (o : Bop) : Mu → D → D → Option D := fun μ x y => bop o (view μ x) (view μ y)
theorem int_of {μ : Mu} {x : D} {v : V} {ρ : List Addr} {H : Hp} {i : Int} (h : view μ x = .int i) (r : Rep X.K ρ H x v) : v = .int i := by
  have e := view_ne h (by intro _ z; cases z)
  subst e
  exact r
theorem str_of {μ : Mu} {x : D} {v : V} {ρ : List Addr} {H : Hp} {i : Str} (h : view μ x = .str i) (r : Rep X.K ρ H x v) : v = .str i := by
  have e := view_ne h (by intro _ z; cases z)
  subst e
  exact r
theorem od_add : OpD X (binaryOp .Add) (bopD .add) := by
  refine OpR_imp ((op_add.or op_add_str).or (OpR_frz op_catS)) fun v w H Q h => ?_
  obtain ⟨ρ, μ, x, y, z, hS, rx, ry, e, q⟩ := h
  unfold bopD at e
  generalize hx : view μ x = x' at e
  generalize hy : view μ y = y' at e
  cases x' with
  | int i => cases y' with
    | int j =>
      cases e
      exact .inl (.inl ⟨i, j, int_of hx rx, int_of hy ry, q.now hS rfl⟩)
    | _ => cases e
  | str i => cases y' with
    | str j =>
      obtain ⟨c, rfl⟩ := some_ite e
      exact .inl (.inr ⟨i, j, str_of hx rx, str_of hy ry, c, q.now hS rfl⟩)
    | _ => cases e
  | lst ds => cases y' with
    | lst es =>
      obtain ⟨c, rfl⟩ := some_ite e
      obtain ⟨a, vs, rfl, h1, h2⟩ := view_lst hS rx hx
      obtain ⟨b, ws, rfl, h3, h4⟩ := view_lst hS ry hy
      exact .inr ⟨a, b, vs, ws, rfl, rfl, h1, h3, by rw [← h2.length, ← h4.length]; exact c, fun p hp => q.lst hS (h2.append h4) hp⟩
    | _ => cases e
  | _ => cases e
theorem od_int {op : Operator} {o : Bop} {C : Int → Int → Prop} {g : Int → Int → Int} (hr : OpR X (binaryOp op) (rI C fun i j => .int (g i j)))
    (h : ∀ x y z, bop o x y = some z → ∃ i j, x = .int i ∧ y = .int j ∧ C i j ∧ z = .int (g i j)) : OpD X (binaryOp op) (bopD o) := by
  refine OpR_imp hr fun v w H Q hq => ?_
  obtain ⟨ρ, μ, x, y, z, hS, rx, ry, e, q⟩ := hq
  obtain ⟨i, j, e1, e2, c, rfl⟩ := h _ _ _ e
  exact ⟨i, j, int_of e1 rx, int_of e2 ry, c, q.now hS rfl⟩
theorem od_sub : OpD X (binaryOp .Sub) (bopD .sub) := od_int (C := fun _ _ => True) (g := fun i j => i - j) (OpR_imp op_sub fun _ _ _ _ ⟨i, j, a, b, _, q⟩ => ⟨i, j, a, b, q⟩) fun x y z e => by
  cases x with
  | int i => cases y with
    | int j => cases e; exact ⟨i, j, rfl, rfl, trivial, rfl⟩
    | _ => cases e
  | _ => cases e
theorem od_mul : OpD X (binaryOp .Mult) (bopD .mul) := od_int (g := fun i j => i * j) op_mulW fun x y z e => by
  cases x with
  | int i => cases y with
    | int j =>
      obtain ⟨c, rfl⟩ := some_ite e
      exact ⟨i, j, rfl, rfl, c, rfl⟩
    | _ => cases e
  | _ => cases e
theorem od_fdiv : OpD X (binaryOp .FloorDiv) (bopD .fdiv) := od_int (g := fun i j => i.fdiv j) op_fdivG fun x y z e => by
  cases x with
  | int i => cases y with
    | int j =>
      obtain ⟨c, rfl⟩ := some_ite e
      exact ⟨i, j, rfl, rfl, c, rfl⟩
    | _ => cases e
  | _ => cases e
theorem od_mod : OpD X (binaryOp .Mod) (bopD .mod) := od_int (g := fun i j => i.fmod j) op_modN fun x y z e => by
  cases x with
  | int i => cases y with
    | int j =>
      obtain ⟨c, rfl⟩ := some_ite e
      exact ⟨i, j, rfl, rfl, c, rfl⟩
    | _ => cases e
  | _ => cases e
theorem od_pow : OpD X (binaryOp .Pow) (bopD .pow) := od_int (g := fun i j => i ^ j.toNat) op_pow fun x y z e => by
  cases x with
  | int i => cases y with
    | int j =>
      obtain ⟨c, rfl⟩ := some_ite e
      exact ⟨i, j, rfl, rfl, c, rfl⟩
    | _ => cases e
  | _ => cases e

/-! ### comparisons -/
def copD (o : Cop) : Mu → D → D → Option D := fun μ x y => (cop o (view μ x) (view μ y)).map .bl
theorem cd_int {op : CmpOp} {o : Cop} {g : Int → Int → Bool} (hr : OpR X (compareOp op) (rI0 fun i j => .bl (g i j)))
    (h : ∀ x y z, cop o x y = some z → ∃ i j, x = .int i ∧ y = .int j ∧ z = g i j) : OpD X (compareOp op) (copD o) := by
  refine OpR_imp hr fun v w H Q hq => ?_
  obtain ⟨ρ, μ, x, y, z, hS, rx, ry, e, q⟩ := hq
  obtain ⟨z', e1, rfl⟩ := Option.map_eq_some_iff.mp e
  obtain ⟨i, j, e2, e3, rfl⟩ := h _ _ _ e1
  exact ⟨i, j, int_of e2 rx, int_of e3 ry, q.now hS rfl⟩
theorem cd_lt : OpD X (compareOp .Lt) (copD .lt) := cd_int (g := fun i j => decide (i < j)) op_lt fun x y z e => by
  cases x with
  | int i => cases y with
    | int j => cases e; exact ⟨i, j, rfl, rfl, rfl⟩
    | _ => cases e
  | _ => cases e
theorem cd_le : OpD X (compareOp .LtE) (copD .le) := cd_int (g := fun i j => decide (i ≤ j)) op_le fun x y z e => by
  cases x with
  | int i => cases y with
    | int j => cases e; exact ⟨i, j, rfl, rfl, rfl⟩
    | _ => cases e
  | _ => cases e
theorem cd_gt : OpD X (compareOp .Gt) (copD .gt) := cd_int (g := fun i j => decide (j < i)) op_gt fun x y z e => by
  cases x with
  | int i => cases y with
    | int j => cases e; exact ⟨i, j, rfl, rfl, rfl⟩
    | _ => cases e
  | _ => cases e
theorem cd_ge : OpD X (compareOp .GtE) (copD .ge) := cd_int (g := fun i j => decide (j ≤ i)) op_ge fun x y z e => by
  cases x with
  | int i => cases y with
    | int j => cases e; exact ⟨i, j, rfl, rfl, rfl⟩
    | _ => cases e
  | _ => cases e
theorem eq_inv {x y : D} {z : Bool} (neg : Bool) (h : eqO neg x y = some z) : ∃ p r, toPy x = some p ∧ toPy y = some r ∧ SeqAt.shaped p = true ∧ SeqAt.shaped r = true ∧ z = (if neg then !PyData.eqv p r else PyData.eqv p r) := by
  unfold eqO at h
  cases e1 : toPy x with
  | none => rw [e1] at h; cases h
  | some p =>
    cases e2 : toPy y with
    | none => rw [e1, e2] at h; cases h
    | some r =>
      rw [e1, e2] at h
      obtain ⟨c, rfl⟩ := some_ite h
      obtain ⟨c1, c2⟩ := Bool.and_eq_true_iff.mp c
      exact ⟨p, r, rfl, rfl, c1, c2, rfl⟩
theorem cd_eq (hu : X.A.units + 64 < cLine) : OpD X (compareOp .Eq) (copD .eq) := by
  refine OpR_imp (op_eqD hu) fun v w H Q hq => ?_
  obtain ⟨ρ, μ, x, y, z, hS, rx, ry, e, q⟩ := hq
  obtain ⟨z', e1, rfl⟩ := Option.map_eq_some_iff.mp e
  obtain ⟨p, r, h1, h2, h3, h4, rfl⟩ := eq_inv false e1
  exact ⟨p, r, dp_view hS h1 rx, dp_view hS h2 ry, h3, h4, q.now hS rfl⟩
theorem cd_ne (hu : X.A.units + 64 < cLine) : OpD X (compareOp .NotEq) (copD .ne) := by
  refine OpR_imp (op_neD hu) fun v w H Q hq => ?_
  obtain ⟨ρ, μ, x, y, z, hS, rx, ry, e, q⟩ := hq
  obtain ⟨z', e1, rfl⟩ := Option.map_eq_some_iff.mp e
  obtain ⟨p, r, h1, h2, h3, h4, rfl⟩ := eq_inv true e1
  exact ⟨p, r, dp_view hS h1 rx, dp_view hS h2 ry, h3, h4, q.now hS rfl⟩
theorem rep_non {K : PySem.W.Frag} {ρ : List Addr} {H : Hp} : ∀ {d : D} {v : V}, Rep K ρ H d v → decide (v = .non) = isNon d
  | .non, _, h => by cases h; rfl
  | .bl _, _, h => by cases h; rfl
  | .int _, _, h => by cases h; rfl
  | .str _, _, h => by cases h; rfl
  | .ty _, _, h => by cases h; rfl
  | .tup _, _, h => by obtain ⟨a, vs, rfl, _⟩ := h; rfl
  | .lst _, _, h => by obtain ⟨a, vs, rfl, _⟩ := h; rfl
  | .ptr _, _, h => by obtain ⟨a, _, rfl⟩ := h; rfl
  | .exn _ _ _, _, h => h.elim
  | .clo _ _, _, h => h.elim
  | .obj _ _ _, _, h => by obtain ⟨a, dx, ws, w, rfl, _⟩ := h; rfl
  | .dic _ _, _, h => h.elim
theorem isNon_view {μ : Mu} (x : D) : isNon (view μ x) = isNon x := by
  cases x with
  | ptr n =>
    show isNon (match μ[n]? with
      | some (.lst ds) => D.lst ds
      | _ => .ptr n) = false
    cases μ[n]? with
    | none => rfl
    | some c => cases c <;> rfl
  | _ => rfl
theorem cd_is : OpD X (compareOp .Is) (copD .is) := by
  refine OpR_imp op_isN fun v w H Q hq => ?_
  obtain ⟨ρ, μ, x, y, z, hS, rx, ry, e, q⟩ := hq
  obtain ⟨z', e1, rfl⟩ := Option.map_eq_some_iff.mp e
  generalize hy : view μ y = y' at e1
  cases y' with
  | non =>
    have ey := view_ne hy (by intro _ z; cases z)
    subst ey
    have ez : isNon (view μ x) = z' := Option.some.inj (by simpa [cop] using e1)
    rw [isNon_view] at ez
    refine ⟨ry, ?_⟩
    rw [rep_non rx, ez]
    exact q.now hS rfl
  | _ => cases hx : view μ x <;> rw [hx] at e1 <;> cases e1
theorem cd_isnot : OpD X (compareOp .IsNot) (copD .isnot) := by
  refine OpR_imp op_notN fun v w H Q hq => ?_
  obtain ⟨ρ, μ, x, y, z, hS, rx, ry, e, q⟩ := hq
  obtain ⟨z', e1, rfl⟩ := Option.map_eq_some_iff.mp e
  generalize hy : view μ y = y' at e1
  cases y' with
  | non =>
    have ey := view_ne hy (by intro _ z; cases z)
    subst ey
    have ez : (!isNon (view μ x)) = z' := Option.some.inj (by simpa [cop] using e1)
    rw [isNon_view] at ez
    refine ⟨ry, ?_⟩
    rw [rep_non rx, ez]
    exact q.now hS rfl
  | _ => cases hx : view μ x <;> rw [hx] at e1 <;> cases e1
theorem flat_rep {K : PySem.W.Frag} {ρ : List Addr} {H : Hp} {d : D} {v : V} (r : Rep K ρ H d v) (h : flat d = true) : flatV v = true := by
  cases d with
  | non => cases r; rfl
  | bl b => cases r; rfl
  | int i => cases r; rfl
  | str x => cases r; rfl
  | _ => cases h
theorem eqF_rep {K : PySem.W.Frag} {ρ : List Addr} {H : Hp} {d e : D} {v w : V} (r : Rep K ρ H d v) (r2 : Rep K ρ H e w) (h : flat d = true) (h2 : flat e = true) : eqV v w = eqF d e := by
  cases d <;> first | (cases h; done) | skip
  all_goals (cases e <;> first | (cases h2; done) | skip)
  all_goals (cases r; cases r2; first | rfl | (simp [eqV, eqF]; done) | skip)
theorem flat_all {K : PySem.W.Frag} {ρ : List Addr} {H : Hp} : ∀ {ds : List D} {vs : List V}, RepL K ρ H ds vs → ds.all flat = true → vs.all flatV = true
  | [], _, h, _ => by cases h; rfl
  | d :: ds, _, h, hf => by
    obtain ⟨v, r, rfl, h1, h2⟩ := h
    simp only [List.all_cons, Bool.and_eq_true] at hf ⊢
    exact ⟨flat_rep h1 hf.1, flat_all h2 hf.2⟩
theorem in_rep {K : PySem.W.Frag} {ρ : List Addr} {H : Hp} {x : D} {v : V} (r : Rep K ρ H x v) (hx : flat x = true) : ∀ {ds : List D} {vs : List V}, RepL K ρ H ds vs → ds.all flat = true → inV v vs = ds.any fun y => eqF y x
  | [], _, h, _ => by cases h; rfl
  | d :: ds, _, h, hf => by
    obtain ⟨w, r2, rfl, h1, h2⟩ := h
    simp only [List.all_cons, Bool.and_eq_true] at hf
    have ih := in_rep r hx h2 hf.2
    unfold inV at ih ⊢
    simp only [List.any_cons]
    rw [ih, eqF_rep h1 r hf.1 hx]
theorem in_seqd {neg : Bool} {o : Cop} {a b : D} {z : Bool} (ho : o = if neg then .notin else .inn) (h : cop o a b = some z) : ∃ ds, seqOf b = some ds ∧ inO neg a ds = some z := by
  cases b with
  | lst ds => cases neg <;> (subst ho; exact ⟨ds, rfl, h⟩)
  | tup ds => cases neg <;> (subst ho; exact ⟨ds, rfl, h⟩)
  | _ => cases neg <;> (subst ho; cases a <;> cases h)
theorem in_inv {neg : Bool} {a : D} {ds : List D} {z : Bool} (h : inO neg a ds = some z) : (flat a = true ∧ ds.all flat = true ∧ z = (if neg then !(ds.any fun y => eqF y a) else ds.any fun y => eqF y a)) ∨ (∃ x ys, toPy a = some x ∧ toPyL ds = some ys ∧ SeqAt.shaped x = true ∧ SeqAt.shaped (.list ys) = true ∧ z = (if neg then !ys.any fun y => PyData.eqv y x else ys.any fun y => PyData.eqv y x)) := by
  unfold inO at h
  split at h
  · rename_i c
    obtain ⟨c1, c2⟩ := Bool.and_eq_true_iff.mp c
    exact .inl ⟨c1, c2, (Option.some.inj h).symm⟩
  · cases e1 : toPy a with
    | none => rw [e1] at h; cases h
    | some x =>
      cases e2 : toPyL ds with
      | none => rw [e1, e2] at h; cases h
      | some ys =>
        rw [e1, e2] at h
        obtain ⟨c, rfl⟩ := some_ite h
        obtain ⟨c1, c2⟩ := Bool.and_eq_true_iff.mp c
        exact .inr ⟨x, ys, rfl, rfl, c1, c2, rfl⟩
/-- x in a list or tuple of data -/
def rInD (K : PySem.W.Frag) (neg : Bool) : R2 := fun x y H Q => ∃ d ys, Dp K H x d ∧ (Dp K H y (.list ys) ∨ Dp K H y (.tuple ys)) ∧ SeqAt.shaped d = true ∧ SeqAt.shaped (.list ys) = true ∧ Q (.bl (if neg then !ys.any fun y => PyData.eqv y d else ys.any fun y => PyData.eqv y d)) H
theorem op_inD (hu : X.A.units + 64 < cLine) (neg : Bool) : OpR X (compareOp (if neg then .NotIn else .In)) (rInD X.K neg) := by
  intro pins s σ H x y v u Q I rx ry h
  obtain ⟨d, ys, hd, hy, s1, s2, q⟩ := h
  obtain ⟨as, r1⟩ := Dp.reads I d x v hd rx
  have c1 := SeqAt.canLay_of_shaped s1
  have c2 : PyData.canLayAll0 ys = true := SeqAt.canLay_of_shaped s2
  have d2 : PyData.depthAll ys + 1 ≤ 64 := SeqAt.depth_of_shaped s2
  have hu2 : X.A.units + 1 + min (PyData.depthAll ys) d.depth < cLine := by
    have := Nat.min_le_left (PyData.depthAll ys) d.depth
    omega
  rcases hy with hy | hy
  · obtain ⟨bs, r2⟩ := Dp.reads I _ y u hy ry
    cases neg
    · exact SeqAt.in_list_reads r2 r1 c2 c1 hu2 ⟨.bl _, H, I, rfl, q⟩
    · exact SeqAt.notIn_list_reads r2 r1 c2 c1 hu2 ⟨.bl _, H, I, rfl, q⟩
  · obtain ⟨bs, r2⟩ := Dp.reads I _ y u hy ry
    cases neg
    · exact SeqAt.in_tuple_reads r2 r1 c2 c1 hu2 ⟨.bl _, H, I, rfl, q⟩
    · exact SeqAt.notIn_tuple_reads r2 r1 c2 c1 hu2 ⟨.bl _, H, I, rfl, q⟩
theorem OpR_or {op : Value → Value → Sem Value} {r1 r2 : R2} (h1 : OpR X op r1) (h2 : OpR X op r2) : OpR X op fun x y H Q => r1 x y H Q ∨ r2 x y H Q := by
  intro pins s σ H x y v u Q I rx ry h
  rcases h with h | h
  · exact h1 pins s σ H x y v u Q I rx ry h
  · exact h2 pins s σ H x y v u Q I rx ry h
theorem flat_view {μ : Mu} {x : D} (h : flat (view μ x) = true) : view μ x = x := by
  cases e : view μ x with
  | lst ds => rw [e] at h; cases h
  | _ => exact (view_ne e (by intro _ z; cases z)).symm
theorem cd_in (hu : X.A.units + 64 < cLine) (neg : Bool) : OpD X (compareOp (if neg then .NotIn else .In)) (copD (if neg then .notin else .inn)) := by
  have base : OpR X (compareOp (if neg then .NotIn else .In)) (rIn X.K neg) := by
    cases neg
    · exact op_in_seq
    · exact op_notIn_seq
  refine OpR_imp (OpR_or base (op_inD hu neg)) fun v w H Q hq => ?_
  obtain ⟨ρ, μ, x, y, z, hS, rx, ry, e, q⟩ := hq
  obtain ⟨z', e1, rfl⟩ := Option.map_eq_some_iff.mp e
  obtain ⟨ds, h1, e2⟩ := in_seqd rfl e1
  rcases in_inv e2 with ⟨h2, h3, rfl⟩ | ⟨p, ys, h2, h3, c1, c2, rfl⟩
  · rw [flat_view h2] at h2
    obtain ⟨a, vs, rfl, h4, h5⟩ := view_seq hS ry h1
    have hx : view μ x = x := by
      cases x with
      | ptr n => cases h2
      | _ => rfl
    refine .inl ⟨a, vs, rfl, h4.imp (·.1) (·.1), flat_rep rx h2, flat_all h5 h3, ?_⟩
    rw [in_rep rx h2 h5 h3]
    rw [hx] at q
    exact q.now hS rfl
  · refine .inr ⟨p, ys, dp_view hS h2 rx, ?_, c1, c2, q.now hS rfl⟩
    cases e3 : view μ y with
    | lst es =>
      rw [e3] at h1
      cases h1
      exact .inl (dp_view hS (by rw [e3]; show (toPyL ds).map _ = _; rw [h3]; rfl) ry)
    | tup es =>
      rw [e3] at h1
      cases h1
      exact .inr (dp_view hS (by rw [e3]; show (toPyL ds).map _ = _; rw [h3]; rfl) ry)
    | _ => rw [e3] at h1; cases h1
end
end Ev

namespace Ev
open L2 PyProof.Rows PySem.Spec PySem
variable [Tb]

theorem WP.of_bnd {α β : Type} {m : M α} {f : α → M β} {μ : Mu} {R : β → Mu → Prop} {Ex : Exn → Mu → Prop} (h : WP m μ (fun a μ' => WP (f a) μ' R Ex) Ex) : WP (Ev.bnd m f) μ R Ex := by
  unfold WP at h
  unfold WP Ev.bnd
  cases e : m μ with
  | none => rw [e] at h; exact h
  | some p =>
    obtain ⟨r, μ'⟩ := p
    rw [e] at h
    cases r with
    | ok a => exact h
    | ex x => exact h
theorem WP.of_ret {α : Type} {a : α} {μ : Mu} {Q : α → Mu → Prop} {Ex : Exn → Mu → Prop} (h : Q a μ) : WP (Ev.ret a) μ Q Ex := h
theorem WP.of_lft {α : Type} {o : Option α} {a : α} {μ : Mu} {Q : α → Mu → Prop} {Ex : Exn → Mu → Prop} (e : o = some a) (h : Q a μ) : WP (Ev.lft o) μ Q Ex := by
  subst e
  exact h
theorem WP.of_rd {α : Type} {g : Mu → Option α} {a : α} {μ : Mu} {Q : α → Mu → Prop} {Ex : Exn → Mu → Prop} (e : g μ = some a) (h : Q a μ) : WP (Ev.rd g) μ Q Ex := by
  unfold WP Ev.rd Ev.lft
  rw [e]
  exact h
/-- as a test -/
def bT (m : Env → M D) : Env → M Bool := fun δ => Ev.bnd (m δ) fun x => Ev.lft (asBool x)
theorem WP.test {β : Type} {m : Env → M D} {δ : Env} {f : Bool → M β} {μ : Mu} {R : β → Mu → Prop} {Ex : Exn → Mu → Prop} (h : WP (Ev.bnd (m δ) fun x => Ev.bnd (Ev.lft (asBool x)) f) μ R Ex) : WP (bT m δ) μ (fun r μ' => WP (f r) μ' R Ex) Ex :=
  WP.of_bnd (h.bnd.mono (fun x μ1 k => by
    obtain ⟨r, hr, q⟩ := k.bnd.lft
    exact WP.of_lft hr q) fun _ _ z => z)

/-! ## Tests, lists of terms -/
section
variable (X : Cx)
def OkT (ρ : List Addr) (H : Hp) (Q : Bool → Hp → Prop) : Bool → Mu → Prop := fun b μ' => ∀ H' ρ', Ext ρ ρ' H H' → StR X.K ρ' H' μ' → Q b H'
def ttM (m : Env → M Bool) : TT := fun σ H Q => ∃ δ μ ρ, EnvR X.K ρ H σ δ ∧ StR X.K ρ H μ ∧ WP (m δ) μ (OkT X ρ H Q) (ExW X δ ρ H)
abbrev GT (e : Expr) (m : Env → M Bool) : Prop := PT X e (ttM X m)
def OkA (ρ : List Addr) (H : Hp) (Q : List V → Hp → Prop) : List D → Mu → Prop := fun ds μ' => ∀ vs H' ρ', Ext ρ ρ' H H' → StR X.K ρ' H' μ' → RepL X.K ρ' H' ds vs → Q vs H'
def taM (m : Env → M (List D)) : TA := fun σ H Q => ∃ δ μ ρ, EnvR X.K ρ H σ δ ∧ StR X.K ρ H μ ∧ WP (m δ) μ (OkA X ρ H Q) (ExW X δ ρ H)
abbrev GA (es : List Expr) (m : Env → M (List D)) : Prop := PA X es (taM X m)
end
theorem asBool_some {x : D} {b : Bool} (h : asBool x = some b) : x = .bl b := by
  cases x with
  | bl c => cases h; rfl
  | _ => cases h
theorem asInt_some {x : D} {b : Int} (h : asInt x = some b) : x = .int b := by
  cases x with
  | int c => cases h; rfl
  | _ => cases h
section
variable {X : Cx} {a b c e : Expr} {es rest : List Expr} {ma mb mc : Env → M D} {ml : Env → M (List D)} {pos : Pos}
theorem tt_step {σ : St} {δ : Env} {ρ : List Addr} {H : Hp} {Q : Bool → Hp → Prop} {m : Env → M Bool} {μ : Mu} {K2 : Bool → Mu → Prop} (hE : EnvR X.K ρ H σ δ) (hS : StR X.K ρ H μ) (h : WP (m δ) μ K2 (ExW X δ ρ H))
    (k : ∀ d μ' H' ρ', K2 d μ' → Ext ρ ρ' H H' → StR X.K ρ' H' μ' → EnvR X.K ρ' H' σ δ → Q d H') : ttM X m σ H Q :=
  ⟨δ, μ, ρ, hE, hS, h.mono (fun d μ' hk H' ρ' e s => k d μ' H' ρ' hk e s (hE.mono e.sta e.pre)) fun _ _ z => z⟩
theorem ta_step {σ : St} {δ : Env} {ρ : List Addr} {H : Hp} {Q : List V → Hp → Prop} {m : Env → M (List D)} {μ : Mu} {K2 : List D → Mu → Prop} (hE : EnvR X.K ρ H σ δ) (hS : StR X.K ρ H μ) (h : WP (m δ) μ K2 (ExW X δ ρ H))
    (k : ∀ ds μ' vs H' ρ', K2 ds μ' → Ext ρ ρ' H H' → StR X.K ρ' H' μ' → RepL X.K ρ' H' ds vs → EnvR X.K ρ' H' σ δ → Q vs H') : taM X m σ H Q :=
  ⟨δ, μ, ρ, hE, hS, h.mono (fun d μ' hk v H' ρ' e s r => k d μ' v H' ρ' hk e s r (hE.mono e.sta e.pre)) fun _ _ z => z⟩
/-- a value that is a bool, as a test -/
theorem gt_val (h : GE X e ma) (he : ∀ whole, isTrue e X.env whole = (do let v ← whole; standAt e.pos; holding [v] (truthy v))) : GT X e (bT ma) := by
  refine PT_imp (pt_val h he) fun σ H Q hq => ?_
  obtain ⟨δ, μ, ρ, hE, hS, hq⟩ := hq
  refine te_step hE hS hq.bnd fun x μ1 v H1 ρ1 k e1 s1 r1 E1 => ?_
  obtain ⟨c, ec, q⟩ := k.lft
  cases asBool_some ec
  exact ⟨c, r1, q H1 ρ1 e1 s1⟩
theorem ga_nil : GA X [] (fun _ => ret []) := PA_imp pa_nil fun σ H Q h => by
  obtain ⟨δ, μ, ρ, hE, hS, h⟩ := h
  exact WP.ret h [] H ρ (Ext.refl ρ H) hS rfl
theorem ga_cons (h1 : GE X e ma) (h2 : GA X es ml) (hs : starEach (e :: es) X.env = (false, eval e X.env) :: starEach es X.env) : GA X (e :: es) (fun δ => bnd (ma δ) fun x => bnd (ml δ) fun xs => ret (x :: xs)) := by
  refine PA_imp (pa_cons h1 h2 hs) fun σ H Q h => ?_
  obtain ⟨δ, μ, ρ, hE, hS, h⟩ := h
  refine te_step hE hS h.bnd fun x μ1 v H1 ρ1 k e1 s1 r1 E1 => ?_
  refine ta_step E1 s1 (k.bnd.mono (fun _ _ z => z) fun _ _ z => ExW.up z e1) fun xs μ2 vs H2 ρ2 k2 e2 s2 r2 E2 => ?_
  exact k2.ret (v :: vs) H2 ρ2 (e1.trans e2) s2 ⟨v, vs, rfl, Rep.mono e2.sta e2.pre x v r1, r2⟩
/-! ### small forms -/
theorem ge_neg (ha : GE X a ma) : GE X (.UnaryOp .USub a pos) (fun δ => bnd (ma δ) fun x => lft ((asInt x).map fun i => .int (-i))) := by
  refine PE_imp (pe_un un_neg ha) fun σ H Q h => ?_
  obtain ⟨δ, μ, ρ, hE, hS, h⟩ := h
  refine te_step hE hS h.bnd fun x μ1 v H1 ρ1 k e1 s1 r1 E1 => ?_
  obtain ⟨z, hz, q⟩ := k.lft
  obtain ⟨i, hi, rfl⟩ := Option.map_eq_some_iff.mp hz
  cases asInt_some hi
  exact ⟨i, r1, q _ H1 ρ1 e1 s1 rfl⟩
theorem ge_cki (ha : GE X a ma) : PO X (some a) (fun σ H Q => ∃ δ μ ρ, EnvR X.K ρ H σ δ ∧ StR X.K ρ H μ ∧ WP ((fun δ => bnd (ma δ) fun x => lft ((asInt x).map D.int)) δ) μ
    (fun d μ' => ∀ o H' ρ', part d = some o → Ext ρ ρ' H H' → StR X.K ρ' H' μ' → Q o H') (ExW X δ ρ H)) := by
  refine ⟨fun pins s σ H Q I h => (po_some ha).run pins s σ H Q I ?_⟩
  obtain ⟨δ, μ, ρ, hE, hS, h⟩ := h
  refine te_step hE hS h.bnd fun x μ1 v H1 ρ1 k e1 s1 r1 E1 => ?_
  obtain ⟨z, hz, q⟩ := k.lft
  obtain ⟨i, hi, rfl⟩ := Option.map_eq_some_iff.mp hz
  cases asInt_some hi
  exact ⟨i, r1, q _ H1 ρ1 rfl e1 s1⟩
def poM (X : Cx) (m : Env → M D) : TO := fun σ H Q => ∃ δ μ ρ, EnvR X.K ρ H σ δ ∧ StR X.K ρ H μ ∧ WP (m δ) μ (fun d μ' => ∀ o H' ρ', part d = some o → Ext ρ ρ' H H' → StR X.K ρ' H' μ' → Q o H') (ExW X δ ρ H)
theorem go_some (ha : GE X a ma) : PO X (some a) (poM X (fun δ => bnd (ma δ) fun x => lft ((asInt x).map D.int))) := ge_cki ha
theorem go_none : PO X none (poM X (fun _ => ret .non)) := by
  refine ⟨fun pins s σ H Q I h => po_none.run pins s σ H Q I ?_⟩
  obtain ⟨δ, μ, ρ, hE, hS, h⟩ := h
  exact WP.ret h none H ρ rfl (Ext.refl ρ H) hS
/-! ### and, or, not, if -/
theorem ge_and (ha : GE X a ma) (hb : GE X (.BoolOp .And (b :: rest) pos) mb) : GE X (.BoolOp .And (a :: b :: rest) pos) (fun δ => bnd (ma δ) fun x => bnd (lft (asBool x)) fun r => if r then mb δ else ret (.bl false)) := by
  refine PE_imp (pe_and ha hb) fun σ H Q h => ?_
  obtain ⟨δ, μ, ρ, hE, hS, h⟩ := h
  refine te_step hE hS h.bnd fun x μ1 v H1 ρ1 k e1 s1 r1 E1 => ?_
  obtain ⟨c, hc, q⟩ := k.bnd.lft
  cases asBool_some hc
  refine ⟨c, r1, ?_⟩
  cases c with
  | true => exact ⟨δ, μ1, ρ1, E1, s1, (show WP (mb δ) μ1 _ _ from q).mono (fun _ _ z => OkW.up z e1) fun _ _ z => ExW.up z e1⟩
  | false => exact (show WP (ret (D.bl false)) μ1 _ _ from q).ret _ H1 ρ1 e1 s1 rfl
theorem ge_or (ha : GE X a ma) (hb : GE X (.BoolOp .Or (b :: rest) pos) mb) : GE X (.BoolOp .Or (a :: b :: rest) pos) (fun δ => bnd (ma δ) fun x => bnd (lft (asBool x)) fun r => if r then ret (.bl true) else mb δ) := by
  refine PE_imp (pe_or ha hb) fun σ H Q h => ?_
  obtain ⟨δ, μ, ρ, hE, hS, h⟩ := h
  refine te_step hE hS h.bnd fun x μ1 v H1 ρ1 k e1 s1 r1 E1 => ?_
  obtain ⟨c, hc, q⟩ := k.bnd.lft
  cases asBool_some hc
  refine ⟨c, r1, ?_⟩
  cases c with
  | false => exact ⟨δ, μ1, ρ1, E1, s1, (show WP (mb δ) μ1 _ _ from q).mono (fun _ _ z => OkW.up z e1) fun _ _ z => ExW.up z e1⟩
  | true => exact (show WP (ret (D.bl true)) μ1 _ _ from q).ret _ H1 ρ1 e1 s1 rfl
theorem ge_one {op : BoolOp} (ha : GE X a ma) : GE X (.BoolOp op [a] pos) ma := pe_one ha
theorem ge_not (ha : GE X a ma) : GE X (.UnaryOp .Not a pos) (fun δ => bnd (ma δ) fun x => bnd (lft (asBool x)) fun r => ret (.bl (!r))) := by
  refine PE_imp (pe_not ha) fun σ H Q h => ?_
  obtain ⟨δ, μ, ρ, hE, hS, h⟩ := h
  refine te_step hE hS h.bnd fun x μ1 v H1 ρ1 k e1 s1 r1 E1 => ?_
  obtain ⟨c, hc, q⟩ := k.bnd.lft
  cases asBool_some hc
  exact ⟨c, r1, q.ret _ H1 ρ1 e1 s1 rfl⟩
theorem ge_ite (hc : GT X c (bT mc)) (ha : GE X a ma) (hb : GE X b mb) : GE X (.IfExp c a b pos) (fun δ => bnd (mc δ) fun x => bnd (lft (asBool x)) fun r => if r then ma δ else mb δ) := by
  refine PE_imp (pe_ifExp hc ha hb) fun σ H Q h => ?_
  obtain ⟨δ, μ, ρ, hE, hS, h⟩ := h
  refine tt_step hE hS h.test fun r μ1 H1 ρ1 k e1 s1 E1 => ?_
  cases r with
  | true => exact ⟨δ, μ1, ρ1, E1, s1, (show WP (ma δ) μ1 _ _ from k).mono (fun _ _ z => OkW.up z e1) fun _ _ z => ExW.up z e1⟩
  | false => exact ⟨δ, μ1, ρ1, E1, s1, (show WP (mb δ) μ1 _ _ from k).mono (fun _ _ z => OkW.up z e1) fun _ _ z => ExW.up z e1⟩
/-! .. as tests -/
abbrev mAnd (ma mb : Env → M D) : Env → M D := fun δ => bnd (ma δ) fun x => bnd (lft (asBool x)) fun r => if r then mb δ else ret (.bl false)
abbrev mOr (ma mb : Env → M D) : Env → M D := fun δ => bnd (ma δ) fun x => bnd (lft (asBool x)) fun r => if r then ret (.bl true) else mb δ
abbrev mNot (ma : Env → M D) : Env → M D := fun δ => bnd (ma δ) fun x => bnd (lft (asBool x)) fun r => ret (.bl (!r))
abbrev mIte (mc ma mb : Env → M D) : Env → M D := fun δ => bnd (mc δ) fun x => bnd (lft (asBool x)) fun r => if r then ma δ else mb δ
abbrev GW (X : Cx) (e : Expr) (m : Env → M Bool) : Prop := PW X e (ttM X m)
theorem PW_imp {t t' : TT} (h : PW X e t) (hi : ∀ σ H Q, t' σ H Q → t σ H Q) : PW X e t' := ⟨fun whole pins s σ H Q I hq => h.run whole pins s σ H Q I (hi σ H Q hq)⟩
theorem gw_and1 (ha : GT X a (bT ma)) : GW X (.BoolOp .And [a] pos) (bT ma) := pw_and1 ha
theorem gw_or1 (ha : GT X a (bT ma)) : GW X (.BoolOp .Or [a] pos) (bT ma) := pw_or1 ha
theorem gw_and (ha : GT X a (bT ma)) (hb : GW X (.BoolOp .And (b :: rest) pos) (bT mb)) : GW X (.BoolOp .And (a :: b :: rest) pos) (bT (mAnd ma mb)) := by
  refine PW_imp (pw_and ha hb) fun σ H Q h => ?_
  obtain ⟨δ, μ, ρ, hE, hS, h⟩ := h
  refine tt_step hE hS h.bnd.test fun r μ1 H1 ρ1 k e1 s1 E1 => ?_
  cases r with
  | true => exact ⟨δ, μ1, ρ1, E1, s1, (WP.of_bnd (show WP (mb δ) μ1 _ _ from k) : WP (bT mb δ) μ1 _ _).mono (fun _ _ z H2 ρ2 e2 => z H2 ρ2 (e1.trans e2)) fun _ _ z => ExW.up z e1⟩
  | false =>
    obtain ⟨r, hr, q⟩ := ((show WP (ret (D.bl false)) μ1 _ _ from k).ret).lft
    cases hr
    exact q H1 ρ1 e1 s1
theorem gw_or (ha : GT X a (bT ma)) (hb : GW X (.BoolOp .Or (b :: rest) pos) (bT mb)) : GW X (.BoolOp .Or (a :: b :: rest) pos) (bT (mOr ma mb)) := by
  refine PW_imp (pw_or ha hb) fun σ H Q h => ?_
  obtain ⟨δ, μ, ρ, hE, hS, h⟩ := h
  refine tt_step hE hS h.bnd.test fun r μ1 H1 ρ1 k e1 s1 E1 => ?_
  cases r with
  | false => exact ⟨δ, μ1, ρ1, E1, s1, (WP.of_bnd (show WP (mb δ) μ1 _ _ from k) : WP (bT mb δ) μ1 _ _).mono (fun _ _ z H2 ρ2 e2 => z H2 ρ2 (e1.trans e2)) fun _ _ z => ExW.up z e1⟩
  | true =>
    obtain ⟨r, hr, q⟩ := ((show WP (ret (D.bl true)) μ1 _ _ from k).ret).lft
    cases hr
    exact q H1 ρ1 e1 s1
theorem gt_not (ha : GT X a (bT ma)) : GT X (.UnaryOp .Not a pos) (bT (mNot ma)) := by
  refine PT_imp (pt_not ha) fun σ H Q h => ?_
  obtain ⟨δ, μ, ρ, hE, hS, h⟩ := h
  refine tt_step hE hS h.bnd.test fun r μ1 H1 ρ1 k e1 s1 E1 => ?_
  obtain ⟨b, hb, q2⟩ := k.ret.lft
  cases hb
  exact q2 H1 ρ1 e1 s1
end
end Ev

namespace Ev
open L2 PyProof.Rows PySem.Spec PySem
variable [Tb]

def notSlice : Expr → Bool
  | .Slice _ _ _ _ => false
  | _ => true
section
variable {X : Cx} {a b c e o : Expr} {es rest : List Expr} {ma mb mc : Env → M D} {ml : Env → M (List D)} {pos p p2 : Pos}
/-! ### comparisons as tests, chains -/
theorem gt_cmp {op : CmpOp} {q : Cop} (ho : OpD X (compareOp op) (copD q)) (ha : GE X a ma) (hb : GE X b mb) (hm : behindInMarks op b = false) : GT X (.Compare a [op] [b] pos) (bT fun δ => bnd (ma δ) fun x => bnd (mb δ) fun y => rd fun μ => copD q μ x y) := by
  refine PT_imp (pt_cmpR ho ha hb hm) fun σ H Q h => ?_
  obtain ⟨δ, μ, ρ, hE, hS, h⟩ := h
  refine te_step hE hS h.bnd.bnd fun x μ1 v H1 ρ1 k e1 s1 r1 E1 => ?_
  refine te_step E1 s1 (k.bnd.mono (fun _ _ z => z) fun _ _ z => ExW.up z e1) fun y μ2 w H2 ρ2 k2 e2 s2 r2 E2 => ?_
  obtain ⟨z, hz, q2⟩ := k2.rd
  refine ⟨ρ2, μ2, x, y, z, s2, Rep.mono e2.sta e2.pre x v r1, r2, hz, fun u H3 ρ3 e3 s3 r3 => ?_⟩
  obtain ⟨k, hk, q3⟩ := q2.lft
  cases asBool_some hk
  exact ⟨k, r3, q3 H3 ρ3 ((e1.trans e2).trans e3) s3⟩
abbrev mCmp2 (q q' : Cop) (ma mb mc : Env → M D) : Env → M D := fun δ => bnd (ma δ) fun x => bnd (mb δ) fun y => bnd (rd fun μ => cop q (view μ x) (view μ y)) fun r => if r then bnd (mc δ) fun z => rd fun μ => (cop q' (view μ y) (view μ z)).map .bl else ret (.bl false)
theorem ch_core {op op' : CmpOp} {q q' : Cop} {σ : St} {H : Hp} {Q : VK} (ho : OpD X (compareOp op) (copD q)) (ho' : OpD X (compareOp op') (copD q')) (h : teM X (mCmp2 q q' ma mb mc) σ H Q) :
    tChain (rD X (copD q)) (rD X (copD q')) (teM X ma) (teM X mb) (teM X mc) σ H Q := by
  obtain ⟨δ, μ, ρ, hE, hS, h⟩ := h
  refine te_step hE hS h.bnd fun x μ1 v H1 ρ1 k e1 s1 r1 E1 => ?_
  refine te_step E1 s1 (k.bnd.mono (fun _ _ z => z) fun _ _ z => ExW.up z e1) fun y μ2 w H2 ρ2 k2 e2 s2 r2 E2 => ?_
  obtain ⟨z, hz, q2⟩ := k2.bnd.rd
  refine ⟨ρ2, μ2, x, y, .bl z, s2, Rep.mono e2.sta e2.pre x v r1, r2, by unfold copD; rw [hz]; rfl, fun u H3 ρ3 e3 s3 r3 => ⟨z, r3, ?_⟩⟩
  have e13 := (e1.trans e2).trans e3
  have E3 := E2.mono e3.sta e3.pre
  cases z with
  | false => exact (show WP (ret (D.bl false)) μ2 _ _ from q2).ret _ H3 ρ3 e13 s3 rfl
  | true =>
    refine te_step E3 s3 ((show WP (bnd (mc δ) fun z => rd fun μ => (cop q' (view μ y) (view μ z)).map D.bl) μ2 _ _ from q2).bnd.mono (fun _ _ z => z) fun _ _ z => ExW.up z e13) fun y' μ4 w' H4 ρ4 k4 e4 s4 r4 E4 => ?_
    obtain ⟨z4, hz4, q4⟩ := k4.rd
    exact ⟨ρ4, μ4, y, y', z4, s4, Rep.mono (e3.trans e4).sta (e3.trans e4).pre y w r2, r4, hz4, OkW.up q4 (e13.trans e4)⟩
theorem ge_cmp2 {op op' : CmpOp} {q q' : Cop} (ho : OpD X (compareOp op) (copD q)) (ho' : OpD X (compareOp op') (copD q')) (ha : GE X a ma) (hb : GE X b mb) (hc : GE X c mc)
    (hm : lastMarks [op, op'] [b, c] = false) : GE X (.Compare a [op, op'] [b, c] pos) (mCmp2 q q' ma mb mc) := PE_imp (pe_chain ho ho' ha hb hc hm) fun σ H Q h => ch_core ho ho' h
theorem gt_cmp2 {op op' : CmpOp} {q q' : Cop} (ho : OpD X (compareOp op) (copD q)) (ho' : OpD X (compareOp op') (copD q')) (ha : GE X a ma) (hb : GE X b mb) (hc : GE X c mc)
    (hm : lastMarks [op, op'] [b, c] = false) : GT X (.Compare a [op, op'] [b, c] pos) (bT (mCmp2 q q' ma mb mc)) := PT_imp (pt_chain ho ho' ha hb hc hm) fun σ H Q h => by
  refine ch_core (Q := fun x H' => ∃ k, x = .bl k ∧ Q k H') ho ho' ?_
  obtain ⟨δ, μ, ρ, hE, hS, h⟩ := h
  refine ⟨δ, μ, ρ, hE, hS, h.bnd.mono (fun x μ1 k v H1 ρ1 e1 s1 r1 => ?_) fun _ _ z => z⟩
  obtain ⟨c, ec, q⟩ := k.lft
  cases asBool_some ec
  exact ⟨c, r1, q H1 ρ1 e1 s1⟩
/-! ### displays -/
theorem ge_tup {k : Nat} (h : GA X es ml) : GE X (.Tuple es k pos) (fun δ => bnd (ml δ) fun ds => if ds.length ≤ sizeLine then ret (.tup ds) else fun _ => none) := by
  refine PE_imp (pe_tup h) fun σ H Q h => ?_
  obtain ⟨δ, μ, ρ, hE, hS, h⟩ := h
  refine ta_step hE hS h.bnd fun ds μ1 vs H1 ρ1 k e1 s1 r1 E1 => ?_
  by_cases hz : ds.length ≤ sizeLine
  · rw [if_pos hz] at k
    exact ⟨by rw [← r1.length]; exact hz, fun p hp => (OkW.up k.ret e1).tup s1 r1 hp⟩
  · rw [if_neg hz] at k
    exact k.elim
theorem wp_newList {m : Bool} {ds : List D} {μ : Mu} {Q : D → Mu → Prop} {Ex : Exn → Mu → Prop} (h : WP (newList m ds) μ Q Ex) : ds.length ≤ sizeLine ∧ (if m then Q (.ptr μ.length) (μ ++ [.lst ds]) else Q (.lst ds) μ) := by
  unfold WP newList at h
  by_cases hz : ds.length ≤ sizeLine
  · rw [if_pos hz] at h
    cases m with
    | true => exact ⟨hz, h⟩
    | false => exact ⟨hz, h⟩
  · rw [if_neg hz] at h
    exact h.elim
theorem newList_end {m : Bool} {ds : List D} {μ : Mu} {ρ : List Addr} {H : Hp} {Q : VK} {vs : List V} {p : Addr} (k : if m then OkW X ρ H Q (.ptr μ.length) (μ ++ [.lst ds]) else OkW X ρ H Q (.lst ds) μ) (hS : StR X.K ρ H μ) (hr : RepL X.K ρ H ds vs) (hp : H p = none) :
    frzd Q (.ref p) (upd H p (.lst vs)) := by
  cases m with
  | true => exact .inl ((show OkW X ρ H Q _ _ from k).cell hS hr hp)
  | false => exact (show OkW X ρ H Q _ _ from k).lst hS hr hp
theorem ok_if_up {m : Bool} {ρ ρ1 : List Addr} {H H1 : Hp} {Q : VK} {d1 d2 : D} {μ1 μ2 : Mu} (k : if m then OkW X ρ H Q d1 μ1 else OkW X ρ H Q d2 μ2) (e : Ext ρ ρ1 H H1) : if m then OkW X ρ1 H1 Q d1 μ1 else OkW X ρ1 H1 Q d2 μ2 := by
  cases m with
  | true => exact OkW.up (show OkW X ρ H Q _ _ from k) e
  | false => exact OkW.up (show OkW X ρ H Q _ _ from k) e
theorem ge_lst (m : Bool) (h : GA X es ml) : GE X (.List es pos) (fun δ => bnd (ml δ) fun ds => newList m ds) := by
  refine PE_imp (PE_frz (pe_lst h)) fun σ H Q h => ?_
  obtain ⟨δ, μ, ρ, hE, hS, h⟩ := h
  refine ta_step hE hS h.bnd fun ds μ1 vs H1 ρ1 k e1 s1 r1 E1 => ?_
  obtain ⟨hz, k⟩ := wp_newList k
  exact ⟨by rw [← r1.length]; exact hz, fun p hp => newList_end (ok_if_up k e1) s1 r1 hp⟩
/-! ### items, slices -/
theorem atI_rep {K : PySem.W.Frag} {ρ : List Addr} {H : Hp} {ds : List D} {vs : List V} {i : Int} {d : D} (r : RepL K ρ H ds vs) (h : L2.atI ds i = some d) : ∃ v, L2.atI vs i = some v ∧ Rep K ρ H d v := by
  unfold L2.atI at h ⊢
  obtain ⟨j, h1, h2⟩ := Option.bind_eq_some_iff.mp h
  obtain ⟨v, h3, h4⟩ := r.get h2
  refine ⟨v, ?_, h4⟩
  rw [← r.length, h1]
  exact h3
theorem plainIx {b : Expr} (h : notSlice b = true) : PlainIx b := by
  intro v u
  cases b with
  | Slice _ _ _ _ => cases h
  | _ => rfl
theorem ge_ix (ha : GE X a ma) (hb : GE X b mb) (hs : notSlice b = true) : GE X (.Subscript a b pos) (fun δ => bnd (ma δ) fun x => bnd (mb δ) fun y => rd fun μ => ixOp (view μ x) y) := by
  refine PE_imp (pe_ix ix_seq ha hb (plainIx hs)) fun σ H Q h => ?_
  obtain ⟨δ, μ, ρ, hE, hS, h⟩ := h
  refine te_step hE hS h.bnd fun x μ1 v H1 ρ1 k e1 s1 r1 E1 => ?_
  refine te_step E1 s1 (k.bnd.mono (fun _ _ z => z) fun _ _ z => ExW.up z e1) fun y μ2 w H2 ρ2 k2 e2 s2 r2 E2 => ?_
  obtain ⟨z, hz, q⟩ := k2.rd
  have q' := OkW.up q (e1.trans e2)
  have r1' := Rep.mono e2.sta e2.pre x v r1
  generalize hx : view μ2 x = x' at hz
  cases x' with
  | lst ds => cases y with
    | int i =>
      obtain ⟨l, vs, rfl, h1, h2⟩ := view_lst s2 r1' hx
      obtain ⟨u, h3, h4⟩ := atI_rep h2 (show L2.atI ds i = some z from hz)
      exact .inl ⟨l, vs, i, u, rfl, r2, h1, h3, q'.now s2 h4⟩
    | _ => cases hz
  | tup ds => cases y with
    | int i =>
      have ex := view_ne hx (by intro _ z; cases z)
      subst ex
      obtain ⟨l, vs, rfl, h1, h2⟩ := rep_tup r1'
      obtain ⟨u, h3, h4⟩ := atI_rep h2 (show L2.atI ds i = some z from hz)
      exact .inr (.inl ⟨l, vs, i, u, rfl, r2, h1, h3, q'.now s2 h4⟩)
    | _ => cases hz
  | str z' => cases y with
    | int i =>
      by_cases hl : z'.length ≤ sizeLine
      · have hz : (if z'.length ≤ sizeLine then (L2.atI z'.cps.toList i).map fun c => D.str ⟨#[c]⟩ else none) = some z := hz
        rw [if_pos hl] at hz
        obtain ⟨c, hc, rfl⟩ := Option.map_eq_some_iff.mp hz
        exact .inr (.inr ⟨z', i, c, str_of hx r1', r2, hl, hc, q'.now s2 rfl⟩)
      · have hz : (if z'.length ≤ sizeLine then (L2.atI z'.cps.toList i).map fun c => D.str ⟨#[c]⟩ else none) = some z := hz
        rw [if_neg hl] at hz
        cases hz
    | _ => cases hz
  | _ => cases y <;> cases hz
theorem SlR_frz {r : V → Option Int → Option Int → Hp → VK → Prop} (h : SlR X r) : SlR X (fun x lo hi H Q => r x lo hi H (frzd Q)) := by
  intro pins s σ H x v vl vu lo hi sl Q I rx hs pl pu hq
  obtain ⟨T, id, h1, h2, h3⟩ := h pins s σ H x v vl vu lo hi sl _ I rx hs pl pu hq
  refine ⟨T, id, h1, h2, thn h3 fun u s' ⟨v, H', I', r, q⟩ => ?_⟩
  rcases q with q | ⟨a, vs, ha, q⟩
  · exact ⟨v, H', I', r, q⟩
  · obtain ⟨o, I2⟩ := freeze I' ha
    exact ⟨v, _, I2, r, q o⟩
theorem cut_rep {K : PySem.W.Frag} {ρ : List Addr} {H : Hp} {ds : List D} {vs : List V} {l h : Option Int} (r : RepL K ρ H ds vs) : RepL K ρ H (cut ds l h) (cutV vs l h) := by
  unfold cut cutV
  rw [r.length]
  exact (r.drop _).take _
theorem ge_slc {lo hi : Option Expr} {mlo mhi : Env → M D} (ha : GE X a ma) (hl : PO X lo (poM X mlo)) (hh : PO X hi (poM X mhi)) :
    GE X (.Subscript a (.Slice lo hi none p2) pos) (fun δ => bnd (ma δ) fun x => bnd (mlo δ) fun y => bnd (mhi δ) fun z => rd fun μ => slcOp (view μ x) y z) := by
  refine PE_imp (pe_slice ((SlR_frz sl_list).or (sl_tup.or sl_str)) ha hl hh) fun σ H Q h => ?_
  obtain ⟨δ, μ, ρ, hE, hS, h⟩ := h
  refine te_step hE hS h.bnd fun x μ1 v H1 ρ1 k e1 s1 r1 E1 => ?_
  refine ⟨δ, μ1, ρ1, E1, s1, k.bnd.mono (fun y μ2 k2 l H2 ρ2 hp e2 s2 => ?_) fun _ _ z => ExW.up z e1⟩
  have e12 := e1.trans e2
  refine ⟨δ, μ2, ρ2, E1.mono e2.sta e2.pre, s2, k2.bnd.mono (fun z μ3 k3 h' H3 ρ3 hp3 e3 s3 => ?_) fun _ _ z => ExW.up z e12⟩
  have e13 := e12.trans e3
  obtain ⟨w, hw, q⟩ := k3.rd
  have q' := OkW.up q e13
  have r1' := Rep.mono (e2.trans e3).sta (e2.trans e3).pre x v r1
  unfold slcOp at hw
  rw [hp, hp3] at hw
  generalize hx : view μ3 x = x' at hw
  cases x' with
  | lst ds =>
    cases hw
    obtain ⟨a', vs, rfl, h1, h2⟩ := view_lst s3 r1' hx
    exact .inl ⟨a', vs, rfl, h1, fun p hp' => q'.lst s3 (cut_rep h2) hp'⟩
  | tup ds =>
    have ex := view_ne hx (by intro _ z; cases z)
    subst ex
    obtain ⟨a', vs, rfl, h1, h2⟩ := rep_tup r1'
    have hl := h2.length
    by_cases hc : HT.sIx ds.length 0 l = 0 ∧ HT.sIx ds.length ds.length h' = ds.length
    · have hw : (if HT.sIx ds.length 0 l = 0 ∧ HT.sIx ds.length ds.length h' = ds.length then none else some (D.tup (cut ds l h'))) = some w := hw
      rw [if_pos hc] at hw
      cases hw
    · have hw : (if HT.sIx ds.length 0 l = 0 ∧ HT.sIx ds.length ds.length h' = ds.length then none else some (D.tup (cut ds l h'))) = some w := hw
      rw [if_neg hc] at hw
      cases hw
      rw [hl] at hc
      exact .inr (.inl ⟨a', vs, rfl, h1, hc, fun p hp' => q'.tup s3 (cut_rep h2) hp'⟩)
  | str z' =>
    by_cases hc : z'.length ≤ sizeLine
    · have hw : (if z'.length ≤ sizeLine then some (D.str (L2.cutS z' l h')) else none) = some w := hw
      rw [if_pos hc] at hw
      cases hw
      exact .inr (.inr ⟨z', str_of hx r1', hc, q'.now s3 rfl⟩)
    · have hw : (if z'.length ≤ sizeLine then some (D.str (L2.cutS z' l h')) else none) = some w := hw
      rw [if_neg hc] at hw
      cases hw
  | _ => cases hw
/-! ### a list told for good -/
theorem ge_frz (ha : GE X a ma) : GE X a (fun δ => bnd (ma δ) fun x => frzOp x) := by
  refine PE_imp (PE_frz ha) fun σ H Q h => ?_
  obtain ⟨δ, μ, ρ, hE, hS, h⟩ := h
  refine te_step hE hS h.bnd fun x μ1 v H1 ρ1 k e1 s1 r1 E1 => ?_
  cases x with
  | ptr n =>
    obtain ⟨a', h1, rfl⟩ := r1
    unfold WP frzOp at k
    cases hc : μ1[n]? with
    | none =>
      simp only [hc] at k
    | some c =>
      cases c with
      | dead => simp only [hc] at k
      | dic _ => simp only [hc] at k
      | lst ds =>
        simp only [hc] at k
        obtain ⟨vs, q1, q2⟩ := s1.cell n _ a' hc h1
        refine .inr ⟨a', vs, q1, fun o => ?_⟩
        have hin : a' ∈ ρ1 := List.mem_of_getElem? h1
        have e2 : Ext ρ1 ρ1 H1 (upd H1 a' (.frz o (.lst vs))) := Ext.put q1 hin
        exact k _ _ ρ1 (e1.trans e2) (s1.freeze h1 q1) ⟨a', vs, rfl, .inl ⟨o, upd_same⟩, RepL.mono e2.sta e2.pre ds vs q2⟩
  | _ => exact (show False from k).elim
end
end Ev

namespace Ev
open L2 PyProof.Rows PySem.Spec PySem
variable [Tb]

section
variable (X : Cx)
def rC (g : List D → M D) : List V → Hp → VK → Prop := fun vs H Q => ∃ ρ μ ds, StR X.K ρ H μ ∧ RepL X.K ρ H ds vs ∧ WP (g ds) μ (OkW X ρ H Q) (fun _ _ => True)
end
section
variable {X : Cx} {a b c e o : Expr} {es rest : List Expr} {ma mb mc : Env → M D} {ml : Env → M (List D)} {pos p p2 : Pos} {x : Str}
theorem ge_callB {id : String} {g : List D → M D} (hc : CallR X (.builtin id) (rC X g)) (hg : Gl X x) (hm : X.mg x = none) (hv : bootBuiltins x = some (.builtin id)) (ha : GA X (e :: es) ml) (hn : x ≠ "__name__") (hdb : (x == ("__debug__" : Str)) = false)
    (he : starEach (e :: es) X.env = (false, eval e X.env) :: starEach es X.env) (hpl : (backTo pos (starEach es X.env)).any (·.1) = false) : GE X (.Call (.Name x p) (e :: es) [] pos) (fun δ => bnd (ml δ) fun ds => g ds) := by
  refine PE_imp (pe_callB hc hg hm hv ha hn hdb he hpl) fun σ H Q h => ?_
  obtain ⟨δ, μ, ρ, hE, hS, h⟩ := h
  refine ta_step hE hS h.bnd fun ds μ1 vs H1 ρ1 k e1 s1 r1 E1 => ⟨ρ1, μ1, ds, s1, r1, k.mono (fun _ _ z => OkW.up z e1) fun _ _ _ => trivial⟩
theorem ge_callTy {T : String} {g : List D → M D} (hc : CallR X (.type T) (rC X g)) (hg : Gl X x) (hm : X.mg x = none) (hv : bootBuiltins x = some (.type T)) (ha : GA X (e :: es) ml) (hn : x ≠ "__name__") (hdb : (x == ("__debug__" : Str)) = false)
    (he : starEach (e :: es) X.env = (false, eval e X.env) :: starEach es X.env) (hpl : (backTo pos (starEach es X.env)).any (·.1) = false) : GE X (.Call (.Name x p) (e :: es) [] pos) (fun δ => bnd (ml δ) fun ds => g ds) := by
  refine PE_imp (pe_callTy hc hg hm hv ha hn hdb he hpl) fun σ H Q h => ?_
  obtain ⟨δ, μ, ρ, hE, hS, h⟩ := h
  refine ta_step hE hS h.bnd fun ds μ1 vs H1 ρ1 k e1 s1 r1 E1 => ⟨ρ1, μ1, ds, s1, r1, k.mono (fun _ _ z => OkW.up z e1) fun _ _ _ => trivial⟩

/-! ### built-ins -/
theorem repL1 {K : PySem.W.Frag} {ρ : List Addr} {H : Hp} {d : D} {vs : List V} (h : RepL K ρ H [d] vs) : ∃ v, vs = [v] ∧ Rep K ρ H d v := by
  obtain ⟨v, r, rfl, h1, h2⟩ := h
  cases h2
  exact ⟨v, rfl, h1⟩
theorem repL2 {K : PySem.W.Frag} {ρ : List Addr} {H : Hp} {d d2 : D} {vs : List V} (h : RepL K ρ H [d, d2] vs) : ∃ v w, vs = [v, w] ∧ Rep K ρ H d v ∧ Rep K ρ H d2 w := by
  obtain ⟨v, r, rfl, h1, h2⟩ := h
  obtain ⟨w, rfl, h3⟩ := repL1 h2
  exact ⟨v, w, rfl, h1, h3⟩
theorem bi_arity {f : Bi} {ds : List D} {μ : Mu} {Q : D → Mu → Prop} {Ex : Exn → Mu → Prop} (h : WP (biOp f ds) μ Q Ex) : (∃ d, ds = [d]) ∨ ∃ d e, ds = [d, e] ∧ (f = .min ∨ f = .max) := by
  cases ds with
  | nil => cases f <;> exact h.elim
  | cons d r => cases r with
    | nil => exact .inl ⟨d, rfl⟩
    | cons e r => cases r with
      | nil => cases f with
        | min => exact .inr ⟨d, e, rfl, .inl rfl⟩
        | max => exact .inr ⟨d, e, rfl, .inr rfl⟩
        | abs => cases d <;> exact h.elim
        | int => cases d <;> exact h.elim
        | len => cases d <;> exact h.elim
        | _ => exact h.elim
      | cons e2 r => cases f with
        | min => cases d <;> cases e <;> exact h.elim
        | max => cases d <;> cases e <;> exact h.elim
        | abs => cases d <;> exact h.elim
        | int => cases d <;> exact h.elim
        | len => cases d <;> exact h.elim
        | _ => exact h.elim
theorem cb_len : CallR X (.builtin "len") (rC X (biOp .len)) := by
  refine CallR_imp call_len fun vs H Q h => ?_
  obtain ⟨ρ, μ, ds, hS, hr, h⟩ := h
  rcases bi_arity h with ⟨d, rfl⟩ | ⟨d, e, rfl, z | z⟩
  · obtain ⟨v, rfl, r⟩ := repL1 hr
    have gen : WP (rd fun μ => (seqOf (view μ d)).map fun ds => D.int ds.length) μ (OkW X ρ H Q) (fun _ _ => True) → ∃ x n, [v] = [x] ∧ LenV X.K x H n ∧ Q (.int n) H := fun h => by
      obtain ⟨z, hz, q⟩ := h.rd
      obtain ⟨es, he, rfl⟩ := Option.map_eq_some_iff.mp hz
      obtain ⟨a, ws, rfl, h1, h2⟩ := view_seq hS r he
      refine ⟨.ref a, es.length, rfl, ?_, q.now hS rfl⟩
      rcases h1 with ⟨h1, _⟩ | ⟨h1, _⟩
      · exact .inl ⟨ws, h1, h2.length⟩
      · exact .inr ⟨ws, h1, h2.length⟩
    cases d with
    | str z =>
      obtain ⟨w, hw, q⟩ := (show WP (lft (if z.length ≤ sizeLine then some (D.int z.length) else none)) μ _ _ from h).lft
      obtain ⟨c, rfl⟩ := some_ite hw
      exact ⟨v, z.length, rfl, by rw [show v = .str z from r]; exact ⟨c, rfl⟩, q.now hS rfl⟩
    | _ => exact gen h
  · cases z
  · cases z
theorem cb_abs : CallR X (.builtin "abs") (rC X (biOp .abs)) := by
  refine CallR_imp call_abs fun vs H Q h => ?_
  obtain ⟨ρ, μ, ds, hS, hr, h⟩ := h
  rcases bi_arity h with ⟨d, rfl⟩ | ⟨d, e, rfl, z | z⟩
  · obtain ⟨v, rfl, r⟩ := repL1 hr
    cases d with
    | int i => exact ⟨i, by rw [show v = .int i from r], (show OkW X ρ H Q _ μ from h).now hS rfl⟩
    | _ => exact h.elim
  · cases z
  · cases z
theorem cb_list (m : Bool) : CallR X (.type "list") (rC X (biOp (.list m))) := by
  refine CallR_imp (CallR_frz call_list_of) fun vs H Q h => ?_
  obtain ⟨ρ, μ, ds, hS, hr, h⟩ := h
  rcases bi_arity h with ⟨d, rfl⟩ | ⟨d, e, rfl, z | z⟩
  · obtain ⟨v, rfl, r⟩ := repL1 hr
    cases he : seqOf (view μ d) with
    | none =>
      unfold WP biOp at h
      simp only [he] at h
    | some es =>
      have h' : WP (newList m es) μ (OkW X ρ H Q) (fun _ _ => True) := by
        unfold WP biOp at h
        simp only [he] at h
        exact h
      obtain ⟨hz, k⟩ := wp_newList h'
      obtain ⟨a, ws, rfl, h1, h2⟩ := view_seq hS r he
      exact ⟨a, ws, rfl, h1.imp (·.1) (·.1), fun l hl => newList_end k hS h2 hl⟩
  · cases z
  · cases z
theorem cb_tuple : CallR X (.type "tuple") (rC X (biOp .tuple)) := by
  refine CallR_imp call_tuple_of fun vs H Q h => ?_
  obtain ⟨ρ, μ, ds, hS, hr, h⟩ := h
  rcases bi_arity h with ⟨d, rfl⟩ | ⟨d, e, rfl, z | z⟩
  · obtain ⟨v, rfl, r⟩ := repL1 hr
    obtain ⟨w, hw, q⟩ := (show WP (rd fun μ => (seqOf (view μ d)).map D.tup) μ _ _ from h).rd
    obtain ⟨es, he, rfl⟩ := Option.map_eq_some_iff.mp hw
    obtain ⟨a, ws, rfl, h1, h2⟩ := view_seq hS r he
    refine ⟨a, ws, rfl, ?_⟩
    rcases h1 with ⟨h1, _⟩ | ⟨h1, rfl⟩
    · exact .inl ⟨h1, fun l hl => q.tup hS h2 hl⟩
    · exact .inr ⟨h1, q.now hS r⟩
  · cases z
  · cases z
theorem sum_rep {K : PySem.W.Frag} {ρ : List Addr} {H : Hp} : ∀ {ds : List D} {vs : List V} {n : Int}, RepL K ρ H ds vs → sumInts ds = some n → ∃ ns : List Int, vs = ns.map V.int ∧ n = ns.sum
  | [], _, _, h, e => by cases h; cases e; exact ⟨[], rfl, rfl⟩
  | d :: ds, _, n, h, e => by
    obtain ⟨v, r, rfl, h1, h2⟩ := h
    cases d with
    | int i =>
      obtain ⟨m, hm, rfl⟩ := Option.map_eq_some_iff.mp (show (sumInts ds).map (i + ·) = some n from e)
      obtain ⟨ns, rfl, rfl⟩ := sum_rep h2 hm
      exact ⟨i :: ns, by rw [show v = .int i from h1]; rfl, by simp⟩
    | _ => cases e
theorem bools_rep {K : PySem.W.Frag} {ρ : List Addr} {H : Hp} : ∀ {ds : List D} {vs : List V} {n : List Bool}, RepL K ρ H ds vs → bools ds = some n → vs = n.map V.bl
  | [], _, _, h, e => by cases h; cases e; rfl
  | d :: ds, _, n, h, e => by
    obtain ⟨v, r, rfl, h1, h2⟩ := h
    cases d with
    | bl i =>
      obtain ⟨m, hm, rfl⟩ := Option.map_eq_some_iff.mp (show (bools ds).map (i :: ·) = some n from e)
      rw [bools_rep h2 hm, show v = .bl i from h1]
      rfl
    | _ => cases e
theorem lst_only {α : Type} {μ : Mu} {d : D} {f : List D → Option α} {z : α} (h : (match view μ d with
    | .lst ds => f ds
    | _ => none) = some z) : ∃ ds, view μ d = .lst ds ∧ f ds = some z := by
  cases e : view μ d with
  | lst ds => rw [e] at h; exact ⟨ds, rfl, h⟩
  | _ => rw [e] at h; cases h
theorem cb_sum (hc : X.calm = true) : CallR X (.builtin "sum") (rC X (biOp .sum)) := by
  refine CallR_imp (cr_sum hc) fun vs H Q h => ?_
  obtain ⟨ρ, μ, ds, hS, hr, h⟩ := h
  rcases bi_arity h with ⟨d, rfl⟩ | ⟨d, e, rfl, z | z⟩
  · obtain ⟨v, rfl, r⟩ := repL1 hr
    obtain ⟨w, hw, q⟩ := (show WP (rd _) μ _ _ from h).rd
    obtain ⟨es, he, hf⟩ := lst_only hw
    obtain ⟨n, hn, rfl⟩ := Option.map_eq_some_iff.mp hf
    obtain ⟨a, ws, rfl, h1, h2⟩ := view_lst hS r he
    obtain ⟨ns, rfl, rfl⟩ := sum_rep h2 hn
    exact ⟨a, ns, rfl, h1, q.now hS rfl⟩
  · cases z
  · cases z
theorem cb_all (hc : X.calm = true) : CallR X (.builtin "all") (rC X (biOp .all)) := by
  refine CallR_imp (cr_all hc) fun vs H Q h => ?_
  obtain ⟨ρ, μ, ds, hS, hr, h⟩ := h
  rcases bi_arity h with ⟨d, rfl⟩ | ⟨d, e, rfl, z | z⟩
  · obtain ⟨v, rfl, r⟩ := repL1 hr
    obtain ⟨w, hw, q⟩ := (show WP (rd _) μ _ _ from h).rd
    obtain ⟨es, he, hf⟩ := lst_only hw
    obtain ⟨n, hn, rfl⟩ := Option.map_eq_some_iff.mp hf
    obtain ⟨a, ws, rfl, h1, h2⟩ := view_lst hS r he
    have := bools_rep h2 hn
    subst this
    exact ⟨a, n, rfl, h1, q.now hS rfl⟩
  · cases z
  · cases z
theorem cb_any (hc : X.calm = true) : CallR X (.builtin "any") (rC X (biOp .any)) := by
  refine CallR_imp (cr_any hc) fun vs H Q h => ?_
  obtain ⟨ρ, μ, ds, hS, hr, h⟩ := h
  rcases bi_arity h with ⟨d, rfl⟩ | ⟨d, e, rfl, z | z⟩
  · obtain ⟨v, rfl, r⟩ := repL1 hr
    obtain ⟨w, hw, q⟩ := (show WP (rd _) μ _ _ from h).rd
    obtain ⟨es, he, hf⟩ := lst_only hw
    obtain ⟨n, hn, rfl⟩ := Option.map_eq_some_iff.mp hf
    obtain ⟨a, ws, rfl, h1, h2⟩ := view_lst hS r he
    have := bools_rep h2 hn
    subst this
    exact ⟨a, n, rfl, h1, q.now hS rfl⟩
  · cases z
  · cases z
theorem cb_min (hc : X.calm = true) : CallR X (.builtin "min") (rC X (biOp .min)) := by
  refine CallR_imp (call_min2 hc) fun vs H Q h => ?_
  obtain ⟨ρ, μ, ds, hS, hr, h⟩ := h
  rcases bi_arity h with ⟨d, rfl⟩ | ⟨d, e, rfl, _⟩
  · cases d <;> exact h.elim
  · obtain ⟨v, w, rfl, r, r2⟩ := repL2 hr
    cases d with
    | int i => cases e with
      | int j => exact ⟨i, j, by rw [show v = .int i from r, show w = .int j from r2], (show OkW X ρ H Q _ μ from h).now hS rfl⟩
      | _ => exact h.elim
    | _ => cases e <;> exact h.elim
theorem cb_max (hc : X.calm = true) : CallR X (.builtin "max") (rC X (biOp .max)) := by
  refine CallR_imp (call_max2 hc) fun vs H Q h => ?_
  obtain ⟨ρ, μ, ds, hS, hr, h⟩ := h
  rcases bi_arity h with ⟨d, rfl⟩ | ⟨d, e, rfl, _⟩
  · cases d <;> exact h.elim
  · obtain ⟨v, w, rfl, r, r2⟩ := repL2 hr
    cases d with
    | int i => cases e with
      | int j => exact ⟨i, j, by rw [show v = .int i from r, show w = .int j from r2], (show OkW X ρ H Q _ μ from h).now hS rfl⟩
      | _ => exact h.elim
    | _ => cases e <;> exact h.elim
theorem cb_int : CallR X (.type "int") (rC X (biOp .int)) := by
  refine CallR_imp call_int1 fun vs H Q h => ?_
  obtain ⟨ρ, μ, ds, hS, hr, h⟩ := h
  rcases bi_arity h with ⟨d, rfl⟩ | ⟨d, e, rfl, z | z⟩
  · obtain ⟨v, rfl, r⟩ := repL1 hr
    cases d with
    | int i => exact .inl ⟨i, by rw [show v = .int i from r], (show OkW X ρ H Q _ μ from h).now hS rfl⟩
    | bl k => exact .inr ⟨k, by rw [show v = .bl k from r], (show OkW X ρ H Q _ μ from h).now hS rfl⟩
    | _ => exact h.elim
  · cases z
  · cases z
/-! ### isinstance -/
theorem tyX_of {K : PySem.W.Frag} {ρ : List Addr} {H : Hp} {μ : Mu} (hS : StR K ρ H μ) {d : D} {v : V} {t : String} (r : Rep K ρ H d v) (h : tyN μ d = some t) : TyX K H v (.type t) := by
  cases d with
  | non => cases h; cases r; exact .base .non
  | bl b => cases h; cases r; exact .base (.bl b)
  | int i => cases h; cases r; exact .base (.int i)
  | str x => cases h; cases r; exact .base (.str x)
  | tup ds =>
    cases h
    obtain ⟨a, vs, rfl, h1, h2⟩ := r
    rcases h1 with (h1 | ⟨o, h1⟩) | ⟨o, its, n, h1, h3, _⟩
    · exact .base (.tup h1)
    · exact .fTuple h1
    · exact .kTuple h1 h3
  | lst ds =>
    cases h
    obtain ⟨a, vs, rfl, h1, h2⟩ := r
    rcases h1 with ⟨o, h1⟩ | ⟨o, its, n, h1, h3, _⟩
    · exact .base (.frz h1)
    · exact .kList h1 h3
  | ptr n =>
    obtain ⟨a, h1, rfl⟩ := r
    cases hc : μ[n]? with
    | none => unfold tyN at h; simp only [hc] at h; cases h
    | some c => cases c with
      | dead => unfold tyN at h; simp only [hc] at h; cases h
      | dic _ => unfold tyN at h; simp only [hc] at h; cases h
      | lst ds =>
        unfold tyN at h
        simp only [hc] at h
        cases h
        obtain ⟨vs, q1, _⟩ := hS.cell n _ a hc h1
        exact .base (.lst q1)
  | _ => cases h
theorem isB_kit {a b : String} {r : Bool} (ha : a = "NoneType" ∨ a = "bool" ∨ a = "int" ∨ a = "str" ∨ a = "tuple" ∨ a = "list") (h : isB a b = some r) : kitB a b = some r := by
  unfold isB at h
  obtain ⟨c, rfl⟩ := some_ite h
  simp only [Bool.or_eq_true, beq_iff_eq] at c
  rcases c with (((rfl | rfl) | rfl) | rfl) | rfl <;> rcases ha with rfl | rfl | rfl | rfl | rfl | rfl <;> decide +kernel
theorem tyN_in {μ : Mu} {d : D} {t : String} (h : tyN μ d = some t) : t = "NoneType" ∨ t = "bool" ∨ t = "int" ∨ t = "str" ∨ t = "tuple" ∨ t = "list" := by
  cases d with
  | ptr n =>
    unfold tyN at h
    cases hc : μ[n]? with
    | none => simp only [hc] at h; cases h
    | some c => cases c with
      | dead => simp only [hc] at h; cases h
      | dic _ => simp only [hc] at h; cases h
      | lst ds => simp only [hc] at h; cases h; simp
  | non => cases h; simp
  | bl b => cases h; simp
  | int b => cases h; simp
  | str b => cases h; simp
  | tup b => cases h; simp
  | lst b => cases h; simp
  | _ => cases h
theorem ge_isi {t : String} (ha : GA X [a, b] (fun δ => bnd (ma δ) fun x => bnd (ret (D.ty t)) fun y => ret [x, y])) (hg : Gl X "isinstance") (hm : X.mg "isinstance" = none)
    (he : starEach [a, b] X.env = (false, eval a X.env) :: starEach [b] X.env) (hpl : (backTo pos (starEach [b] X.env)).any (·.1) = false) :
    GE X (.Call (.Name "isinstance" p) [a, b] [] pos) (fun δ => bnd (ma δ) fun x => rd fun μ => (isOf μ x t).map .bl) := by
  refine PE_imp (pe_callB call_isi hg hm PyProof.Rows.boot_isinstance ha (by decide) (by decide) he hpl) fun σ H Q h => ?_
  obtain ⟨δ, μ, ρ, hE, hS, h⟩ := h
  refine ta_step hE hS (K2 := fun ds μ' => ∃ d, ds = [d, .ty t] ∧ WP (rd fun μ => (isOf μ d t).map D.bl) μ' (OkW X ρ H Q) (ExW X δ ρ H)) (WP.of_bnd (h.bnd.mono (fun x μ1 k => WP.of_bnd (WP.of_ret (WP.of_ret ⟨x, rfl, k⟩))) fun _ _ z => z)) fun ds μ1 vs H1 ρ1 k e1 s1 r1 E1 => ?_
  obtain ⟨d, rfl, k⟩ := k
  obtain ⟨v, w, rfl, r, r2⟩ := repL2 r1
  obtain ⟨z, hz, q⟩ := k.rd
  obtain ⟨bb, hb, rfl⟩ := Option.map_eq_some_iff.mp hz
  unfold isOf at hb
  cases ht : tyN μ1 d with
  | none => rw [ht] at hb; cases hb
  | some n =>
    rw [ht] at hb
    refine ⟨v, .ty t, .type n, .type t, bb, by rw [show w = .ty t from r2], .ty t, tyX_of s1 r ht, kit_ty (isB_kit (tyN_in ht) hb), (OkW.up q e1).now s1 rfl⟩
/-! ### append -/
theorem MtR_app : MtR X "list.append" rAppend := mt_append
theorem ge_app {apos cpos : Pos} (ho : GE X o ma) (ha : GE X e mb) (hbase : attributeBase o "append" X.env (eval o X.env) = eval o X.env) (hst : starEach [e] X.env = [(false, eval e X.env)]) (hline : (apos.endLine == cpos.line) = true) :
    GE X (.Call (.Attribute o "append" apos) [e] [] cpos) (fun δ => bnd (ma δ) fun x => bnd (rd (isCell x)) fun _ => bnd (mb δ) fun y => appOp x y) := by
  have hA : PA X [e] (tCons (teM X mb) tNil) := pa_cons ha pa_nil (by rw [hst]; rfl)
  refine PE_imp (pe_bm (T := "list") (id := "list.append") PySem.F.plainAttrs_list PySem.F.slot_list_append PySem.F.type_list_append mt_append ho hA hbase (by rw [hst]; rfl) hline (by rw [hst]; rfl) (by rfl)) fun σ H Q h => ?_
  obtain ⟨δ, μ, ρ, hE, hS, h⟩ := h
  refine te_step hE hS h.bnd fun x μ1 v H1 ρ1 k e1 s1 r1 E1 => ?_
  obtain ⟨_, hcell, k⟩ := k.bnd.rd
  cases x with
  | ptr n =>
    obtain ⟨l, hl, rfl⟩ := r1
    cases hc : μ1[n]? with
    | none => simp only [isCell, hc] at hcell; cases hcell
    | some c => cases c with
      | dead => simp only [isCell, hc] at hcell; cases hcell
      | dic _ => simp only [isCell, hc] at hcell; cases hcell
      | lst ds =>
        obtain ⟨vs, q1, _⟩ := s1.cell n _ l hc hl
        refine ⟨.inl ⟨rfl, vs, .inl (.inl q1)⟩, ?_⟩
        refine te_step E1 s1 (k.bnd.mono (fun _ _ z => z) fun _ _ z => ExW.up z e1) fun y μ2 w H2 ρ2 k2 e2 s2 r2 E2 => ?_
        have hl2 := pre_get e2.pre hl
        have e12 := e1.trans e2
        unfold WP appOp at k2
        cases hc2 : μ2[n]? with
        | none => simp only [hc2] at k2
        | some c2 => cases c2 with
          | dead => simp only [hc2] at k2
          | dic _ => simp only [hc2] at k2
          | lst es =>
            simp only [hc2] at k2
            obtain ⟨ws, p1, p2⟩ := s2.cell n _ l hc2 hl2
            by_cases hz : es.length < sizeLine
            · rw [if_pos hz] at k2
              refine ⟨l, ws, w, rfl, rfl, p1, by rw [← p2.length]; exact hz, ?_⟩
              have hin : l ∈ ρ2 := List.mem_of_getElem? hl2
              exact (show OkW X ρ H Q .non _ from k2) _ _ ρ2 (e12.trans (Ext.put p1 hin)) (s2.put hl2 p1 (p2.append (RepL.one r2))) rfl
            · rw [if_neg hz] at k2
              exact k2.elim
  | _ => cases hcell
theorem ge_ext {apos cpos : Pos} (ho : GE X o ma) (ha : GE X e mb) (hbase : attributeBase o "extend" X.env (eval o X.env) = eval o X.env) (hst : starEach [e] X.env = [(false, eval e X.env)]) (hline : (apos.endLine == cpos.line) = true) :
    GE X (.Call (.Attribute o "extend" apos) [e] [] cpos) (fun δ => bnd (ma δ) fun x => bnd (rd (isCell x)) fun _ => bnd (mb δ) fun y => extOp x y) := by
  have hA : PA X [e] (tCons (teM X mb) tNil) := pa_cons ha pa_nil (by rw [hst]; rfl)
  refine PE_imp (pe_bm (T := "list") (id := "list.extend") PySem.F.plainAttrs_list PySem.F.slot_list_extend PySem.F.type_list_extend mt_extend ho hA hbase (by rw [hst]; rfl) hline (by rw [hst]; rfl) (by rfl)) fun σ H Q h => ?_
  obtain ⟨δ, μ, ρ, hE, hS, h⟩ := h
  refine te_step hE hS h.bnd fun x μ1 v H1 ρ1 k e1 s1 r1 E1 => ?_
  obtain ⟨_, hcell, k⟩ := k.bnd.rd
  cases x with
  | ptr n =>
    obtain ⟨l, hl, rfl⟩ := r1
    cases hc : μ1[n]? with
    | none => simp only [isCell, hc] at hcell; cases hcell
    | some c => cases c with
      | dead => simp only [isCell, hc] at hcell; cases hcell
      | dic _ => simp only [isCell, hc] at hcell; cases hcell
      | lst ds =>
        obtain ⟨vs, q1, _⟩ := s1.cell n _ l hc hl
        refine ⟨.inl ⟨rfl, vs, .inl (.inl q1)⟩, ?_⟩
        refine te_step E1 s1 (k.bnd.mono (fun _ _ z => z) fun _ _ z => ExW.up z e1) fun y μ2 w H2 ρ2 k2 e2 s2 r2 E2 => ?_
        have hl2 := pre_get e2.pre hl
        have e12 := e1.trans e2
        unfold WP extOp at k2
        cases y with
        | ptr q =>
          obtain ⟨l3, hl3, rfl⟩ := r2
          cases hc2 : μ2[n]? with
          | none => simp only [hc2] at k2
          | some c2 => cases c2 with
            | dead => simp only [hc2] at k2
            | dic _ => simp only [hc2] at k2
            | lst es =>
              cases hc3 : μ2[q]? with
              | none => simp only [hc2, hc3] at k2
              | some c3 => cases c3 with
                | dead => simp only [hc2, hc3] at k2
                | dic _ => simp only [hc2, hc3] at k2
                | lst fs =>
                  simp only [hc2, hc3] at k2
                  obtain ⟨ws, p1, p2⟩ := s2.cell n _ l hc2 hl2
                  obtain ⟨zs, p3, p4⟩ := s2.cell q _ l3 hc3 hl3
                  by_cases hz : n ≠ q ∧ es.length + fs.length ≤ sizeLine
                  · rw [if_pos hz] at k2
                    refine ⟨l, l3, ws, zs, rfl, rfl, p1, p3, by rw [← p2.length, ← p4.length]; exact hz.2, ?_⟩
                    have hin : l ∈ ρ2 := List.mem_of_getElem? hl2
                    exact (show OkW X ρ H Q .non _ from k2) _ _ ρ2 (e12.trans (Ext.put p1 hin)) (s2.put hl2 p1 (p2.append p4)) rfl
                  · rw [if_neg hz] at k2
                    exact k2.elim
        | _ => exact k2.elim
  | _ => cases hcell
end
/-! ## sorted, of pairs of ints -/
def PairAt (K : PySem.W.Frag) (H : Hp) : List V → List (Int × Int) → Prop
  | [], [] => True
  | v :: vs, p :: ps => (∃ t, v = .ref t ∧ SqT K H t [.int p.1, .int p.2]) ∧ PairAt K H vs ps
  | _, _ => False
theorem pairs_rep {K : PySem.W.Frag} {ρ : List Addr} {H : Hp} : ∀ {ds : List D} {vs : List V} {ps : List (Int × Int)}, RepL K ρ H ds vs → pairsOf ds = some ps → PairAt K H vs ps
  | [], vs, ps, r, e => by
    cases r
    cases e
    trivial
  | d :: ds, vs, ps, r, e => by
    obtain ⟨v, ws, rfl, h1, h2⟩ := r
    unfold pairsOf at e
    split at e
    · rename_i heq
      cases heq
    · rename_i i j ds' heq
      cases heq
      obtain ⟨qs, hq, rfl⟩ := Option.map_eq_some_iff.mp e
      obtain ⟨a, xs, rfl, h3, h4⟩ := h1
      obtain ⟨x, xs, rfl, h5, y, ys, rfl, h6, h7⟩ := h4
      cases h7
      cases h5
      cases h6
      exact ⟨⟨a, rfl, h3⟩, pairs_rep h2 hq⟩
    · cases e
theorem rep_pairs {K : PySem.W.Frag} {ρ : List Addr} {H : Hp} : ∀ {vs : List V} {ps : List (Int × Int)}, PairAt K H vs ps → RepL K ρ H (ps.map pairD) vs
  | [], [], _ => rfl
  | v :: vs, p :: ps, h => by
    obtain ⟨⟨t, rfl, ht⟩, h⟩ := h
    exact ⟨_, _, rfl, ⟨t, _, rfl, ht, _, _, rfl, rfl, _, _, rfl, rfl, rfl⟩, rep_pairs h⟩
theorem PairAt.map {K : PySem.W.Frag} {H : Hp} {k : V → Int × Int} (hk : ∀ v q, (∃ t, v = V.ref t ∧ SqT K H t [.int q.1, .int q.2]) → k v = q) : ∀ {vs : List V} {ps : List (Int × Int)}, PairAt K H vs ps → vs.map k = ps ∧ ∀ v ∈ vs, ∃ t, v = .ref t ∧ SqT K H t [.int (k v).1, .int (k v).2]
  | [], [], _ => ⟨rfl, fun v h => by cases h⟩
  | v :: vs, p :: ps, h => by
    obtain ⟨h1, h2⟩ := h
    obtain ⟨g1, g2⟩ := PairAt.map hk h2
    have e := hk v p h1
    refine ⟨by rw [List.map_cons, e, g1], fun w hw => ?_⟩
    rcases List.mem_cons.mp hw with rfl | hw
    · rw [e]
      exact h1
    · exact g2 w hw
theorem PairAt.of {K : PySem.W.Frag} {H : Hp} {k : V → Int × Int} : ∀ {vs : List V}, (∀ v ∈ vs, ∃ t, v = V.ref t ∧ SqT K H t [.int (k v).1, .int (k v).2]) → PairAt K H vs (vs.map k)
  | [], _ => trivial
  | v :: vs, h => ⟨h v (List.mem_cons_self ..), PairAt.of fun w hw => h w (List.mem_cons_of_mem _ hw)⟩
theorem lexLe_not (p q : Int × Int) : lexLe p q = !SrtO.lexB q p := by
  have h1 := SrtO.lexB_iff (p := q) (q := p)
  cases e : SrtO.lexB q p with
  | true =>
    have := h1.mp e
    unfold lexLe
    simp
    omega
  | false =>
    have := SrtO.lexB_no.mp e
    unfold lexLe
    simp
    omega
theorem sort_same {k : V → Int × Int} {ys : List V} {ps : List (Int × Int)} (hs : SrtO.Srtd (ltP k) ys) (hp : (ys.map k).Perm ps) : ys.map k = ps.mergeSort lexLe := by
  refine List.Perm.eq_of_pairwise (le := fun a b => lexLe a b = true) (fun a b _ _ h1 h2 => ?_) ?_ (List.pairwise_mergeSort ?_ ?_ ps) (hp.trans (List.mergeSort_perm ps lexLe).symm)
  · unfold lexLe at h1 h2
    simp at h1 h2
    exact Prod.ext (by omega) (by omega)
  · refine List.pairwise_map.mpr (hs.imp fun {x y} h => ?_)
    rw [lexLe_not]
    have h : SrtO.lexB (k y) (k x) = false := h
    rw [h]
    rfl
  · intro a b c h1 h2
    unfold lexLe at *
    simp at *
    omega
  · intro a b
    unfold lexLe
    simp
    omega
open Classical in
theorem call_sortedD {X : Cx} : CallR X (.builtin "sorted") (fun vs H Q => ∃ (a : Addr) (xs : List V) (ps : List (Int × Int)), vs = [.ref a] ∧ SqL X.K H a xs ∧ PairAt X.K H xs ps ∧ ∀ ys p, PairAt X.K H ys (ps.mergeSort lexLe) → H p = none → Q (.ref p) (upd H p (.lst ys))) := by
  intro pins s σ H vs us Q I r h
  obtain ⟨a, xs, ps, rfl, hseq, hpair, q⟩ := h
  obtain ⟨k, hk⟩ : ∃ k : V → Int × Int, ∀ v q, (∃ t, v = V.ref t ∧ SqT X.K H t [.int q.1, .int q.2]) → k v = q := by
    refine ⟨fun v => if h : ∃ q : Int × Int, ∃ t, v = V.ref t ∧ SqT X.K H t [.int q.1, .int q.2] then Classical.choose h else (0, 0), fun v q hq => ?_⟩
    have hx : ∃ q : Int × Int, ∃ t, v = V.ref t ∧ SqT X.K H t [.int q.1, .int q.2] := ⟨q, hq⟩
    show (if h : _ then Classical.choose h else (0, 0)) = q
    rw [dif_pos hx]
    obtain ⟨t, e1, g1⟩ := Classical.choose_spec hx
    obtain ⟨t', e2, g2⟩ := hq
    rw [e1] at e2
    cases e2
    have e3 := I.tuple_inj g1 g2
    injection e3 with e4 e5
    injection e4 with e4
    injection e5 with e5
    injection e5 with e5
    exact Prod.ext e4 e5
  obtain ⟨m1, m2⟩ := PairAt.map hk hpair
  obtain ⟨its, rv, hl, hz⟩ := I.list hseq
  obtain ⟨u, rfl, ru⟩ := vals1 r
  obtain rfl : u = Value.ref a := ru
  obtain ⟨b1, b2⟩ := refs_back rv fun x m => (m2 x m).imp fun t ht => ht.1
  refine SrtO.sorted_pairsO (k := fun u => k (backV u)) hl.isList (by rw [← rv.length]; exact hz) (fun w hw => ?_) fun h' dd out o1 o2 kp hd hn => ?_
  · obtain ⟨t, rfl⟩ := b2 w hw
    obtain ⟨t2, e, ht⟩ := m2 (V.ref t) (by rw [b1]; exact List.mem_map.mpr ⟨_, hw, rfl⟩)
    cases e
    obtain ⟨its2, r2, ⟨o, ho, hc, n, hd⟩, _⟩ := I.tuple ht
    obtain ⟨w1, w2, rfl, ri, rj⟩ := vals2 r2
    obtain ⟨t1, rfl⟩ := ri
    obtain ⟨t3, rfl⟩ := rj
    exact ⟨t, o, t1, t3, n, rfl, ho, hc, hd⟩
  · have allr : ∀ w ∈ out, ∃ a, w = Value.ref a := fun w hw => b2 w (o2.perm.mem_iff.mp hw)
    obtain ⟨n, hn⟩ := hn
    have st : SrtO.Stb (ltP k) (out.map backV) xs := by
      rw [b1]
      exact SrtO.Stb.map (ltP_swo k) backV o2
    have hm : ∀ v ∈ out.map backV, ∃ t, v = V.ref t ∧ SqT X.K H t [.int (k v).1, .int (k v).2] := fun v hv => m2 v (st.perm.mem_iff.mp hv)
    have e := sort_same (SrtO.srtd_map o1) ((st.perm.map k).trans (by rw [m1]))
    refine ⟨.ref dd, upd H dd (.lst (out.map backV)), I.laid (t' := s.toks) kp hd ⟨?_, out, n, vals_back allr, hn⟩, rfl, q _ dd ?_ (I.hok.fresh hd)⟩
    · rw [st.len]
      exact hz
    · rw [← e]
      exact PairAt.of hm
theorem cb_sorted {X : Cx} : CallR X (.builtin "sorted") (rC X (biOp .sorted)) := by
  refine CallR_imp (CallR_frz call_sortedD) fun vs H Q h => ?_
  obtain ⟨ρ, μ, ds, hS, hr, h⟩ := h
  rcases bi_arity h with ⟨d, rfl⟩ | ⟨d, e, rfl, z | z⟩
  · obtain ⟨v, rfl, r⟩ := repL1 hr
    obtain ⟨w, hw, q⟩ := (show WP (rd fun μ => match view μ d with | .lst ds => (pairsOf ds).map fun ps => D.lst ((ps.mergeSort lexLe).map pairD) | _ => none) μ _ _ from h).rd
    cases hv : view μ d with
    | lst es =>
      rw [hv] at hw
      obtain ⟨ps, hp, rfl⟩ := Option.map_eq_some_iff.mp hw
      obtain ⟨a, ws, rfl, h1, h2⟩ := view_lst hS r hv
      exact ⟨a, ws, ps, rfl, h1, pairs_rep h2 hp, fun ys p hy hn => OkW.lst q hS (rep_pairs hy) hn⟩
    | _ => rw [hv] at hw; cases hw
  · cases z
  · cases z
end Ev

namespace Ev
open L2 PyProof.Rows PySem.Spec PySem
variable [Tb]

/-! ## Targets -/
mutual
def slots : Tg → List Nat
  | .one i => [i]
  | .tup ts => slotsL ts
def slotsL : TgL → List Nat
  | .nil => []
  | .cons t ts => slots t ++ slotsL ts
end
def TgL.len : TgL → Nat
  | .nil => 0
  | .cons _ ts => ts.len + 1
/-- the slots outside of own are as they were -/
def Out1 (own : List Nat) (σ σ' : St) : Prop := σ'.length = σ.length ∧ ∀ i, i ∉ own → σ'[i]? = σ[i]?
theorem Out1.refl (own : List Nat) (σ : St) : Out1 own σ σ := ⟨rfl, fun _ _ => rfl⟩
theorem Out1.trans {own : List Nat} {σ σ1 σ2 : St} (a : Out1 own σ σ1) (b : Out1 own σ1 σ2) : Out1 own σ σ2 := ⟨b.1.trans a.1, fun i h => (b.2 i h).trans (a.2 i h)⟩
theorem Out1.set {own : List Nat} {σ : St} {i : Nat} {v : Option V} (h : i ∈ own) : Out1 own σ (σ.set i v) := ⟨by simp, fun j hj => List.getElem?_set_ne fun z => hj (by rw [← z]; exact h)⟩
theorem wipe_get (σ : St) : ∀ (own : List Nat) (i : Nat), i ∈ own → i < σ.length → (L2.wipe σ own)[i]? = some none
  | [], _, h, _ => absurd h (by simp)
  | v :: vs, i, h, hl => by
    unfold L2.wipe
    by_cases e : v = i
    · subst e
      rw [List.getElem?_set_self (by rw [L2.wipe_length]; exact hl)]
    · rw [List.getElem?_set_ne e]
      exact wipe_get σ vs i ((List.mem_cons.mp h).resolve_left fun z => e z.symm) hl
theorem wipe_of_out {own : List Nat} {σ σ' : St} (h : Out1 own σ σ') : L2.wipe σ' own = L2.wipe σ own := by
  refine List.ext_getElem? fun i => ?_
  by_cases hi : i ∈ own
  · by_cases hl : i < σ.length
    · rw [wipe_get σ own i hi hl, wipe_get σ' own i hi (by rw [h.1]; exact hl)]
    · have h1 := h.1
      rw [List.getElem?_eq_none (by rw [L2.wipe_length]; omega), List.getElem?_eq_none (by rw [L2.wipe_length]; omega)]
  · rw [L2.wipe_out hi, L2.wipe_out hi]
    exact h.2 i hi
theorem out_wipe (own : List Nat) (σ : St) : Out1 own σ (L2.wipe σ own) := ⟨L2.wipe_length _ _, fun i h => L2.wipe_out h⟩

section
variable (X : Cx)
def gD (t : Tg) : TG := fun v σ H Q => ∃ d δ δ' ρ, Rep X.K ρ H d v ∧ EnvR X.K ρ H σ δ ∧ store t d δ = some δ' ∧ ∀ σ', EnvR X.K ρ H σ' δ' → Out1 (slots t) σ σ' → Q σ' H
def gDL (ts : TgL) : TGs := fun vs σ H Q => ∃ ds δ δ' ρ, RepL X.K ρ H ds vs ∧ EnvR X.K ρ H σ δ ∧ storeL ts ds δ = some δ' ∧ ∀ σ', EnvR X.K ρ H σ' δ' → Out1 (slotsL ts) σ σ' → Q σ' H
end
section
variable {X : Cx} {e : Expr} {es : List Expr} {pos : Pos} {t : Tg} {ts : TgL}
theorem PG_imp {g g' : TG} (h : PG X e g) (hi : ∀ v σ H Q, g' v σ H Q → g v σ H Q) : PG X e g' := ⟨fun pins s σ H v u Q I r hq => h.run pins s σ H v u Q I r (hi _ _ _ _ hq)⟩
theorem PGs_imp {g g' : TGs} (h : PGs X es g) (hi : ∀ v σ H Q, g' v σ H Q → g v σ H Q) : PGs X es g' := ⟨fun pins s σ H v u Q I r hq => h.run pins s σ H v u Q I r (hi _ _ _ _ hq)⟩
theorem gg_name {i : Nat} {x : Str} (hN : X.N.Nodup) (hi : X.N[i]? = some x) (hx : Loc X.env.scope x) (hf : X.fn x = true ∨ X.env.scope.names.lookup x = some .local) : PG X (.Name x pos) (gD X (.one i)) :=
  PG_imp (pg_name hN hi hx hf) fun v σ H Q ⟨d, δ, δ', ρ, r, hE, hs, k⟩ => by
    obtain ⟨c, rfl⟩ := some_ite (show (if i < δ.length then some (δ.set i (some d)) else none) = some δ' from hs)
    exact k _ (hE.set i r) (Out1.set (by simp [slots]))
theorem gg_nil : PGs X [] (gDL X .nil) := PGs_imp pgs_nil fun vs σ H Q ⟨ds, δ, δ', ρ, r, hE, hs, k⟩ => by
  cases ds with
  | nil =>
    cases r
    cases hs
    exact ⟨rfl, k σ hE (Out1.refl _ _)⟩
  | cons _ _ => cases hs
theorem Out1.mono {o o' : List Nat} {σ σ' : St} (h : Out1 o σ σ') (k : ∀ i ∈ o, i ∈ o') : Out1 o' σ σ' := ⟨h.1, fun i hi => h.2 i fun z => hi (k i z)⟩
theorem gg_cons (h1 : PG X e (gD X t)) (h2 : PGs X es (gDL X ts)) (hs : assignEach (e :: es) X.env = (false, assign e X.env) :: assignEach es X.env) : PGs X (e :: es) (gDL X (.cons t ts)) := by
  refine PGs_imp (pgs_cons h1 h2 (by rw [hs]; rfl)) fun vs σ H Q ⟨ds, δ, δ', ρ, r, hE, hs, k⟩ => ?_
  cases ds with
  | nil => cases hs
  | cons d ds =>
    obtain ⟨v, vr, rfl, r1, r2⟩ := r
    have hs' : (match store t d δ with
      | some δ' => storeL ts ds δ'
      | none => none) = some δ' := hs
    cases e1 : store t d δ with
    | none => rw [e1] at hs'; cases hs'
    | some δ1 =>
      rw [e1] at hs'
      refine ⟨v, vr, rfl, d, δ, δ1, ρ, r1, hE, e1, fun σ1 hE1 o1 => ⟨ds, δ1, δ', ρ, r2, hE1, hs', fun σ2 hE2 o2 => k σ2 hE2 ?_⟩⟩
      exact (o1.mono fun i hi => List.mem_append_left _ hi).trans (o2.mono fun i hi => List.mem_append_right _ hi)
theorem storeL_len : ∀ {ts : TgL} {ds : List D} {δ δ' : Env}, storeL ts ds δ = some δ' → ds.length = ts.len
  | .nil, [], _, _, _ => rfl
  | .nil, _ :: _, _, _, h => by cases h
  | .cons _ _, [], _, _, h => by cases h
  | .cons t ts, d :: ds, δ, δ', h => by
    have hs' : (match store t d δ with
      | some δ' => storeL ts ds δ'
      | none => none) = some δ' := h
    cases e1 : store t d δ with
    | none => rw [e1] at hs'; cases hs'
    | some δ1 =>
      rw [e1] at hs'
      show ds.length + 1 = ts.len + 1
      rw [storeL_len hs']
theorem PG_or {g g' : TG} (h : PG X e g) (h' : PG X e g') : PG X e (fun v σ H Q => g v σ H Q ∨ g' v σ H Q) := ⟨fun pins s σ H v u Q I r hq => hq.elim (h.run pins s σ H v u Q I r) (h'.run pins s σ H v u Q I r)⟩
theorem gg_tup {k : Nat} (hc : X.calm = true) (h : PGs X es (gDL X ts)) (hn : (assignEach es X.env).length = ts.len) (hst : (assignEach es X.env).findIdx? (·.1) = none) : PG X (.Tuple es k pos) (gD X (.tup ts)) := by
  refine PG_imp (PG_or (pg_tup hc h hn hst) (pg_unl hc h hn hst)) fun v σ H Q ⟨d, δ, δ', ρ, r, hE, hs, k⟩ => ?_
  cases d with
  | tup ds =>
    obtain ⟨a, vs, rfl, h1, h2⟩ := r
    exact .inl ⟨a, vs, rfl, h1, by rw [← h2.length]; exact storeL_len hs, ds, δ, δ', ρ, h2, hE, hs, k⟩
  | lst ds =>
    obtain ⟨a, vs, rfl, h1, h2⟩ := r
    exact .inr ⟨a, vs, rfl, h1.seq, by rw [← h2.length]; exact storeL_len hs, ds, δ, δ', ρ, h2, hE, hs, k⟩
  | _ => cases hs
end

/-! ## What is walked -/
section
variable (X : Cx)
def JR (J : It) (iv : Iv) (ρ0 : List Addr) (H0 : Hp) : Prop := ∀ ρ H μ, Ext ρ0 ρ H0 H → StR X.K ρ H μ → ∀ i,
  (∀ d, itemAt iv μ i = some (some d) → J.go i H ∧ ∀ x H', J.yld i H x H' → Ext ρ ρ H H' ∧ StR X.K ρ H' μ ∧ Rep X.K ρ H' d x) ∧ (itemAt iv μ i = some none → J.stop i H)
def OkI (ρ : List Addr) (H : Hp) (R : It → Hp → Prop) : Iv → Mu → Prop := fun iv μ' => ∀ J H' ρ', Ext ρ ρ' H H' → StR X.K ρ' H' μ' → JR X J iv ρ' H' → R J H'
def tiM (m : Env → M Iv) : TI := fun σ H R => ∃ δ μ ρ, EnvR X.K ρ H σ δ ∧ StR X.K ρ H μ ∧ WP (m δ) μ (OkI X ρ H R) (ExW X δ ρ H)
abbrev GI (tg iter : Expr) (m : Env → M Iv) : Prop := PI X tg iter (tiM X m)
end
section
variable {X : Cx} {tg a b e : Expr} {es : List Expr} {ma mb : Env → M D} {ml : Env → M (List D)} {pos p tpos : Pos} {k : Nat}
theorem PI_imp {w w' : TI} (h : PI X tg e w) (hi : ∀ σ H R, w' σ H R → w σ H R) : PI X tg e w' := ⟨fun pins s σ H R I hq => h.run pins s σ H R I (hi _ _ _ hq)⟩
/-- a list or a tuple -/
theorem pi_seq {l : Expr} {tl : TE} (hl : PE X l tl) : PI X tg l (fun σ H R => tl σ H fun x H1 => (∃ a, x = .ref a ∧ (∃ xs, SqL X.K H1 a xs) ∧ R (Itl X.K a) H1) ∨ ∃ a, x = .ref a ∧ (∃ xs, SqT X.K H1 a xs) ∧ R (Itt X.K a) H1) := by
  refine ⟨fun pins s σ H R I h => thn (hl.run pins s σ H _ I h) fun v s1 ⟨x, H1, I1, r1, q1⟩ => ?_⟩
  have fr : ∀ b, b ∈ [s1.heap.objs.size] → FpOk X pins H1 b := fun b hb => by
    have e : b = s1.heap.objs.size := by simpa using hb
    subst e
    exact I1.fpOk (Nat.le_refl _) (I1.hok.fresh (Nat.le_refl _))
  rcases q1 with ⟨a, rfl, ⟨xs, hq⟩, q⟩ | ⟨a, rfl, ⟨xs, hq⟩, q⟩
  · cases r1
    obtain ⟨its, rv, pl, hz⟩ := I1.list hq
    refine wpAny_pyIter_list pl.isList ⟨s1.heap.objs.size, [s1.heap.objs.size], _, _, H1, rfl, I1.kept (t' := s1.toks) fun b o e => Heap.get?_push_of_some _ e, turn_list a _, ⟨_, Heap.get?_push_size _ rfl, rfl, rfl⟩, fr, q⟩
  · cases r1
    obtain ⟨its, rv, pl, hz⟩ := I1.tuple hq
    refine wpAny_pyIter_tuple (show s1.heap.IsTuple a its.toArray from pl) ⟨s1.heap.objs.size, [s1.heap.objs.size], _, _, H1, rfl, I1.kept (t' := s1.toks) fun b o e => Heap.get?_push_of_some _ e, turn_tuple a _, ⟨_, Heap.get?_push_size _ rfl, rfl, rfl⟩, fr, q⟩
theorem item_seq {d : D} {μ : Mu} {i : Nat} {r : Option D} (h : itemAt (.seq d) μ i = some r) : ∃ ds, seqOf (view μ d) = some ds ∧ ds[i]? = r := by
  obtain ⟨ds, h1, h2⟩ := Option.map_eq_some_iff.mp (show (seqOf (view μ d)).map (fun ds => ds[i]?) = some r from h)
  exact ⟨ds, h1, h2⟩
theorem jr_tup {ρ0 : List Addr} {H0 : Hp} {ds : List D} {a : Addr} (r : Rep X.K ρ0 H0 (.tup ds) (.ref a)) : JR X (Itt X.K a) (.seq (.tup ds)) ρ0 H0 := by
  intro ρ H μ e hS i
  obtain ⟨a', vs, ea, h1, h2⟩ := Rep.mono e.sta e.pre _ _ r
  cases ea
  refine ⟨fun d hd => ?_, fun hd => ?_⟩
  · obtain ⟨es, e1, e2⟩ := item_seq hd
    cases e1
    obtain ⟨v, h3, h4⟩ := h2.get e2
    refine ⟨⟨vs, v, h1, h3⟩, fun x H' ⟨eH, hx⟩ => ?_⟩
    subst eH
    have ev := hx vs h1
    rw [h3] at ev
    cases ev
    exact ⟨Ext.refl ρ H', hS, h4⟩
  · obtain ⟨es, e1, e2⟩ := item_seq hd
    cases e1
    exact ⟨vs, h1, by rw [← h2.length]; exact List.getElem?_eq_none_iff.mp e2⟩
theorem jr_lst {ρ0 : List Addr} {H0 : Hp} {d0 : D} {a : Addr} (r : Rep X.K ρ0 H0 d0 (.ref a)) (hn : ∀ ds, d0 ≠ .tup ds) : JR X (Itl X.K a) (.seq d0) ρ0 H0 := by
  intro ρ H μ e hS i
  have r' := Rep.mono e.sta e.pre _ _ r
  have key : ∀ ds, seqOf (view μ d0) = some ds → ∃ vs, SqL X.K H a vs ∧ RepL X.K ρ H ds vs := fun ds hd => by
    obtain ⟨a', vs, ea, h1, h2⟩ := view_seq hS r' hd
    cases ea
    rcases h1 with ⟨h1, _⟩ | ⟨_, h1⟩
    · exact ⟨vs, h1, h2⟩
    · exact (hn _ h1).elim
  refine ⟨fun d hd => ?_, fun hd => ?_⟩
  · obtain ⟨es, e1, e2⟩ := item_seq hd
    obtain ⟨vs, h1, h2⟩ := key es e1
    obtain ⟨v, h3, h4⟩ := h2.get e2
    refine ⟨⟨vs, v, h1, h3⟩, fun x H' ⟨eH, hx⟩ => ?_⟩
    subst eH
    have ev := hx vs h1
    rw [h3] at ev
    cases ev
    exact ⟨Ext.refl ρ H', hS, h4⟩
  · obtain ⟨es, e1, e2⟩ := item_seq hd
    obtain ⟨vs, h1, h2⟩ := key es e1
    exact ⟨vs, h1, by rw [← h2.length]; exact List.getElem?_eq_none_iff.mp e2⟩
theorem gi_seq (ha : GE X a ma) : GI X tg a (fun δ => bnd (ma δ) fun x => rd (ckSeq x)) := by
  refine PI_imp (pi_seq ha) fun σ H R h => ?_
  obtain ⟨δ, μ, ρ, hE, hS, h⟩ := h
  refine te_step hE hS h.bnd fun x μ1 v H1 ρ1 k e1 s1 r1 E1 => ?_
  obtain ⟨iv, hi, q⟩ := k.rd
  obtain ⟨ds, hd, rfl⟩ := Option.map_eq_some_iff.mp (show (seqOf (view μ1 x)).map (fun _ => Iv.seq x) = some iv from hi)
  obtain ⟨l, vs, rfl, h1, h2⟩ := view_seq s1 r1 hd
  rcases h1 with ⟨h1, hv⟩ | ⟨h1, rfl⟩
  · exact .inl ⟨l, rfl, ⟨vs, h1⟩, q _ H1 ρ1 e1 s1 (jr_lst r1 fun es z => by subst z; cases hv)⟩
  · exact .inr ⟨l, rfl, ⟨vs, h1⟩, q _ H1 ρ1 e1 s1 (jr_tup r1)⟩
theorem jr_rng {ρ0 : List Addr} {H0 : Hp} {lo : Int} {n : Nat} : JR X (Itr lo n) (.rng lo n) ρ0 H0 := by
  intro ρ H μ e hS i
  refine ⟨fun d hd => ?_, fun hd => ?_⟩
  · have hd' := Option.some.inj (show some (if i < n then some (D.int (lo + i)) else none) = some (some d) from hd)
    obtain ⟨c, rfl⟩ := some_ite hd'
    refine ⟨c, fun x H' ⟨eH, hx⟩ => ?_⟩
    subst eH
    exact ⟨Ext.refl ρ H', hS, hx⟩
  · have hd' := Option.some.inj (show some (if i < n then some (D.int (lo + i)) else none) = some none from hd)
    by_cases c : i < n
    · rw [if_pos c] at hd'
      cases hd'
    · exact Nat.le_of_not_lt c
theorem gi_rng1 (ha : GE X a ma) (hg : Gl X "range") (hm : X.mg "range" = none) (hs : starEach [a] X.env = [(false, eval a X.env)]) : GI X tg (.Call (.Name "range" p) [a] [] pos) (fun δ => bnd (ma δ) fun x => lft (rng1Of x)) := by
  have hA : PA X [a] (tCons (teM X ma) tNil) := pa_cons ha pa_nil (by rw [hs]; rfl)
  refine PI_imp (pi_range1 hg hm hA hs) fun σ H R h => ?_
  obtain ⟨δ, μ, ρ, hE, hS, h⟩ := h
  refine te_step hE hS h.bnd fun x μ1 v H1 ρ1 k e1 s1 r1 E1 => ?_
  obtain ⟨iv, hi, q⟩ := k.lft
  unfold rng1Of at hi
  cases x with
  | int n =>
    obtain ⟨c, rfl⟩ := some_ite (show (if -(2 ^ 62) ≤ n ∧ n < 2 ^ 62 then some (Iv.rng 0 n.toNat) else none) = some iv from hi)
    exact ⟨n, by rw [show v = .int n from r1], c.1, c.2, q _ H1 ρ1 e1 s1 jr_rng⟩
  | _ => cases hi
theorem gi_rng2 (ha : GE X a ma) (hb : GE X b mb) (hg : Gl X "range") (hm : X.mg "range" = none) (hs : starEach [a, b] X.env = [(false, eval a X.env), (false, eval b X.env)]) (hs2 : starEach [b] X.env = [(false, eval b X.env)]) :
    GI X tg (.Call (.Name "range" p) [a, b] [] pos) (fun δ => bnd (ma δ) fun x => bnd (mb δ) fun y => lft (rng2Of x y)) := by
  have hB : PA X [b] (tCons (teM X mb) tNil) := pa_cons hb pa_nil (by rw [hs2]; rfl)
  have hA : PA X [a, b] (tCons (teM X ma) (tCons (teM X mb) tNil)) := pa_cons ha hB (by rw [hs, hs2])
  refine PI_imp (pi_range2 hg hm hA hs hs2) fun σ H R h => ?_
  obtain ⟨δ, μ, ρ, hE, hS, h⟩ := h
  refine te_step hE hS h.bnd fun x μ1 v H1 ρ1 k e1 s1 r1 E1 => ?_
  refine te_step E1 s1 (k.bnd.mono (fun _ _ z => z) fun _ _ z => ExW.up z e1) fun y μ2 w H2 ρ2 k2 e2 s2 r2 E2 => ?_
  obtain ⟨iv, hi, q⟩ := k2.lft
  unfold rng2Of at hi
  cases x with
  | int i => cases y with
    | int j =>
      obtain ⟨c, rfl⟩ := some_ite (show (if -(2 ^ 62) ≤ i ∧ i < 2 ^ 62 ∧ -(2 ^ 62) ≤ j ∧ j < 2 ^ 62 then some (Iv.rng i (j - i).toNat) else none) = some iv from hi)
      exact ⟨i, j, by rw [show v = .int i from r1, show w = .int j from r2], c, q _ H2 ρ2 (e1.trans e2) s2 jr_rng⟩
    | _ => cases hi
  | _ => cases y <;> cases hi
/-- a new pair at each turn -/
theorem pair_new {ρ : List Addr} {H : Hp} {μ : Mu} {T : Addr} {x y : V} {d e : D} (hS : StR X.K ρ H μ) (hT : H T = none) (r1 : Rep X.K ρ H d x) (r2 : Rep X.K ρ H e y) :
    Ext ρ ρ H (upd H T (.tup [x, y])) ∧ StR X.K ρ (upd H T (.tup [x, y])) μ ∧ Rep X.K ρ (upd H T (.tup [x, y])) (.tup [d, e]) (.ref T) := by
  have ex : Ext ρ ρ H (upd H T (.tup [x, y])) := Ext.new hT
  exact ⟨ex, hS.new hT, T, [x, y], rfl, .inl (.inl upd_same), x, [y], rfl, Rep.mono ex.sta ex.pre _ _ r1, y, [], rfl, Rep.mono ex.sta ex.pre _ _ r2, rfl⟩
theorem item_zip {x y : D} {μ : Mu} {i : Nat} {r : Option D} (h : itemAt (.zip x y) μ i = some r) : ∃ xs ys, ((view μ x = .lst xs ∧ view μ y = .lst ys) ∨ (view μ x = .tup xs ∧ view μ y = .tup ys)) ∧ (match xs[i]?, ys[i]? with
    | some x, some y => some (D.tup [x, y])
    | _, _ => none) = r := by
  have h' : (match view μ x, view μ y with
    | .lst xs, .lst ys => some (match xs[i]?, ys[i]? with
      | some x, some y => some (D.tup [x, y])
      | _, _ => none)
    | .tup xs, .tup ys => some (match xs[i]?, ys[i]? with
      | some x, some y => some (D.tup [x, y])
      | _, _ => none)
    | _, _ => none) = some r := h
  cases e1 : view μ x with
  | lst xs => cases e2 : view μ y with
    | lst ys => rw [e1, e2] at h'; exact ⟨xs, ys, .inl ⟨rfl, rfl⟩, Option.some.inj h'⟩
    | _ => rw [e1, e2] at h'; cases h'
  | tup xs => cases e2 : view μ y with
    | tup ys => rw [e1, e2] at h'; exact ⟨xs, ys, .inr ⟨rfl, rfl⟩, Option.some.inj h'⟩
    | _ => rw [e1, e2] at h'; cases h'
  | _ => rw [e1] at h'; cases e2 : view μ y <;> rw [e2] at h' <;> cases h'
theorem zip_some {xs ys : List D} {i : Nat} {d : D} (h : (match xs[i]?, ys[i]? with
    | some x, some y => some (D.tup [x, y])
    | _, _ => none) = some d) : ∃ x y, xs[i]? = some x ∧ ys[i]? = some y ∧ d = .tup [x, y] := by
  cases e1 : xs[i]? with
  | none => rw [e1] at h; cases h
  | some x => cases e2 : ys[i]? with
    | none => rw [e1, e2] at h; cases h
    | some y => rw [e1, e2] at h; cases h; exact ⟨x, y, rfl, rfl, rfl⟩
theorem zip_none {xs ys : List D} {i : Nat} (h : (match xs[i]?, ys[i]? with
    | some x, some y => some (D.tup [x, y])
    | _, _ => none) = none) : xs.length ≤ i ∨ ys.length ≤ i := by
  cases e1 : xs[i]? with
  | none => exact .inl (List.getElem?_eq_none_iff.mp e1)
  | some x => cases e2 : ys[i]? with
    | none => exact .inr (List.getElem?_eq_none_iff.mp e2)
    | some y => rw [e1, e2] at h; cases h
theorem jr_zipT {ρ0 : List Addr} {H0 : Hp} {ds es : List D} {a b : Addr} (r : Rep X.K ρ0 H0 (.tup ds) (.ref a)) (r2 : Rep X.K ρ0 H0 (.tup es) (.ref b)) : JR X (RZ.ItzT X.K a b) (.zip (.tup ds) (.tup es)) ρ0 H0 := by
  intro ρ H μ e hS i
  obtain ⟨a', vs, ea, h1, h2⟩ := Rep.mono e.sta e.pre _ _ r
  obtain ⟨b', ws, eb, h3, h4⟩ := Rep.mono e.sta e.pre _ _ r2
  cases ea
  cases eb
  have key : ∀ {r}, itemAt (.zip (.tup ds) (.tup es)) μ i = some r → (match ds[i]?, es[i]? with
    | some x, some y => some (D.tup [x, y])
    | _, _ => none) = r := fun h => by
    obtain ⟨xs, ys, h, k⟩ := item_zip h
    rcases h with ⟨h, _⟩ | ⟨h, h'⟩
    · cases h
    · cases h
      cases h'
      exact k
  refine ⟨fun d hd => ?_, fun hd => ?_⟩
  · obtain ⟨x, y, q1, q2, rfl⟩ := zip_some (key hd)
    obtain ⟨v, q3, q4⟩ := h2.get q1
    obtain ⟨w, q5, q6⟩ := h4.get q2
    refine ⟨⟨vs, ws, v, w, h1, h3, q3, q5⟩, fun z H' ⟨T, x', y', ez, hT, eH, k1, k2⟩ => ?_⟩
    have e1 := k1 vs h1
    have e2 := k2 ws h3
    rw [q3] at e1
    rw [q5] at e2
    cases e1
    cases e2
    subst eH
    subst ez
    exact pair_new hS hT q4 q6
  · exact ⟨vs, ws, h1, h3, by rw [← h2.length, ← h4.length]; exact zip_none (key hd)⟩
theorem jr_zipL {ρ0 : List Addr} {H0 : Hp} {d0 d1 : D} {a b : Addr} (r : Rep X.K ρ0 H0 d0 (.ref a)) (r2 : Rep X.K ρ0 H0 d1 (.ref b)) (hn : ∀ ds, d0 ≠ .tup ds) : JR X (Itz X.K a b) (.zip d0 d1) ρ0 H0 := by
  intro ρ H μ e hS i
  have r' := Rep.mono e.sta e.pre _ _ r
  have r2' := Rep.mono e.sta e.pre _ _ r2
  have key : ∀ {r}, itemAt (.zip d0 d1) μ i = some r → ∃ ds es vs ws, SqL X.K H a vs ∧ RepL X.K ρ H ds vs ∧ SqL X.K H b ws ∧ RepL X.K ρ H es ws ∧ (match ds[i]?, es[i]? with
    | some x, some y => some (D.tup [x, y])
    | _, _ => none) = r := fun h => by
    obtain ⟨xs, ys, h, k⟩ := item_zip h
    rcases h with ⟨h, h'⟩ | ⟨h, h'⟩
    · obtain ⟨a', vs, ea, h1, h2⟩ := view_lst hS r' h
      obtain ⟨b', ws, eb, h3, h4⟩ := view_lst hS r2' h'
      cases ea
      cases eb
      exact ⟨xs, ys, vs, ws, h1, h2, h3, h4, k⟩
    · exact (hn _ (view_ne h (by intro _ z; cases z))).elim
  refine ⟨fun d hd => ?_, fun hd => ?_⟩
  · obtain ⟨ds, es, vs, ws, h1, h2, h3, h4, k⟩ := key hd
    obtain ⟨x, y, q1, q2, rfl⟩ := zip_some k
    obtain ⟨v, q3, q4⟩ := h2.get q1
    obtain ⟨w, q5, q6⟩ := h4.get q2
    refine ⟨⟨vs, ws, v, w, h1, h3, q3, q5⟩, fun z H' ⟨T, x', y', ez, hT, eH, k1, k2⟩ => ?_⟩
    have e1 := k1 vs h1
    have e2 := k2 ws h3
    rw [q3] at e1
    rw [q5] at e2
    cases e1
    cases e2
    subst eH
    subst ez
    exact pair_new hS hT q4 q6
  · obtain ⟨ds, es, vs, ws, h1, h2, h3, h4, k⟩ := key hd
    exact ⟨vs, ws, h1, h3, by rw [← h2.length, ← h4.length]; exact zip_none k⟩
theorem ckZip_some {x y : D} {μ : Mu} {iv : Iv} (h : ckZip x y μ = some iv) : iv = .zip x y ∧ ((∃ xs ys, view μ x = .lst xs ∧ view μ y = .lst ys) ∨ (∃ xs ys, x = .tup xs ∧ y = .tup ys)) := by
  unfold ckZip at h
  cases e1 : view μ x with
  | lst xs => cases e2 : view μ y with
    | lst ys => rw [e1, e2] at h; exact ⟨(Option.some.inj h).symm, .inl ⟨xs, ys, rfl, rfl⟩⟩
    | _ => rw [e1, e2] at h; cases h
  | tup xs => cases e2 : view μ y with
    | tup ys =>
      rw [e1, e2] at h
      have h1 := view_ne e1 (by intro _ z; cases z)
      have h2 := view_ne e2 (by intro _ z; cases z)
      exact ⟨(Option.some.inj h).symm, .inr ⟨xs, ys, h1, h2⟩⟩
    | _ => rw [e1, e2] at h; cases h
  | _ => rw [e1] at h; cases e2 : view μ y <;> rw [e2] at h <;> cases h
theorem gi_zip (ha : GE X a ma) (hb : GE X b mb) (hg : Gl X "zip") (hm : X.mg "zip" = none) (hs : starEach [a, b] X.env = (false, eval a X.env) :: starEach [b] X.env) (hs2 : starEach [b] X.env = [(false, eval b X.env)]) (hpl : (backTo pos (starEach [b] X.env)).any (·.1) = false) :
    GI X (.Tuple es k tpos) (.Call (.Name "zip" p) [a, b] [] pos) (fun δ => bnd (ma δ) fun x => bnd (mb δ) fun y => rd (ckZip x y)) := by
  have hB : PA X [b] (tCons (teM X mb) tNil) := pa_cons hb pa_nil (by rw [hs2]; rfl)
  have hA : PA X [a, b] (tCons (teM X ma) (tCons (teM X mb) tNil)) := pa_cons ha hB hs
  refine PI_imp (RZ.pi_zipA hg hm hA hs hpl) fun σ H R h => ?_
  obtain ⟨δ, μ, ρ, hE, hS, h⟩ := h
  refine te_step hE hS h.bnd fun x μ1 v H1 ρ1 k e1 s1 r1 E1 => ?_
  refine te_step E1 s1 (k.bnd.mono (fun _ _ z => z) fun _ _ z => ExW.up z e1) fun y μ2 w H2 ρ2 k2 e2 s2 r2 E2 => ?_
  obtain ⟨iv, hi, q⟩ := k2.rd
  obtain ⟨rfl, hc⟩ := ckZip_some hi
  have r1' := Rep.mono e2.sta e2.pre _ _ r1
  rcases hc with ⟨xs, ys, h1, h2⟩ | ⟨xs, ys, rfl, rfl⟩
  · obtain ⟨l, vs, rfl, h3, h4⟩ := view_lst s2 r1' h1
    obtain ⟨l2, ws, rfl, h5, h6⟩ := view_lst s2 r2 h2
    exact ⟨l, l2, vs, ws, rfl, .inl ⟨h3, h5, q _ H2 ρ2 (e1.trans e2) s2 (jr_zipL r1' r2 fun es z => by subst z; cases h1)⟩⟩
  · obtain ⟨l, vs, rfl, h3, h4⟩ := id r1'
    obtain ⟨l2, ws, rfl, h5, h6⟩ := id r2
    exact ⟨l, l2, vs, ws, rfl, .inr ⟨h3, h5, q _ H2 ρ2 (e1.trans e2) s2 (jr_zipT r1' r2)⟩⟩
theorem item_enum {d0 : D} {μ : Mu} {i : Nat} {r : Option D} (h : itemAt (.enum d0) μ i = some r) : ∃ ds, (view μ d0 = .lst ds ∨ view μ d0 = .tup ds) ∧ (ds[i]?).map (fun x => D.tup [.int i, x]) = r := by
  replace h : (match view μ d0 with
    | .lst ds => some ((ds[i]?).map fun x => D.tup [.int i, x])
    | .tup ds => some ((ds[i]?).map fun x => D.tup [.int i, x])
    | _ => none) = some r := h
  cases e : view μ d0 with
  | lst ds => rw [e] at h; exact ⟨ds, .inl rfl, Option.some.inj h⟩
  | tup ds => rw [e] at h; exact ⟨ds, .inr rfl, Option.some.inj h⟩
  | _ => rw [e] at h; cases h
theorem ckEnum_some {x : D} {μ : Mu} {iv : Iv} (h : ckEnum x μ = some iv) : iv = .enum x ∧ ((∃ ds, view μ x = .lst ds) ∨ ∃ ds, x = .tup ds) := by
  unfold ckEnum at h
  cases e : view μ x with
  | lst ds => rw [e] at h; exact ⟨(Option.some.inj h).symm, .inl ⟨ds, rfl⟩⟩
  | tup ds => rw [e] at h; exact ⟨(Option.some.inj h).symm, .inr ⟨ds, view_ne e (by intro _ z; cases z)⟩⟩
  | _ => rw [e] at h; cases h
theorem jr_enumT {ρ0 : List Addr} {H0 : Hp} {ds : List D} {a : Addr} (r : Rep X.K ρ0 H0 (.tup ds) (.ref a)) : JR X (IteT X.K a) (.enum (.tup ds)) ρ0 H0 := by
  intro ρ H μ e hS i
  obtain ⟨a', vs, ea, h1, h2⟩ := Rep.mono e.sta e.pre _ _ r
  cases ea
  have key : ∀ {r}, itemAt (.enum (.tup ds)) μ i = some r → (ds[i]?).map (fun x => D.tup [.int i, x]) = r := fun h => by
    obtain ⟨es, h1, h2⟩ := item_enum h
    rcases h1 with h1 | h1
    · cases h1
    · cases h1
      exact h2
  refine ⟨fun d hd => ?_, fun hd => ?_⟩
  · obtain ⟨x, q1, rfl⟩ := Option.map_eq_some_iff.mp (key hd)
    obtain ⟨v, q3, q4⟩ := h2.get q1
    refine ⟨⟨vs, v, h1, q3⟩, fun z H' ⟨T, x', ez, hT, eH, k1⟩ => ?_⟩
    have e1 := k1 vs h1
    rw [q3] at e1
    cases e1
    subst eH
    subst ez
    exact pair_new (d := .int i) hS hT rfl q4
  · exact ⟨vs, h1, by rw [← h2.length]; exact List.getElem?_eq_none_iff.mp (Option.map_eq_none_iff.mp (key hd))⟩
theorem jr_enum {ρ0 : List Addr} {H0 : Hp} {d0 : D} {a : Addr} (r : Rep X.K ρ0 H0 d0 (.ref a)) (hn : ∀ ds, d0 ≠ .tup ds) : JR X (Ite X.K a) (.enum d0) ρ0 H0 := by
  intro ρ H μ e hS i
  have r' := Rep.mono e.sta e.pre _ _ r
  have key : ∀ {r}, itemAt (.enum d0) μ i = some r → ∃ ds vs, SqL X.K H a vs ∧ RepL X.K ρ H ds vs ∧ (ds[i]?).map (fun x => D.tup [.int i, x]) = r := fun {r} h => by
    obtain ⟨ds, h1, h2⟩ := item_enum h
    rcases h1 with h1 | h1
    case inr => exact (hn _ (view_ne h1 (by intro _ z; cases z))).elim
    obtain ⟨a', vs, ea, h3, h4⟩ := view_lst hS r' h1
    cases ea
    exact ⟨ds, vs, h3, h4, h2⟩
  refine ⟨fun d hd => ?_, fun hd => ?_⟩
  · obtain ⟨ds, vs, h1, h2, k⟩ := key hd
    obtain ⟨x, q1, rfl⟩ := Option.map_eq_some_iff.mp k
    obtain ⟨v, q3, q4⟩ := h2.get q1
    refine ⟨⟨vs, v, h1, q3⟩, fun z H' ⟨T, x', ez, hT, eH, k1⟩ => ?_⟩
    have e1 := k1 vs h1
    rw [q3] at e1
    cases e1
    subst eH
    subst ez
    exact pair_new (d := .int i) hS hT rfl q4
  · obtain ⟨ds, vs, h1, h2, k⟩ := key hd
    exact ⟨vs, h1, by rw [← h2.length]; exact List.getElem?_eq_none_iff.mp (Option.map_eq_none_iff.mp k)⟩
theorem gi_enum (ha : GE X a ma) (hg : Gl X "enumerate") (hm : X.mg "enumerate" = none) (hs : starEach [a] X.env = [(false, eval a X.env)]) :
    GI X (.Tuple es k tpos) (.Call (.Name "enumerate" p) [a] [] pos) (fun δ => bnd (ma δ) fun x => rd (ckEnum x)) := by
  have hA : PA X [a] (tCons (teM X ma) tNil) := pa_cons ha pa_nil (by rw [hs]; rfl)
  refine PI_imp (pi_enumA hg hm hA hs) fun σ H R h => ?_
  obtain ⟨δ, μ, ρ, hE, hS, h⟩ := h
  refine te_step hE hS h.bnd fun x μ1 v H1 ρ1 k e1 s1 r1 E1 => ?_
  obtain ⟨iv, hi, q⟩ := k.rd
  obtain ⟨rfl, hc⟩ := ckEnum_some hi
  rcases hc with ⟨ds, h1⟩ | ⟨ds, rfl⟩
  · obtain ⟨l, vs, rfl, h3, h4⟩ := view_lst s1 r1 h1
    exact ⟨l, vs, rfl, .inl ⟨h3, q _ H1 ρ1 e1 s1 (jr_enum r1 fun es z => by subst z; cases h1)⟩⟩
  · obtain ⟨l, vs, rfl, h3, h4⟩ := id r1
    exact ⟨l, vs, rfl, .inr ⟨h3, q _ H1 ρ1 e1 s1 (jr_enumT r1)⟩⟩
end
end Ev

namespace Ev
open L2 PyProof.Rows PySem.Spec PySem
variable [Tb]

section
variable {ρ ρ' : List Addr} {H H' : Hp} {K : PySem.W.Frag}
theorem Ext.over {p : Addr} {o : HO} (e : Ext ρ ρ' H H') (h : H p = none) : Ext ρ ρ' H (upd H' p o) :=
  ⟨⟨fun b C dx v q => by rw [upd_ne (ne_of_none q h)]; exact e.sta.ins b C dx v q, fun b vs q => by rw [upd_ne (ne_of_none q h)]; exact e.sta.tup b vs q, fun b o u q => by rw [upd_ne (ne_of_none q h)]; exact e.sta.frz b o u q, fun b fs q => by rw [upd_ne (ne_of_none q h)]; exact e.sta.xd b fs q⟩, e.pre, e.fresh, fun b o q n t => by rw [upd_ne (ne_of_none q h)]; exact e.keep b o q n t⟩
theorem StR.other {μ : Mu} {p : Addr} {xs : List V} {o : HO} (h : StR K ρ H μ) (hp : H p = some (.lst xs)) (n : p ∉ ρ) : StR K ρ (upd H p o) μ :=
  h.ext (Sta.mut hp trivial) (fun a ys ha q _ => by rw [upd_ne (fun z => n (by rw [← z]; exact ha))]; exact q) (fun a ha => by
    obtain ⟨u, q, t⟩ := h.there a ha
    exact ⟨u, by rw [upd_ne (fun z => n (by rw [← z]; exact ha))]; exact q, t⟩) (tabs_mut h.tabs hp trivial plainO_lst.2)
theorem StR.adopt {μ : Mu} {p : Addr} {vs : List V} {ds : List D} (h : StR K ρ H μ) (hp : H p = some (.lst vs)) (n : p ∉ ρ) (hr : RepL K ρ H ds vs) : StR K (ρ ++ [p]) H (μ ++ [.lst ds]) := by
  have pf : ρ <+: ρ ++ [p] := List.prefix_append _ _
  refine ⟨by simp [h.len], ?_, fun m c a h1 h2 => ?_, fun a ha => ?_, h.tabs⟩
  · rw [List.nodup_append]
    exact ⟨h.nd, by simp, fun a ha b hb => by
      have : b = p := by simpa using hb
      subst this
      intro z
      subst z
      exact n ha⟩
  · by_cases hn : m < μ.length
    · rw [List.getElem?_append_left hn] at h1
      rw [List.getElem?_append_left (by rw [h.len]; exact hn)] at h2
      exact (h.cell m c a h1 h2).keep (Sta.refl H) pf fun _ z _ => z
    · have hm : m = μ.length := by
        have h3 := (List.getElem?_eq_some_iff.mp h1).1
        simp at h3
        omega
      subst hm
      rw [List.getElem?_append_right (Nat.le_refl _), Nat.sub_self] at h1
      rw [List.getElem?_append_right (by rw [h.len]; exact Nat.le_refl _), h.len, Nat.sub_self] at h2
      have ec : C.lst ds = c := by simpa using h1
      have ea : p = a := by simpa using h2
      subst ec
      subst ea
      exact ⟨vs, hp, RepL.mono (Sta.refl H) pf ds vs hr⟩
  · rcases List.mem_append.mp ha with z | z
    · exact h.there a z
    · have : a = p := by simpa using z
      subst this
      exact ⟨_, hp, plainO_lst⟩
theorem Ext.cellOver {p : Addr} (e : Ext ρ ρ' H H') (h : H p = none) : Ext ρ (ρ' ++ [p]) H H' :=
  ⟨e.sta, e.pre.trans (List.prefix_append _ _), fun b hb n => by
    rcases List.mem_append.mp hb with z | z
    · exact e.fresh b z n
    · have : b = p := by simpa using z
      rw [this]
      exact .inl h, e.keep⟩
theorem Ext.notin {p : Addr} {o : HO} (e : Ext ρ ρ' H H') (h : H p = some o) (n : p ∉ ρ) (ht : ∀ ps, o ≠ .tbl ps) : p ∉ ρ' := fun z => by
  rcases e.fresh p z n with q | ⟨ps, q⟩
  · rw [q] at h
    cases h
  · rw [q] at h
    exact ht ps (Option.some.inj h).symm
end

theorem compM_none {iv : Iv} {body : D → M (Option D)} {fuel i : Nat} {acc : List D} {μ : Mu} {R : List D → Mu → Prop} {Ex : Exn → Mu → Prop} (h : WP (compM iv body fuel i acc) μ R Ex) :
    (itemAt iv μ i = some none ∧ R acc μ) ∨ ∃ x k, itemAt iv μ i = some (some x) ∧ fuel = k + 1 ∧
      WP (body x) μ (fun o μ' => match o with
        | some y => acc.length < sizeLine ∧ WP (compM iv body k (i + 1) (acc ++ [y])) μ' R Ex
        | none => WP (compM iv body k (i + 1) acc) μ' R Ex) (fun _ _ => False) := by
  unfold WP at h
  cases e : itemAt iv μ i with
  | none => unfold compM at h; simp only [e] at h
  | some o => cases o with
    | none =>
      unfold compM at h
      simp only [e] at h
      exact .inl ⟨rfl, h⟩
    | some x =>
      cases fuel with
      | zero => unfold compM at h; simp only [e] at h
      | succ k =>
        unfold compM at h
        simp only [e] at h
        refine .inr ⟨x, k, rfl, rfl, ?_⟩
        unfold WP
        cases eb : body x μ with
        | none => simp only [eb] at h
        | some p =>
          obtain ⟨r, μ'⟩ := p
          cases r with
          | ex x => simp only [eb] at h
          | ok o => cases o with
            | none => simp only [eb] at h; exact h
            | some y =>
              simp only [eb] at h
              by_cases hz : acc.length < sizeLine
              · rw [if_pos hz] at h
                exact ⟨hz, h⟩
              · rw [if_neg hz] at h
                exact h.elim

theorem PTs_imp {X : Cx} {es : List Expr} {t t' : TT} (h : PTs X es t) (hi : ∀ σ H Q, t' σ H Q → t σ H Q) : PTs X es t' := ⟨fun pins s σ H Q I hq => h.run pins s σ H Q I (hi _ _ _ hq)⟩
/-- where nothing may be raised -/
def te0 (X : Cx) (m : Env → M D) : TE := fun σ H Q => ∃ δ μ ρ, EnvR X.K ρ H σ δ ∧ StR X.K ρ H μ ∧ WP (m δ) μ (OkW X ρ H Q) (fun _ _ => False)
def tt0 (X : Cx) (m : Env → M Bool) : TT := fun σ H Q => ∃ δ μ ρ, EnvR X.K ρ H σ δ ∧ StR X.K ρ H μ ∧ WP (m δ) μ (OkT X ρ H Q) (fun _ _ => False)
theorem te0_of {X Y : Cx} {m : Env → M D} (hK : Y.K = X.K) {σ : St} {H : Hp} {Q : VK} (h : te0 X m σ H Q) : teM Y m σ H Q := by
  obtain ⟨δ, μ, ρ, hE, hS, h⟩ := h
  refine ⟨δ, μ, ρ, by rw [hK]; exact hE, by rw [hK]; exact hS, h.mono (fun d μ' k => ?_) fun _ _ z => z.elim⟩
  unfold OkW at k ⊢
  rw [hK]
  exact k
theorem tt0_of {X Y : Cx} {m : Env → M Bool} (hK : Y.K = X.K) {σ : St} {H : Hp} {Q : Bool → Hp → Prop} (h : tt0 X m σ H Q) : ttM Y m σ H Q := by
  obtain ⟨δ, μ, ρ, hE, hS, h⟩ := h
  refine ⟨δ, μ, ρ, by rw [hK]; exact hE, by rw [hK]; exact hS, h.mono (fun d μ' k => ?_) fun _ _ z => z.elim⟩
  unfold OkT at k ⊢
  rw [hK]
  exact k
theorem gts_nil {X : Cx} : PTs X [] (ttM X (bT fun _ => ret (.bl true))) := PTs_imp pts_nil fun σ H Q h => by
  obtain ⟨δ, μ, ρ, hE, hS, h⟩ := h
  obtain ⟨r, hr, q⟩ := h.bnd.ret.lft
  cases hr
  exact q H ρ (Ext.refl ρ H) hS
theorem gts_one {X : Cx} {c : Expr} {m : Env → M D} (h : GT X c (bT m)) : PTs X [c] (ttM X (bT m)) := pts_one h
theorem te0_step {X : Cx} {δ : Env} {ρ : List Addr} {H : Hp} {σ : St} {Q : VK} {ma : Env → M D} {μ : Mu} {K2 : D → Mu → Prop} (hE : EnvR X.K ρ H σ δ) (hS : StR X.K ρ H μ) (h : WP (ma δ) μ K2 (fun _ _ => False))
    (k : ∀ d μ' v H' ρ', K2 d μ' → Ext ρ ρ' H H' → StR X.K ρ' H' μ' → Rep X.K ρ' H' d v → EnvR X.K ρ' H' σ δ → Q v H') : te0 X ma σ H Q :=
  ⟨δ, μ, ρ, hE, hS, h.mono (fun d μ' hk v H' ρ' e s r => k d μ' v H' ρ' hk e s r (hE.mono e.sta e.pre)) fun _ _ z => z⟩
theorem tt0_step {X : Cx} {σ : St} {δ : Env} {ρ : List Addr} {H : Hp} {Q : Bool → Hp → Prop} {m : Env → M Bool} {μ : Mu} {K2 : Bool → Mu → Prop} (hE : EnvR X.K ρ H σ δ) (hS : StR X.K ρ H μ) (h : WP (m δ) μ K2 (fun _ _ => False))
    (k : ∀ d μ' H' ρ', K2 d μ' → Ext ρ ρ' H H' → StR X.K ρ' H' μ' → EnvR X.K ρ' H' σ δ → Q d H') : tt0 X m σ H Q :=
  ⟨δ, μ, ρ, hE, hS, h.mono (fun d μ' hk H' ρ' e s => k d μ' H' ρ' hk e s (hE.mono e.sta e.pre)) fun _ _ z => z⟩

def compBody (tg : Tg) (own : List Nat) (mc me : Env → M D) (δ : Env) : D → M (Option D) := fun x => match store tg x (wipe δ own) with
  | none => fun _ => none
  | some δ' => bnd (mc δ') fun c => bnd (lft (asBool c)) fun r => if r then bnd (me δ') fun y => ret (some y) else ret none
def mComp (m : Bool) (mi : Env → M Iv) (tg : Tg) (own : List Nat) (mc me : Env → M D) : Env → M D := fun δ => bnd (mi δ) fun iv μ => bnd (compM iv (compBody tg own mc me δ) (fuelOf iv μ) 0 []) (fun ds => newList m ds) μ
section
variable {X : Cx} {tg iter elt : Expr} {ifs : List Expr} {scope : Scope} {own : List (Str × Nat)} {mi : Env → M Iv} {mc me : Env → M D} {t : Tg} {m : Bool} {pos : Pos}
theorem comp_core {σ : St} {H : Hp} {Q : VK} (hsub : ∀ i ∈ slots t, i ∈ own.map (·.2)) (h : teM X (mComp m mi t (own.map (·.2)) mc me) σ H Q) :
    tLc (tiM X mi) (gD X t) (tt0 X (bT mc)) (te0 X me) (own.map (·.2)) σ H (frzd Q) := by
  obtain ⟨δ, μ, ρ, hE, hS, h⟩ := h
  refine ⟨δ, μ, ρ, hE, hS, h.bnd.mono (fun iv μ1 k J H1 ρ1 e1 s1 hJ D hD => ?_) fun _ _ z => z⟩
  have hE1 := hE.mono e1.sta e1.pre
  refine ⟨fun i fuel H2 => ∃ ρ2 μ2 acc vs, Ext ρ1 ρ2 H1 H2 ∧ StR X.K ρ2 H2 μ2 ∧ D ∉ ρ2 ∧ H2 D = some (.lst vs) ∧ RepL X.K ρ2 H2 acc vs ∧
    WP (compM iv (compBody t (own.map (·.2)) mc me δ) fuel i acc) μ2 (fun ds μ' => WP (newList m ds) μ' (OkW X ρ H Q) (ExW X δ ρ H)) (ExW X δ ρ H), ⟨fuelOf iv μ1, ρ1, μ1, [], [], Ext.new hD, s1.new hD, fun z => ?_, upd_same, rfl, k.bnd⟩, fun i fuel H2 hw => ?_⟩
  · obtain ⟨o, q, _⟩ := s1.there D z
    rw [hD] at q
    cases q
  obtain ⟨ρ2, μ2, acc, vs, e2, s2, n2, hD2, r2, w⟩ := hw
  have jr := hJ ρ2 H2 μ2 e2 s2 i
  rcases compM_none w with ⟨hi, w⟩ | ⟨x, k', hi, rfl, w1⟩
  · refine .inl ⟨jr.2 hi, ?_⟩
    obtain ⟨hz, w⟩ := wp_newList w
    cases m with
    | true =>
      refine .inl ((show OkW X ρ H Q _ _ from w) _ H2 (ρ2 ++ [D]) (e1.trans (e2.cellOver hD)) (s2.adopt hD2 n2 r2) ⟨D, ?_, rfl⟩)
      rw [List.getElem?_append_right (by rw [s2.len]; exact Nat.le_refl _), s2.len, Nat.sub_self]
      rfl
    | false =>
      refine .inr ⟨D, vs, hD2, fun o => ?_⟩
      exact (show OkW X ρ H Q _ _ from w) _ _ ρ2 (e1.trans (e2.over hD)) (s2.other hD2 n2) ⟨D, vs, rfl, .inl ⟨o, upd_same⟩, RepL.mono (Sta.mut hD2 trivial) (List.prefix_refl _) _ _ r2⟩
  · obtain ⟨jgo, jy⟩ := jr.1 x hi
    refine .inr ⟨jgo, fun H' => ∃ ρ2 μ2 acc vs, Ext ρ1 ρ2 H1 H' ∧ StR X.K ρ2 H' μ2 ∧ D ∉ ρ2 ∧ H' D = some (.lst vs) ∧ RepL X.K ρ2 H' acc vs ∧
      WP (compM iv (compBody t (own.map (·.2)) mc me δ) k' (i + 1) acc) μ2 (fun ds μ' => WP (newList m ds) μ' (OkW X ρ H Q) (ExW X δ ρ H)) (ExW X δ ρ H), fun H' hn => ⟨k', Nat.lt_succ_self _, hn⟩, fun v H3 hy => ?_⟩
    obtain ⟨e3, s3, r3⟩ := jy v H3 hy
    have hD3 : H3 D = some (.lst vs) := e3.keep D _ hD2 n2 (by intro ps z; cases z)
    have w' : WP (compBody t (own.map (·.2)) mc me δ x) μ2 _ _ := w1
    unfold compBody at w'
    cases es : store t x (wipe δ (own.map (·.2))) with
    | none => simp only [es] at w'; exact w'.elim
    | some δ' =>
      simp only [es] at w'
      refine ⟨x, wipe δ (own.map (·.2)), δ', ρ2, r3, (hE1.mono (e2.trans e3).sta (e2.trans e3).pre).wipe _, es, fun σ2 hE2 out => ⟨?_, ?_⟩⟩
      · rw [wipe_of_out (out.mono hsub), wipe_of_out (out_wipe _ σ)]
      refine tt0_step hE2 s3 w'.test fun r μ4 H4 ρ4 w4 e4 s4 E4 => ?_
      have n4 := e4.notin hD3 n2 (by intro _ z; cases z)
      have hD4 : H4 D = some (.lst vs) := e4.keep D _ hD3 n2 (by intro ps z; cases z)
      have e24 := (e2.trans e3).trans e4
      cases r with
      | false =>
        have w5 := (show WP (ret (none : Option Ev.D)) μ4 _ _ from w4).ret
        exact ⟨ρ4, μ4, acc, vs, e24, s4, n4, hD4, RepL.mono (e3.trans e4).sta (e3.trans e4).pre _ _ r2, w5⟩
      | true =>
        refine te0_step E4 s4 (show WP (bnd (me δ') fun y => ret (some y)) μ4 _ _ from w4).bnd fun y μ5 u H5 ρ5 w5 e5 s5 r5 E5 => ?_
        obtain ⟨hz, w6⟩ := w5.ret
        have n5 := e5.notin hD4 n4 (by intro _ z; cases z)
        have hD5 : H5 D = some (.lst vs) := e5.keep D _ hD4 n4 (by intro ps z; cases z)
        have rA := RepL.mono ((e3.trans e4).trans e5).sta ((e3.trans e4).trans e5).pre _ _ r2
        refine ⟨vs, hD5, by rw [← r2.length]; exact hz, ρ5, μ5, acc ++ [y], vs ++ [u], (e24.trans e5).over hD, s5.other hD5 n5, n5, upd_same, ?_, w6⟩
        exact (RepL.mono (Sta.mut hD5 trivial) (List.prefix_refl _) _ _ rA).append (RepL.one (Rep.mono (Sta.mut hD5 trivial) (List.prefix_refl _) _ _ r5))
theorem ge_comp (hc : X.calm = true) (hN : X.N.Nodup) (hi : GI X tg iter mi) (ok : BlkOk X.N X.env.scope scope own) (hsub : ∀ i ∈ slots t, i ∈ own.map (·.2))
    (hg : ∀ (s : Shared) (H : Hp) (C : Addr) (cl : List (Str × Addr)) (fp : List Addr), PG (X.blk s H scope (compEnvC scope cl C X.env) fp) tg (gD X t))
    (ht : ∀ (s : Shared) (H : Hp) (C : Addr) (cl : List (Str × Addr)) (fp : List Addr), PTs (X.blk s H scope (compEnvC scope cl C X.env) fp) ifs (ttM (X.blk s H scope (compEnvC scope cl C X.env) fp) (bT mc)))
    (he : ∀ (s : Shared) (H : Hp) (C : Addr) (cl : List (Str × Addr)) (fp : List Addr), GE (X.blk s H scope (compEnvC scope cl C X.env) fp) elt me)
    (hs : ∀ x, foldedSetIterable iter X.env x = pure x) : GE X (.ListComp elt [⟨tg, iter, ifs, 0⟩] scope pos) (mComp m mi t (own.map (·.2)) mc me) :=
  PE_imp (PE_frz (pe_lc hc hN hi ok hg (fun s H C cl fp => PTs_imp (ht s H C cl fp) fun _ _ _ q => tt0_of rfl q) (fun s H C cl fp => PE_imp (he s H C cl fp) fun _ _ _ q => te0_of rfl q) hs)) fun σ H Q h => comp_core hsub h
/-- the statement's own form: name = [..] -/
theorem gs_comp {i : Nat} {y : Str} {py spos : Pos} (hc : X.calm = true) (hN : X.N.Nodup) (hy : X.N[i]? = some y) (hyl : X.env.scope.names.lookup y = some .local)
    (hsw : swapsWith (.ListComp elt [⟨tg, iter, ifs, 0⟩] scope pos) (some (.Name y py)) spos.line X.env = pure true) (hi : GI X tg iter mi) (ok : BlkOk X.N X.env.scope scope own) (hsub : ∀ i ∈ slots t, i ∈ own.map (·.2))
    (hg : ∀ (s : Shared) (H : Hp) (C : Addr) (cl : List (Str × Addr)) (fp : List Addr), PG (X.blk s H scope (compEnvC scope cl C X.env) fp) tg (gD X t))
    (ht : ∀ (s : Shared) (H : Hp) (C : Addr) (cl : List (Str × Addr)) (fp : List Addr), PTs (X.blk s H scope (compEnvC scope cl C X.env) fp) ifs (ttM (X.blk s H scope (compEnvC scope cl C X.env) fp) (bT mc)))
    (he : ∀ (s : Shared) (H : Hp) (C : Addr) (cl : List (Str × Addr)) (fp : List Addr), GE (X.blk s H scope (compEnvC scope cl C X.env) fp) elt me)
    (hs : ∀ x, foldedSetIterable iter X.env x = pure x) :
    PS X (.Assign [.Name y py] (.ListComp elt [⟨tg, iter, ifs, 0⟩] scope pos) spos) (fun D σ H => teM X (mComp m mi t (own.map (·.2)) mc me) σ H fun v H' => D.nx (σ.set i (some v)) H') :=
  PS_imp (PS_frz (ps_setLc hc hN hy hyl hsw hi ok hg (fun s H C cl fp => PTs_imp (ht s H C cl fp) fun _ _ _ q => tt0_of rfl q) (fun s H C cl fp => PE_imp (he s H C cl fp) fun _ _ _ q => te0_of rfl q) hs)) fun D σ H h => comp_core hsub h
end
end Ev

namespace Ev
open L2 PyProof.Rows PySem.Spec PySem
variable [Tb]

/-! ## Calls of the program's own functions -/
def SpD (K : PySem.W.Frag) (mg : Str → Option Value) (np : Nat) (g : List D → M D) : Sp := fun vs H Q E => vs.length = np ∧ ∃ ρ μ ds, StR K ρ H μ ∧ RepL K ρ H ds vs ∧
  WP (g ds) μ (fun d μ' => ∀ v H' ρ', Ext ρ ρ' H H' → StR K ρ' H' μ' → Rep K ρ' H' d v → Q v H') (fun x μ' => ∀ cls od H' ρ', Ext ρ ρ' H H' → StR K ρ' H' μ' → RepX mg K ρ' H' cls od x → E cls od H')
theorem takesAll {X : Cx} : L2N.Takes X (fun cls od σ H => ∃ W : WX, L2N.Takes X W ∧ W cls od σ H) := fun u s' ⟨a, B, sI, pins, σ, H, cls, d, e, I, nb, up, sky, na, os, ag, W, tk, w⟩ =>
  tk u s' ⟨a, B, sI, pins, σ, H, cls, d, e, I, nb, up, sky, na, os, ag, w⟩
section
variable {X : Cx} {x : Str} {e : Expr} {es : List Expr} {ml : Env → M (List D)} {p pos : Pos} {k np : Nat} {f : Addr} {fd : FuncData} {ps : List Str} {g : List D → M D} {dvs : List V} {ds : List Value} {dfl : List D}
theorem ge_call (F : FnOk X.prog X.w X.K X.mg X.base (L2N.CX X.prog X.w) k f fd ps (SpD X.K X.mg np g)) (hr : Room k X.A) (hg : Gl X x) (hm : X.mg x = some (.ref f)) (hk : PySem.W.keepIn X.K (.ref f) = true) (hb : Binds X.K fd ps ds) (hd : Vals dvs ds)
    (hdl : ∀ ρ H, RepL X.K ρ H dfl dvs) (hnp : ∀ δ μ as μ', ml δ μ = some (.ok as, μ') → as.length + dfl.length = np) (ha : GA X (e :: es) ml) (hdb : (x == ("__debug__" : Str)) = false)
    (he : starEach (e :: es) X.env = (false, eval e X.env) :: starEach es X.env) (hpl : (backTo pos (starEach es X.env)).any (·.1) = false) :
    GE X (.Call (.Name x p) (e :: es) [] pos) (fun δ => bnd (ml δ) fun as => g (as ++ dfl)) := by
  refine PE_imp (pe_callSD F hr hg hm hk hb hd (fun σ => L2N.passAt takesAll σ) ha hdb he hpl) fun σ H Q h => ?_
  obtain ⟨δ, μ, ρ, hE, hS, h⟩ := h
  refine ta_step (K2 := fun as μ' => as.length + dfl.length = np ∧ WP (g (as ++ dfl)) μ' (OkW X ρ H Q) (ExW X δ ρ H)) hE hS ?_ fun as μ1 vs H1 ρ1 k e1 s1 r1 E1 => ?_
  · have h' := h.bnd
    unfold WP at h' ⊢
    cases em : ml δ μ with
    | none => rw [em] at h'; exact h'
    | some q =>
      obtain ⟨r, μ'⟩ := q
      rw [em] at h'
      cases r with
      | ok as => exact ⟨hnp δ μ as μ' em, h'⟩
      | ex x => exact h'
  · obtain ⟨hl, k⟩ := k
    have rd := hdl ρ1 H1
    refine ⟨by rw [List.length_append, ← r1.length, ← rd.length]; exact hl, ρ1, μ1, as ++ dfl, s1, r1.append rd, k.mono (fun d μ' z v H' ρ' e2 s2 r2 => z v H' ρ' (e1.trans e2) s2 r2) fun x μ' z cls od H' ρ' e2 s2 r2 => ?_⟩
    exact ⟨_, z, ρ', e1.trans e2, E1.mono e2.sta e2.pre, s2, r2⟩
end

/-! ## Statements -/
section
variable (X : Cx)
def WS (D : Ends) (ρ : List Addr) (H : Hp) : Option SR → Prop
  | none => False
  | some (.fin .nx δ' μ') => ∀ σ' H' ρ', Ext ρ ρ' H H' → EnvR X.K ρ' H' σ' δ' → StR X.K ρ' H' μ' → D.nx σ' H'
  | some (.fin .brk δ' μ') => ∀ σ' H' ρ', Ext ρ ρ' H H' → EnvR X.K ρ' H' σ' δ' → StR X.K ρ' H' μ' → D.bk σ' H'
  | some (.fin .cont δ' μ') => ∀ σ' H' ρ', Ext ρ ρ' H H' → EnvR X.K ρ' H' σ' δ' → StR X.K ρ' H' μ' → D.ct σ' H'
  | some (.fin (.ret d) δ' μ') => ∀ v H' ρ', Ext ρ ρ' H H' → StR X.K ρ' H' μ' → Rep X.K ρ' H' d v → D.rt v H'
  | some (.exc x δ' μ') => ExW X δ' ρ H x μ'
def tsM (m : Env → Mu → Option SR) : TS := fun D σ H => ∃ δ μ ρ, EnvR X.K ρ H σ δ ∧ StR X.K ρ H μ ∧ WS X D ρ H (m δ μ)
abbrev GS (st : Stmt) (m : Env → Mu → Option SR) : Prop := PS X st (tsM X m)
abbrev GSs (st : List Stmt) (m : Env → Mu → Option SR) : Prop := PSs X st (tsM X m)
end
section
variable {X : Cx} {D : Ends} {ρ ρ' : List Addr} {H H' : Hp} {r : Option SR}
theorem WS.up (h : WS X D ρ H r) (e : Ext ρ ρ' H H') : WS X D ρ' H' r := by
  cases r with
  | none => exact h
  | some r => cases r with
    | fin o δ μ => cases o with
      | nx => exact fun σ2 H2 ρ2 e2 => h σ2 H2 ρ2 (e.trans e2)
      | brk => exact fun σ2 H2 ρ2 e2 => h σ2 H2 ρ2 (e.trans e2)
      | cont => exact fun σ2 H2 ρ2 e2 => h σ2 H2 ρ2 (e.trans e2)
      | ret d => exact fun v H2 ρ2 e2 => h v H2 ρ2 (e.trans e2)
    | exc x δ μ => exact ExW.up (show ExW X δ ρ H x μ from h) e
theorem WS.sE {α : Type} {m : M α} {δ : Env} {f : α → Mu → Option SR} {μ : Mu} (h : WS X D ρ H (sE m δ f μ)) : WP m μ (fun a μ' => WS X D ρ H (f a μ')) (ExW X δ ρ H) := by
  unfold Ev.sE at h
  unfold WP
  cases e : m μ with
  | none => rw [e] at h; exact h
  | some q =>
    obtain ⟨r, μ'⟩ := q
    rw [e] at h
    cases r with
    | ok a => exact h
    | ex x => exact h
/-- other ends for the way on -/
theorem WS.ends {D' : Ends} (h : WS X D ρ H r) (h1 : D'.rt = D.rt) (hn : ∀ δ μ, r = some (.fin .nx δ μ) → (∀ σ' H' ρ', Ext ρ ρ' H H' → EnvR X.K ρ' H' σ' δ → StR X.K ρ' H' μ → D'.nx σ' H')) (hb : ∀ δ μ, r = some (.fin .brk δ μ) → (∀ σ' H' ρ', Ext ρ ρ' H H' → EnvR X.K ρ' H' σ' δ → StR X.K ρ' H' μ → D'.bk σ' H'))
    (hc : ∀ δ μ, r = some (.fin .cont δ μ) → (∀ σ' H' ρ', Ext ρ ρ' H H' → EnvR X.K ρ' H' σ' δ → StR X.K ρ' H' μ → D'.ct σ' H')) : WS X D' ρ H r := by
  cases r with
  | none => exact h
  | some r => cases r with
    | fin o δ μ => cases o with
      | nx => exact hn δ μ rfl
      | brk => exact hb δ μ rfl
      | cont => exact hc δ μ rfl
      | ret d => exact fun v H2 ρ2 e2 s2 r2 => by rw [h1]; exact h v H2 ρ2 e2 s2 r2
    | exc x δ μ => exact h
end
section
variable {X : Cx} {st : Stmt} {rest : List Stmt} {m1 m2 : Env → Mu → Option SR} {e a b c o i : Expr} {me ma mb mc : Env → M D} {pos p p' pt : Pos} {t : Tg}
def mSeq (m1 m2 : Env → Mu → Option SR) : Env → Mu → Option SR := fun δ μ => match m1 δ μ with
  | some (.fin .nx δ' μ') => m2 δ' μ'
  | r => r
theorem gss_nil : GSs X [] (fun δ μ => some (.fin .nx δ μ)) := PSs_imp pss_nil fun D σ H h => by
  obtain ⟨δ, μ, ρ, hE, hS, h⟩ := h
  exact h σ H ρ (Ext.refl ρ H) hE hS
theorem gss_cons (h1 : GS X st m1) (h2 : GSs X rest m2) : GSs X (st :: rest) (mSeq m1 m2) := PSs_imp (pss_cons h1 h2) fun D σ H h => by
  obtain ⟨δ, μ, ρ, hE, hS, h⟩ := h
  refine ⟨δ, μ, ρ, hE, hS, ?_⟩
  unfold mSeq at h
  cases er : m1 δ μ with
  | none => rw [er] at h; exact h
  | some r => cases r with
    | fin o δ' μ' => cases o with
      | nx =>
        rw [er] at h
        exact fun σ' H' ρ' e E s => ⟨δ', μ', ρ', E, s, WS.up h e⟩
      | brk => rw [er] at h; exact h
      | cont => rw [er] at h; exact h
      | ret d => rw [er] at h; exact h
    | exc x δ' μ' => rw [er] at h; exact h
theorem gs_expr (he : GE X e me) (hs : swapsWith e none pos.line X.env = pure false) : GS X (.Expr e pos) (fun δ μ => sE (me δ) δ (fun _ μ' => some (.fin .nx δ μ')) μ) := PS_imp (ps_expr he hs) fun D σ H h => by
  obtain ⟨δ, μ, ρ, hE, hS, h⟩ := h
  exact te_step hE hS h.sE fun x μ1 v H1 ρ1 k e1 s1 r1 E1 => k σ H1 ρ1 e1 E1 s1
theorem gs_asg {tg : Expr} (he : GE X e me) (hg : PG X tg (gD X t)) (hs : swapsWithSole [tg] e pos.line X.env = pure false) (hw : swappedStores [tg] e X.env = pure none) (h1 : (assignEach [tg] X.env).map (·.2) = [assign tg X.env]) :
    GS X (.Assign [tg] e pos) (fun δ μ => sE (me δ) δ (fun x μ' => (store t x δ).map fun δ' => .fin .nx δ' μ') μ) := PS_imp (ps_asg he hg hs hw h1) fun D σ H h => by
  obtain ⟨δ, μ, ρ, hE, hS, h⟩ := h
  refine te_step hE hS h.sE fun x μ1 v H1 ρ1 k e1 s1 r1 E1 => ?_
  cases es : store t x δ with
  | none => rw [es] at k; exact k.elim
  | some δ' =>
    rw [es] at k
    exact ⟨x, δ, δ', ρ1, r1, E1, es, fun σ' E' _ => k σ' H1 ρ1 e1 E' s1⟩
theorem gs_ret (he : GE X e me) : GS X (.Return (some e) pos) (fun δ μ => sE (me δ) δ (fun d μ' => some (.fin (.ret d) δ μ')) μ) := PS_imp (ps_ret he) fun D σ H h => by
  obtain ⟨δ, μ, ρ, hE, hS, h⟩ := h
  exact te_step hE hS h.sE fun x μ1 v H1 ρ1 k e1 s1 r1 E1 => k v H1 ρ1 e1 s1 r1
theorem gs_retN : GS X (.Return none pos) (fun δ μ => some (.fin (.ret .non) δ μ)) := PS_imp ps_retN fun D σ H h => by
  obtain ⟨δ, μ, ρ, hE, hS, h⟩ := h
  exact h .non H ρ (Ext.refl ρ H) hS rfl
theorem gs_pass : GS X (.Pass pos) (fun δ μ => some (.fin .nx δ μ)) := PS_imp ps_pass fun D σ H h => by
  obtain ⟨δ, μ, ρ, hE, hS, h⟩ := h
  exact h σ H ρ (Ext.refl ρ H) hE hS
theorem gs_brk : GS X (.Break pos) (fun δ μ => some (.fin .brk δ μ)) := PS_imp ps_break fun D σ H h => by
  obtain ⟨δ, μ, ρ, hE, hS, h⟩ := h
  exact h σ H ρ (Ext.refl ρ H) hE hS
theorem gs_cont : GS X (.Continue pos) (fun δ μ => some (.fin .cont δ μ)) := PS_imp ps_continue fun D σ H h => by
  obtain ⟨δ, μ, ρ, hE, hS, h⟩ := h
  exact h σ H ρ (Ext.refl ρ H) hE hS
theorem gs_never : GS X st (fun _ _ => none) := PS_imp ps_never fun D σ H h => by
  obtain ⟨δ, μ, ρ, hE, hS, h⟩ := h
  exact h.elim
theorem gs_ife {sa sb : List Stmt} (hc : GT X c (bT mc)) (ha : GSs X sa m1) (hb : GSs X sb m2) : GS X (.If c sa sb pos) (fun δ μ => sE (bT mc δ) δ (fun r μ' => if r then m1 δ μ' else m2 δ μ') μ) := PS_imp (ps_if hc ha hb) fun D σ H h => by
  obtain ⟨δ, μ, ρ, hE, hS, h⟩ := h
  refine tt_step hE hS h.sE fun r μ1 H1 ρ1 k e1 s1 E1 => ?_
  cases r with
  | true => exact ⟨δ, μ1, ρ1, E1, s1, WS.up (show WS X D ρ H (m1 δ μ1) from k) e1⟩
  | false => exact ⟨δ, μ1, ρ1, E1, s1, WS.up (show WS X D ρ H (m2 δ μ1) from k) e1⟩
/-! two names at once -/
theorem gs_par {k1 k2 : Nat} {x y : Str} {px py pt pt2 : Pos} {j1 j2 : Nat} (hc : X.calm = true) (hN : X.N.Nodup) (hi : X.N[j1]? = some x) (hj : X.N[j2]? = some y) (hij : j1 ≠ j2)
    (hx : X.env.scope.names.lookup x = some .local) (hy : X.env.scope.names.lookup y = some .local) (ha : GE X a ma) (hb : GE X b mb)
    (hw : swappedStores [.Tuple [.Name x px, .Name y py] k1 pt] (.Tuple [a, b] k2 pt2) X.env = pure (some [x, y])) (st1 : starEach [a, b] X.env = (false, eval a X.env) :: starEach [b] X.env) (st2 : starEach [b] X.env = (false, eval b X.env) :: starEach [] X.env) :
    GS X (.Assign [.Tuple [.Name x px, .Name y py] k1 pt] (.Tuple [a, b] k2 pt2) pos) (fun δ μ => sE (bnd (ma δ) fun x => bnd (mb δ) fun y => ret (x, y)) δ (fun q μ' =>
      if j1 < δ.length ∧ j2 < δ.length then some (.fin .nx ((δ.set j1 (some q.1)).set j2 (some q.2)) μ') else none) μ) := by
  refine PS_imp (ps_par hc hN hi hj hij hx hy (pa_cons ha (pa_cons hb pa_nil st2) st1) hw rfl) fun D σ H h => ?_
  obtain ⟨δ, μ, ρ, hE, hS, h⟩ := h
  refine te_step hE hS h.sE.bnd fun x μ1 v H1 ρ1 k e1 s1 r1 E1 => ?_
  refine te_step E1 s1 (k.bnd.mono (fun _ _ z => z) fun _ _ z => ExW.up z e1) fun y μ2 w H2 ρ2 k2 e2 s2 r2 E2 => ?_
  have k3 := k2.ret
  by_cases hz : j1 < δ.length ∧ j2 < δ.length
  · rw [if_pos hz] at k3
    exact ⟨v, w, rfl, k3 _ H2 ρ2 (e1.trans e2) ((E2.set j1 (Rep.mono e2.sta e2.pre _ _ r1)).set j2 r2) s2⟩
  · rw [if_neg hz] at k3
    exact k3.elim
theorem gs_par3 {k1 k2 : Nat} {x y v : Str} {px py pv pt pt2 : Pos} {j1 j2 j3 : Nat} (hc : X.calm = true) (hN : X.N.Nodup) (hi : X.N[j1]? = some x) (hj : X.N[j2]? = some y) (hv : X.N[j3]? = some v) (h12 : j1 ≠ j2) (h13 : j1 ≠ j3) (h23 : j2 ≠ j3)
    (hx : X.env.scope.names.lookup x = some .local) (hy : X.env.scope.names.lookup y = some .local) (hz : X.env.scope.names.lookup v = some .local) (ha : GE X a ma) (hb : GE X b mb) (hcc : GE X c mc)
    (hw : swappedStores [.Tuple [.Name x px, .Name y py, .Name v pv] k1 pt] (.Tuple [a, b, c] k2 pt2) X.env = pure (some [x, y, v])) (st1 : starEach [a, b, c] X.env = (false, eval a X.env) :: starEach [b, c] X.env) (st2 : starEach [b, c] X.env = (false, eval b X.env) :: starEach [c] X.env) (st3 : starEach [c] X.env = (false, eval c X.env) :: starEach [] X.env) :
    GS X (.Assign [.Tuple [.Name x px, .Name y py, .Name v pv] k1 pt] (.Tuple [a, b, c] k2 pt2) pos) (fun δ μ => sE (bnd (ma δ) fun x => bnd (mb δ) fun y => bnd (mc δ) fun z => ret (x, y, z)) δ (fun q μ' =>
      if j1 < δ.length ∧ j2 < δ.length ∧ j3 < δ.length then some (.fin .nx (((δ.set j1 (some q.1)).set j2 (some q.2.1)).set j3 (some q.2.2)) μ') else none) μ) := by
  refine PS_imp (ps_par3 hc hN hi hj hv h12 h13 h23 hx hy hz (pa_cons ha (pa_cons hb (pa_cons hcc pa_nil st3) st2) st1) hw rfl) fun D σ H h => ?_
  obtain ⟨δ, μ, ρ, hE, hS, h⟩ := h
  refine te_step hE hS h.sE.bnd fun x μ1 v H1 ρ1 k e1 s1 r1 E1 => ?_
  refine te_step E1 s1 (k.bnd.mono (fun _ _ z => z) fun _ _ z => ExW.up z e1) fun y μ2 w H2 ρ2 k2 e2 s2 r2 E2 => ?_
  refine te_step E2 s2 (k2.bnd.mono (fun _ _ z => z) fun _ _ z => ExW.up z (e1.trans e2)) fun z μ3 u H3 ρ3 k3 e3 s3 r3 E3 => ?_
  have k4 := k3.ret
  by_cases hz : j1 < δ.length ∧ j2 < δ.length ∧ j3 < δ.length
  · rw [if_pos hz] at k4
    exact ⟨v, w, u, rfl, k4 _ H3 ρ3 ((e1.trans e2).trans e3) (((E3.set j1 (Rep.mono (e2.trans e3).sta (e2.trans e3).pre _ _ r1)).set j2 (Rep.mono e3.sta e3.pre _ _ r2)).set j3 r3) s3⟩
  · rw [if_neg hz] at k4
    exact k4.elim
/-! an item of a list -/
theorem gs_setix (hsl : notSlice i = true) (ho : GE X o ma) (hi : GE X i mb) (he : GE X e me) (hs : swapsWithSole [.Subscript o i p] e pos.line X.env = pure false) (hw : swappedStores [.Subscript o i p] e X.env = pure none) :
    GS X (.Assign [.Subscript o i p] e pos) (fun δ μ => sE (bnd (me δ) fun x => bnd (ma δ) fun a => bnd (mb δ) fun k => setOp a k x) δ (fun _ μ' => some (.fin .nx δ μ')) μ) := by
  refine PS_imp (ps_asg he (pg_sub ho hi set_list (by intro v; cases i <;> first | rfl | cases hsl)) hs hw rfl) fun D σ H h => ?_
  obtain ⟨δ, μ, ρ, hE, hS, h⟩ := h
  refine te_step hE hS h.sE.bnd fun x μ1 v H1 ρ1 k e1 s1 r1 E1 => ?_
  refine te_step E1 s1 (k.bnd.mono (fun _ _ z => z) fun _ _ z => ExW.up z e1) fun y μ2 w H2 ρ2 k2 e2 s2 r2 E2 => ?_
  refine te_step E2 s2 (k2.bnd.mono (fun _ _ z => z) fun _ _ z => ExW.up z (e1.trans e2)) fun z μ3 u H3 ρ3 k3 e3 s3 r3 E3 => ?_
  have r2' := Rep.mono e3.sta e3.pre _ _ r2
  have r1' := Rep.mono (e2.trans e3).sta (e2.trans e3).pre _ _ r1
  unfold WP setOp at k3
  cases y with
  | ptr n => cases z with
    | int kk =>
      obtain ⟨l, hl, rfl⟩ := r2'
      cases hc : μ3[n]? with
      | none => simp only [hc] at k3
      | some cc => cases cc with
        | dead => simp only [hc] at k3
        | dic _ => simp only [hc] at k3
        | lst ds =>
          simp only [hc] at k3
          obtain ⟨vs, q1, q2⟩ := s3.cell n _ l hc hl
          cases hx : L2.ixN ds.length kk with
          | none => simp only [hx] at k3
          | some j =>
            simp only [hx] at k3
            have ex := Ext.put (o := .lst (vs.set j v)) q1 (List.mem_of_getElem? hl)
            refine ⟨l, vs, kk, j, rfl, r3, q1, by rw [← q2.length]; exact hx, k3 σ _ ρ3 (((e1.trans e2).trans e3).trans ex) (E3.mono ex.sta ex.pre) (s3.put hl q1 (q2.set r1' j))⟩
    | _ => exact k3.elim
  | _ => cases z <;> exact k3.elim
/-! x += e -/
theorem gs_aug {j : Nat} {x : Str} {op : Operator} {q : Bop} (hN : X.N.Nodup) (hi : X.N[j]? = some x) (hx : Loc X.env.scope x) (he : GE X e me) (hf : X.fn x = true ∨ X.env.scope.names.lookup x = some .local) (hq : (op = .Add ∧ q = .add) ∨ (op = .Sub ∧ q = .sub)) :
    GS X (.AugAssign (.Name x p) op e pos) (fun δ μ => sE (bnd (lft (δ[j]?.join)) fun x => bnd (me δ) fun y => lft (augOp q x y)) δ (fun z μ' => if j < δ.length then some (.fin .nx (δ.set j (some z)) μ') else none) μ) := by
  have core : ∀ {g : Int → Int → Int} {D : Ends} {σ : St} {H : Hp}, (∀ x y z, augOp q x y = some z → ∃ a b, x = .int a ∧ y = .int b ∧ z = .int (g a b)) → tsM X (fun δ μ => sE (bnd (lft (δ[j]?.join)) fun x => bnd (me δ) fun y => lft (augOp q x y)) δ (fun z μ' => if j < δ.length then some (.fin .nx (δ.set j (some z)) μ') else none) μ) D σ H →
      tAug j (teM X me) (ipI g) D σ H := fun {g D σ H} hg h => by
    obtain ⟨δ, μ, ρ, hE, hS, h⟩ := h
    obtain ⟨d, hd, h⟩ := h.sE.bnd.lft
    have hj : δ[j]? = some (some d) := by
      cases e : δ[j]? with
      | none => rw [e] at hd; cases hd
      | some o => rw [e] at hd; cases o with
        | none => cases hd
        | some d' => cases hd; rfl
    obtain ⟨v, h1, h2⟩ := hE.at_ j d hj
    refine ⟨v, h1, te_step hE hS h.bnd fun y μ1 w H1 ρ1 k e1 s1 r1 E1 => ?_⟩
    obtain ⟨z, hz, k⟩ := k.lft
    obtain ⟨a, b, rfl, rfl, rfl⟩ := hg _ _ _ hz
    have hl : j < δ.length := (List.getElem?_eq_some_iff.mp hj).1
    rw [if_pos hl] at k
    exact ⟨a, b, h2, r1, k _ H1 ρ1 e1 (E1.set (d := .int (g a b)) j rfl) s1⟩
  rcases hq with ⟨rfl, rfl⟩ | ⟨rfl, rfl⟩
  · refine PS_imp (ps_aug hN hi hx he ip_add hf) fun D σ H h => core (fun x y z h => ?_) h
    cases x with
    | int a => cases y with
      | int b => cases h; exact ⟨a, b, rfl, rfl, rfl⟩
      | _ => cases h
    | _ => cases h
  · refine PS_imp (ps_aug hN hi hx he ip_sub hf) fun D σ H h => core (fun x y z h => ?_) h
    cases x with
    | int a => cases y with
      | int b => cases h; exact ⟨a, b, rfl, rfl, rfl⟩
      | _ => cases h
    | _ => cases h
/-! while -/
theorem whileF_some {c : Env → M Bool} {b : Env → Mu → Option SR} {δ : Env} {μ : Mu} {r : SR} (h : whileF c b δ μ = some r) : ∃ n, whileN c b n δ μ = some r := by
  unfold whileF at h
  split at h
  · exact ⟨_, h⟩
  · cases h
theorem gs_whl {body : List Stmt} (hp : PassesOwn (model X.prog X.w) X.A X.env X.xe) (hc : GT X c (bT mc)) (hb : GSs X body m1) : GS X (.While c body [] pos) (whileF (bT mc) m1) := by
  refine PS_imp (ps_while hp hc hb) fun D σ H h => ?_
  obtain ⟨δ, μ, ρ, hE, hS, h⟩ := h
  cases er : whileF (bT mc) m1 δ μ with
  | none => rw [er] at h; exact h.elim
  | some r =>
    obtain ⟨n, hn⟩ := whileF_some er
    rw [er, ← hn] at h
    refine ⟨fun k σ' H' => ∃ δ' μ' ρ', Ext ρ ρ' H H' ∧ EnvR X.K ρ' H' σ' δ' ∧ StR X.K ρ' H' μ' ∧ WS X D ρ H (whileN (bT mc) m1 k δ' μ'), ⟨n, δ, μ, ρ, Ext.refl ρ H, hE, hS, h⟩, fun k σ1 H1 hw => ?_⟩
    obtain ⟨δ1, μ1, ρ1, e1, E1, s1, w⟩ := hw
    cases k with
    | zero => exact w.elim
    | succ k =>
      have w' : WS X D ρ H (sE (bT mc δ1) δ1 _ μ1) := w
      refine tt_step E1 s1 (w'.sE.mono (fun _ _ z => z) fun _ _ z => ExW.up z e1) fun r μ2 H2 ρ2 kk e2 s2 E2 => ?_
      have e12 := e1.trans e2
      cases r with
      | false => exact (show WS X D ρ H (some (.fin .nx δ1 μ2)) from kk) σ1 H2 ρ2 e12 E2 s2
      | true =>
        refine ⟨fun σ' H' => ∃ δ' μ' ρ', Ext ρ ρ' H H' ∧ EnvR X.K ρ' H' σ' δ' ∧ StR X.K ρ' H' μ' ∧ WS X D ρ H (whileN (bT mc) m1 k δ' μ'), fun σ' H' hN => ⟨k, Nat.lt_succ_self _, hN⟩, δ1, μ2, ρ2, E2, s2, ?_⟩
        cases eb : m1 δ1 μ2 with
        | none => simp only [eb, if_true] at kk; exact kk
        | some r => cases r with
          | fin o δ' μ' => cases o with
            | nx =>
              simp only [eb, if_true] at kk
              exact fun σ' H' ρ' e3 E3 s3 => ⟨δ', μ', ρ', e12.trans e3, E3, s3, kk⟩
            | cont =>
              simp only [eb, if_true] at kk
              exact fun σ' H' ρ' e3 E3 s3 => ⟨δ', μ', ρ', e12.trans e3, E3, s3, kk⟩
            | brk =>
              simp only [eb, if_true] at kk
              exact fun σ' H' ρ' e3 E3 s3 => kk σ' H' ρ' (e12.trans e3) E3 s3
            | ret d =>
              simp only [eb, if_true] at kk
              exact fun v H' ρ' e3 s3 r3 => kk v H' ρ' (e12.trans e3) s3 r3
          | exc x δ' μ' =>
            simp only [eb, if_true] at kk
            exact ExW.up (show ExW X δ' ρ H x μ' from kk) e12
/-! for -/
theorem forN_step {iv : Iv} {tg : Tg} {b : Env → Mu → Option SR} {fuel i : Nat} {δ : Env} {μ : Mu} {ρ : List Addr} {H : Hp} {D : Ends} (h : WS X D ρ H (forN iv tg b fuel i δ μ)) :
    (itemAt iv μ i = some none ∧ WS X D ρ H (some (.fin .nx δ μ))) ∨ ∃ x k δ1, itemAt iv μ i = some (some x) ∧ fuel = k + 1 ∧ store tg x δ = some δ1 ∧ WS X D ρ H (match b δ1 μ with
      | some (.fin .nx δ' μ2) => forN iv tg b k (i + 1) δ' μ2
      | some (.fin .cont δ' μ2) => forN iv tg b k (i + 1) δ' μ2
      | some (.fin .brk δ' μ2) => some (.fin .nx δ' μ2)
      | r => r) := by
  cases e : itemAt iv μ i with
  | none => unfold forN at h; simp only [e] at h; exact h.elim
  | some o => cases o with
    | none => unfold forN at h; simp only [e] at h; exact .inl ⟨rfl, h⟩
    | some x => cases fuel with
      | zero => unfold forN at h; simp only [e] at h; exact h.elim
      | succ k =>
        unfold forN at h
        simp only [e] at h
        cases es : store tg x δ with
        | none => simp only [es] at h; exact h.elim
        | some δ1 => simp only [es] at h; exact .inr ⟨x, k, δ1, rfl, rfl, es, h⟩
theorem gs_for {tg iter : Expr} {body : List Stmt} {mi : Env → M Iv} (hp : PassesOwn (model X.prog X.w) X.A X.env X.xe) (hc : X.calm = true) (hi : GI X tg iter mi) (hg : PG X tg (gD X t)) (hb : GSs X body m1) (hs : ∀ x, foldedSetIterable iter X.env x = pure x) :
    GS X (.For tg iter body [] pos) (fun δ μ => sE (mi δ) δ (fun iv μ' => forN iv t m1 (fuelOf iv μ') 0 δ μ') μ) := by
  refine PS_imp (ps_for hp hc hi hg hb hs) fun D σ H h => ?_
  obtain ⟨δ, μ, ρ, hE, hS, h⟩ := h
  refine ⟨δ, μ, ρ, hE, hS, h.sE.mono (fun iv μ1 k J H1 ρ1 e1 s1 hJ => ?_) fun _ _ z => z⟩
  refine ⟨fun i fuel σ' H' => ∃ δ' μ' ρ', Ext ρ1 ρ' H1 H' ∧ EnvR X.K ρ' H' σ' δ' ∧ StR X.K ρ' H' μ' ∧ WS X D ρ H (forN iv t m1 fuel i δ' μ'), ⟨fuelOf iv μ1, δ, μ1, ρ1, Ext.refl _ _, hE.mono e1.sta e1.pre, s1, k⟩, fun i fuel σ2 H2 hw => ?_⟩
  obtain ⟨δ2, μ2, ρ2, e2, E2, s2, w⟩ := hw
  have jr := hJ ρ2 H2 μ2 e2 s2 i
  have e12 := e1.trans e2
  rcases forN_step w with ⟨hi, w⟩ | ⟨x, k', δ3, hi, rfl, es, w⟩
  · exact .inl ⟨jr.2 hi, w σ2 H2 ρ2 e12 E2 s2⟩
  · obtain ⟨jgo, jy⟩ := jr.1 x hi
    refine .inr ⟨jgo, fun σ' H' => ∃ δ' μ' ρ', Ext ρ1 ρ' H1 H' ∧ EnvR X.K ρ' H' σ' δ' ∧ StR X.K ρ' H' μ' ∧ WS X D ρ H (forN iv t m1 k' (i + 1) δ' μ'), fun σ' H' hN => ⟨k', Nat.lt_succ_self _, hN⟩, fun v H3 hy => ?_⟩
    obtain ⟨e3, s3, r3⟩ := jy v H3 hy
    refine ⟨x, δ2, δ3, ρ2, r3, E2.mono e3.sta e3.pre, es, fun σ3 E3 _ => ⟨δ3, μ2, ρ2, E3, s3, ?_⟩⟩
    have e13 := e12.trans e3
    have e23 := e2.trans e3
    cases eb : m1 δ3 μ2 with
    | none => simp only [eb] at w; exact w
    | some r => cases r with
      | fin o δ' μ' => cases o with
        | nx =>
          simp only [eb] at w
          exact fun σ' H' ρ' e4 E4 s4 => ⟨δ', μ', ρ', e23.trans e4, E4, s4, w⟩
        | cont =>
          simp only [eb] at w
          exact fun σ' H' ρ' e4 E4 s4 => ⟨δ', μ', ρ', e23.trans e4, E4, s4, w⟩
        | brk =>
          simp only [eb] at w
          exact fun σ' H' ρ' e4 E4 s4 => w σ' H' ρ' (e13.trans e4) E4 s4
        | ret d =>
          simp only [eb] at w
          exact fun v H' ρ' e4 s4 r4 => w v H' ρ' (e13.trans e4) s4 r4
      | exc x δ' μ' =>
        simp only [eb] at w
        exact ExW.up (show ExW X δ' ρ H x μ' from w) e13
end
end Ev

namespace Ev
open LamX L2H L2 PyProof.Rows PySem.Spec PySem
variable [Tb]

/-! ## raise C(..) -/
section
variable {X : Cx} {c : Str} {C fI : Addr} {k : Nat} {fd : FuncData} {fl : Option Str} {e : Expr} {es : List Expr} {ml : Env → M (List D)} {p pos pos' : Pos}
def raM (c : Str) (fl : Option Str) (ml : Env → M (List D)) : Env → Mu → Option SR := fun δ => sE (ml δ) δ fun ds μ' => if ds.length = nfl fl then some (.exc ⟨c, fldN fl, ds ++ [.str c]⟩ δ μ') else none
theorem fld_made {K : PySem.W.Frag} {ρ : List Addr} {H : Hp} {ds : List D} {vs : List V} (hf : fl ≠ some ("tag" : Str)) (hl : ds.length = nfl fl) (r : RepL K ρ H ds vs) : FldR K ρ H (fldN fl) (ds ++ [.str c]) (fldV c fl vs) := by
  cases fl with
  | none =>
    obtain rfl : ds = [] := List.eq_nil_of_length_eq_zero hl
    exact ⟨⟨_, rfl, rfl⟩, trivial⟩
  | some f =>
    match ds, hl with
    | [d], _ =>
      obtain ⟨v, r', rfl, h1, h2⟩ := r
      cases h2
      have ne : ("tag" : Str) ≠ f := fun z => hf (by rw [z])
      refine ⟨⟨v, by show ([(f, v), ("tag", V.str c)] : List (Str × V)).lookup f = _; rw [lookup_put, if_pos rfl], h1⟩, ⟨.str c, ?_, rfl⟩, trivial⟩
      show ([(f, v), ("tag", V.str c)] : List (Str × V)).lookup ("tag" : Str) = _
      rw [lookup_put, if_neg ne]
      rfl
theorem gs_raise_of {ta : Expr} (h : L2N.PMk X ta (tMkX C c fl (taM X ml))) (hc : X.calm = true) (hm : X.mg c = some (.ref C)) (hf : fl ≠ some ("tag" : Str)) : GS X (.Raise (some ta) none pos) (raM c fl ml) := by
  refine PS_imp (L2N.ps_raise hc takesAll h) fun De σ H q => ?_
  obtain ⟨δ, μ, ρ, hE, hS, q⟩ := q
  refine ta_step hE hS (WS.sE q) fun ds μ1 vs H1 ρ1 k1 e1 s1 r1 E1 => ?_
  by_cases hl : ds.length = nfl fl
  · rw [if_pos hl] at k1
    refine ⟨r1.length.symm.trans hl, fun d nd => ⟨_, show L2N.Takes X _ from k1, ρ1, e1.trans (Ext.new nd), E1.mono (Sta.new nd) (List.prefix_refl _), s1.new nd, hm, d, _, rfl, upd_same, ?_⟩⟩
    exact fld_made hf hl (RepL.mono (Sta.new nd) (List.prefix_refl _) _ _ r1)
  · rw [if_neg hl] at k1
    exact k1.elim
theorem pass_no : Passes (L2N.CX X.prog X.w) X (fun _ _ _ => False) := L2N.passes_call takesN0 fun _ _ _ _ z => z
theorem gs_rais (M : XMk X (L2N.CX X.prog X.w) c fl C fI k fd) (hr : Room (k + 1) X.A) (hc : X.calm = true) (hg : Gl X c) (hdb : (c == ("__debug__" : Str)) = false) (hf : fl ≠ some ("tag" : Str)) (ha : GA X (e :: es) ml)
    (he : starEach (e :: es) X.env = (false, eval e X.env) :: starEach es X.env) (hpl : (backTo pos (starEach es X.env)).any (·.1) = false) : GS X (.Raise (some (.Call (.Name c p) (e :: es) [] pos)) none pos') (raM c fl ml) :=
  gs_raise_of (pmk_x M hr pass_no hg hdb ha he hpl) hc M.hm hf
theorem gs_rais0 (M : XMk X (L2N.CX X.prog X.w) c fl C fI k fd) (hr : Room (k + 1) X.A) (hc : X.calm = true) (hg : Gl X c) (hdb : (c == ("__debug__" : Str)) = false) (hf : fl ≠ some ("tag" : Str)) (hm : ∀ δ μ, ml δ μ = some (.ok [], μ)) :
    GS X (.Raise (some (.Call (.Name c p) [] [] pos)) none pos') (raM c fl ml) := by
  refine gs_raise_of (C := C) (fun pins s σ H Q I h => pmk_x0 M hr pass_no hg hdb pins s σ H Q I ?_) hc M.hm hf
  obtain ⟨δ, μ, ρ, hE, hS, q⟩ := h
  unfold WP at q
  rw [hm] at q
  exact q [] H ρ (Ext.refl ρ H) hS rfl
end
/-! ## _law_outcome(lambda: ..), _law_error(lambda: ..) -/
theorem sta_extN {H H' : Hp} (e : ExtN H H') : Sta H H' := ⟨fun b C dx v h => e b _ h (by intro _ z; cases z), fun b vs h => e b _ h (by intro _ z; cases z), fun b o u h => e b _ h (by intro _ z; cases z), fun b fs h => e b _ h (by intro _ z; cases z)⟩
theorem ext_extN {ρ : List Addr} {H H' : Hp} (e : ExtN H H') : Ext ρ ρ H H' := ⟨sta_extN e, List.prefix_refl _, fun _ h n => absurd h n, fun b o h _ ht => e b o h ht⟩
theorem str_extN {K : PySem.W.Frag} {ρ : List Addr} {H H' : Hp} {μ : Mu} (h : StR K ρ H μ) (e : ExtN H H') (t : Tabs Tb.T H') : StR K ρ H' μ :=
  h.ext (sta_extN e) (fun a xs _ q m => e _ _ q (by rintro ps rfl; exact m)) (fun a ha => let ⟨o, q, n⟩ := h.there a ha; ⟨o, e _ _ q n.1, n⟩) t
theorem extN_keeps {H H1 H2 : Hp} (e : ExtN H H1) (k : Keeps H1 H2) : ExtN H H2 := fun b o h n => k _ _ (e b o h n)
theorem fld_get {K : PySem.W.Frag} {ρ : List Addr} {H : Hp} {fs : List (Str × V)} {n : Str} {d : D} : ∀ {ns : List Str} {ds : List D}, FldR K ρ H ns ds fs → (ns.zip ds).lookup n = some d → ∃ v, fs.lookup n = some v ∧ Rep K ρ H d v
  | [], [], _, h => by cases h
  | [], _ :: _, h, _ => h.elim
  | _ :: _, [], h, _ => h.elim
  | m :: ns, x :: ds, ⟨⟨v, h1, h2⟩, h3⟩, h => by
    have h' : (match n == m with | true => some x | false => (ns.zip ds).lookup n) = some d := h
    cases q : n == m with
    | true =>
      rw [q] at h'
      cases h'
      rw [beq_iff_eq.mp q]
      exact ⟨v, h1, h2⟩
    | false =>
      rw [q] at h'
      exact fld_get h3 h'
/-- the errors that are defined are known -/
def ErrsK (K : PySem.W.Frag) (mg : Str → Option Value) (D : OutD K mg) : Prop := ∀ c cls, mg c = some cls → (c ∈ errPN ∨ c ∈ errZE) → ∃ C, cls = .ref C ∧ ErrK K D.pe D.nf D.zd D.eh c C
/-- an error's outcome -/
theorem outD_told {K : PySem.W.Frag} {mg : Str → Option Value} {ρ : List Addr} {H : Hp} {cls : Value} {od : Option Addr} {x : Exn} {q : D × D} {D0 : OutD K mg} (hk : ErrsK K mg D0) (h : outD x = some q) (r : RepX mg K ρ H cls od x) :
    ∃ C dd fs v, cls = .ref C ∧ od = some dd ∧ H dd = some (.xd fs) ∧ fs.lookup ("tag" : Str) = some (V.str x.c) ∧ ErrK K D0.pe D0.nf D0.zd D0.eh x.c C ∧ Told K x.c C fs v ∧ q.1 = .str x.c ∧ Rep K ρ H q.2 v := by
  obtain ⟨hm, dd, fs, rfl, hd, hf⟩ := r
  unfold outD at h
  split at h
  · rename_i t ht
    obtain ⟨vt, l1, r1⟩ := fld_get hf ht
    cases r1
    split at h
    · rename_i e
      subst e
      by_cases hc : x.c ∈ errPN
      · rw [if_pos hc] at h
        obtain ⟨C, rfl, K1⟩ := hk _ _ hm (.inl hc)
        have sel : ∀ f, selF x.c = some f → PySem.W.findIn K (.ref C) f = some none := by
          rcases K1.2.2 with ⟨_, _, z⟩ | ⟨hz, _⟩
          · exact z
          · exfalso
            unfold errZE at hz
            simp only [List.mem_cons, List.not_mem_nil, or_false] at hz
            rcases hz with hz | hz <;> rw [hz] at hc <;> revert hc <;> decide
        cases hs : selF x.c with
        | none =>
          rw [hs] at h
          cases h
          exact ⟨C, dd, fs, .non, rfl, rfl, hd, l1, K1, by unfold Told; rw [if_pos hc, hs]; rfl, rfl, rfl⟩
        | some f =>
          rw [hs] at h
          obtain ⟨d, hd2, rfl⟩ := Option.map_eq_some_iff.mp h
          obtain ⟨v, l2, r2⟩ := fld_get hf hd2
          exact ⟨C, dd, fs, v, rfl, rfl, hd, l1, K1, by unfold Told; rw [if_pos hc, hs]; exact ⟨l2, sel f hs⟩, rfl, r2⟩
      · rw [if_neg hc] at h
        split at h
        · rename_i hz
          cases h
          obtain ⟨C, rfl, K1⟩ := hk _ _ hm (.inr hz)
          exact ⟨C, dd, fs, .non, rfl, rfl, hd, l1, K1, by unfold Told; rw [if_neg hc], rfl, rfl⟩
        · cases h
    · cases h
  · cases h
/-- a lambda's body, read at its maker's slots -/
def tbM (X : Cx) (mb : Env → M D) (E : XK) : TE := fun σ H Q => ∃ δ μ ρ, EnvR X.K ρ H σ δ ∧ StR X.K ρ H μ ∧ WP (mb δ) μ (OkW X ρ H Q) (fun x μ' => ∀ cls od H' ρ', Ext ρ ρ' H H' → StR X.K ρ' H' μ' → RepX X.mg X.K ρ' H' cls od x → E cls od H')
section
variable {X : Cx} {k : Nat} {params : Arguments} {body : Expr} {scope : Scope} {mb : Env → M D} {p lpos pos : Pos} {c P : Addr}
theorem tb_of {A : Around} {outer : List PySem.Env} {s : Shared} {H : Hp} {E : XK} {f c' : Addr} (h : GE (lamY X A outer s H E scope f c') body mb) : PE (lamY X A outer s H E scope f c') body (tbM X mb E) := by
  refine PE_imp h fun σ H2 Q q => ?_
  obtain ⟨δ, μ, ρ, hE, hS, q⟩ := q
  refine ⟨δ, μ, ρ, hE, hS, q.mono (fun _ _ z => z) fun x μ' z => ?_⟩
  have tk : L2N.Takes (lamY X A outer s H E scope f c') (fun cls d _ H => E cls d H) := L2N.takes_of (E := E) rfl rfl rfl rfl
  exact L2N.Takes.imp tk fun cls od σ' H' ⟨ρ', e, _, s2, r2⟩ => z cls od H' ρ' e s2 r2
theorem bind_none {params : Arguments} (h : params = ⟨[], [], none, [], [], none, []⟩) (q : Str) (cl : List (Str × Addr)) (pm cv ctv : Value) : bindArgs (PySem.W.kla_fn "<lambda>" q params body scope cl pm cv ctv) ⟨[], []⟩ = pure [] := by
  subst h
  rfl
theorem ge_outc (D0 : OutD X.K X.mg) (hk : ErrsK X.K X.mg D0) (hg : Gl X "_law_outcome") (M : LamM X Tb.T c P) (hr : Room (k + 2) X.A) (L : LamS X.env.scope scope) (hp : params = ⟨[], [], none, [], [], none, []⟩)
    (hb : ∀ (A : Around) (outer : List PySem.Env) (s : Shared) (H : Hp) (E : XK) (f c' : Addr), Room k (A.deeper (lamEnv X scope s.heap.objs.size f c')) → GE (lamY X A outer s H E scope f c') body mb) :
    GE X (.Call (.Name "_law_outcome" p) [.Lambda params body scope lpos] [] pos) (fun δ => outM (mb δ) (fun d => .tup [d, .str "", .non]) fun q => .tup [.non, q.1, q.2]) := by
  refine PE_imp (pe_outc (tb := tbM X mb) D0 hg M hr L (by rw [hp]; rfl) (bind_none hp) fun A outer s H E f c' r => tb_of (hb A outer s H E f c' r)) fun σ H Q q => ?_
  obtain ⟨δ, μ, ρ, hE, hS, q⟩ := q
  refine ⟨hS.tabs, fun H1 e1 t1 H2 k2 Q' hQ => ?_⟩
  have e2 := extN_keeps e1 k2
  refine ⟨δ, μ, ρ, hE.mono (sta_extN e2) (List.prefix_refl _), str_extN hS e2 (t1.ext k2), ?_⟩
  have eH : Ext ρ ρ H H2 := ext_extN e2
  unfold WP outM at q
  dsimp only at q
  unfold WP
  cases em : mb δ μ with
  | none => rw [em] at q; exact q.elim
  | some r =>
    obtain ⟨r, μ'⟩ := r
    rw [em] at q
    cases r with
    | ok d =>
      refine fun v H' ρ' e s r => hQ v H' fun H3 p k3 n => ?_
      have e3 : Ext ρ' ρ' H' H3 := Ext.same k3
      refine q (.ref p) _ ρ' (eH.trans (e.trans (e3.trans (Ext.new n)))) ((s.same k3).new n) ⟨p, _, rfl, .inl (.inl upd_same), _, _, rfl, ?_, _, _, rfl, rfl, _, _, rfl, rfl, rfl⟩
      exact Rep.mono (e3.trans (Ext.new n)).sta (List.prefix_refl _) d v r
    | ex x =>
      simp only at q
      cases eo : outD x with
      | none => rw [eo] at q; exact q.elim
      | some t =>
        rw [eo] at q
        refine fun cls od H' ρ' e s r => ?_
        obtain ⟨C, dd, fs, v, h1, h2, h3, h4, h5, h6, h7, h8⟩ := outD_told hk eo r
        refine ⟨C, dd, fs, x.c, v, h1, h2, h3, h4, h5, h6, fun H3 p k3 n => ?_⟩
        have e3 : Ext ρ' ρ' H' H3 := Ext.same k3
        refine q (.ref p) _ ρ' (eH.trans (e.trans (e3.trans (Ext.new n)))) ((s.same k3).new n) ⟨p, _, rfl, .inl (.inl upd_same), _, _, rfl, rfl, _, _, rfl, ?_, _, _, rfl, ?_, rfl⟩
        · rw [h7]; rfl
        · exact Rep.mono (e3.trans (Ext.new n)).sta (List.prefix_refl _) t.2 v h8
theorem ge_errc (D0 : OutD X.K X.mg) (D2 : ErrD X.K X.mg) (hk : ErrsK X.K X.mg D0) (hg : Gl X "_law_error") (M : LamM X Tb.T c P) (hr : Room (k + 3) X.A) (L : LamS X.env.scope scope) (hp : params = ⟨[], [], none, [], [], none, []⟩)
    (hb : ∀ (A : Around) (outer : List PySem.Env) (s : Shared) (H : Hp) (E : XK) (f c' : Addr), Room k (A.deeper (lamEnv X scope s.heap.objs.size f c')) → GE (lamY X A outer s H E scope f c') body mb) :
    GE X (.Call (.Name "_law_error" p) [.Lambda params body scope lpos] [] pos) (fun δ => outM (mb δ) (fun _ => .tup [.str "", .non]) fun q => .tup [q.1, q.2]) := by
  refine PE_imp (pe_errc (tb := tbM X mb) D0 D2 hg M hr L (by rw [hp]; rfl) (bind_none hp) fun A outer s H E f c' r => tb_of (hb A outer s H E f c' r)) fun σ H Q q => ?_
  obtain ⟨δ, μ, ρ, hE, hS, q⟩ := q
  refine ⟨hS.tabs, fun H1 e1 t1 H2 k2 E Q' hX hQ => ?_⟩
  have e2 := extN_keeps e1 k2
  refine ⟨δ, μ, ρ, hE.mono (sta_extN e2) (List.prefix_refl _), str_extN hS e2 (t1.ext k2), ?_⟩
  have eH : Ext ρ ρ H H2 := ext_extN e2
  unfold WP outM at q
  dsimp only at q
  unfold WP
  cases em : mb δ μ with
  | none => rw [em] at q; exact q.elim
  | some r =>
    obtain ⟨r, μ'⟩ := r
    rw [em] at q
    cases r with
    | ok d =>
      refine fun v H' ρ' e s r => hQ v H' fun H3 p k3 n => ?_
      have e3 : Ext ρ' ρ' H' H3 := Ext.same k3
      exact q (.ref p) _ ρ' (eH.trans (e.trans (e3.trans (Ext.new n)))) ((s.same k3).new n) ⟨p, _, rfl, .inl (.inl upd_same), _, _, rfl, rfl, _, _, rfl, rfl, rfl⟩
    | ex x =>
      simp only at q
      cases eo : outD x with
      | none => rw [eo] at q; exact q.elim
      | some t =>
        rw [eo] at q
        refine fun cls od H' ρ' e s r => hX cls od H' ?_
        obtain ⟨C, dd, fs, v, h1, h2, h3, h4, h5, h6, h7, h8⟩ := outD_told hk eo r
        refine ⟨C, dd, fs, x.c, v, h1, h2, h3, h4, h5, h6, fun H3 p k3 n => ?_⟩
        have e3 : Ext ρ' ρ' H' H3 := Ext.same k3
        refine q (.ref p) _ ρ' (eH.trans (e.trans (e3.trans (Ext.new n)))) ((s.same k3).new n) ⟨p, _, rfl, .inl (.inl upd_same), _, _, rfl, ?_, _, _, rfl, ?_, rfl⟩
        · rw [h7]; rfl
        · exact Rep.mono (e3.trans (Ext.new n)).sta (List.prefix_refl _) t.2 v h8
end

/-! ## f(e, .., k = v), k keyword-only -/
section
variable {X : Cx} {CX : CXT} {k n np : Nat} {f : Addr} {fd : FuncData} {ps : List Str} {sp : Sp} {E : L2.St → XK} {x kn : Str} {p pos kp : Pos} {e v : Expr} {es : List Expr} {t : TA} {tv : TE}
def tCallK (n : Nat) (sp : Sp) (E : L2.St → XK) (t : TA) (tv : TE) : TE := fun σ H Q => t σ H fun vs H1 => tCons tv tNil σ H1 fun zs H2 => zs.length = 1 ∧ vs.length = n ∧ sp (vs ++ zs) H2 Q (E σ)
theorem pe_callK (F : FnOk X.prog X.w X.K X.mg X.base CX k f fd ps sp) (hr : Room k X.A) (hg : Gl X x) (hm : X.mg x = some (.ref f)) (hk : PySem.W.keepIn X.K (.ref f) = true) (hb : KBn X.K fd ps n [kn] (fun us ws => us ++ ws) (fun vs zs => vs ++ zs)) (hx : ∀ σ, PassesAt CX X σ (E σ))
    (ha : PA X (e :: es) t) (hv : PE X v tv) (hdb : (x == ("__debug__" : Str)) = false) (he : starEach (e :: es) X.env = (false, eval e X.env) :: starEach es X.env)
    (hpl : (backTo pos (starEach (e :: es) X.env)).any (·.1) = false) : PE X (.Call (.Name x p) (e :: es) [⟨some kn, v, kp⟩] pos) (tCallK n sp E t tv) := by
  refine ⟨fun pins s σ H Q I h => ?_⟩
  refine wpAny_Call_Name_kw (ld_glob I hg hm ?_ hdb)
  refine PySem.W.callWith_KW (h₀ := X.base) I.ok.mod.kin hk (by rfl) (thn (ha.run pos pins s σ H _ I h) fun us s1 ⟨vs, H1, I1, r, q⟩ => ?_) (by rw [hpl]; rfl) he
  refine thn ((pk_cons (nm := some kn) (kpos := kp) hv pk_nil).run pos pins s1 σ H1 _ I1 q) fun ws s2 ⟨zs, H2, I2, rz, h1, hl, q2⟩ => ⟨I2.kIn, ?_⟩
  rw [show (backToKw pos (keywordEach [⟨some kn, v, kp⟩] X.env)).filterMap (·.1) = [kn] from rfl]
  have r2 := hb.rel r rz
  refine wpAny_call (codeAny_mono (F.run X.A X.stack s2 H2 ⟨us, [kn].zip ws⟩ (us ++ ws) (vs ++ zs) Q (E σ) hr I2.env0 (hb.to s2 us ws I2.kIn (r.length.symm.trans hl) (rz.length.symm.trans h1)) r2 q2) fun r s' hq => ?_)
  cases r with
  | error e => exact hx σ pins H2 s2 e s' I2 hq
  | ok fl =>
    cases fl with
    | ret u => exact I2.after hq
    | next => exact False.elim hq
    | brk => exact False.elim hq
    | cont => exact False.elim hq
end
section
variable {X : Cx} {k n np : Nat} {f : Addr} {fd : FuncData} {ps : List Str} {g : List D → M D} {x kn : Str} {p pos kp : Pos} {e v : Expr} {es : List Expr} {ml : Env → M (List D)} {mv : Env → M D}
theorem ge_callk (F : FnOk X.prog X.w X.K X.mg X.base (L2N.CX X.prog X.w) k f fd ps (SpD X.K X.mg np g)) (hr : Room k X.A) (hg : Gl X x) (hm : X.mg x = some (.ref f)) (hk : PySem.W.keepIn X.K (.ref f) = true)
    (hb : KBn X.K fd ps n [kn] (fun us ws => us ++ ws) (fun vs zs => vs ++ zs)) (hn : n + 1 = np) (hl : ∀ δ μ as μ', ml δ μ = some (.ok as, μ') → as.length = n) (ha : GA X (e :: es) ml) (hv : GE X v mv) (hdb : (x == ("__debug__" : Str)) = false)
    (he : starEach (e :: es) X.env = (false, eval e X.env) :: starEach es X.env) (hpl : (backTo pos (starEach (e :: es) X.env)).any (·.1) = false) :
    GE X (.Call (.Name x p) (e :: es) [⟨some kn, v, kp⟩] pos) (fun δ => bnd (ml δ) fun ds => bnd (mv δ) fun d => g (ds ++ [d])) := by
  refine PE_imp (pe_callK F hr hg hm hk hb (fun σ => L2N.passAt takesAll σ) ha hv hdb he hpl) fun σ H Q h => ?_
  obtain ⟨δ, μ, ρ, hE, hS, h⟩ := h
  refine ta_step (K2 := fun as μ' => as.length = n ∧ WP (bnd (mv δ) fun d => g (as ++ [d])) μ' (OkW X ρ H Q) (ExW X δ ρ H)) hE hS ?_ fun as μ1 vs H1 ρ1 k e1 s1 r1 E1 => ?_
  · have h' := h.bnd
    unfold WP at h' ⊢
    cases em : ml δ μ with
    | none => rw [em] at h'; exact h'
    | some q =>
      obtain ⟨r, μ'⟩ := q
      rw [em] at h'
      cases r with
      | ok as => exact ⟨hl δ μ as μ' em, h'⟩
      | ex x => exact h'
  · obtain ⟨hn1, k⟩ := k
    show teM X mv σ H1 _
    refine te_step E1 s1 (k.bnd.mono (fun _ _ z => z) fun _ _ z => ExW.up z e1) fun d μ2 z H2 ρ2 k2 e2 s2 r2 E2 => ?_
    have r1' := RepL.mono e2.sta e2.pre _ _ r1
    have e12 := e1.trans e2
    refine ⟨rfl, r1.length.symm.trans hn1, by rw [List.length_append, ← r1.length, hn1]; exact hn, ρ2, μ2, as ++ [d], s2, r1'.append ⟨z, [], rfl, r2, rfl⟩, k2.mono (fun d μ' z v H' ρ' e2 s2 r2 => z v H' ρ' (e12.trans e2) s2 r2) fun x μ' z cls od H' ρ' e2 s2 r2 => ?_⟩
    exact ⟨_, z, ρ', e12.trans e2, E2.mono e2.sta e2.pre, s2, r2⟩
end
end Ev

namespace Ev
open LamX L2 PyProof.Rows PySem.Spec PySem
variable [Tb]

/-! ## x.insert(i, e) -/
section
variable {X : Cx} {o a b : Expr} {ma mb mc : Env → M D}
theorem ge_ins {apos cpos : Pos} (ho : GE X o ma) (ha : GE X a mb) (hb : GE X b mc) (hbase : attributeBase o "insert" X.env (eval o X.env) = eval o X.env) (hst : starEach [a, b] X.env = [(false, eval a X.env), (false, eval b X.env)]) (hs2 : starEach [b] X.env = [(false, eval b X.env)]) (hline : (apos.endLine == cpos.line) = true) :
    GE X (.Call (.Attribute o "insert" apos) [a, b] [] cpos) (fun δ => bnd (ma δ) fun x => bnd (rd (isCell x)) fun _ => bnd (mb δ) fun y => bnd (mc δ) fun z => insOp x y z) := by
  have hA : PA X [a, b] (tCons (teM X mb) (tCons (teM X mc) tNil)) := pa_cons ha (pa_cons hb pa_nil (by rw [hs2]; rfl)) (by rw [hst, hs2])
  refine PE_imp (pe_bm (T := "list") (id := "list.insert") PySem.F.plainAttrs_list PySem.F.slot_list_insert PySem.F.type_list_insert mt_insert ho hA hbase (by rw [hst]; rfl) hline (by rw [hst, hs2]) (by rw [hs2]; rfl)) fun σ H Q h => ?_
  obtain ⟨δ, μ, ρ, hE, hS, h⟩ := h
  refine te_step hE hS h.bnd fun x μ1 v H1 ρ1 k e1 s1 r1 E1 => ?_
  obtain ⟨_, hcell, k⟩ := k.bnd.rd
  cases x with
  | ptr n =>
    obtain ⟨l, hl, rfl⟩ := r1
    cases hc : μ1[n]? with
    | none => simp only [isCell, hc] at hcell; cases hcell
    | some c => cases c with
      | dead => simp only [isCell, hc] at hcell; cases hcell
      | dic _ => simp only [isCell, hc] at hcell; cases hcell
      | lst ds =>
        obtain ⟨vs, q1, _⟩ := s1.cell n _ l hc hl
        refine ⟨.inl ⟨rfl, vs, .inl (.inl q1)⟩, ?_⟩
        refine te_step E1 s1 (k.bnd.mono (fun _ _ z => z) fun _ _ z => ExW.up z e1) fun y μ2 w H2 ρ2 k2 e2 s2 r2 E2 => ?_
        refine te_step E2 s2 (k2.bnd.mono (fun _ _ z => z) fun _ _ z => ExW.up z (e1.trans e2)) fun z μ3 u H3 ρ3 k3 e3 s3 r3 E3 => ?_
        have e23 := e2.trans e3
        have hl3 := pre_get e23.pre hl
        have e13 := e1.trans e23
        unfold WP insOp at k3
        cases y with
        | int i =>
          obtain rfl : w = .int i := r2
          cases hc3 : μ3[n]? with
          | none => simp only [hc3] at k3
          | some c3 => cases c3 with
            | dead => simp only [hc3] at k3
            | dic _ => simp only [hc3] at k3
            | lst es =>
              simp only [hc3] at k3
              obtain ⟨ws, p1, p2⟩ := s3.cell n _ l hc3 hl3
              by_cases hz : es.length < sizeLine ∧ 0 ≤ i ∧ i < 2 ^ 63
              · rw [if_pos hz] at k3
                refine ⟨l, ws, i, u, rfl, rfl, p1, by rw [← p2.length]; exact hz.1, hz.2.1, hz.2.2, ?_⟩
                have hin : l ∈ ρ3 := List.mem_of_getElem? hl3
                exact (show OkW X ρ H Q .non _ from k3) _ _ ρ3 (e13.trans (Ext.put p1 hin)) (s3.put hl3 p1 (((p2.take i.toNat).append (RepL.one r3)).append (p2.drop i.toNat))) rfl
              · rw [if_neg hz] at k3
                exact k3.elim
        | _ => exact k3.elim
  | _ => cases hcell
end
/-! ## dicts -/
section
variable {K : PySem.W.Frag} {ρ : List Addr} {H : Hp}
mutual
theorem keyV_of : ∀ (d : D) (v : V) (k : NestedKey), nkOf d = some k → Rep K ρ H d v → KeyV K H k v
  | .non, _, _, h, r => by cases h; cases r; exact .non
  | .bl b, _, _, h, r => by cases h; cases r; exact .bl b
  | .int i, _, _, h, r => by cases h; cases r; exact .int i
  | .str x, _, _, h, r => by cases h; cases r; exact .str x
  | .tup ds, _, k, h, r => by
    obtain ⟨a, vs, rfl, h1, h2⟩ := r
    have h' : (nksOf ds).map NestedKey.tup = some k := h
    obtain ⟨ks, e1, rfl⟩ := Option.map_eq_some_iff.mp h'
    exact .tup h1 (keysV_of ds vs ks e1 h2)
  | .lst _, _, _, h, _ => by cases h
  | .ptr _, _, _, h, _ => by cases h
  | .ty _, _, _, h, _ => by cases h
  | .exn _ _ _, _, _, h, _ => by cases h
  | .clo _ _, _, _, h, _ => by cases h
  | .obj _ _ _, _, _, h, _ => by cases h
  | .dic _ _, _, _, h, _ => by cases h
theorem keysV_of : ∀ (ds : List D) (vs : List V) (ks : List NestedKey), nksOf ds = some ks → RepL K ρ H ds vs → KeysV K H ks vs
  | [], _, _, h, r => by
    cases r
    cases h
    exact .nil
  | d :: ds, _, ks, h, r => by
    obtain ⟨v, r', rfl, h1, h2⟩ := r
    have h' : (match nkOf d, nksOf ds with
      | some k, some ks => some (k :: ks)
      | _, _ => none) = some ks := h
    cases e1 : nkOf d with
    | none => rw [e1] at h'; cases h'
    | some x =>
      cases e2 : nksOf ds with
      | none => rw [e1, e2] at h'; cases h'
      | some xs =>
        rw [e1, e2] at h'
        cases h'
        exact .cons (keyV_of d v x e1 h1) (keysV_of ds r' xs e2 h2)
end
theorem tkOf_some {d : D} {v : V} {k : NestedKey} (h : tkOf d = some k) (r : Rep K ρ H d v) : ∃ b, v = .ref b ∧ KeyV K H k v ∧ k.depth ≤ 8 := by
  cases d with
  | tup ds =>
    have r' := r
    obtain ⟨b, _, e, _⟩ := r'
    unfold tkOf at h
    cases hk : nkOf (.tup ds) with
    | none => simp only [hk] at h; cases h
    | some kk =>
      simp only [hk] at h
      by_cases hd : kk.depth ≤ 8
      · rw [if_pos hd] at h
        cases h
        exact ⟨b, e, keyV_of _ _ _ hk r, hd⟩
      · rw [if_neg hd] at h
        cases h
  | _ => cases h
theorem dicR_get {k : NestedKey} : ∀ {kvs : List (NestedKey × D × D)} {xs : List (NestedKey × Addr × Value)}, DicR K ρ H kvs xs → match atN kvs k with
    | some p => ∃ b u v, atKey xs k = some (b, u) ∧ L2.RelV v u ∧ Rep K ρ H p.2 v
    | none => atKey xs k = none
  | [], _, h => by cases h; rfl
  | x :: r, _, ⟨k', b, u, v, r', rfl, e2, h1, h2, h3, h4⟩ => by
    have ih := dicR_get (k := k) h4
    by_cases hk : x.1 = k
    · have hk2 : k' = k := by rw [← e2]; exact hk
      have a1 : atN (x :: r) k = some x.2 := by
        unfold atN
        rw [List.find?_cons_of_pos (by simp [hk])]
        rfl
      have a2 : atKey ((k', b, u) :: r') k = some (b, u) := by
        unfold atKey
        rw [List.find?_cons_of_pos (by simp [hk2])]
        rfl
      rw [a1]
      exact ⟨b, u, v, a2, h2, h3⟩
    · have hk2 : ¬ k' = k := by rw [← e2]; exact hk
      have a1 : atN (x :: r) k = atN r k := by
        unfold atN
        rw [List.find?_cons_of_neg (by simp [hk])]
      have a2 : atKey ((k', b, u) :: r') k = atKey r' k := by
        unfold atKey
        rw [List.find?_cons_of_neg (by simp [hk2])]
      rw [a1, a2]
      exact ih
theorem dicR_map {k : NestedKey} {d : D} {v : V} {u : Value} (r1 : L2.RelV v u) (r2 : Rep K ρ H d v) : ∀ {kvs : List (NestedKey × D × D)} {xs : List (NestedKey × Addr × Value)}, DicR K ρ H kvs xs → DicR K ρ H (kvs.map fun x => if x.1 = k then (x.1, x.2.1, d) else x) (xs.map (putAt k u))
  | [], _, h => by cases h; rfl
  | x :: r, _, ⟨k', b, u', v', r', rfl, e2, h1, h2, h3, h4⟩ => by
    have ih := dicR_map r1 r2 (k := k) h4
    rw [List.map_cons, List.map_cons]
    unfold putAt
    by_cases hk : x.1 = k
    · rw [if_pos hk, if_pos (show k' = k by rw [← e2]; exact hk)]
      exact ⟨k', b, u, v, _, rfl, e2, h1, r1, r2, ih⟩
    · rw [if_neg hk, if_neg (show ¬ k' = k by rw [← e2]; exact hk)]
      exact ⟨k', b, u', v', _, rfl, e2, h1, h2, h3, ih⟩
theorem dicR_snoc {k : NestedKey} {kd d : D} {b : Addr} {v : V} {u : Value} (rk : Rep K ρ H kd (.ref b)) (r1 : L2.RelV v u) (r2 : Rep K ρ H d v) : ∀ {kvs : List (NestedKey × D × D)} {xs : List (NestedKey × Addr × Value)}, DicR K ρ H kvs xs → DicR K ρ H (kvs ++ [(k, kd, d)]) (xs ++ [(k, b, u)])
  | [], _, h => by cases h; exact ⟨k, b, u, v, [], rfl, rfl, rk, r1, r2, rfl⟩
  | x :: r, _, ⟨k', b', u', v', r', rfl, e2, h1, h2, h3, h4⟩ => ⟨k', b', u', v', _, rfl, e2, h1, h2, h3, dicR_snoc rk r1 r2 h4⟩
theorem dicR_put {k : NestedKey} {kd d : D} {b : Addr} {v : V} {u : Value} (rk : Rep K ρ H kd (.ref b)) (r1 : L2.RelV v u) (r2 : Rep K ρ H d v) {kvs : List (NestedKey × D × D)} {xs : List (NestedKey × Addr × Value)} (h : DicR K ρ H kvs xs) : DicR K ρ H (putN kvs k kd d) (storedH xs k b u) := by
  have g := dicR_get (k := k) h
  unfold putN storedH
  cases e : atN kvs k with
  | none =>
    rw [e] at g
    rw [show atKey xs k = none from g]
    exact dicR_snoc rk r1 r2 h
  | some p =>
    rw [e] at g
    obtain ⟨b', u', v', e2, _⟩ := g
    rw [e2]
    exact dicR_map r1 r2 h
theorem dicR_len : ∀ {kvs : List (NestedKey × D × D)} {xs : List (NestedKey × Addr × Value)}, DicR K ρ H kvs xs → kvs.length = xs.length
  | [], _, h => by cases h; rfl
  | x :: r, _, ⟨k', b', u', v', r', rfl, e2, h1, h2, h3, h4⟩ => by simp [dicR_len h4]
theorem putAt_keys {k : NestedKey} {u : Value} {xs : List (NestedKey × Addr × Value)} {P : NestedKey → Addr → Prop} (h : ∀ x ∈ xs, P x.1 x.2.1) : ∀ x ∈ xs.map (putAt k u), P x.1 x.2.1 := fun x hx => by
  obtain ⟨y, hy, rfl⟩ := List.mem_map.mp hx
  unfold putAt
  split
  · exact h y hy
  · exact h y hy
theorem stored_keys {k : NestedKey} {b : Addr} {u : Value} {xs : List (NestedKey × Addr × Value)} {P : NestedKey → Addr → Prop} (h : ∀ x ∈ xs, P x.1 x.2.1) (hk : P k b) : ∀ x ∈ storedH xs k b u, P x.1 x.2.1 := by
  unfold storedH
  split
  · exact putAt_keys h
  · intro x hx
    rcases List.mem_append.mp hx with z | z
    · exact h x z
    · have : x = (k, b, u) := by simpa using z
      subst this
      exact hk
end
section
variable {X : Cx} {o i : Expr} {ma mb me : Env → M D} {pos p : Pos}
theorem ge_dnew (hw : Tb.w = X.w) : GE X (.Dict [] [] pos) (fun _ => dNew) := PE_imp pe_dn fun σ H Q h => by
  obtain ⟨δ, μ, ρ, hE, hS, h⟩ := h
  intro p hp
  refine (show OkW X ρ H Q (.ptr μ.length) (μ ++ [.dic []]) from h) _ _ (ρ ++ [p]) (Ext.cell hp) (hS.consC hp ⟨[], ⟨by rw [hw]; exact upd_same, fun x hx => absurd hx (by simp)⟩, rfl⟩ plain_dto) ⟨p, by rw [List.getElem?_append_right (by rw [hS.len]; exact Nat.le_refl _), hS.len, Nat.sub_self]; rfl, rfl⟩
/-- what is known of a look into a dict -/
theorem look_at {ρ : List Addr} {H : Hp} {μ : Mu} {x y : D} {v w : V} {r : Option D} (hw : Tb.w = X.w) (hS : StR X.K ρ H μ) (rx : Rep X.K ρ H x v) (ry : Rep X.K ρ H y w) (h : dLook x y μ = some r) : ∃ (n : Nat) (a : Addr) (kvs : List (NestedKey × D × D)) (xs : List (NestedKey × Addr × Value)) (k : NestedKey) (b : Addr),
    x = .ptr n ∧ ρ[n]? = some a ∧ v = .ref a ∧ μ[n]? = some (.dic kvs) ∧ DIs X.w X.K H a xs ∧ DicR X.K ρ H kvs xs ∧ w = .ref b ∧ KeyV X.K H k w ∧ k.depth ≤ 8 ∧ tkOf y = some k ∧ r = (atN kvs k).map (·.2) := by
  unfold dLook at h
  cases x with
  | ptr n =>
    obtain ⟨a, hl, rfl⟩ := rx
    cases hc : μ[n]? with
    | none => simp only [hc] at h; cases h
    | some c => cases c with
      | dead => simp only [hc] at h; cases h
      | lst _ => simp only [hc] at h; cases h
      | dic kvs =>
        simp only [hc] at h
        obtain ⟨k, hk, rfl⟩ := Option.map_eq_some_iff.mp h
        obtain ⟨xs, d1, d2⟩ := hS.cell n _ a hc hl
        rw [hw] at d1
        obtain ⟨b, rfl, h1, h2⟩ := tkOf_some hk ry
        exact ⟨n, a, kvs, xs, k, b, rfl, hl, rfl, hc, d1, d2, rfl, h1, h2, hk, rfl⟩
  | _ => cases h
theorem ge_dget (hw : Tb.w = X.w) (hu : X.A.units + 16 < cLine) (ho : GE X o ma) (hi : GE X i mb) (hs : notSlice i = true) : GE X (.Subscript o i pos) (fun δ => bnd (ma δ) fun x => bnd (mb δ) fun y => rd fun μ => (dLook x y μ).join) := by
  refine PE_imp (pe_dg hu ho hi (by intro ov iv; cases i <;> first | rfl | cases hs)) fun σ H Q h => ?_
  obtain ⟨δ, μ, ρ, hE, hS, h⟩ := h
  refine te_step hE hS h.bnd fun x μ1 v H1 ρ1 k e1 s1 r1 E1 => ?_
  refine te_step E1 s1 (k.bnd.mono (fun _ _ z => z) fun _ _ z => ExW.up z e1) fun y μ2 w H2 ρ2 k2 e2 s2 r2 E2 => ?_
  obtain ⟨z, hz, q⟩ := k2.rd
  have r1' := Rep.mono e2.sta e2.pre _ _ r1
  cases hl : dLook x y μ2 with
  | none => rw [hl] at hz; cases hz
  | some r =>
    rw [hl] at hz
    obtain rfl : r = some z := hz
    obtain ⟨n, a, kvs, xs, kk, b, rfl, ha, rfl, hc, d1, d2, rfl, h1, h2, hk, hr⟩ := look_at (X := X) hw s2 r1' r2 hl
    obtain ⟨p, hp, rfl⟩ := Option.map_eq_some_iff.mp hr.symm
    have g := dicR_get (k := kk) d2
    rw [hp] at g
    obtain ⟨b', u, v', g1, g2, g3⟩ := g
    exact ⟨a, xs, kk, b, (b', u), v', rfl, d1, rfl, h1, h2, g1, g2, (OkW.up q (e1.trans e2)).now s2 g3⟩
theorem din_core {neg : Bool} {a : Expr} (hw : Tb.w = X.w) {σ : L2.St} {H : Hp} {Q : VK} (h : teM X (fun δ => bnd (mb δ) fun y => bnd (ma δ) fun x => rd fun μ => (dLook x y μ).map fun o => D.bl (if neg then !o.isSome else o.isSome)) σ H Q) :
    teM X mb σ H fun y H1 => teM X ma σ H1 fun x H2 => rDI neg X.w X.K y x H2 Q := by
  obtain ⟨δ, μ, ρ, hE, hS, h⟩ := h
  refine te_step hE hS h.bnd fun y μ1 v H1 ρ1 k e1 s1 r1 E1 => ?_
  refine te_step E1 s1 (k.bnd.mono (fun _ _ z => z) fun _ _ z => ExW.up z e1) fun x μ2 w H2 ρ2 k2 e2 s2 r2 E2 => ?_
  obtain ⟨z, hz, q⟩ := k2.rd
  have r1' := Rep.mono e2.sta e2.pre _ _ r1
  obtain ⟨r, hl, rfl⟩ := Option.map_eq_some_iff.mp hz
  obtain ⟨n, a, kvs, xs, kk, b, rfl, ha, rfl, hc, d1, d2, rfl, h1, h2, hk, rfl⟩ := look_at (X := X) hw s2 r2 r1' hl
  have g := dicR_get (k := kk) d2
  have e : (atKey xs kk).isSome = ((atN kvs kk).map (·.2)).isSome := by
    cases hn : atN kvs kk with
    | none => rw [hn] at g; rw [show atKey xs kk = none from g]; rfl
    | some p => rw [hn] at g; obtain ⟨_, _, _, g1, _⟩ := g; rw [g1]; rfl
  exact ⟨a, xs, kk, b, rfl, d1, rfl, h1, h2, by rw [e]; exact (OkW.up q (e1.trans e2)).now s2 rfl⟩
theorem gt_pc {op : CmpOp} {a b : Expr} {t : TE} {m : Env → M D} (h : PC X op a b t) (hi : ∀ σ H Q, teM X m σ H Q → t σ H Q) (h1 : behindInMarks op b = false) : GT X (.Compare a [op] [b] pos) (bT m) := by
  refine PT_imp (pt_cmp h h1) fun σ H Q hq => hi _ _ _ ?_
  obtain ⟨δ, μ, ρ, hE, hS, hq⟩ := hq
  refine te_step hE hS hq.bnd fun x μ1 v H1 ρ1 k e1 s1 r1 E1 => ?_
  obtain ⟨c, ec, q⟩ := k.lft
  cases asBool_some ec
  exact ⟨c, r1, q H1 ρ1 e1 s1⟩
abbrev mDin (neg : Bool) (mb ma : Env → M D) : Env → M D := fun δ => bnd (mb δ) fun y => bnd (ma δ) fun x => rd fun μ => (dLook x y μ).map fun o => D.bl (if neg then !o.isSome else o.isSome)
theorem ge_din (neg : Bool) (hw : Tb.w = X.w) (hu : X.A.units + 16 < cLine) (hi : GE X i mb) (ho : GE X o ma) (h1 : behindInMarks (if neg then .NotIn else .In) o = false) : GE X (.Compare i [if neg then .NotIn else .In] [o] pos) (mDin neg mb ma) ∧ GT X (.Compare i [if neg then .NotIn else .In] [o] pos) (bT (mDin neg mb ma)) := by
  cases neg with
  | false => exact ⟨PE_imp (pe_cmp (pc_dI hu hi ho) h1) fun σ H Q h => din_core (a := i) hw h, gt_pc (pc_dI hu hi ho) (fun σ H Q h => din_core (a := i) hw h) h1⟩
  | true => exact ⟨PE_imp (pe_cmp (pc_dNI hu hi ho) h1) fun σ H Q h => din_core (a := i) hw h, gt_pc (pc_dNI hu hi ho) (fun σ H Q h => din_core (a := i) hw h) h1⟩
theorem gs_dput {e : Expr} (hw : Tb.w = X.w) (hu : X.A.units + 16 < cLine) (ho : GE X o ma) (hi : GE X i mb) (he : GE X e me) (hs : swapsWith e (some (.Subscript o i p)) pos.line X.env = pure false) :
    GS X (.Assign [.Subscript o i p] e pos) (fun δ μ => sE (bnd (me δ) fun v => bnd (ma δ) fun a => bnd (mb δ) fun y => dPut a y v) δ (fun _ μ' => some (.fin .nx δ μ')) μ) := by
  refine PS_imp (ps_dp hu ho hi he hs) fun D σ H h => ?_
  obtain ⟨δ, μ, ρ, hE, hS, h⟩ := h
  refine te_step hE hS h.sE.bnd fun x μ1 v H1 ρ1 k e1 s1 r1 E1 => ?_
  refine te_step E1 s1 (k.bnd.mono (fun _ _ z => z) fun _ _ z => ExW.up z e1) fun y μ2 w H2 ρ2 k2 e2 s2 r2 E2 => ?_
  refine te_step E2 s2 (k2.bnd.mono (fun _ _ z => z) fun _ _ z => ExW.up z (e1.trans e2)) fun z μ3 u H3 ρ3 k3 e3 s3 r3 E3 => ?_
  have r2' := Rep.mono e3.sta e3.pre _ _ r2
  have r1' := Rep.mono (e2.trans e3).sta (e2.trans e3).pre _ _ r1
  unfold WP dPut at k3
  cases y with
  | ptr n =>
    obtain ⟨a, hl, rfl⟩ := r2'
    cases hc : μ3[n]? with
    | none => simp only [hc] at k3
    | some c => cases c with
      | dead => simp only [hc] at k3
      | lst _ => simp only [hc] at k3
      | dic kvs =>
        simp only [hc] at k3
        cases hk : tkOf z with
        | none => simp only [hk] at k3
        | some kk =>
          simp only [hk] at k3
          obtain ⟨xs, d1, d2⟩ := s3.cell n _ a hc hl
          by_cases hz : kvs.length < sizeLine
          · rw [if_pos hz] at k3
            have d1' := d1
            rw [hw] at d1'
            obtain ⟨b, rfl, h1, h2⟩ := tkOf_some hk r3
            refine ⟨a, xs, kk, b, rfl, d1', rfl, h1, h2, by rw [← dicR_len d2]; exact hz, fun r rr => ?_⟩
            have hin : a ∈ ρ3 := List.mem_of_getElem? hl
            have ex : Ext ρ3 ρ3 H3 (upd H3 a (DTo X.w a (storedH xs kk b r))) := Ext.putC d1.at_ trivial hin
            have dr := (dicR_put (k := kk) r3 rr r1' d2).mono ex.sta ex.pre
            exact k3 σ _ ρ3 (((e1.trans e2).trans e3).trans ex) (E3.mono ex.sta ex.pre) (s3.putC hl d1.at_ trivial plain_dto.2 ⟨_, ⟨by rw [hw]; exact upd_same, fun x hx => by
              have := stored_keys (P := fun k b => KeyV X.K H3 k (.ref b) ∧ k.depth ≤ 8) d1.keys ⟨h1, h2⟩ x hx
              exact ⟨KeyV.mono ex.sta _ _ this.1, this.2⟩⟩, dr⟩ plain_dto)
          · rw [if_neg hz] at k3
            exact k3.elim
  | _ => exact k3.elim
end
end Ev

namespace Ev
open LamX L2 PyProof.Rows PySem.Spec PySem
variable [Tb]

/-! ## sorted(.., key=lambda x: ..) -/
theorem alikeB_ok {ks : List PyData} (h : alikeB ks = true) : PySem.W.AllAlike ks := fun d hd d' hd' => by
  unfold alikeB at h
  exact List.all_eq_true.mp (List.all_eq_true.mp h d hd) d' hd'
theorem sortB_ok {ks : List PyData} (h : sortB ks = true) : PySem.W.Sortable ks := by
  unfold sortB at h
  rw [Bool.or_eq_true] at h
  rcases h with h | h
  · refine .inl fun d hd => ?_
    have q := List.all_eq_true.mp h d hd
    split at q
    · exact ⟨_, _, rfl⟩
    · cases q
  · refine .inr fun d hd => ?_
    have q := List.all_eq_true.mp h d hd
    constructor
    · rintro rfl
      cases q
    · rintro xs rfl
      cases q
section
variable {K : PySem.W.Frag} {ρ : List Addr} {H : Hp}
theorem repL_trip {α : Type} : ∀ {M : List ((D × V) × α)}, (∀ x ∈ M, Rep K ρ H x.1.1 x.1.2) → RepL K ρ H (M.map (·.1.1)) (M.map (·.1.2))
  | [], _ => rfl
  | x :: M, h => ⟨x.1.2, _, rfl, h x List.mem_cons_self, repL_trip fun y hy => h y (List.mem_cons_of_mem _ hy)⟩
theorem repL_zip : ∀ {ds : List D} {vs : List V}, RepL K ρ H ds vs → ∀ x ∈ ds.zip vs, Rep K ρ H x.1 x.2
  | [], _, h, x, hx => by cases h; cases hx
  | d :: ds, _, ⟨v, r, e, h1, h2⟩, x, hx => by
    subst e
    rcases List.mem_cons.mp hx with rfl | hx
    · exact h1
    · exact repL_zip h2 x hx
theorem zip_fst {α β γ : Type} (g : α → β → γ → Prop) : ∀ (ds : List α) (vs : List β) (kz : List γ), ds.length = vs.length → ((ds.zip vs).zip kz).map (fun x => (x.1.1, x.2)) = ds.zip kz ∧ ((ds.zip vs).zip kz).map (fun x => (x.1.2, x.2)) = vs.zip kz
  | [], [], _, _ => ⟨by simp, by simp⟩
  | [], _ :: _, _, h => by cases h
  | _ :: _, [], _, h => by cases h
  | d :: ds, v :: vs, [], _ => ⟨by simp, by simp⟩
  | d :: ds, v :: vs, k :: kz, h => by
    have ih := zip_fst g ds vs kz (by simpa using h)
    constructor
    · exact congrArg (List.cons (d, k)) ih.1
    · exact congrArg (List.cons (v, k)) ih.2
theorem repL_byKeys {ds : List D} {vs : List V} {kz : List PyData} (r : RepL K ρ H ds vs) : RepL K ρ H (byKeys ds kz) (((vs.zip kz).mergeSort (PySem.W.dataLe false Prod.snd)).map Prod.fst) := by
  obtain ⟨z1, z2⟩ := zip_fst (fun _ _ _ => True) ds vs kz r.length
  unfold byKeys
  have m1 := List.map_mergeSort (r := PySem.W.dataLe false (fun x : (D × V) × PyData => x.2)) (s := PySem.W.dataLe false (Prod.snd : D × PyData → PyData)) (f := fun x : (D × V) × PyData => (x.1.1, x.2)) (l := (ds.zip vs).zip kz) (fun _ _ _ _ => rfl)
  have m2 := List.map_mergeSort (r := PySem.W.dataLe false (fun x : (D × V) × PyData => x.2)) (s := PySem.W.dataLe false (Prod.snd : V × PyData → PyData)) (f := fun x : (D × V) × PyData => (x.1.2, x.2)) (l := (ds.zip vs).zip kz) (fun _ _ _ _ => rfl)
  rw [z1] at m1
  rw [z2] at m2
  rw [← m1, ← m2, List.map_map, List.map_map]
  refine repL_trip (M := ((ds.zip vs).zip kz).mergeSort (PySem.W.dataLe false fun x => x.2)) fun x hx => ?_
  have hm := (List.mergeSort_perm ((ds.zip vs).zip kz) (PySem.W.dataLe false fun x : (D × V) × PyData => x.2)).mem_iff.mp hx
  exact repL_zip r _ (List.of_mem_zip (a := x.1) (b := x.2) hm).1
end
section
variable {X : Cx} {ma mb : Env → M D} {k i : Nat} {x : Str} {params : Arguments} {y body : Expr} {scope : Scope} {p lpos kpos pos : Pos} {c P : Addr}
theorem wp_noX {α β γ : Type} {m : M α} {g : α → M β} {f : β → M γ} {μ : Mu} {A : γ → Mu → Prop} {B : Exn → Mu → Prop} (h : WP (bnd (bnd (noX m) g) f) μ A B) : WP m μ (fun a μ1 => WP (bnd (g a) f) μ1 A B) (fun _ _ => False) := by
  unfold WP at *
  unfold bnd noX at h
  cases e : m μ with
  | none => rw [e] at h; exact h
  | some q =>
    obtain ⟨r, μ1⟩ := q
    rw [e] at h
    cases r with
    | ex x => exact h
    | ok a => exact h
theorem ge_sortk (m : Bool) (hg : Gl X "sorted") (hm : X.mg "sorted" = none) (M : LamM X Tb.T c P) (hr : Room (k + 3) X.A) (L : LamS1 X.env.scope scope x)
    (hN : X.N.Nodup) (hi : X.N[i]? = some x) (hs : X.stack = X.env :: X.outer) (hp : onePar x params = true) (ha : GE X y ma) (hst : starEach [y] X.env = [(false, eval y X.env)])
    (hb : ∀ (A : Around) (outer : List PySem.Env) (s : Shared) (H : Hp) (E : XK) (f c' : Addr), Room k (A.deeper (lamEnv X scope s.heap.objs.size f c')) → GE (lamY X A outer s H E scope f c') body mb) :
    GE X (.Call (.Name "sorted" p) [y] [⟨some "key", .Lambda params body scope lpos, kpos⟩] pos) (fun δ => bnd (ma δ) fun x => bnd (rd fun μ => lstOf (view μ x)) fun ds => bnd (keysM (fun d => mb (δ.set i (some d))) ds []) fun ks => bnd (lft (keyedSort ds ks)) fun r => newList m r) := by
  refine PE_imp (PE_frz (pe_sortk (tb := tbM X mb) hg hm M hr L hN hi hs hp ha hst fun A outer s H E f c' r => tb_of (hb A outer s H E f c' r))) fun σ H Q h => ?_
  obtain ⟨δ, μ, ρ, hE, hS, h⟩ := h
  refine te_step hE hS h.bnd fun x μ1 v H1 ρ1 k e1 s1 r1 E1 => ?_
  obtain ⟨ds, hd, k⟩ := k.bnd.rd
  have hv : view μ1 x = .lst ds := by
    cases e : view μ1 x with
    | lst es => rw [e] at hd; cases hd; rfl
    | _ => rw [e] at hd; cases hd
  obtain ⟨l, xs, rfl, hl, rx⟩ := view_lst s1 r1 hv
  refine ⟨l, xs, rfl, hl, s1.tabs, fun H2 c' eN T2 hco => ?_⟩
  have s2 := str_extN s1 eN T2
  have e2 : Ext ρ1 ρ1 H1 H2 := ext_extN eN
  have rx2 := RepL.mono e2.sta e2.pre ds xs rx
  have nc : c' ∉ ρ1 := fun z => by
    obtain ⟨o, q, _, n⟩ := s2.there c' z
    rw [hco] at q
    exact n _ (Option.some.inj q).symm
  refine ⟨fun j kvs H' => ∃ μ' ρ' ks, Ext ρ1 ρ' H2 H' ∧ StR X.K ρ' H' μ' ∧ RepL X.K ρ' H' ks kvs ∧ WP (bnd (keysM (fun d => mb (δ.set i (some d))) (ds.drop j) ks) fun ks => bnd (lft (keyedSort ds ks)) fun r => newList m r) μ' (OkW X ρ H Q) (ExW X δ ρ H), ⟨μ1, ρ1, [], Ext.refl _ _, s2, rfl, k⟩, ?_, ?_, ?_⟩
  · rintro j kvs H' ⟨μ', ρ', ks, e3, _⟩
    exact e3.keep c' _ hco nc fun ps z => by unfold CodeO at z; cases z
  · rintro j kvs H' v hj ⟨μ', ρ', ks, e3, s3, r3, w⟩
    have rx3 := RepL.mono e3.sta e3.pre ds xs rx2
    cases hd' : ds[j]? with
    | none =>
      rw [rx3.none_of hd'] at hj
      cases hj
    | some d =>
      obtain ⟨v', hv', rv⟩ := rx3.get hd'
      rw [hj] at hv'
      cases hv'
      have dj : ds.drop j = d :: ds.drop (j + 1) := by
        obtain ⟨hlt, e⟩ := List.getElem?_eq_some_iff.mp hd'
        rw [← e]
        exact List.drop_eq_getElem_cons hlt
      rw [dj] at w
      have w' := wp_noX (m := mb (δ.set i (some d))) (g := fun k => keysM (fun d => mb (δ.set i (some d))) (ds.drop (j + 1)) (ks ++ [k])) w
      have e13 := e2.trans e3
      refine ⟨δ.set i (some d), μ', ρ', ((E1.mono e13.sta e13.pre).set i rv), s3, w'.mono (fun kd μ2 z kv H3 ρ3 e4 s4 r4 => ?_) fun _ _ z => z.elim⟩
      exact ⟨μ2, ρ3, ks ++ [kd], e3.trans e4, s4, (RepL.mono e4.sta e4.pre _ _ r3).append (RepL.one r4), z⟩
  · rintro kvs Hn ⟨μ', ρ', ks, e3, s3, r3, w⟩ hlen
    rw [← rx.length, List.drop_length] at w
    have w' : WP (bnd (lft (keyedSort ds ks)) fun r => newList m r) μ' (OkW X ρ H Q) (ExW X δ ρ H) := w
    obtain ⟨r, hr', w2⟩ := w'.bnd.lft
    unfold keyedSort at hr'
    cases hk : toPyL ks with
    | none => rw [hk] at hr'; cases hr'
    | some kz =>
      rw [hk] at hr'
      dsimp only at hr'
      by_cases hc : kz.length = ds.length ∧ alikeB kz = true ∧ sortB kz = true ∧ (kz.all fun d => decide (d.depth ≤ 60)) = true
      · rw [if_pos hc] at hr'
        cases hr'
        refine ⟨kz, dp_ofL ks kvs kz hk r3, alikeB_ok hc.2.1, sortB_ok hc.2.2.1, fun d hd => ?_, fun q hq => ?_⟩
        · have := of_decide_eq_true (List.all_eq_true.mp hc.2.2.2 d hd)
          omega
        · obtain ⟨_, w3⟩ := wp_newList w2
          exact newList_end (ok_if_up w3 ((e1.trans e2).trans e3)) s3 (repL_byKeys (RepL.mono e3.sta e3.pre ds xs rx2)) hq
      · rw [if_neg hc] at hr'
        cases hr'
end
end Ev

namespace Ev
open LamX L2 PyProof.Rows PySem.Spec PySem
variable [Tb]

/-! ## Own classes with the one attribute "row" -/
theorem rep_obj {K : PySem.W.Frag} {ρ : List Addr} {H : Hp} {c : Str} {d : D} {v : V} (h : isObj c d = true) (r : Rep K ρ H d v) : ∃ a dx w, v = .ref a ∧ H a = some (.ins (He.ga K c) dx [("row", w)]) := by
  cases d with
  | obj c' ns ds =>
    obtain ⟨a, dx, ws, w, rfl, _, _, rfl, h2⟩ := r
    have e : c' = c := of_decide_eq_true h
    subst e
    exact ⟨a, dx, w, rfl, h2⟩
  | _ => cases h
theorem row_none {m : Str} {w : V} (h : (m == ("row" : Str)) = false) : ([(("row" : Str), w)] : List (Str × V)).lookup m = none := by
  rw [List.lookup_cons, h]
  rfl
section
variable {X : Cx} {c m x kn : Str} {o e v : Expr} {es : List Expr} {ma mv : Env → M D} {ml : Env → M (List D)} {pos apos p kp : Pos} {k np n : Nat} {f : Addr} {fd : FuncData} {ps : List Str} {g : List D → M D} {dvs : List V} {ds : List Value} {dfl : List D}
theorem ge_fld (he : GE X o ma) (cl : Cls X.K (He.ga X.K c)) (na : NoAttr X.K (He.ga X.K c) "row") (hbase : attributeBase o "row" X.env (eval o X.env) = eval o X.env) : GE X (.Attribute o "row" pos) (fun δ => bnd (ma δ) fun x => lft (fldOp c "row" x)) := by
  refine PE_imp (L2.pe_fld he hbase) fun σ H Q h => ?_
  obtain ⟨δ, μ, ρ, hE, hS, h⟩ := h
  refine te_step hE hS h.bnd fun x μ1 v H1 ρ1 k e1 s1 r1 E1 => ?_
  obtain ⟨d, hd, q⟩ := k.lft
  unfold fldOp at hd
  split at hd
  · rename_i c' g' d'
    by_cases hc : c' = c ∧ g' = "row"
    · rw [if_pos hc] at hd
      cases hd
      obtain ⟨rfl, rfl⟩ := hc
      obtain ⟨a, dx, ws, w, rfl, _, hw, rfl, hi⟩ := r1
      obtain ⟨w', r', e', hw1, hw2⟩ := hw
      cases e'
      exact ⟨a, _, dx, _, w, rfl, hi, cl, na, rfl, (OkW.up q e1).now s1 hw1⟩
    · rw [if_neg hc] at hd
      cases hd
  · cases hd
/-- the call of a method -/
abbrev mMeth (c : Str) (ma : Env → M D) (ml : Env → M (List D)) (g : List D → M D) (dfl : List D) : Env → M D := fun δ => bnd (ma δ) fun x => if isObj c x then bnd (ml δ) fun as => g (x :: (as ++ dfl)) else fun _ => none
theorem ge_meth (ho : GE X o ma) (cl : Cls X.K (He.ga X.K c)) (hm : Meth X.K (He.ga X.K c) m f) (F : FnOk X.prog X.w X.K X.mg X.base (L2N.CX X.prog X.w) k f fd ps (SpD X.K X.mg np g)) (hr : Room k X.A) (hb : Binds X.K fd ps ds) (hd : Vals dvs ds)
    (hdl : ∀ ρ H, RepL X.K ρ H dfl dvs) (hnp : ∀ δ μ as μ', ml δ μ = some (.ok as, μ') → as.length + dfl.length + 1 = np) (ha : GA X (e :: es) ml) (hrow : (m == ("row" : Str)) = false)
    (hst : starEach (e :: es) X.env = (false, eval e X.env) :: starEach es X.env) (hpl : (backTo pos (starEach es X.env)).any (·.1) = false)
    (hbase : attributeBase o m X.env (eval o X.env) = eval o X.env) (hform : methodCallForm ((e :: es).length + ([] : List Keyword).length) (backTo pos (starEach (e :: es) X.env)) (backToKw pos (keywordEach [] X.env)) = true) (hline : (apos.endLine == pos.line) = true) :
    GE X (.Call (.Attribute o m apos) (e :: es) [] pos) (mMeth c ma ml g dfl) := by
  refine PE_imp (pe_methSD ho cl hm F hr hb hd (fun σ => L2N.passAt takesAll σ) ha hst hpl hbase hform hline) fun σ H Q h => ?_
  obtain ⟨δ, μ, ρ, hE, hS, h⟩ := h
  refine te_step hE hS h.bnd fun x μ1 v H1 ρ1 k e1 s1 r1 E1 => ?_
  cases ho : isObj c x with
  | false => rw [ho] at k; exact k.elim
  | true =>
    rw [ho] at k
    have k : WP (bnd (ml δ) fun as => g (x :: (as ++ dfl))) μ1 (OkW X ρ H Q) (ExW X δ ρ H) := k
    obtain ⟨a, dx, w, rfl, hi⟩ := rep_obj ho r1
    refine ⟨a, dx, _, rfl, hi, row_none hrow, ?_⟩
    refine ta_step (K2 := fun as μ' => as.length + dfl.length + 1 = np ∧ WP (g (x :: (as ++ dfl))) μ' (OkW X ρ H Q) (ExW X δ ρ H)) E1 s1 ?_ fun as μ2 vs H2 ρ2 k e2 s2 r2 E2 => ?_
    · have h' := (k.bnd.mono (fun _ _ z => z) fun _ _ z => ExW.up z e1)
      unfold WP at h' ⊢
      cases em : ml δ μ1 with
      | none => rw [em] at h'; exact h'
      | some q =>
        obtain ⟨r, μ'⟩ := q
        rw [em] at h'
        cases r with
        | ok as => exact ⟨hnp δ μ1 as μ' em, h'⟩
        | ex x => exact h'
    · obtain ⟨hl, k⟩ := k
      have rd := hdl ρ2 H2
      have r1' := Rep.mono e2.sta e2.pre _ _ r1
      refine ⟨by rw [List.length_cons, List.length_append, ← r2.length, ← rd.length]; omega, ρ2, μ2, x :: (as ++ dfl), s2, ⟨_, _, rfl, r1', r2.append rd⟩, k.mono (fun d μ' z v H' ρ' e3 s3 r3 => z v H' ρ' ((e1.trans e2).trans e3) s3 r3) fun x μ' z cls od H' ρ' e3 s3 r3 => ?_⟩
      exact ⟨_, z, ρ', (e1.trans e2).trans e3, E2.mono e3.sta e3.pre, s3, r3⟩
theorem ge_meth0 (ho : GE X o ma) (cl : Cls X.K (He.ga X.K c)) (hm : Meth X.K (He.ga X.K c) m f) (F : FnOk X.prog X.w X.K X.mg X.base (L2N.CX X.prog X.w) k f fd ps (SpD X.K X.mg np g)) (hr : Room k X.A) (hb : Binds X.K fd ps ds) (hd : Vals dvs ds)
    (hdl : ∀ ρ H, RepL X.K ρ H dfl dvs) (hnp : dfl.length + 1 = np) (hrow : (m == ("row" : Str)) = false)
    (hbase : attributeBase o m X.env (eval o X.env) = eval o X.env) (hform : methodCallForm (([] : List Expr).length + ([] : List Keyword).length) (backTo pos (starEach [] X.env)) (backToKw pos (keywordEach [] X.env)) = true) (hline : (apos.endLine == pos.line) = true) :
    GE X (.Call (.Attribute o m apos) [] [] pos) (mMeth c ma (fun _ => ret []) g dfl) := by
  refine PE_imp (pe_methSD0 ho cl hm F hr hb hd (fun σ => L2N.passAt takesAll σ) hbase hform hline) fun σ H Q h => ?_
  obtain ⟨δ, μ, ρ, hE, hS, h⟩ := h
  refine te_step hE hS h.bnd fun x μ1 v H1 ρ1 k e1 s1 r1 E1 => ?_
  cases ho : isObj c x with
  | false => rw [ho] at k; exact k.elim
  | true =>
    rw [ho] at k
    have k : WP (g (x :: ([] ++ dfl))) μ1 (OkW X ρ H Q) (ExW X δ ρ H) := k
    obtain ⟨a, dx, w, rfl, hi⟩ := rep_obj ho r1
    refine ⟨a, dx, _, rfl, hi, row_none hrow, ?_⟩
    have rd := hdl ρ1 H1
    refine ⟨by show ([] ++ dvs).length + 1 = np; rw [List.nil_append, ← rd.length]; exact hnp, ρ1, μ1, x :: ([] ++ dfl), s1, ⟨_, _, rfl, r1, rd⟩, k.mono (fun d μ' z v H' ρ' e3 s3 r3 => z v H' ρ' (e1.trans e3) s3 r3) fun x μ' z cls od H' ρ' e3 s3 r3 => ?_⟩
    exact ⟨_, z, ρ', e1.trans e3, E1.mono e3.sta e3.pre, s3, r3⟩
theorem ge_methk (ho : GE X o ma) (cl : Cls X.K (He.ga X.K c)) (hm : Meth X.K (He.ga X.K c) m f) (F : FnOk X.prog X.w X.K X.mg X.base (L2N.CX X.prog X.w) k f fd ps (SpD X.K X.mg np g)) (hr : Room k X.A) (hb : KBn X.K fd ps n [kn] (fun us ws => us ++ ws) (fun vs zs => vs ++ zs))
    (hn : n + 1 = np) (hl : ∀ δ μ as μ', ml δ μ = some (.ok as, μ') → as.length + 1 = n) (ha : GA X (e :: es) ml) (hv : GE X v mv) (hrow : (m == ("row" : Str)) = false)
    (hst : starEach (e :: es) X.env = (false, eval e X.env) :: starEach es X.env) (hpl : (backTo pos (starEach (e :: es) X.env)).any (·.1) = false)
    (hbase : attributeBase o m X.env (eval o X.env) = eval o X.env) (hform : methodCallForm ((e :: es).length + ([⟨some kn, v, kp⟩] : List Keyword).length) (backTo pos (starEach (e :: es) X.env)) (backToKw pos (keywordEach [⟨some kn, v, kp⟩] X.env)) = true) (hline : (apos.endLine == pos.line) = true) :
    GE X (.Call (.Attribute o m apos) (e :: es) [⟨some kn, v, kp⟩] pos) (fun δ => bnd (ma δ) fun x => if isObj c x then bnd (ml δ) fun as => bnd (mv δ) fun d => g (x :: (as ++ [d])) else fun _ => none) := by
  refine PE_imp (pe_methSK ho cl hm F hr hb (fun σ => L2N.passAt takesAll σ) ha hv hst hpl hbase hform hline) fun σ H Q h => ?_
  obtain ⟨δ, μ, ρ, hE, hS, h⟩ := h
  refine te_step hE hS h.bnd fun x μ1 v H1 ρ1 k e1 s1 r1 E1 => ?_
  cases ho : isObj c x with
  | false => rw [ho] at k; exact k.elim
  | true =>
    rw [ho] at k
    have k : WP (bnd (ml δ) fun as => bnd (mv δ) fun d => g (x :: (as ++ [d]))) μ1 (OkW X ρ H Q) (ExW X δ ρ H) := k
    obtain ⟨a, dx, w, rfl, hi⟩ := rep_obj ho r1
    refine ⟨a, dx, _, rfl, hi, row_none hrow, ?_⟩
    refine ta_step (K2 := fun as μ' => as.length + 1 = n ∧ WP (bnd (mv δ) fun d => g (x :: (as ++ [d]))) μ' (OkW X ρ H Q) (ExW X δ ρ H)) E1 s1 ?_ fun as μ2 vs H2 ρ2 k e2 s2 r2 E2 => ?_
    · have h' := (k.bnd.mono (fun _ _ z => z) fun _ _ z => ExW.up z e1)
      unfold WP at h' ⊢
      cases em : ml δ μ1 with
      | none => rw [em] at h'; exact h'
      | some q =>
        obtain ⟨r, μ'⟩ := q
        rw [em] at h'
        cases r with
        | ok as => exact ⟨hl δ μ1 as μ' em, h'⟩
        | ex x => exact h'
    · obtain ⟨hn1, k⟩ := k
      show teM X mv σ H2 _
      have e12 := e1.trans e2
      refine te_step E2 s2 (k.bnd.mono (fun _ _ z => z) fun _ _ z => ExW.up z e12) fun d μ3 z H3 ρ3 k3 e3 s3 r3 E3 => ?_
      have r1' := Rep.mono (e2.trans e3).sta (e2.trans e3).pre _ _ r1
      have r2' := RepL.mono e3.sta e3.pre _ _ r2
      have e13 := e12.trans e3
      have hlv : vs.length = as.length := r2.length.symm
      refine ⟨rfl, by show vs.length + 1 = n; omega, by simp only [List.length_append, List.length_cons, List.length_nil]; omega, ρ3, μ3, x :: (as ++ [d]), s3, ⟨_, _, rfl, r1', r2'.append ⟨z, [], rfl, r3, rfl⟩⟩, k3.mono (fun d μ' z v H' ρ' e4 s4 r4 => z v H' ρ' (e13.trans e4) s4 r4) fun x μ' z cls od H' ρ' e4 s4 r4 => ?_⟩
      exact ⟨_, z, ρ', e13.trans e4, E3.mono e4.sta e4.pre, s4, r4⟩
/-! ### made -/
/-- what __init__ promises -/
def SpMk (K : PySem.W.Frag) (mg : Str → Option Value) (C : Addr) (np : Nat) (g : List D → M D) : Sp := fun vs H Q E => vs.length = np ∧ ∃ (x dx : Addr) (rest : List V) (H0 : Hp) (ρ : List Addr) (μ : Mu) (ds : List D), vs = .ref x :: rest ∧ H = upd (upd H0 dx (.own x)) x (.ins C dx []) ∧ H0 x = none ∧ H0 dx = none ∧ dx ≠ x ∧
  StR K ρ H0 μ ∧ RepL K ρ H0 ds rest ∧ WP (g ds) μ (fun d μ' => ∀ H' ρ', Ext ρ ρ' H0 H' → StR K ρ' H' μ' → Rep K ρ' H' d (.ref x) → Q .non H') (fun x μ' => ∀ cls od H' ρ', Ext ρ ρ' H0 H' → StR K ρ' H' μ' → RepX mg K ρ' H' cls od x → E cls od H')
theorem ge_mk {C : Addr} (Mk_ : Mk X.K C f) (F : FnOk X.prog X.w X.K X.mg X.base (L2N.CX X.prog X.w) k f fd ps (SpMk X.K X.mg C np g)) (hr : Room (k + 1) X.A) (hg : Gl X x) (hm : X.mg x = some (.ref C)) (hb : Binds X.K fd ps [])
    (hnp : ∀ δ μ as μ', ml δ μ = some (.ok as, μ') → as.length + 1 = np) (ha : GA X (e :: es) ml) (hdb : (x == ("__debug__" : Str)) = false)
    (he : starEach (e :: es) X.env = (false, eval e X.env) :: starEach es X.env) (hpl : (backTo pos (starEach es X.env)).any (·.1) = false) :
    GE X (.Call (.Name x p) (e :: es) [] pos) (fun δ => bnd (ml δ) g) := by
  refine PE_imp (pe_makeSD (dvs := []) Mk_ F hr hg hm hb .nil (fun σ => L2N.passAt takesAll σ) ha hdb he hpl) fun σ H Q h => ?_
  obtain ⟨δ, μ, ρ, hE, hS, h⟩ := h
  refine ta_step (K2 := fun as μ' => as.length + 1 = np ∧ WP (g as) μ' (OkW X ρ H Q) (ExW X δ ρ H)) hE hS ?_ fun as μ1 vs H1 ρ1 k e1 s1 r1 E1 => ?_
  · have h' := h.bnd
    unfold WP at h' ⊢
    cases em : ml δ μ with
    | none => rw [em] at h'; exact h'
    | some q =>
      obtain ⟨r, μ'⟩ := q
      rw [em] at h'
      cases r with
      | ok as => exact ⟨hnp δ μ as μ' em, h'⟩
      | ex x => exact h'
  · obtain ⟨hl, k⟩ := k
    intro y dx hy hdx hne
    refine ⟨by rw [List.append_nil, List.length_cons, ← r1.length]; exact hl, y, dx, vs, H1, ρ1, μ1, as, by rw [List.append_nil], rfl, hy, hdx, hne, s1, r1, k.mono (fun d μ' z H' ρ' e2 s2 r2 => ⟨rfl, z (.ref y) H' ρ' (e1.trans e2) s2 r2⟩) fun x μ' z cls od H' ρ' e2 s2 r2 => ?_⟩
    exact ⟨_, z, ρ', e1.trans e2, E1.mono e2.sta e2.pre, s2, r2⟩
end
/-! ### == by an own __eq__ -/
section
variable {X : Cx} {a b : Expr} {ta tb : TE} {CX : CXT} {C f : Addr} {fd : FuncData} {ps : List Str} {sp : Sp} {k : Nat} {E : L2.St → XK}
def rOwn (C : Addr) (sp : Sp) (E : XK) (x y : V) (H : Hp) (Q : VK) : Prop := ∃ a b dx dy fs gs, x = .ref a ∧ y = .ref b ∧ H a = some (.ins C dx fs) ∧ H b = some (.ins C dy gs) ∧ sp [.ref a, .ref b] H (fun v H' => (∃ r, v = .bl r) ∧ Q v H') E
theorem pc_own (F : FnOk X.prog X.w X.K X.mg X.base CX k f fd ps sp) (hr : Room k X.A) (hs : PySem.W.findIn X.K (.ref C) "__eq__" = some (some (.ref f))) (hf : PySem.W.isFn X.K (.ref f) = true) (hb : Binds X.K fd ps []) (hx : ∀ σ, PassesAt CX X σ (E σ)) (ha : PE X a ta) (hb2 : PE X b tb) :
    PC X .Eq a b (fun σ H Q => ta σ H fun x H1 => tb σ H1 fun y H2 => rOwn C sp (E σ) x y H2 Q) := by
  refine ⟨fun pins s σ H Q I h => ?_⟩
  refine thn (ha.run pins s σ H _ I h) fun u s1 ⟨x, H1, I1, rx, q1⟩ => thn (hb2.run pins s1 σ H1 _ I1 q1) fun v s2 ⟨y, H2, I2, ry, a', b', dx, dy, fs, gs, ex, ey, hx1, hy1, hsp⟩ => ?_
  subst ex ey
  obtain rfl : u = Value.ref a' := rx
  obtain rfl : v = Value.ref b' := ry
  obtain ⟨mA, J, _⟩ := ins_get I2.hok hx1
  obtain ⟨mB, J', _⟩ := ins_get I2.hok hy1
  obtain ⟨od, J, _⟩ := J.look
  obtain ⟨od', J', _⟩ := J'.look
  obtain ⟨m, hF⟩ := I2.fr
  show wpAny (model X.prog X.w) X.A (richCompare .Eq (.ref a') (.ref b')) (EP X pins σ Q) X.xe s2
  refine PySem.W.cmp_K (op := .Eq) (tb := .ref C) hr.units0 hF I2.ok.mod.kin J J'.type (by simp [PySem.W.notFirst]) hs hf ?_
  have hl := F.len _ _ _ _ hsp
  have r2 : Vals [V.ref a', V.ref b'] [Value.ref a', Value.ref b'] := .cons rfl (.cons rfl .nil)
  refine wpAny_call (codeAny_mono (F.run X.A X.stack s2 H2 ⟨[.ref a', .ref b'], []⟩ [.ref a', .ref b'] [.ref a', .ref b'] _ (E σ) hr I2.env0 (by
    have := hb s2 [.ref a', .ref b'] I2.kIn (by simpa using hl)
    simpa using this) r2 hsp) fun r s' hq => ?_)
  cases r with
  | error e => exact hx σ pins H2 s2 e s' I2 hq
  | ok fl =>
    cases fl with
    | ret w =>
      obtain ⟨z, H', I', rz, ⟨r, ez⟩, q⟩ := I2.after hq
      subst ez
      cases rz
      exact ⟨.bl r, H', I', rfl, q⟩
    | next => exact False.elim hq
    | brk => exact False.elim hq
    | cont => exact False.elim hq
end
section
variable {X : Cx} {c : Str} {a b : Expr} {ma mb : Env → M D} {pos : Pos} {k np : Nat} {f : Addr} {fd : FuncData} {ps : List Str} {g : List D → M D}
abbrev mOeq (c : Str) (ma mb : Env → M D) (g : List D → M D) : Env → M D := fun δ => bnd (ma δ) fun x => bnd (mb δ) fun y => if isObj c x && isObj c y then bnd (g [x, y]) fun r => lft ((asBool r).map .bl) else fun _ => none
theorem oeq_core {σ : L2.St} {H : Hp} {Q : VK} (h : teM X (mOeq c ma mb g) σ H Q) : teM X ma σ H fun x H1 => teM X mb σ H1 fun y H2 => rOwn (He.ga X.K c) (SpD X.K X.mg 2 g) (fun cls od H => ∃ W : WX, L2N.Takes X W ∧ W cls od σ H) x y H2 Q := by
  obtain ⟨δ, μ, ρ, hE, hS, h⟩ := h
  refine te_step hE hS h.bnd fun x μ1 v H1 ρ1 k e1 s1 r1 E1 => ?_
  refine te_step E1 s1 (k.bnd.mono (fun _ _ z => z) fun _ _ z => ExW.up z e1) fun y μ2 w H2 ρ2 k2 e2 s2 r2 E2 => ?_
  have r1' := Rep.mono e2.sta e2.pre _ _ r1
  cases ho : isObj c x && isObj c y with
  | false => rw [ho] at k2; exact k2.elim
  | true =>
    rw [ho] at k2
    have k2 : WP (bnd (g [x, y]) fun r => lft ((asBool r).map D.bl)) μ2 (OkW X ρ H Q) (ExW X δ ρ H) := k2
    rw [Bool.and_eq_true] at ho
    obtain ⟨a1, dx, w1, rfl, h1⟩ := rep_obj ho.1 r1'
    obtain ⟨b1, dy, w2, rfl, h2⟩ := rep_obj ho.2 r2
    refine ⟨a1, b1, dx, dy, _, _, rfl, rfl, h1, h2, rfl, ρ2, μ2, [x, y], s2, ⟨_, _, rfl, r1', _, _, rfl, r2, rfl⟩, k2.bnd.mono (fun d μ' z v H' ρ' e3 s3 r3 => ?_) fun x μ' z cls od H' ρ' e3 s3 r3 => ?_⟩
    · obtain ⟨b', hb', q⟩ := z.lft
      obtain ⟨bb, eb, rfl⟩ := Option.map_eq_some_iff.mp hb'
      cases asBool_some eb
      have er : v = V.bl bb := r3
      subst er
      exact ⟨⟨bb, rfl⟩, q _ H' ρ' ((e1.trans e2).trans e3) s3 rfl⟩
    · exact ⟨_, z, ρ', (e1.trans e2).trans e3, E2.mono e3.sta e3.pre, s3, r3⟩
theorem ge_oeq (F : FnOk X.prog X.w X.K X.mg X.base (L2N.CX X.prog X.w) k f fd ps (SpD X.K X.mg 2 g)) (hr : Room k X.A) (hm : Meth X.K (He.ga X.K c) "__eq__" f) (hb : Binds X.K fd ps []) (ha : GE X a ma) (hb2 : GE X b mb) (h1 : behindInMarks .Eq b = false) :
    GE X (.Compare a [.Eq] [b] pos) (mOeq c ma mb g) ∧ GT X (.Compare a [.Eq] [b] pos) (bT (mOeq c ma mb g)) := by
  have pc := pc_own (C := He.ga X.K c) F hr hm.at_ hm.fn hb (fun σ => L2N.passAt takesAll σ) ha hb2
  exact ⟨PE_imp (pe_cmp pc h1) fun σ H Q h => oeq_core h, gt_pc pc (fun σ H Q h => oeq_core h) h1⟩
end
end Ev

namespace Ev
open LamX L2 PyProof.Rows PySem.Spec PySem
variable [Tb]

/-! ## isinstance with an own class -/
structure ClsF (K : PySem.W.Frag) (C : Addr) : Prop where
  cl : Cls K C
  na : NoAttr K C "row"
  ha : PySem.W.findIn K (.ref C) "__class__" = some (some (.builtin "object.__class__"))
  hn : PySem.W.specialIn K (.builtin "object.__class__") "__get__" = some (some (.builtin "getset_descriptor.__get__"))
  htk : PySem.W.takesIn K (.builtin "object.__class__") = some true
  hm : PySem.W.mroIn K C (.type "object") = some true
  one : PySem.W.kitOne K (.ref C) (.ref C) = some true
def clsF (K : PySem.W.Frag) (C : Addr) : Bool := PySem.W.plainGet K C Str.empty && PySem.W.hasDictIn K C && PySem.W.plainOver K C && decide (PySem.W.findIn K (.ref C) "__setattr__" = some (some (.builtin "object.__setattr__"))) && decide (PySem.W.findIn K (.ref C) "row" = some none) &&
  decide (PySem.W.findIn K (.ref C) "__class__" = some (some (.builtin "object.__class__"))) && decide (PySem.W.specialIn K (.builtin "object.__class__") "__get__" = some (some (.builtin "getset_descriptor.__get__"))) && decide (PySem.W.takesIn K (.builtin "object.__class__") = some true) &&
  decide (PySem.W.mroIn K C (.type "object") = some true) && decide (PySem.W.kitOne K (.ref C) (.ref C) = some true)
omit [Tb] in
theorem clsF_ok {K : PySem.W.Frag} {C : Addr} (h : clsF K C = true) : ClsF K C := by
  unfold clsF at h
  simp only [Bool.and_eq_true, decide_eq_true_eq] at h
  obtain ⟨⟨⟨⟨⟨⟨⟨⟨⟨h1, h2⟩, h3⟩, h4⟩, h5⟩, h6⟩, h7⟩, h8⟩, h9⟩, h10⟩ := h
  exact ⟨⟨h1, h2, h3, h4⟩, h5, h6, h7, h8, h9, h10⟩
section
variable {X : Cx} {c x : Str} {a b e : Expr} {ma me : Env → M D} {p p2 pos : Pos}
theorem ge_isc (ha : GE X a ma) (cf : ClsF X.K (He.ga X.K c)) (hg : Gl X "isinstance") (hm : X.mg "isinstance" = none) (hg2 : Gl X c) (hm2 : X.mg c = some (.ref (He.ga X.K c))) (hdb : (c == ("__debug__" : Str)) = false)
    (hst : starEach [a, .Name c p2] X.env = (false, eval a X.env) :: starEach [.Name c p2] X.env) :
    GE X (.Call (.Name "isinstance" p) [a, .Name c p2] [] pos) (fun δ => bnd (ma δ) fun x => if isObj c x then ret (.bl true) else fun _ => none) := by
  have hA : PA X [a, .Name c p2] (tCons (teM X ma) (tCons (tC (.ref (He.ga X.K c))) tNil)) := pa_cons ha (pa_cons (pe_glob hg2 hm2 rfl hdb) pa_nil rfl) hst
  refine PE_imp (pe_callB call_isi hg hm PyProof.Rows.boot_isinstance hA (by decide) (by decide) hst rfl) fun σ H Q h => ?_
  obtain ⟨δ, μ, ρ, hE, hS, h⟩ := h
  refine te_step hE hS h.bnd fun x μ1 v H1 ρ1 k e1 s1 r1 E1 => ?_
  cases ho : isObj c x with
  | false => rw [ho] at k; exact k.elim
  | true =>
    rw [ho] at k
    have q : OkW X ρ H Q (.bl true) μ1 := k
    obtain ⟨a1, dx, w, rfl, hi⟩ := rep_obj ho r1
    exact ⟨_, _, _, _, true, rfl, .own _, .base (.ins hi cf.cl cf.ha cf.hn cf.htk cf.hm), cf.one, (OkW.up q e1).now s1 rfl⟩
/-! ## __init__: self.row = e -/
def tInit (X : Cx) (c : Str) (me : Env → M D) : TS := fun D σ H => ∃ (x dx : Addr) (H0 : Hp) (ρ : List Addr) (μ : Mu) (δ : Env), σ[0]? = some (some (.ref x)) ∧ H = upd (upd H0 dx (.own x)) x (.ins (He.ga X.K c) dx []) ∧ H0 x = none ∧ H0 dx = none ∧ dx ≠ x ∧ EnvR X.K ρ H0 σ δ ∧ StR X.K ρ H0 μ ∧
  WP (me δ) μ (fun d μ' => ∀ σ' H' ρ', Ext ρ ρ' H0 H' → StR X.K ρ' H' μ' → Rep X.K ρ' H' (.obj c ["row"] [d]) (.ref x) → D.nx σ' H') (ExW X δ ρ H0)
theorem gs_init {s : Str} (hN : X.N[0]? = some s) (hv : Vis X.env.scope s) (hd : (s == ("__debug__" : Str)) = false) (hcd : (s == ("__classdict__" : Str)) = false) (he : GE X e me) (cf : ClsF X.K (He.ga X.K c)) (hs : swapsWith e (some (.Attribute (.Name s p) "row" p2)) pos.line X.env = pure false) :
    PS X (.Assign [.Attribute (.Name s p) "row" p2] e pos) (tInit X c me) := by
  refine PS_imp (L2.ps_fld (pe_var hN hv hd hcd) he hs) fun D σ H h => ?_
  obtain ⟨x, dx, H0, ρ, μ, δ, h0, rfl, hx, hdx, hne, hE, hS, w⟩ := h
  have hx1 : upd H0 dx (.own x) x = none := by rw [upd_ne (fun z => hne z.symm)]; exact hx
  have e0 : Ext ρ ρ H0 (upd (upd H0 dx (.own x)) x (.ins (He.ga X.K c) dx [])) := (Ext.new hdx).trans (Ext.new hx1)
  have S0 := (hS.new (o := .own x) hdx).new (o := .ins (He.ga X.K c) dx []) hx1
  have nx : x ∉ ρ := fun z => by
    obtain ⟨o, q, _⟩ := hS.there x z
    rw [hx] at q
    cases q
  refine te_step (hE.mono e0.sta e0.pre) S0 (w.mono (fun _ _ z => z) fun _ _ z => ExW.up z e0) fun d μ1 y H1 ρ1 k e1 s1 r1 E1 => ?_
  have h1x : H1 x = some (.ins (He.ga X.K c) dx []) := e1.keep x _ upd_same nx (by intro _ z; cases z)
  have e01 := e0.trans e1
  have nx1 : x ∉ ρ1 := fun z => by
    rcases e1.fresh x z nx with q | ⟨ps, q⟩
    · rw [upd_same] at q; cases q
    · rw [upd_same] at q; cases q
  have sta : Sta H1 (upd H1 x (.ins (He.ga X.K c) dx [("row", y)])) := by
    have ne : ∀ {b o}, H1 b = some o → o ≠ .ins (He.ga X.K c) dx [] → b ≠ x := fun {b o} h n z => by
      rw [z, h1x] at h
      exact n (Option.some.inj h).symm
    exact ⟨fun b C dx v q => by rw [upd_ne (ne q (by intro z; cases z))]; exact q, fun b vs q => by rw [upd_ne (ne q (by intro z; cases z))]; exact q, fun b o u q => by rw [upd_ne (ne q (by intro z; cases z))]; exact q, fun b fs q => by rw [upd_ne (ne q (by intro z; cases z))]; exact q⟩
  have ne0 : ∀ {b o}, H0 b = some o → b ≠ x := fun {b o} h z => by rw [z, hx] at h; cases h
  have e3 : Ext ρ ρ1 H0 (upd H1 x (.ins (He.ga X.K c) dx [("row", y)])) := ⟨⟨fun b C dx v q => by rw [upd_ne (ne0 q)]; exact e01.sta.ins _ _ _ _ q, fun b vs q => by rw [upd_ne (ne0 q)]; exact e01.sta.tup _ _ q, fun b o u q => by rw [upd_ne (ne0 q)]; exact e01.sta.frz _ _ _ q, fun b fs q => by rw [upd_ne (ne0 q)]; exact e01.sta.xd _ _ q⟩,
    e01.pre, e01.fresh, fun b o q n t => by rw [upd_ne (ne0 q)]; exact e01.keep b o q n t⟩
  have s3 : StR X.K ρ1 (upd H1 x (.ins (He.ga X.K c) dx [("row", y)])) μ1 := s1.ext sta (fun a o ha q _ => by rw [upd_ne (fun z : a = x => nx1 (by rw [← z]; exact ha))]; exact q) (fun a ha => by
      obtain ⟨o, q, n⟩ := s1.there a ha
      exact ⟨o, by rw [upd_ne (fun z : a = x => nx1 (by rw [← z]; exact ha))]; exact q, n⟩) fun p hp => by
      obtain ⟨ps, t1, t2, t3⟩ := s1.tabs p hp
      refine ⟨ps, by rw [upd_ne (fun z => by rw [z, h1x] at t1; cases t1)]; exact t1, t2, fun pos cv hc => ?_⟩
      obtain ⟨c', q1, q2⟩ := t3 pos cv hc
      exact ⟨c', q1, by rw [upd_ne (fun z => by rw [z, h1x] at q2; unfold CodeO at q2; cases q2)]; exact q2⟩
  refine ⟨.ref x, h0, x, He.ga X.K c, dx, [], rfl, h1x, cf.cl, cf.na, by decide, ?_⟩
  exact k σ _ ρ1 e3 s3 ⟨x, dx, [y], y, rfl, rfl, ⟨y, [], rfl, Rep.mono sta (List.prefix_refl _) d y r1, rfl⟩, rfl, upd_same⟩
end
/-! ## A try whose body does not raise -/
inductive HsN (X : Cx) : List ExceptHandler → Prop
  | nil : HsN X []
  | cons {t : Expr} {cs : List Value} {nm : Option Str} {i : Option Nat} {b₀ : Stmt} {suite : List Stmt} {pos : Pos} {hds : List ExceptHandler} (ht : TestIs X t cs) (hn : NameFor X nm i) (r : HsN X hds) : HsN X (.ExceptHandler (some t) nm (b₀ :: suite) pos :: hds)
theorem HsN.ok {X : Cx} {hds : List ExceptHandler} (h : HsN X hds) : ∃ l, HsOk X hds l := by
  induction h with
  | nil => exact ⟨[], .nil⟩
  | cons ht hn r ih =>
    obtain ⟨l, hl⟩ := ih
    exact ⟨_, .cons (ts := fun _ _ _ => fun _ _ _ => False) ht hn (fun _ _ _ _ _ _ _ => ⟨fun _ _ _ _ _ _ h => h.elim⟩) hl⟩
def WSn (X : Cx) (D : Ends) (ρ : List Addr) (H : Hp) (r : Option SR) : Prop := (∀ x δ μ, r ≠ some (.exc x δ μ)) ∧ WS X D ρ H r
section
variable {X : Cx} {body : List Stmt} {h₀ : ExceptHandler} {hds : List ExceptHandler} {pos : Pos} {m : Env → Mu → Option SR}
theorem gs_tryn (hs : X.stack = X.env :: X.outer) (hf : X.env.frame = some X.env.locals) (hN : X.N.Nodup) (hh : HsN X (h₀ :: hds))
    (hb : ∀ (pn : List (Addr × Obj)) (xe : Value → Shared → Prop), PassesOwn (model X.prog X.w) X.A X.env xe → GSs (X.tr pn xe) body m) :
    GS X (.Try body (h₀ :: hds) [] [] pos) (fun δ μ => match m δ μ with | some (.exc _ _ _) => none | r => r) := by
  obtain ⟨l, hl⟩ := hh.ok
  refine PS_imp (ps_try_hs (tb := fun _ D σ H => ∃ δ μ ρ, EnvR X.K ρ H σ δ ∧ StR X.K ρ H μ ∧ WSn X D ρ H (m δ μ)) hs hf hN takesAll (fun W pn xe _ ho => PSs_imp (hb pn xe ho) fun D σ H h => ?_) hl) fun D σ H h => ?_
  · obtain ⟨δ, μ, ρ, hE, hS, hn, h⟩ := h
    refine ⟨δ, μ, ρ, hE, hS, ?_⟩
    cases e : m δ μ with
    | none => rw [e] at h; exact h
    | some r =>
      rw [e] at h hn
      cases r with
      | exc x δ' μ' => exact absurd rfl (hn x δ' μ')
      | fin o δ' μ' => cases o <;> exact h
  · obtain ⟨δ, μ, ρ, hE, hS, h⟩ := h
    refine ⟨δ, μ, ρ, hE, hS, ?_⟩
    dsimp only at h
    generalize m δ μ = r at h ⊢
    cases r with
    | none => exact (show False from h).elim
    | some r =>
      cases r with
      | exc x δ' μ' => exact (show False from h).elim
      | fin o δ' μ' => exact ⟨fun _ _ _ z => (nomatch z), h⟩
end
end Ev

namespace Ev
open L2 PyProof.Rows PySem.Spec PySem

/-! ## The look at a text beside its term -/
structure Inf where
  N : List Str
  sc : Scope
  fn : Str → Bool
  lm : Bool := false
  tp : Bool := false
  sr : Bool := false
def plain : Expr → Bool
  | .Starred _ _ => false
  | _ => true
def noIf : Expr → Bool
  | .IfExp _ _ _ _ => false
  | _ => true
def noSet : Expr → Bool
  | .Set _ _ _ => false
  | _ => true
def noComp : Expr → Bool
  | .ListComp _ _ _ _ => false
  | .SetComp _ _ _ _ => false
  | .DictComp _ _ _ _ _ => false
  | _ => true
def isName : Expr → Bool
  | .Name _ _ => true
  | _ => false
def isNil {α : Type} : List α → Bool
  | [] => true
  | _ => false
def visB (sc : Scope) (x : Str) : Bool := match sc.names.lookup x with
  | some .local => true
  | some .cell => true
  | some .free => true
  | _ => false
def locB (sc : Scope) (x : Str) : Bool := match sc.names.lookup x with
  | some .local => true
  | some .cell => true
  | _ => false
def lclB (sc : Scope) (x : Str) : Bool := match sc.names.lookup x with
  | some .local => true
  | _ => false
def gloB (sc : Scope) (x : Str) : Bool := match sc.names.lookup x with
  | some .globalImplicit => true
  | _ => false
def litB : D → Expr → Bool
  | .int i, .Constant (.int j) _ _ => i == j
  | .non, .Constant .none _ _ => true
  | .bl b, .Constant (.bool c) _ _ => b == c
  | .str x, .Constant (.str y) _ _ => x == y
  | _, _ => false
def bopB : Bop → Operator → Bool
  | .add, .Add => true
  | .sub, .Sub => true
  | .mul, .Mult => true
  | .fdiv, .FloorDiv => true
  | .mod, .Mod => true
  | .pow, .Pow => true
  | _, _ => false
def copB : Cop → CmpOp → Bool
  | .lt, .Lt => true
  | .le, .LtE => true
  | .gt, .Gt => true
  | .ge, .GtE => true
  | .eq, .Eq => true
  | .ne, .NotEq => true
  | .is, .Is => true
  | .isnot, .IsNot => true
  | .inn, .In => true
  | .notin, .NotIn => true
  | _, _ => false
def biN : Bi → Str
  | .len => "len"
  | .abs => "abs"
  | .list _ => "list"
  | .tuple => "tuple"
  | .sum => "sum"
  | .all => "all"
  | .any => "any"
  | .min => "min"
  | .max => "max"
  | .int => "int"
  | .sorted => "sorted"
def tyB (t : String) (x : Str) : Bool := (t == "int" && x == "int") || (t == "bool" && x == "bool") || (t == "str" && x == "str") || (t == "list" && x == "list") || (t == "tuple" && x == "tuple")
def fits (P : Pg) (f : Str) (k : Nat) : Bool := match P.fns f with
  | some fn => Nat.ble k (fn.np - fn.kws.length) && Nat.ble (fn.np - k) fn.dfl.length && !fn.self && fn.own.isNone
  | none => false
def kfits (P : Pg) (f : Str) (k : Nat) (kn : Str) : Bool := match P.fns f with
  | some fn => decide (fn.kws = [kn]) && Nat.beq fn.np (k + 1) && !fn.self && fn.own.isNone
  | none => false
def mkfits (P : Pg) (f c : Str) (k : Nat) : Bool := match P.fns f with
  | some fn => fn.self && decide (fn.own = some (c, ("__init__" : Str))) && Nat.beq fn.np (k + 1)
  | none => false
def mfits (P : Pg) (f c m : Str) (k : Nat) : Bool := match P.fns f with
  | some fn => Nat.ble k (fn.np - fn.kws.length) && Nat.ble (fn.np - k) fn.dfl.length && !fn.self && decide (fn.own = some (c, m))
  | none => false
def mkwfits (P : Pg) (f c m : Str) (k : Nat) (kn : Str) : Bool := match P.fns f with
  | some fn => decide (fn.kws = [kn]) && Nat.beq fn.np (k + 1) && !fn.self && decide (fn.own = some (c, m))
  | none => false
def efits (P : Pg) (f c : Str) : Bool := match P.fns f with
  | some fn => isNil fn.kws && isNil fn.dfl && Nat.beq fn.np 2 && !fn.self && decide (fn.own = some (c, ("__eq__" : Str)))
  | none => false
def baseOk : Expr → Bool
  | .Name _ _ => true
  | .Subscript _ _ _ => true
  | .Call (.Attribute _ _ _) _ _ _ => true
  | .Call (.Name _ _) (_ :: _) _ _ => true
  | _ => false
def noPar : Arguments → Bool
  | ⟨[], [], none, [], [], none, []⟩ => true
  | _ => false
mutual
def ckT : Tg → Inf → Expr → Bool
  | .one i, I, e => match e with
    | .Name x _ => decide (I.N[i]? = some x) && locB I.sc x && (I.fn x || lclB I.sc x)
    | _ => false
  | .tup ts, I, e => match e with
    | .Tuple es _ _ => ckTL ts I es
    | _ => false
def ckTL : TgL → Inf → List Expr → Bool
  | .nil, _, es => isNil es
  | .cons t ts, I, es => match es with
    | e :: es => plain e && ckT t I e && ckTL ts I es
    | [] => false
end
def ownOf (I : Inf) : List Nat → List (Str × Nat)
  | [] => []
  | i :: is => ((I.N[i]?).getD "", i) :: ownOf I is
def blkI (I : Inf) (scope : Scope) : Inf := ⟨I.N, relS scope I.sc, fun x => scope.names.lookup x == some .cell, false, false, false⟩
def lamI (I : Inf) (scope : Scope) : Inf := ⟨I.N, scope, fun _ => false, false, false, false⟩
def isTup : Expr → Bool
  | .Tuple _ _ _ => true
  | _ => false
def condB : E → Bool
  | .lit (.bl true) => true
  | _ => false
section
variable (P : Pg)
mutual
def ckE : E → Inf → Expr → Bool
  | .lit d, _, e => litB d e
  | .var i, I, e => match e with
    | .Name x _ => decide (I.N[i]? = some x) && visB I.sc x && !(x == ("__debug__" : Str)) && !(x == ("__classdict__" : Str))
    | _ => false
  | .con y, I, e => match e with
    | .Name x _ => decide (x = y) && gloB I.sc x && !(x == ("__debug__" : Str)) && (P.gc x).isSome
    | _ => false
  | .bin o a b, I, e => match e with
    | .BinOp x op y _ => bopB o op && ckE a I x && ckE b I y
    | _ => false
  | .neg a, I, e => match e with
    | .UnaryOp .USub x _ => ckE a I x
    | _ => false
  | .cmp o a b, I, e => match e with
    | .Compare x [op] [y] _ => copB o op && ckE a I x && ckE b I y && !behindInMarks op y
    | _ => false
  | .cmp2 o p a b c, I, e => match e with
    | .Compare x [op, op'] [y, z] _ => copB o op && copB p op' && ckE a I x && ckE b I y && ckE c I z && !lastMarks [op, op'] [y, z]
    | _ => false
  | .and a b, I, e => match e with
    | .BoolOp .And (x :: y :: r) pos => ckE a I x && noIf x && (match r with
      | [] => ckE b I y && noIf y
      | z :: r => ckE b I (.BoolOp .And (y :: z :: r) pos))
    | _ => false
  | .or a b, I, e => match e with
    | .BoolOp .Or (x :: y :: r) pos => ckE a I x && noIf x && (match r with
      | [] => ckE b I y && noIf y
      | z :: r => ckE b I (.BoolOp .Or (y :: z :: r) pos))
    | _ => false
  | .not a, I, e => match e with
    | .UnaryOp .Not x _ => ckE a I x && noIf x
    | _ => false
  | .ite c a b, I, e => match e with
    | .IfExp x y z _ => ckE c I x && noIf x && ckE a I y && ckE b I z
    | _ => false
  | .tup es, I, e => match e with
    | .Tuple xs _ _ => ckL es I xs
    | _ => false
  | .lst _ es, I, e => match e with
    | .List xs _ => ckL es I xs
    | _ => false
  | .ix a i, I, e => match e with
    | .Subscript x y _ => notSlice y && ckE a I x && ckE i I y
    | _ => false
  | .slc a l h, I, e => match e with
    | .Subscript x (.Slice lo hi none _) _ => ckE a I x && ckO l I lo && ckO h I hi
    | _ => false
  | .call f es, I, e => match e with
    | .Call (.Name x _) (y :: ys) [] _ => decide (x = f) && gloB I.sc x && !(x == ("__debug__" : Str)) && fits P f (ys.length + 1) && ckL es I (y :: ys)
    | _ => false
  | .bi f es, I, e => match e with
    | .Call (.Name x _) (y :: ys) [] _ => decide (x = biN f) && gloB I.sc x && P.fr.contains x && ckL es I (y :: ys)
    | _ => false
  | .isi a t, I, e => match e with
    | .Call (.Name x _) [y, .Name z _] [] _ => decide (x = "isinstance") && gloB I.sc x && P.fr.contains x && plain y && ckE a I y && tyB t z && gloB I.sc z && P.fr.contains z
    | _ => false
  | .app a b, I, e => match e with
    | .Call (.Attribute x m apos) [y] [] pos => decide (m = "append") && isName x && plain y && Nat.beq apos.endLine pos.line && ckE a I x && ckE b I y
    | _ => false
  | .ext a b, I, e => match e with
    | .Call (.Attribute x m apos) [y] [] pos => decide (m = "extend") && isName x && plain y && Nat.beq apos.endLine pos.line && ckE a I x && ckE b I y
    | _ => false
  | .frz _, _, _ => false
  | .comp _ it tg own c a, I, e => match e with
    | .ListComp x [⟨t, i, fs, 0⟩] scope _ => blkC I.N I.sc scope (ownOf I own) && (slots tg).all (fun i => own.contains i) && ckI it I t i && ckT tg (blkI I scope) t && noSet i && ckE a (blkI I scope) x && (match fs with
      | [] => condB c
      | [f] => ckE c (blkI I scope) f && noIf f
      | _ => false)
    | _ => false
  | .outc b, I, e => match e with
    | .Call (.Name x _) [.Lambda params body scope _] [] _ => I.lm && decide (x = "_law_outcome") && gloB I.sc x && LamX.lamSB I.sc scope && noPar params && ckE b (lamI I scope) body
    | _ => false
  | .err b, I, e => match e with
    | .Call (.Name x _) [.Lambda params body scope _] [] _ => I.lm && P.err && decide (x = "_law_error") && gloB I.sc x && LamX.lamSB I.sc scope && noPar params && ckE b (lamI I scope) body
    | _ => false
  | .callk f es k v, I, e => match e with
    | .Call (.Name x _) (y :: ys) [⟨some k', w, _⟩] _ => decide (x = f) && gloB I.sc x && !(x == ("__debug__" : Str)) && decide (k' = k) && kfits P f (ys.length + 1) k && ckL es I (y :: ys) && ckE v I w
    | _ => false
  | .ins a i b, I, e => match e with
    | .Call (.Attribute x m apos) [y, z] [] pos => decide (m = "insert") && isName x && plain y && plain z && Nat.beq apos.endLine pos.line && ckE a I x && ckE i I y && ckE b I z
    | _ => false
  | .dnew, _, e => match e with
    | .Dict [] [] _ => true
    | _ => false
  | .dget a i, I, e => match e with
    | .Subscript x y _ => notSlice y && ckE a I x && ckE i I y
    | _ => false
  | .din neg i a, I, e => match e with
    | .Compare x [op] [y] _ => copB (if neg then .notin else .inn) op && ckE i I x && ckE a I y && !behindInMarks op y
    | _ => false
  | .sortk _ a i b, I, e => match e with
    | .Call (.Name x _) [y] [⟨some k, .Lambda params body scope _, _⟩] _ => I.sr && I.tp && decide (x = "sorted") && gloB I.sc x && P.fr.contains x && decide (k = "key") && plain y && (match I.N[i]? with
      | some v => lamS1B I.sc scope v && onePar v params
      | none => false) && ckE a I y && ckE b (lamI I scope) body
    | _ => false
  | .mk c f es, I, e => match e with
    | .Call (.Name x _) (y :: ys) [] _ => decide (x = c) && gloB I.sc x && !(x == ("__debug__" : Str)) && mkfits P f c (ys.length + 1) && ckL es I (y :: ys)
    | _ => false
  | .fld c a g, I, e => match e with
    | .Attribute x m _ => baseOk x && decide (m = "row") && decide (g = "row") && (P.cls c).isSome && ckE a I x
    | _ => false
  | .meth c m f a es, I, e => match e with
    | .Call (.Attribute x m' apos) ys [] pos => baseOk x && decide (m' = m) && !(m' == ("row" : Str)) && Nat.beq apos.endLine pos.line && Nat.ble ys.length 20 && mfits P f c m (ys.length + 1) && ckE a I x && ckL es I ys
    | _ => false
  | .methk c m f a es k v, I, e => match e with
    | .Call (.Attribute x m' apos) (y :: ys) [⟨some k', w, _⟩] pos => baseOk x && decide (m' = m) && !(m' == ("row" : Str)) && Nat.beq apos.endLine pos.line && Nat.ble ys.length 20 && decide (k' = k) && mkwfits P f c m (ys.length + 2) k && ckE a I x && ckL es I (y :: ys) && ckE v I w
    | _ => false
  | .oeq c f a b, I, e => match e with
    | .Compare x [.Eq] [y] _ => efits P f c && ckE a I x && ckE b I y && !behindInMarks .Eq y
    | _ => false
  | .isc a c, I, e => match e with
    | .Call (.Name x _) [y, .Name z _] [] _ => decide (x = "isinstance") && gloB I.sc x && P.fr.contains x && plain y && decide (z = c) && gloB I.sc z && !(z == ("__debug__" : Str)) && (P.cls c).isSome && ckE a I y
    | _ => false
  | .rcd _ _ _, _, _ => false
def ckO : OE → Inf → Option Expr → Bool
  | .no, _, e => e.isNone
  | .yes a, I, e => match e with
    | some x => ckE a I x
    | none => false
def ckL : EL → Inf → List Expr → Bool
  | .nil, _, es => isNil es
  | .cons a as, I, es => match es with
    | x :: xs => plain x && ckE a I x && ckL as I xs
    | [] => false
def ckI : IT → Inf → Expr → Expr → Bool
  | .seq a, I, _, e => ckE a I e
  | .rng1 a, I, _, e => match e with
    | .Call (.Name x _) [y] [] _ => decide (x = "range") && gloB I.sc x && P.fr.contains x && plain y && ckE a I y
    | _ => false
  | .rng2 a b, I, _, e => match e with
    | .Call (.Name x _) [y, z] [] _ => decide (x = "range") && gloB I.sc x && P.fr.contains x && plain y && plain z && ckE a I y && ckE b I z
    | _ => false
  | .zip a b, I, t, e => match e with
    | .Call (.Name x _) [y, z] [] _ => isTup t && decide (x = "zip") && gloB I.sc x && P.fr.contains x && plain y && plain z && ckE a I y && ckE b I z
    | _ => false
  | .enum a, I, t, e => match e with
    | .Call (.Name x _) [y] [] _ => isTup t && decide (x = "enumerate") && gloB I.sc x && P.fr.contains x && plain y && ckE a I y
    | _ => false
end
end
end Ev

namespace Ev
open L2 PyProof.Rows PySem.Spec PySem
variable [Tb]

/-! ## The look is right: expressions -/
def FnF (X : Cx) (n : Nat) (g : List D → M D) (x : Str) (fn : Fn) : Prop := ∃ f fd ps, FnOk X.prog X.w X.K X.mg X.base (L2N.CX X.prog X.w) (5 * n) f fd ps (SpD X.K X.mg fn.np g) ∧ X.mg x = some (.ref f) ∧ PySem.W.keepIn X.K (.ref f) = true ∧
  (∀ j, j + fn.kws.length ≤ fn.dfl.length → ∃ dvs ds, Vals dvs ds ∧ Binds X.K fd ps ds ∧ ∀ ρ H, RepL X.K ρ H (fn.dfl.drop j) dvs) ∧
  ∀ kn, fn.kws = [kn] → KBn X.K fd ps (fn.np - 1) [kn] (fun us ws => us ++ ws) (fun vs zs => vs ++ zs)
/-- what a def that makes lambdas has -/
def LamG (P : Pg) (n : Nat) (X : Cx) : Prop := ∃ c T, LamM X Tb.T c T ∧ Room (5 * n + 4) X.A ∧ ∃ D : OutD X.K X.mg, ErrsK X.K X.mg D ∧ (P.err = true → ∃ D2 : ErrD X.K X.mg, D2 = D2)
/-- a method -/
def MthF (X : Cx) (n : Nat) (g : List D → M D) (c m : Str) (fn : Fn) : Prop := ∃ f fd ps, FnOk X.prog X.w X.K X.mg X.base (L2N.CX X.prog X.w) (5 * n) f fd ps (SpD X.K X.mg fn.np g) ∧ Meth X.K (He.ga X.K c) m f ∧ ClsF X.K (He.ga X.K c) ∧
  (∀ j, j + fn.kws.length ≤ fn.dfl.length → ∃ dvs ds, Vals dvs ds ∧ Binds X.K fd ps ds ∧ ∀ ρ H, RepL X.K ρ H (fn.dfl.drop j) dvs) ∧
  ∀ kn, fn.kws = [kn] → KBn X.K fd ps (fn.np - 1) [kn] (fun us ws => us ++ ws) (fun vs zs => vs ++ zs)
/-- __init__ -/
def MakF (X : Cx) (n : Nat) (g : List D → M D) (c : Str) (fn : Fn) : Prop := ∃ f fd ps, FnOk X.prog X.w X.K X.mg X.base (L2N.CX X.prog X.w) (5 * n) f fd ps (SpMk X.K X.mg (He.ga X.K c) fn.np g) ∧ Mk X.K (He.ga X.K c) f ∧ X.mg c = some (.ref (He.ga X.K c)) ∧ Binds X.K fd ps []
structure GdE (P : Pg) (n : Nat) (cf : Str → List D → M D) (I : Inf) (X : Cx) : Prop where
  N : X.N = I.N
  nd : I.N.Nodup
  calm : X.calm = true
  room : Room (5 * n + 1) X.A
  sc : X.env.scope = I.sc
  knd : I.sc.kind = .function
  fn : ∀ x, I.fn x = true → X.fn x = true
  fns : ∀ x fn, P.fns x = some fn → fn.own = none → fn.self = false → FnF X n (cf x) x fn
  gc : ∀ x d, P.gc x = some d → ∃ u v, X.mg x = some u ∧ RelV v u ∧ ∀ ρ H, Rep X.K ρ H d v
  fr : ∀ x ∈ P.fr, X.mg x = none
  pad : ∀ x fn ds, P.fns x = some fn → fn.self = false → (pad fn ds).length = fn.np → cf x (pad fn ds) = cf x ds
  lam : I.lm = true → LamG P n X
  tw : Tb.w = X.w
  tp : I.tp = true → X.stack = X.env :: X.outer ∧ X.env.frame = some X.env.locals
  srt : I.sr = true → ∃ c T, LamM X Tb.T c T ∧ Room (5 * n + 4) X.A
  cls : ∀ c, (P.cls c).isSome = true → X.mg c = some (.ref (He.ga X.K c)) ∧ ClsF X.K (He.ga X.K c)
  mth : ∀ x fn c m, P.fns x = some fn → fn.own = some (c, m) → fn.self = false → MthF X n (cf x) c m fn
  mak : ∀ x fn c m, P.fns x = some fn → fn.own = some (c, m) → fn.self = true → MakF X n (cf x) c fn
section
variable {P : Pg} {n : Nat} {cf : Str → List D → M D} {I : Inf} {X : Cx} {x : Str} {e : Expr} {es : List Expr}
theorem GdE.gl (G : GdE P n cf I X) (h : gloB I.sc x = true) : Gl X x := by
  unfold gloB at h
  show X.env.scope.names.lookup x = _
  rw [G.sc]
  split at h
  · assumption
  · cases h
theorem GdE.vis (G : GdE P n cf I X) (h : visB I.sc x = true) : Vis X.env.scope x := by
  unfold visB at h
  rw [G.sc]
  split at h
  · exact .inl (by assumption)
  · exact .inr (.inl (by assumption))
  · exact .inr (.inr (by assumption))
  · cases h
theorem GdE.loc (G : GdE P n cf I X) (h : locB I.sc x = true) : Loc X.env.scope x := by
  unfold locB at h
  rw [G.sc]
  split at h
  · exact .inl (by assumption)
  · exact .inr (by assumption)
  · cases h
theorem GdE.lcl (G : GdE P n cf I X) (h : lclB I.sc x = true) : X.env.scope.names.lookup x = some .local := by
  unfold lclB at h
  rw [G.sc]
  split at h
  · assumption
  · cases h
theorem GdE.free (G : GdE P n cf I X) (h : P.fr.contains x = true) : X.mg x = none := G.fr x (by simpa using h)
theorem GdE.units (G : GdE P n cf I X) : X.A.units + 64 < cLine := G.room.units

theorem base_ok {o : Expr} {m : Str} {env : PySem.Env} (h : baseOk o = true) : attributeBase o m env (eval o env) = eval o env := by
  unfold baseOk at h
  split at h <;> first | rfl | cases h
theorem star_plain {env : PySem.Env} (h : plain e = true) : starEach (e :: es) env = (false, eval e env) :: starEach es env := by
  cases e <;> first | rfl | cases h
theorem any_plain {env : PySem.Env} {pos : Pos} : ∀ {es : List Expr}, es.all plain = true → (backTo pos (starEach es env)).any (·.1) = false
  | [], _ => rfl
  | e :: es, h => by
    rw [List.all_cons, Bool.and_eq_true] at h
    rw [star_plain h.1]
    show (false || _) = false
    rw [Bool.false_or]
    exact any_plain h.2
theorem form_plain {env : PySem.Env} {pos : Pos} {kw : List (Option Str × Sem Value)} (h : es.all plain = true) (hl : es.length ≤ 21) (hk : kw.all (·.1.isSome) = true) (hk2 : kw.length ≤ 1) : methodCallForm (es.length + kw.length) (backTo pos (starEach es env)) kw = true := by
  unfold methodCallForm
  have a := any_plain (env := env) (pos := pos) h
  rw [List.any_eq_false] at a
  rw [Bool.and_eq_true, Bool.and_eq_true, hk]
  refine ⟨⟨List.all_eq_true.mpr fun x hx => by simpa using a x hx, rfl⟩, decide_eq_true ?_⟩
  split <;> omega
theorem ge_of {m m' : Env → M D} (h : GE X e m) (q : m = m') : GE X e m' := q ▸ h
theorem od_any {o : Bop} {op : Operator} (h : bopB o op = true) : OpD X (binaryOp op) (bopD o) := by
  cases o <;> cases op <;> first | cases h | skip
  · exact od_add
  · exact od_sub
  · exact od_mul
  · exact od_fdiv
  · exact od_mod
  · exact od_pow
theorem cd_any {o : Cop} {op : CmpOp} (hu : X.A.units + 64 < cLine) (h : copB o op = true) : OpD X (compareOp op) (copD o) := by
  cases o <;> cases op <;> first | cases h | skip
  · exact cd_lt
  · exact cd_le
  · exact cd_gt
  · exact cd_ge
  · exact cd_eq hu
  · exact cd_ne hu
  · exact cd_is
  · exact cd_isnot
  · exact cd_in hu false
  · exact cd_in hu true
theorem ge_litB {d : D} (h : litB d e = true) : GE X e (fun _ => ret d) := by
  unfold litB at h
  split at h
  · rw [beq_iff_eq] at h
    subst h
    exact ge_lit pe_int fun K ρ H => rfl
  · exact ge_lit pe_non fun K ρ H => rfl
  · rw [beq_iff_eq] at h
    subst h
    exact ge_lit pe_bl fun K ρ H => rfl
  · rw [beq_iff_eq] at h
    subst h
    exact ge_lit pe_str fun K ρ H => rfl
  · cases h
theorem bi_any {f : Bi} {b : Expr} {p pos : Pos} {ml : Env → M (List D)} (G : GdE P n cf I X) (hg : Gl X (biN f)) (hm : X.mg (biN f) = none) (ha : GA X (e :: es) ml)
    (he : starEach (e :: es) X.env = (false, eval e X.env) :: starEach es X.env) (hpl : (backTo pos (starEach es X.env)).any (·.1) = false) : GE X (.Call (.Name (biN f) p) (e :: es) [] pos) (fun δ => bnd (ml δ) fun ds => biOp f ds) := by
  have hc := G.calm
  cases f with
  | len => exact ge_callB cb_len hg hm (by decide +kernel) ha (by decide +kernel) (by decide +kernel) he hpl
  | abs => exact ge_callB cb_abs hg hm (by decide +kernel) ha (by decide +kernel) (by decide +kernel) he hpl
  | list m => exact ge_callTy (x := "list") (cb_list m) hg hm (by decide +kernel) ha (by decide +kernel) (by decide +kernel) he hpl
  | tuple => exact ge_callTy cb_tuple hg hm (by decide +kernel) ha (by decide +kernel) (by decide +kernel) he hpl
  | sum => exact ge_callB (cb_sum hc) hg hm (by decide +kernel) ha (by decide +kernel) (by decide +kernel) he hpl
  | all => exact ge_callB (cb_all hc) hg hm (by decide +kernel) ha (by decide +kernel) (by decide +kernel) he hpl
  | any => exact ge_callB (cb_any hc) hg hm (by decide +kernel) ha (by decide +kernel) (by decide +kernel) he hpl
  | min => exact ge_callB (cb_min hc) hg hm (by decide +kernel) ha (by decide +kernel) (by decide +kernel) he hpl
  | max => exact ge_callB (cb_max hc) hg hm (by decide +kernel) ha (by decide +kernel) (by decide +kernel) he hpl
  | sorted => exact ge_callB cb_sorted hg hm (by decide +kernel) ha (by decide +kernel) (by decide +kernel) he hpl
  | int => exact ge_callTy cb_int hg hm (by decide +kernel) ha (by decide +kernel) (by decide +kernel) he hpl
theorem ty_any {t : String} {p : Pos} (h : tyB t x = true) (hg : Gl X x) (hm : X.mg x = none) : GE X (.Name x p) (fun _ => ret (D.ty t)) := by
  unfold tyB at h
  simp only [Bool.or_eq_true, Bool.and_eq_true, beq_iff_eq] at h
  rcases h with (((⟨rfl, rfl⟩ | ⟨rfl, rfl⟩) | ⟨rfl, rfl⟩) | ⟨rfl, rfl⟩) | ⟨rfl, rfl⟩
  all_goals exact ge_lit (v := .ty _) (pe_bltn hg hm (u := .type _) (by decide +kernel) rfl (by decide +kernel) (by decide +kernel)) fun K ρ H => rfl
theorem con_any {p : Pos} {d : D} (G : GdE P n cf I X) (hg : Gl X x) (hd : (x == ("__debug__" : Str)) = false) (h : P.gc x = some d) : GE X (.Name x p) (fun _ => lft (P.gc x)) := by
  obtain ⟨u, v, h1, h2, h3⟩ := G.gc x d h
  refine PE_imp (pe_glob hg h1 h2 hd) fun σ H Q q => ?_
  obtain ⟨δ, μ, ρ, hE, hS, q⟩ := q
  obtain ⟨d', hd', q⟩ := q.lft
  rw [h] at hd'
  cases hd'
  exact q v H ρ (Ext.refl ρ H) hS (h3 ρ H)
end
def EL.len : EL → Nat
  | .nil => 0
  | .cons _ es => es.len + 1
section
variable (cf : Str → List D → M D) (gc : Str → Option D)
theorem evL_len : ∀ (es : EL) (δ : Env) (μ : Mu) (as : List D) (μ' : Mu), evL cf gc es δ μ = some (.ok as, μ') → as.length = es.len
  | .nil, δ, μ, as, μ', h => by
    unfold evL ret at h
    cases h
    rfl
  | .cons e es, δ, μ, as, μ', h => by
    unfold evL bnd at h
    cases h1 : evE cf gc e δ μ with
    | none => simp only [h1] at h; cases h
    | some q =>
      obtain ⟨r, μ1⟩ := q
      cases r with
      | ex x => simp only [h1] at h; cases h
      | ok a =>
        simp only [h1, bnd] at h
        cases h2 : evL cf gc es δ μ1 with
        | none => simp only [h2] at h; cases h
        | some q =>
          obtain ⟨r, μ2⟩ := q
          cases r with
          | ex x => simp only [h2] at h; cases h
          | ok bs =>
            simp only [h2, ret] at h
            cases h
            have := evL_len es δ μ1 bs _ h2
            show bs.length + 1 = es.len + 1
            rw [this]
end
theorem ckL_len {P : Pg} : ∀ {es : EL} {I : Inf} {xs : List Expr}, ckL P es I xs = true → es.len = xs.length ∧ xs.all plain = true
  | .nil, I, xs, h => by
    cases xs with
    | nil => exact ⟨rfl, rfl⟩
    | cons _ _ => cases h
  | .cons e es, I, xs, h => by
    cases xs with
    | nil => unfold ckL at h; cases h
    | cons x xs =>
      unfold ckL at h
      simp only [Bool.and_eq_true] at h
      obtain ⟨h1, h2⟩ := ckL_len h.2
      refine ⟨congrArg Nat.succ h1, ?_⟩
      rw [List.all_cons, h.1.1, h2]
      rfl
mutual
theorem sndT {P : Pg} {n : Nat} {cf : Str → List D → M D} : ∀ (t : Tg) {I : Inf} {X : Cx} {e : Expr}, GdE P n cf I X → ckT t I e = true → PG X e (gD X t)
  | .one i, I, X, e, G, h => by
    unfold ckT at h
    split at h
    · simp only [Bool.and_eq_true, Bool.or_eq_true, decide_eq_true_eq] at h
      obtain ⟨⟨h1, h2⟩, h3⟩ := h
      exact gg_name (by rw [G.N]; exact G.nd) (by rw [G.N]; exact h1) (G.loc h2) (h3.imp (G.fn _) G.lcl)
    · cases h
  | .tup ts, I, X, e, G, h => by
    unfold ckT at h
    split at h
    · obtain ⟨q, l, s⟩ := sndTL ts G h
      exact gg_tup G.calm q l s
    · cases h
theorem sndTL {P : Pg} {n : Nat} {cf : Str → List D → M D} : ∀ (ts : TgL) {I : Inf} {X : Cx} {es : List Expr}, GdE P n cf I X → ckTL ts I es = true → PGs X es (gDL X ts) ∧ (assignEach es X.env).length = ts.len ∧ (assignEach es X.env).findIdx? (·.1) = none
  | .nil, I, X, es, G, h => by
    cases es with
    | nil => exact ⟨gg_nil, rfl, rfl⟩
    | cons _ _ => cases h
  | .cons t ts, I, X, es, G, h => by
    cases es with
    | nil => unfold ckTL at h; cases h
    | cons e es =>
      unfold ckTL at h
      simp only [Bool.and_eq_true] at h
      obtain ⟨⟨h1, h2⟩, h3⟩ := h
      have a := sndT t G h2
      obtain ⟨b, l, s⟩ := sndTL ts G h3
      have hs : assignEach (e :: es) X.env = (false, assign e X.env) :: assignEach es X.env := by cases e <;> first | rfl | cases h1
      refine ⟨gg_cons a b hs, by rw [hs]; exact congrArg Nat.succ l, ?_⟩
      rw [hs, List.findIdx?_cons]
      simp [s]
end
end Ev

namespace Ev
open L2 PyProof.Rows PySem.Spec PySem
variable [Tb]

theorem GdE.blk {P : Pg} {n : Nat} {cf : Str → List D → M D} {I : Inf} {X : Cx} (G : GdE P n cf I X) {scope : Scope} (hk : scope.kind = .function) (s : Shared) (H : Hp) (C : Addr) (cl : List (Str × Addr)) (fp : List Addr) :
    GdE P n cf (blkI I scope) (X.blk s H scope (compEnvC scope cl C X.env) fp) where
  N := G.N
  nd := G.nd
  calm := G.calm
  room := G.room
  sc := by
    show relS scope X.env.scope = relS scope I.sc
    rw [G.sc]
  knd := hk
  fn := fun _ h => h
  fns := G.fns
  gc := G.gc
  fr := G.fr
  pad := G.pad
  lam := fun h => nomatch h
  tw := G.tw
  tp := fun h => nomatch h
  srt := fun h => nomatch h
  cls := G.cls
  mth := G.mth
  mak := G.mak
/-- a lambda's body -/
theorem GdE.lamb {P : Pg} {n : Nat} {cf : Str → List D → M D} {I : Inf} {X : Cx} (G : GdE P n cf I X) {scope : Scope} (L : scope.kind = .function) (A : Around) (outer : List PySem.Env) (s : Shared) (H : Hp) (E : XK) (f c' : Addr) (r : Room (5 * n + 1) (A.deeper (LamX.lamEnv X scope s.heap.objs.size f c'))) :
    GdE P n cf (lamI I scope) (lamY X A outer s H E scope f c') where
  N := G.N
  nd := G.nd
  calm := rfl
  room := r
  sc := rfl
  knd := L
  fn := fun _ h => nomatch h
  fns := G.fns
  gc := G.gc
  fr := G.fr
  pad := G.pad
  lam := fun h => nomatch h
  tw := G.tw
  tp := fun h => nomatch h
  srt := fun h => nomatch h
  cls := G.cls
  mth := G.mth
  mak := G.mak
theorem noPar_eq {p : Arguments} (h : noPar p = true) : p = ⟨[], [], none, [], [], none, []⟩ := by
  unfold noPar at h
  split at h
  · rfl
  · cases h
/-- what the look gives of an expression -/
structure SE (X : Cx) (e : Expr) (m : Env → M D) : Prop where
  ge : GE X e m
  gt : noIf e = true → GT X e (bT m)
  gw : ∀ op vs pos, e = .BoolOp op vs pos → GW X e (bT m)
theorem SE.val {X : Cx} {e : Expr} {m : Env → M D} (h : GE X e m) (he : ∀ whole, isTrue e X.env whole = (do let v ← whole; standAt e.pos; holding [v] (truthy v))) (hb : ∀ op vs pos, e ≠ .BoolOp op vs pos) : SE X e m :=
  ⟨h, fun _ => gt_val h he, fun op vs pos q => absurd q (hb op vs pos)⟩
theorem asInt_idem (m : M D) : (bnd (bnd m fun x => lft ((asInt x).map D.int)) fun x => lft ((asInt x).map D.int)) = bnd m fun x => lft ((asInt x).map D.int) := by
  funext μ
  unfold bnd
  cases m μ with
  | none => rfl
  | some q =>
    obtain ⟨r, μ1⟩ := q
    cases r with
    | ex x => rfl
    | ok a => cases a <;> rfl
theorem condB_eq {c : E} (h : condB c = true) : c = .lit (.bl true) := by
  unfold condB at h
  split at h
  · rfl
  · cases h
theorem ownOf_snd (I : Inf) : ∀ is : List Nat, (ownOf I is).map (·.2) = is
  | [] => rfl
  | i :: is => by
    show i :: (ownOf I is).map (·.2) = i :: is
    rw [ownOf_snd I is]
section
variable (P : Pg) {n : Nat} {cf : Str → List D → M D}
mutual
theorem sndE : ∀ (t : E) {I : Inf} {X : Cx} {e : Expr}, GdE P n cf I X → ckE P t I e = true → SE X e (evE cf P.gc t)
  | .lit d, I, X, e, G, h => by
    unfold ckE at h
    have q := ge_litB (X := X) h
    unfold litB at h
    split at h <;> first | exact .val q (fun _ => rfl) (fun _ _ _ z => nomatch z) | cases h
  | .var i, I, X, e, G, h => by
    unfold ckE at h
    split at h
    · simp only [Bool.and_eq_true, decide_eq_true_eq, Bool.not_eq_true'] at h
      obtain ⟨⟨⟨h1, h2⟩, h3⟩, h4⟩ := h
      exact .val (ge_var (by rw [G.N]; exact h1) (G.vis h2) h3 h4) (fun _ => rfl) (fun _ _ _ z => nomatch z)
    · cases h
  | .con y, I, X, e, G, h => by
    unfold ckE at h
    split at h
    · simp only [Bool.and_eq_true, decide_eq_true_eq, Bool.not_eq_true'] at h
      obtain ⟨⟨⟨rfl, h2⟩, h3⟩, h4⟩ := h
      obtain ⟨d, h4⟩ := Option.isSome_iff_exists.mp h4
      exact .val (con_any G (G.gl h2) h3 h4) (fun _ => rfl) (fun _ _ _ z => nomatch z)
    · cases h
  | .bin o a b, I, X, e, G, h => by
    unfold ckE at h
    split at h
    · simp only [Bool.and_eq_true] at h
      obtain ⟨⟨h1, h2⟩, h3⟩ := h
      exact .val (ge_bin (od_any h1) (sndE a G h2).ge (sndE b G h3).ge) (fun _ => rfl) (fun _ _ _ z => nomatch z)
    · cases h
  | .neg a, I, X, e, G, h => by
    unfold ckE at h
    split at h
    · exact .val (ge_neg (sndE a G h).ge) (fun _ => rfl) (fun _ _ _ z => nomatch z)
    · cases h
  | .cmp o a b, I, X, e, G, h => by
    unfold ckE at h
    split at h
    · simp only [Bool.and_eq_true, Bool.not_eq_true'] at h
      obtain ⟨⟨⟨h1, h2⟩, h3⟩, h4⟩ := h
      have q := cd_any G.units h1
      exact ⟨ge_cmp q (sndE a G h2).ge (sndE b G h3).ge h4, fun _ => gt_cmp q (sndE a G h2).ge (sndE b G h3).ge h4, fun _ _ _ z => nomatch z⟩
    · cases h
  | .cmp2 o p a b c, I, X, e, G, h => by
    unfold ckE at h
    split at h
    · simp only [Bool.and_eq_true, Bool.not_eq_true'] at h
      obtain ⟨⟨⟨⟨⟨h1, h2⟩, h3⟩, h4⟩, h5⟩, h6⟩ := h
      have q := cd_any G.units h1
      have q' := cd_any G.units h2
      exact ⟨ge_cmp2 q q' (sndE a G h3).ge (sndE b G h4).ge (sndE c G h5).ge h6, fun _ => gt_cmp2 q q' (sndE a G h3).ge (sndE b G h4).ge (sndE c G h5).ge h6, fun _ _ _ z => nomatch z⟩
    · cases h
  | .and a b, I, X, e, G, h => by
    unfold ckE at h
    split at h
    · rename_i x y r pos
      simp only [Bool.and_eq_true] at h
      obtain ⟨⟨h1, h2⟩, h3⟩ := h
      have A := sndE a G h1
      cases r with
      | nil =>
        simp only [Bool.and_eq_true] at h3
        have B := sndE b G h3.1
        have w := gw_and (pos := pos) (A.gt h2) (gw_and1 (B.gt h3.2))
        exact ⟨ge_and A.ge (ge_one B.ge), fun _ => PW.pt w, fun _ _ _ _ => w⟩
      | cons z r =>
        have B := sndE b G h3
        have w := gw_and (pos := pos) (A.gt h2) (B.gw _ _ _ rfl)
        exact ⟨ge_and A.ge B.ge, fun _ => PW.pt w, fun _ _ _ _ => w⟩
    · cases h
  | .or a b, I, X, e, G, h => by
    unfold ckE at h
    split at h
    · rename_i x y r pos
      simp only [Bool.and_eq_true] at h
      obtain ⟨⟨h1, h2⟩, h3⟩ := h
      have A := sndE a G h1
      cases r with
      | nil =>
        simp only [Bool.and_eq_true] at h3
        have B := sndE b G h3.1
        have w := gw_or (pos := pos) (A.gt h2) (gw_or1 (B.gt h3.2))
        exact ⟨ge_or A.ge (ge_one B.ge), fun _ => PW.pt w, fun _ _ _ _ => w⟩
      | cons z r =>
        have B := sndE b G h3
        have w := gw_or (pos := pos) (A.gt h2) (B.gw _ _ _ rfl)
        exact ⟨ge_or A.ge B.ge, fun _ => PW.pt w, fun _ _ _ _ => w⟩
    · cases h
  | .not a, I, X, e, G, h => by
    unfold ckE at h
    split at h
    · simp only [Bool.and_eq_true] at h
      have A := sndE a G h.1
      exact ⟨ge_not A.ge, fun _ => gt_not (A.gt h.2), fun _ _ _ z => nomatch z⟩
    · cases h
  | .ite c a b, I, X, e, G, h => by
    unfold ckE at h
    split at h
    · simp only [Bool.and_eq_true] at h
      obtain ⟨⟨⟨h1, h2⟩, h3⟩, h4⟩ := h
      exact ⟨ge_ite ((sndE c G h1).gt h2) (sndE a G h3).ge (sndE b G h4).ge, fun z => (nomatch z), fun _ _ _ z => (nomatch z)⟩
    · cases h
  | .tup es, I, X, e, G, h => by
    unfold ckE at h
    split at h
    · exact .val (ge_tup (sndL es G h)) (fun _ => rfl) (fun _ _ _ z => nomatch z)
    · cases h
  | .lst m es, I, X, e, G, h => by
    unfold ckE at h
    split at h
    · exact .val (ge_lst m (sndL es G h)) (fun _ => rfl) (fun _ _ _ z => nomatch z)
    · cases h
  | .ix a i, I, X, e, G, h => by
    unfold ckE at h
    split at h
    · simp only [Bool.and_eq_true] at h
      obtain ⟨⟨h1, h2⟩, h3⟩ := h
      exact .val (ge_ix (sndE a G h2).ge (sndE i G h3).ge h1) (fun _ => rfl) (fun _ _ _ z => nomatch z)
    · cases h
  | .slc a l u, I, X, e, G, h => by
    unfold ckE at h
    split at h
    · simp only [Bool.and_eq_true] at h
      obtain ⟨⟨h1, h2⟩, h3⟩ := h
      exact .val (ge_slc (sndE a G h1).ge (sndO l G h2) (sndO u G h3)) (fun _ => rfl) (fun _ _ _ z => nomatch z)
    · cases h
  | .call f es, I, X, e, G, h => by
    unfold ckE at h
    split at h
    · rename_i x p y ys pos
      simp only [Bool.and_eq_true, decide_eq_true_eq, Bool.not_eq_true'] at h
      obtain ⟨⟨⟨⟨rfl, h2⟩, h3⟩, h4⟩, h5⟩ := h
      obtain ⟨hl, hp⟩ := ckL_len h5
      rw [List.all_cons, Bool.and_eq_true] at hp
      unfold fits at h4
      cases hf : P.fns x with
      | none => rw [hf] at h4; cases h4
      | some fn =>
        rw [hf] at h4
        simp only [Bool.and_eq_true, Bool.not_eq_true'] at h4
        have k1 := Nat.le_of_ble_eq_true h4.1.1.1
        have k2 := Nat.le_of_ble_eq_true h4.1.1.2
        have k3 := h4.1.2
        obtain ⟨f, fd, ps, F, hm, hk, hd, _⟩ := G.fns x fn hf (by simpa using h4.2) h4.1.2
        obtain ⟨dvs, ds, d1, d2, d3⟩ := hd (fn.dfl.length - (fn.np - (ys.length + 1))) (by omega)
        have hlen : ∀ δ μ as μ', evL cf P.gc es δ μ = some (.ok as, μ') → as.length = ys.length + 1 := fun δ μ as μ' q => (evL_len cf P.gc es δ μ as μ' q).trans hl
        have hpd : ∀ δ μ as μ', evL cf P.gc es δ μ = some (.ok as, μ') → as ++ fn.dfl.drop (fn.dfl.length - (fn.np - (ys.length + 1))) = Ev.pad fn as ∧ (Ev.pad fn as).length = fn.np := fun δ μ as μ' q => by
          have := hlen δ μ as μ' q
          unfold Ev.pad
          rw [this]
          refine ⟨rfl, ?_⟩
          rw [List.length_append, List.length_drop, this]
          omega
        have A := ge_call (pos := pos) (p := p) F (G.room.mono (by omega)) (G.gl h2) hm hk d2 d1 d3 (fun δ μ as μ' q => by
          obtain ⟨q1, q2⟩ := hpd δ μ as μ' q
          have q3 := congrArg List.length q1
          rw [List.length_append, q2] at q3
          exact q3) (sndL es G h5) h3 (star_plain hp.1) (any_plain hp.2)
        refine .val (ge_of A ?_) (fun _ => rfl) (fun _ _ _ z => nomatch z)
        funext δ μ
        show bnd _ _ μ = bnd _ _ μ
        unfold bnd
        cases he : evL cf P.gc es δ μ with
        | none => rfl
        | some q =>
          obtain ⟨r, μ1⟩ := q
          cases r with
          | ex x => rfl
          | ok as =>
            obtain ⟨q1, q2⟩ := hpd δ μ as μ1 he
            show cf x (as ++ _) μ1 = cf x as μ1
            rw [q1, G.pad x fn as hf k3 q2]
    · cases h
  | .bi f es, I, X, e, G, h => by
    unfold ckE at h
    split at h
    · simp only [Bool.and_eq_true, decide_eq_true_eq] at h
      obtain ⟨⟨⟨rfl, h2⟩, h3⟩, h5⟩ := h
      obtain ⟨hl, hp⟩ := ckL_len h5
      rw [List.all_cons, Bool.and_eq_true] at hp
      exact .val (bi_any (b := default) G (G.gl h2) (G.free h3) (sndL es G h5) (star_plain hp.1) (any_plain hp.2)) (fun _ => rfl) (fun _ _ _ z => nomatch z)
    · cases h
  | .isi a t, I, X, e, G, h => by
    unfold ckE at h
    split at h
    · simp only [Bool.and_eq_true, decide_eq_true_eq] at h
      obtain ⟨⟨⟨⟨⟨⟨⟨rfl, h2⟩, h3⟩, h4⟩, h5⟩, h6⟩, h7⟩, h8⟩ := h
      exact .val (ge_isi (ga_cons (sndE a G h5).ge (ga_cons (ty_any h6 (G.gl h7) (G.free h8)) ga_nil rfl) (star_plain h4)) (G.gl h2) (G.free h3) (star_plain h4) rfl) (fun _ => rfl) (fun _ _ _ z => nomatch z)
    · cases h
  | .app a b, I, X, e, G, h => by
    unfold ckE at h
    split at h
    · rename_i x m apos y pos
      simp only [Bool.and_eq_true, decide_eq_true_eq] at h
      obtain ⟨⟨⟨⟨⟨rfl, h2⟩, h3⟩, h4⟩, h5⟩, h6⟩ := h
      refine .val (ge_app (sndE a G h5).ge (sndE b G h6).ge ?_ (star_plain h3) ?_) (fun _ => rfl) (fun _ _ _ z => nomatch z)
      · cases x <;> first | rfl | cases h2
      · rw [Nat.eq_of_beq_eq_true h4]
        exact beq_self_eq_true _
    · cases h
  | .ext a b, I, X, e, G, h => by
    unfold ckE at h
    split at h
    · rename_i x m apos y pos
      simp only [Bool.and_eq_true, decide_eq_true_eq] at h
      obtain ⟨⟨⟨⟨⟨rfl, h2⟩, h3⟩, h4⟩, h5⟩, h6⟩ := h
      refine .val (ge_ext (sndE a G h5).ge (sndE b G h6).ge ?_ (star_plain h3) ?_) (fun _ => rfl) (fun _ _ _ z => nomatch z)
      · cases x <;> first | rfl | cases h2
      · rw [Nat.eq_of_beq_eq_true h4]
        exact beq_self_eq_true _
    · cases h
  | .frz a, I, X, e, G, h => by
    unfold ckE at h
    cases h
  | .comp m it tg own c a, I, X, e, G, h => by
    unfold ckE at h
    split at h
    · rename_i x t i fs scope pos
      simp only [Bool.and_eq_true] at h
      obtain ⟨⟨⟨⟨⟨⟨h1, h2⟩, h3⟩, h4⟩, h5⟩, h6⟩, h7⟩ := h
      have ok : BlkOk X.N X.env.scope scope (ownOf I own) := by rw [G.N, G.sc]; exact blkOk_by h1
      have G2 := fun s H C cl fp => G.blk ok.kind s H C cl fp
      have key : GE X (.ListComp x [⟨t, i, fs, 0⟩] scope pos) (mComp m (evI cf P.gc it) tg ((ownOf I own).map (·.2)) (evE cf P.gc c) (evE cf P.gc a)) := by
        refine ge_comp G.calm (by rw [G.N]; exact G.nd) (sndI it G h3) ok (fun i hi => ?_) (fun s H C cl fp => sndT tg (G2 s H C cl fp) h4) (fun s H C cl fp => ?_) (fun s H C cl fp => (sndE a (G2 s H C cl fp) h6).ge) fun v => ?_
        · rw [ownOf_snd]
          have := List.all_eq_true.mp h2 i hi
          simpa using this
        · cases fs with
          | nil =>
            rw [condB_eq h7]
            exact gts_nil
          | cons f fs => cases fs with
            | nil =>
              simp only [Bool.and_eq_true] at h7
              exact gts_one ((sndE c (G2 s H C cl fp) h7.1).gt h7.2)
            | cons _ _ => cases h7
        · cases i <;> first | rfl | cases h5
      rw [ownOf_snd] at key
      exact .val key (fun _ => rfl) (fun _ _ _ z => nomatch z)
    · cases h
  | .outc b, I, X, e, G, h => by
    unfold ckE at h
    split at h
    · rename_i x p params body scope lpos pos
      simp only [Bool.and_eq_true, decide_eq_true_eq] at h
      obtain ⟨⟨⟨⟨⟨h1, rfl⟩, h2⟩, h3⟩, h4⟩, h5⟩ := h
      obtain ⟨c, T, M, r, D0, hk, _⟩ := G.lam h1
      have L := LamX.lamS_by h3
      have L' : LamX.LamS X.env.scope scope := by rw [G.sc]; exact L
      exact .val (ge_outc (k := 5 * n + 1) D0 hk (G.gl h2) M (r.mono (by omega)) L' (noPar_eq h4) fun A outer s H E f c' r => (sndE b (G.lamb L.kind A outer s H E f c' r) h5).ge) (fun _ => rfl) (fun _ _ _ z => nomatch z)
    · cases h
  | .err b, I, X, e, G, h => by
    unfold ckE at h
    split at h
    · rename_i x p params body scope lpos pos
      simp only [Bool.and_eq_true, decide_eq_true_eq] at h
      obtain ⟨⟨⟨⟨⟨⟨h1, h0⟩, rfl⟩, h2⟩, h3⟩, h4⟩, h5⟩ := h
      obtain ⟨c, T, M, r, D0, hk, h6⟩ := G.lam h1
      obtain ⟨D2, _⟩ := h6 h0
      have L := LamX.lamS_by h3
      have L' : LamX.LamS X.env.scope scope := by rw [G.sc]; exact L
      exact .val (ge_errc (k := 5 * n + 1) D0 D2 hk (G.gl h2) M r L' (noPar_eq h4) fun A outer s H E f c' r => (sndE b (G.lamb L.kind A outer s H E f c' r) h5).ge) (fun _ => rfl) (fun _ _ _ z => nomatch z)
    · cases h
  | .callk f es k v, I, X, e, G, h => by
    unfold ckE at h
    split at h
    · rename_i x p y ys k' w kp pos
      simp only [Bool.and_eq_true, decide_eq_true_eq, Bool.not_eq_true'] at h
      obtain ⟨⟨⟨⟨⟨⟨rfl, h2⟩, h3⟩, rfl⟩, h4⟩, h5⟩, h6⟩ := h
      obtain ⟨hl, hp⟩ := ckL_len h5
      rw [List.all_cons, Bool.and_eq_true] at hp
      unfold kfits at h4
      cases hf : P.fns x with
      | none => rw [hf] at h4; cases h4
      | some fn =>
        rw [hf] at h4
        simp only [Bool.and_eq_true, decide_eq_true_eq] at h4
        have np := Nat.eq_of_beq_eq_true h4.1.1.2
        obtain ⟨f, fd, ps, F, hm, hk, _, hd⟩ := G.fns x fn hf (by simpa using h4.2) (by simpa using h4.1.2)
        have kb := hd k' h4.1.1.1
        rw [np] at kb
        have hlen : ∀ δ μ as μ', evL cf P.gc es δ μ = some (.ok as, μ') → as.length = ys.length + 1 := fun δ μ as μ' q => (evL_len cf P.gc es δ μ as μ' q).trans hl
        exact .val (ge_callk (pos := pos) (p := p) (kp := kp) F (G.room.mono (by omega)) (G.gl h2) hm hk kb (by omega) hlen (sndL es G h5) (sndE v G h6).ge h3 (star_plain hp.1) (by rw [star_plain hp.1]; show (false || _) = false; rw [Bool.false_or]; exact any_plain hp.2)) (fun _ => rfl) (fun _ _ _ z => nomatch z)
    · cases h
  | .ins a i b, I, X, e, G, h => by
    unfold ckE at h
    split at h
    · rename_i x m apos y z pos
      simp only [Bool.and_eq_true, decide_eq_true_eq] at h
      obtain ⟨⟨⟨⟨⟨⟨⟨rfl, h2⟩, h3⟩, h3'⟩, h4⟩, h5⟩, h6⟩, h7⟩ := h
      refine .val (ge_ins (sndE a G h5).ge (sndE i G h6).ge (sndE b G h7).ge ?_ (by rw [star_plain h3, star_plain h3']; rfl) (by rw [star_plain h3']; rfl) ?_) (fun _ => rfl) (fun _ _ _ z => nomatch z)
      · cases x <;> first | rfl | cases h2
      · rw [Nat.eq_of_beq_eq_true h4]
        exact beq_self_eq_true _
    · cases h
  | .dnew, I, X, e, G, h => by
    unfold ckE at h
    split at h
    · exact .val (ge_dnew G.tw) (fun _ => rfl) (fun _ _ _ z => nomatch z)
    · cases h
  | .dget a i, I, X, e, G, h => by
    unfold ckE at h
    split at h
    · simp only [Bool.and_eq_true] at h
      obtain ⟨⟨h1, h2⟩, h3⟩ := h
      exact .val (ge_dget G.tw (by have := G.units; omega) (sndE a G h2).ge (sndE i G h3).ge h1) (fun _ => rfl) (fun _ _ _ z => nomatch z)
    · cases h
  | .din neg i a, I, X, e, G, h => by
    unfold ckE at h
    split at h
    · simp only [Bool.and_eq_true, Bool.not_eq_true'] at h
      obtain ⟨⟨⟨h1, h2⟩, h3⟩, h4⟩ := h
      rename_i op _ _
      obtain rfl : op = (if neg then .NotIn else .In) := by cases neg <;> cases op <;> first | rfl | cases h1
      obtain ⟨q1, q2⟩ := ge_din neg G.tw (by have := G.units; omega) (sndE i G h2).ge (sndE a G h3).ge h4
      exact ⟨q1, fun _ => q2, fun _ _ _ z => nomatch z⟩
    · cases h
  | .sortk m a i b, I, X, e, G, h => by
    unfold ckE at h
    split at h
    · rename_i x p y k params body scope lpos kpos pos
      simp only [Bool.and_eq_true, decide_eq_true_eq] at h
      obtain ⟨⟨⟨⟨⟨⟨⟨⟨⟨h1, h2⟩, rfl⟩, h4⟩, h5⟩, rfl⟩, h7⟩, h8⟩, h9⟩, h10⟩ := h
      obtain ⟨c, T, M, r⟩ := G.srt h1
      obtain ⟨hs, _⟩ := G.tp h2
      cases hi : I.N[i]? with
      | none => rw [hi] at h8; cases h8
      | some v =>
        rw [hi] at h8
        simp only [Bool.and_eq_true] at h8
        have L := lamS1_by h8.1
        have L' : LamS1 X.env.scope scope v := by rw [G.sc]; exact L
        exact .val (ge_sortk (k := 5 * n + 1) m (G.gl h4) (G.free h5) M r L' (by rw [G.N]; exact G.nd) (by rw [G.N]; exact hi) hs h8.2 (sndE a G h9).ge (star_plain h7) fun A outer s H E f c' r => (sndE b (G.lamb L.kind A outer s H E f c' r) h10).ge) (fun _ => rfl) (fun _ _ _ z => nomatch z)
    · cases h
  | .mk c f es, I, X, e, G, h => by
    unfold ckE at h
    split at h
    · rename_i x p y ys pos
      simp only [Bool.and_eq_true, decide_eq_true_eq, Bool.not_eq_true'] at h
      obtain ⟨⟨⟨⟨rfl, h2⟩, h3⟩, h4⟩, h5⟩ := h
      obtain ⟨hl, hp⟩ := ckL_len h5
      rw [List.all_cons, Bool.and_eq_true] at hp
      unfold mkfits at h4
      cases hf : P.fns f with
      | none => rw [hf] at h4; cases h4
      | some fn =>
        rw [hf] at h4
        simp only [Bool.and_eq_true, decide_eq_true_eq] at h4
        have np := Nat.eq_of_beq_eq_true h4.2
        obtain ⟨g, fd, ps, F, mk, hm, hb⟩ := G.mak f fn x _ hf h4.1.2 h4.1.1
        exact .val (ge_mk mk F (G.room.mono (by omega)) (G.gl h2) hm hb (fun δ μ as μ' q => by rw [evL_len cf P.gc es δ μ as μ' q, hl, np]; rfl) (sndL es G h5) h3 (star_plain hp.1) (any_plain hp.2)) (fun _ => rfl) (fun _ _ _ z => nomatch z)
    · cases h
  | .fld c a g, I, X, e, G, h => by
    unfold ckE at h
    split at h
    · simp only [Bool.and_eq_true, decide_eq_true_eq] at h
      obtain ⟨⟨⟨⟨h1, rfl⟩, rfl⟩, h4⟩, h5⟩ := h
      have cf := (G.cls c h4).2
      exact .val (ge_fld (sndE a G h5).ge cf.cl cf.na (base_ok h1)) (fun _ => rfl) (fun _ _ _ z => nomatch z)
    · cases h
  | .meth c m f a es, I, X, e, G, h => by
    unfold ckE at h
    split at h
    · rename_i x m' apos ys pos
      simp only [Bool.and_eq_true, decide_eq_true_eq, Bool.not_eq_true'] at h
      obtain ⟨⟨⟨⟨⟨⟨⟨h1, rfl⟩, h3⟩, h4⟩, h5⟩, h6⟩, h7⟩, h8⟩ := h
      obtain ⟨hl, hp⟩ := ckL_len h8
      have h5 := Nat.le_of_ble_eq_true h5
      unfold mfits at h6
      cases hf : P.fns f with
      | none => rw [hf] at h6; cases h6
      | some fn =>
        rw [hf] at h6
        simp only [Bool.and_eq_true, decide_eq_true_eq, Bool.not_eq_true'] at h6
        have k1 := Nat.le_of_ble_eq_true h6.1.1.1
        have k2 := Nat.le_of_ble_eq_true h6.1.1.2
        have k3 := h6.1.2
        obtain ⟨g, fd, ps, F, hm, cl, hd, _⟩ := G.mth f fn c m' hf h6.2 k3
        obtain ⟨dvs, ds, d1, d2, d3⟩ := hd (fn.dfl.length - (fn.np - (ys.length + 1))) (by omega)
        have hline : (apos.endLine == pos.line) = true := by
          rw [Nat.eq_of_beq_eq_true h4]
          exact beq_self_eq_true _
        have A := (sndE a G h7).ge
        have fix : ∀ (x : D) (δ : Env) (μ : Mu) (as : List D) (μ' : Mu), evL cf P.gc es δ μ = some (.ok as, μ') → cf f (x :: (as ++ fn.dfl.drop (fn.dfl.length - (fn.np - (ys.length + 1))))) = cf f (x :: as) := fun x δ μ as μ' q => by
          have e := (evL_len cf P.gc es δ μ as μ' q).trans hl
          have pe : x :: (as ++ fn.dfl.drop (fn.dfl.length - (fn.np - (ys.length + 1)))) = Ev.pad fn (x :: as) := by
            unfold Ev.pad
            rw [List.length_cons, e]
            rfl
          rw [pe, G.pad f fn (x :: as) hf k3 (by
            rw [← pe, List.length_cons, List.length_append, List.length_drop, e]
            omega)]
        have eqm : mMeth c (evE cf P.gc a) (evL cf P.gc es) (cf f) (fn.dfl.drop (fn.dfl.length - (fn.np - (ys.length + 1)))) = evE cf P.gc (.meth c m' f a es) := by
          funext δ μ
          show bnd _ _ μ = bnd _ _ μ
          unfold bnd
          cases ha : evE cf P.gc a δ μ with
          | none => rfl
          | some q =>
            obtain ⟨r, μ1⟩ := q
            cases r with
            | ex x => rfl
            | ok x =>
              dsimp only
              cases isObj c x with
              | false => rfl
              | true =>
                simp only [if_true]
                show bnd _ _ μ1 = bnd _ _ μ1
                unfold bnd
                cases he : evL cf P.gc es δ μ1 with
                | none => rfl
                | some q =>
                  obtain ⟨r, μ2⟩ := q
                  cases r with
                  | ex x => rfl
                  | ok as =>
                    show cf f _ μ2 = cf f _ μ2
                    rw [fix x δ μ1 as μ2 he]
        cases ys with
        | nil =>
          have em : es = .nil := by
            cases es with
            | nil => rfl
            | cons _ _ => cases hl
          subst em
          refine .val (ge_of (ge_meth0 (apos := apos) (pos := pos) A cl.cl hm F (G.room.mono (by omega)) d2 d1 d3 ?_ h3 (base_ok h1) (form_plain hp (by simp) rfl (Nat.zero_le _)) hline) eqm) (fun _ => rfl) (fun _ _ _ z => nomatch z)
          rw [List.length_drop]
          simp only [List.length_nil] at k1 k2 ⊢
          omega
        | cons y ys =>
          have hp' := hp
          rw [List.all_cons, Bool.and_eq_true] at hp'
          refine .val (ge_of (ge_meth (apos := apos) (pos := pos) A cl.cl hm F (G.room.mono (by omega)) d2 d1 d3 (fun δ μ as μ' q => ?_) (sndL es G h8) h3 (star_plain hp'.1) (any_plain hp'.2) (base_ok h1) (form_plain hp (by omega) rfl (Nat.zero_le _)) hline) eqm) (fun _ => rfl) (fun _ _ _ z => nomatch z)
          have e := (evL_len cf P.gc es δ μ as μ' q).trans hl
          rw [List.length_drop, e]
          omega
    · cases h
  | .methk c m f a es k v, I, X, e, G, h => by
    unfold ckE at h
    split at h
    · rename_i x m' apos y ys k' w kp pos
      simp only [Bool.and_eq_true, decide_eq_true_eq, Bool.not_eq_true'] at h
      obtain ⟨⟨⟨⟨⟨⟨⟨⟨⟨h1, rfl⟩, h3⟩, h4⟩, h5⟩, rfl⟩, h6⟩, h7⟩, h8⟩, h9⟩ := h
      obtain ⟨hl, hp⟩ := ckL_len h8
      have h5 := Nat.le_of_ble_eq_true h5
      unfold mkwfits at h6
      cases hf : P.fns f with
      | none => rw [hf] at h6; cases h6
      | some fn =>
        rw [hf] at h6
        simp only [Bool.and_eq_true, decide_eq_true_eq, Bool.not_eq_true'] at h6
        have np := Nat.eq_of_beq_eq_true h6.1.1.2
        obtain ⟨g, fd, ps, F, hm, cl, _, hd⟩ := G.mth f fn c m' hf h6.2 h6.1.2
        have kb := hd k' h6.1.1.1
        rw [np] at kb
        have hline : (apos.endLine == pos.line) = true := by
          rw [Nat.eq_of_beq_eq_true h4]
          exact beq_self_eq_true _
        have hp' := hp
        rw [List.all_cons, Bool.and_eq_true] at hp'
        exact .val (ge_methk (apos := apos) (pos := pos) (kp := kp) (sndE a G h7).ge cl.cl hm F (G.room.mono (by omega)) kb (by omega) (fun δ μ as μ' q => by rw [(evL_len cf P.gc es δ μ as μ' q).trans hl]; rfl) (sndL es G h8) (sndE v G h9).ge h3 (star_plain hp'.1) (any_plain hp) (base_ok h1) (form_plain hp (by simp; omega) rfl (Nat.le_refl 1)) hline) (fun _ => rfl) (fun _ _ _ z => nomatch z)
    · cases h
  | .oeq c f a b, I, X, e, G, h => by
    unfold ckE at h
    split at h
    · simp only [Bool.and_eq_true, Bool.not_eq_true'] at h
      obtain ⟨⟨⟨h1, h2⟩, h3⟩, h4⟩ := h
      unfold efits at h1
      cases hf : P.fns f with
      | none => rw [hf] at h1; cases h1
      | some fn =>
        rw [hf] at h1
        simp only [Bool.and_eq_true, decide_eq_true_eq, Bool.not_eq_true'] at h1
        have np := Nat.eq_of_beq_eq_true h1.1.1.2
        obtain ⟨g, fd, ps, F, hm, cl, hd, _⟩ := G.mth f fn c _ hf h1.2 h1.1.2
        have nk : fn.kws = [] := by
          have := h1.1.1.1.1
          cases e : fn.kws with
          | nil => rfl
          | cons _ _ => rw [e] at this; cases this
        have nd : fn.dfl = [] := by
          have := h1.1.1.1.2
          cases e : fn.dfl with
          | nil => rfl
          | cons _ _ => rw [e] at this; cases this
        obtain ⟨dvs, ds, d1, d2, d3⟩ := hd 0 (by rw [nk, nd]; exact Nat.le_refl _)
        have e3 := d3 [] (fun _ => none)
        rw [nd] at e3
        have e4 : dvs = [] := e3
        subst e4
        have e5 : ds = [] := by cases d1; rfl
        subst e5
        rw [np] at F
        obtain ⟨q1, q2⟩ := ge_oeq (pos := _) F (G.room.mono (by omega)) hm d2 (sndE a G h2).ge (sndE b G h3).ge h4
        exact ⟨q1, fun _ => q2, fun _ _ _ z => nomatch z⟩
    · cases h
  | .isc a c, I, X, e, G, h => by
    unfold ckE at h
    split at h
    · simp only [Bool.and_eq_true, decide_eq_true_eq, Bool.not_eq_true'] at h
      obtain ⟨⟨⟨⟨⟨⟨⟨⟨rfl, h2⟩, h3⟩, h4⟩, rfl⟩, h6⟩, h7⟩, h8⟩, h9⟩ := h
      obtain ⟨m1, cf⟩ := G.cls _ h8
      exact .val (ge_isc (sndE a G h9).ge cf (G.gl h2) (G.free h3) (G.gl h6) m1 h7 (star_plain h4)) (fun _ => rfl) (fun _ _ _ z => nomatch z)
    · cases h
  | .rcd _ _ _, I, X, e, G, h => by unfold ckE at h; cases h
theorem sndO : ∀ (t : OE) {I : Inf} {X : Cx} {e : Option Expr}, GdE P n cf I X → ckO P t I e = true → PO X e (poM X (evO cf P.gc t))
  | .no, I, X, e, G, h => by
    cases e with
    | none => exact go_none
    | some _ => cases h
  | .yes a, I, X, e, G, h => by
    unfold ckO at h
    cases e with
    | none => cases h
    | some x => exact go_some (sndE a G h).ge
theorem sndL : ∀ (t : EL) {I : Inf} {X : Cx} {es : List Expr}, GdE P n cf I X → ckL P t I es = true → GA X es (evL cf P.gc t)
  | .nil, I, X, es, G, h => by
    cases es with
    | nil => exact ga_nil
    | cons _ _ => cases h
  | .cons a as, I, X, es, G, h => by
    unfold ckL at h
    cases es with
    | nil => cases h
    | cons x xs =>
      simp only [Bool.and_eq_true] at h
      exact ga_cons (sndE a G h.1.2).ge (sndL as G h.2) (star_plain h.1.1)
theorem sndI : ∀ (t : IT) {I : Inf} {X : Cx} {tg e : Expr}, GdE P n cf I X → ckI P t I tg e = true → GI X tg e (evI cf P.gc t)
  | .seq a, I, X, tg, e, G, h => by
    unfold ckI at h
    exact gi_seq (sndE a G h).ge
  | .rng1 a, I, X, tg, e, G, h => by
    unfold ckI at h
    split at h
    · simp only [Bool.and_eq_true, decide_eq_true_eq] at h
      obtain ⟨⟨⟨⟨rfl, h2⟩, h3⟩, h4⟩, h5⟩ := h
      exact gi_rng1 (sndE a G h5).ge (G.gl h2) (G.free h3) (star_plain h4)
    · cases h
  | .rng2 a b, I, X, tg, e, G, h => by
    unfold ckI at h
    split at h
    · simp only [Bool.and_eq_true, decide_eq_true_eq] at h
      obtain ⟨⟨⟨⟨⟨⟨rfl, h2⟩, h3⟩, h4⟩, h5⟩, h6⟩, h7⟩ := h
      exact gi_rng2 (sndE a G h6).ge (sndE b G h7).ge (G.gl h2) (G.free h3) (by rw [star_plain h4, star_plain h5]; rfl) (star_plain h5)
    · cases h
  | .zip a b, I, X, tg, e, G, h => by
    unfold ckI at h
    split at h
    · simp only [Bool.and_eq_true, decide_eq_true_eq] at h
      obtain ⟨⟨⟨⟨⟨⟨⟨h0, rfl⟩, h2⟩, h3⟩, h4⟩, h5⟩, h6⟩, h7⟩ := h
      unfold isTup at h0
      split at h0
      · exact gi_zip (sndE a G h6).ge (sndE b G h7).ge (G.gl h2) (G.free h3) (star_plain h4) (star_plain h5) (any_plain (by rw [List.all_cons, h5]; rfl))
      · cases h0
    · cases h
  | .enum a, I, X, tg, e, G, h => by
    unfold ckI at h
    split at h
    · simp only [Bool.and_eq_true, decide_eq_true_eq] at h
      obtain ⟨⟨⟨⟨⟨h0, rfl⟩, h2⟩, h3⟩, h4⟩, h5⟩ := h
      unfold isTup at h0
      split at h0
      · exact gi_enum (sndE a G h5).ge (G.gl h2) (G.free h3) (star_plain h4)
      · cases h0
    · cases h
end
end
end Ev

namespace Ev
open L2 PyProof.Rows PySem.Spec PySem

/-! ## The look at statements -/
def ExF (X : Cx) (n : Nat) (c : Str) (fl : Option Str) : Prop := ∃ C fI k fd, XMk X (L2N.CX X.prog X.w) c fl C fI k fd ∧ k + 1 ≤ 5 * n + 4
structure GdS [Tb] (P : Pg) (n : Nat) (cf : Str → List D → M D) (I : Inf) (X : Cx) : Prop extends GdE P n cf I X where
  room3 : Room (5 * n + 4) X.A
  exs : ∀ c fl, P.exs c = some fl → ExF X n c fl
  own : PassesOwn (model X.prog X.w) X.A X.env X.xe
/-- no exchanged stores -/
def nsw : Expr → Expr → Bool
  | .Tuple ts _ _, .Tuple vs _ _ => (!(ts.length == 2 || ts.length == 3)) || vs.all (foldedForSure 8)
  | _, _ => true
theorem nsw_ok {t e : Expr} {env : PySem.Env} (h : nsw t e = true) (hl : ∀ a p, t ≠ .List a p) : swappedStores [t] e env = pure none := by
  cases t
  case List => exact absurd rfl (hl _ _)
  case Tuple ts k p =>
    cases e
    case Tuple vs k2 p2 =>
      unfold nsw at h
      rw [Bool.or_eq_true] at h
      unfold swappedStores
      rcases h with h | h
      · simp only [h, Bool.true_or, if_true]
      · simp only [h, if_true]
        split <;> first | rfl | (split <;> first | rfl | (split <;> rfl))
    all_goals rfl
  all_goals rfl
def notLcl (sc : Scope) : Expr → Bool
  | .Name x _ => !lclB sc x
  | _ => true
/-- .. or a target is no plain local -/
def nswI (I : Inf) (t e : Expr) : Bool := nsw t e || (match t with
  | .Tuple ts _ _ => ts.any (notLcl I.sc)
  | _ => false)
theorem fm_lt {α β : Type} {f : α → Option β} : ∀ {l : List α}, (∃ a ∈ l, f a = none) → (l.filterMap f).length ≠ l.length
  | [], h => by
    obtain ⟨a, ha, _⟩ := h
    cases ha
  | x :: l, h => by
    have le := List.length_filterMap_le f l
    cases e : f x with
    | none =>
      rw [List.filterMap_cons_none e, List.length_cons]
      omega
    | some y =>
      rw [List.filterMap_cons_some e, List.length_cons, List.length_cons]
      obtain ⟨a, ha, q⟩ := h
      rcases List.mem_cons.mp ha with rfl | ha'
      · rw [e] at q
        cases q
      · have := fm_lt ⟨a, ha', q⟩
        omega
theorem nswI_ok {I : Inf} {t e : Expr} {env : PySem.Env} (hs : env.scope = I.sc) (h : nswI I t e = true) (hl : ∀ a p, t ≠ .List a p) : swappedStores [t] e env = pure none := by
  unfold nswI at h
  rw [Bool.or_eq_true] at h
  rcases h with h | h
  · exact nsw_ok h hl
  cases t
  case Tuple ts k p =>
    cases e
    case Tuple vs k2 p2 =>
      obtain ⟨a, ha, q⟩ := List.any_eq_true.mp (show ts.any (notLcl I.sc) = true from h)
      have key : (ts.filterMap fun
          | .Name id pos => if (env.kindOf id == some .local && pos.line == (Option.map (fun z : Expr => z.pos.line) ts.head?).getD 0) = true then some id else none
          | _ => none).length ≠ ts.length := fm_lt ⟨a, ha, by
        cases a
        case Name x px =>
          have e1 : (env.kindOf x == some NameKind.local) = false := by
            show (env.scope.names.lookup x == _) = false
            rw [hs]
            have q' : (!lclB I.sc x) = true := q
            unfold lclB at q'
            cases e : I.sc.names.lookup x with
            | none => rfl
            | some z => cases z <;> first | rfl | (rw [e] at q'; cases q')
          simp only [e1, Bool.false_and, Bool.false_eq_true, if_false]
        all_goals rfl⟩
      unfold swappedStores
      dsimp only
      split
      · rfl
      · split
        · rfl
        · rw [if_pos]
          rw [Bool.or_eq_true]
          exact .inl (bne_iff_ne.mpr key)
    all_goals rfl
  all_goals cases h
/-- a comprehension bound to a name: are the stores exchanged -/
def swB (I : Inf) (y : Str) (py : Pos) (scope : Scope) (pos : Pos) : Bool :=
  lclB I.sc y && (py.line == pos.line) && !(scope.names.any fun q => q.1 == y && (q.2 == .local || q.2 == .cell))
def asgB (I : Inf) (t e : Expr) : Bool := noComp e || (match e with
  | .ListComp _ _ scope pos => (match t with
    | .Name y py => !swB I y py scope pos
    | _ => true)
  | _ => false)
def swaps (I : Inf) (t e : Expr) : Bool := match e with
  | .ListComp _ _ scope pos => (match t with
    | .Name y py => swB I y py scope pos
    | _ => false)
  | _ => false
/-- the name that a clause binds -/
def nmB (I : Inf) : Option Str → Bool
  | none => true
  | some y => (I.N.contains y) && lclB I.sc y
section
variable (P : Pg)
mutual
def ckS : S → Inf → Stmt → Bool
  | .expr e, I, s => match s with
    | .Expr x _ => noComp x && ckE P e I x
    | _ => false
  | .asg t e, I, s => match s with
    | .Assign [tg] x _ => ckE P e I x && ckT t I tg && nswI I tg x && (asgB I tg x || swaps I tg x)
    | _ => false
  | .par i j a b, I, s => match s with
    | .Assign [.Tuple [.Name x px, .Name y py] _ _] (.Tuple [u, v] _ _) _ => decide (I.N[i]? = some x) && decide (I.N[j]? = some y) && !Nat.beq i j && lclB I.sc x && lclB I.sc y && Nat.beq px.line py.line && plain u && plain v &&
        !(foldedForSure 8 u && foldedForSure 8 v) && !(constantsAlone 8 u && constantsAlone 8 v) && ckE P a I u && ckE P b I v
    | _ => false
  | .par3 i j l a b c, I, s => match s with
    | .Assign [.Tuple [.Name x px, .Name y py, .Name z pz] _ _] (.Tuple [u, v, w] _ _) _ => decide (I.N[i]? = some x) && decide (I.N[j]? = some y) && decide (I.N[l]? = some z) && !Nat.beq i j && !Nat.beq i l && !Nat.beq j l && lclB I.sc x && lclB I.sc y && lclB I.sc z &&
        Nat.beq px.line py.line && Nat.beq py.line pz.line && plain u && plain v && plain w && !(foldedForSure 8 u && foldedForSure 8 v && foldedForSure 8 w) && !(constantsAlone 8 u && constantsAlone 8 v && constantsAlone 8 w) && ckE P a I u && ckE P b I v && ckE P c I w
    | _ => false
  | .setix o i e, I, s => match s with
    | .Assign [.Subscript a b _] x _ => notSlice b && noComp x && ckE P o I a && ckE P i I b && ckE P e I x
    | _ => false
  | .aug i q e, I, s => match s with
    | .AugAssign (.Name x _) op y _ => decide (I.N[i]? = some x) && locB I.sc x && (I.fn x || lclB I.sc x) && bopB q op && (match q with | .add => true | .sub => true | _ => false) && ckE P e I y
    | _ => false
  | .ife c a b, I, s => match s with
    | .If x u v _ => ckE P c I x && noIf x && ckSL a I u && ckSL b I v
    | _ => false
  | .whl c b, I, s => match s with
    | .While x u [] _ => ckE P c I x && noIf x && ckSL b I u
    | _ => false
  | .fr t it b, I, s => match s with
    | .For tg i u [] _ => ckI P it I tg i && ckT t I tg && noSet i && ckSL b I u
    | _ => false
  | .ret e, I, s => match s with
    | .Return (some x) _ => (match e with
      | .frz a => ckE P a I x
      | e => ckE P e I x)
    | _ => false
  | .retN, _, s => match s with
    | .Return none _ => true
    | _ => false
  | .pass, _, s => match s with
    | .Pass _ => true
    | _ => false
  | .brk, _, s => match s with
    | .Break _ => true
    | _ => false
  | .cont, _, s => match s with
    | .Continue _ => true
    | _ => false
  | .never, _, _ => true
  | .rais c fl es, I, s => match s with
    | .Raise (some (.Call (.Name x _) ys [] _)) none _ => decide (x = c) && gloB I.sc x && !(x == ("__debug__" : Str)) && decide (P.exs c = some fl) && decide (fl ≠ some ("tag" : Str)) && ckL P es I ys
    | _ => false
  | .dput o i e, I, s => match s with
    | .Assign [.Subscript a b _] x _ => notSlice b && noComp x && ckE P o I a && ckE P i I b && ckE P e I x
    | _ => false
  | .tryn b, I, s => match s with
    | .Try u (.ExceptHandler (some (.Name x _)) nm (_ :: _) _ :: []) [] [] _ => I.tp && gloB I.sc x && !(x == ("__debug__" : Str)) && (P.exs x).isSome && nmB I nm && ckSL b I u
    | _ => false
def ckSL : SL → Inf → List Stmt → Bool
  | .nil, _, ss => isNil ss
  | .cons s r, I, ss => match ss with
    | x :: xs => ckS s I x && ckSL r I xs
    | [] => false
end
end
/-- self.row = e -/
def ckInit (P : Pg) (c : Str) (b : SL) (I : Inf) (ss : List Stmt) : Bool := match b with
  | .cons (.ret (.rcd c' g e)) .nil => (match ss with
    | [.Assign [.Attribute (.Name s _) a _] x _] => decide (c' = c) && decide (g = "row") && decide (a = "row") && decide (I.N[0]? = some s) && visB I.sc s && !(s == ("__debug__" : Str)) && !(s == ("__classdict__" : Str)) && noComp x && ckE P e I x
    | _ => false)
  | _ => false
theorem sw_none {e : Expr} {t : Option Expr} {l : Nat} {env : PySem.Env} (h : noComp e = true) : swapsWith e t l env = pure false := by
  cases e <;> first | rfl | cases h
theorem ann_fn {env : PySem.Env} (h : env.scope.kind = .function) : env.blockKind = .function := by
  unfold Env.blockKind
  rw [h]
  rfl
section
variable [Tb] {P : Pg} {n : Nat} {cf : Str → List D → M D} {I : Inf} {X : Cx}
theorem sw_name {el : Expr} {gs : List Comprehension} {scope : Scope} {pos py : Pos} {y : Str} {l : Nat} (G : GdE P n cf I X) : swapsWith (.ListComp el gs scope pos) (some (.Name y py)) l X.env = pure (swB I y py scope pos) := by
  have hk : X.env.scope.kind = .function := by rw [G.sc]; exact G.knd
  have e1 : (X.env.blockKind == ScopeKind.function) = true := by rw [ann_fn hk]; rfl
  have e2 : (X.env.kindOf y == some NameKind.local) = lclB I.sc y := by
    show (X.env.scope.names.lookup y == _) = _
    rw [G.sc]
    unfold lclB
    cases I.sc.names.lookup y with
    | none => rfl
    | some k => cases k <;> rfl
  unfold swapsWith swB
  simp only [e1, e2, Bool.true_and]
  rfl
theorem asgB_ok {t e : Expr} {l : Nat} (G : GdE P n cf I X) (h : asgB I t e = true) : swapsWithSole [t] e l X.env = pure false := by
  unfold asgB at h
  rw [Bool.or_eq_true] at h
  show swapsWith e (some t) l X.env = _
  rcases h with h | h
  · exact sw_none h
  · split at h
    · split at h
      · rw [sw_name G]
        rw [Bool.not_eq_true'] at h
        rw [h]
      · rename_i hn
        cases t <;> first | rfl | exact absurd rfl (hn _ _)
    · cases h
end
end Ev

namespace Ev
open L2 PyProof.Rows PySem.Spec PySem
variable [Tb]
section
variable {P : Pg} {n : Nat} {cf : Str → List D → M D} {I : Inf} {X : Cx}
theorem lcl_kind (G : GdE P n cf I X) {x : Str} (h : lclB I.sc x = true) : (X.env.kindOf x == some NameKind.local) = true := by
  have : X.env.kindOf x = some .local := G.lcl h
  rw [this]
  rfl
theorem ite_ff {α : Type} {b : Bool} {t e : α} (h : b = false) : (if b = true then t else e) = e := by rw [h]; rfl
theorem par_ok {x y : Str} {px py pt pt2 : Pos} {k1 k2 : Nat} {u v : Expr} (G : GdE P n cf I X) (hx : lclB I.sc x = true) (hy : lclB I.sc y = true) (hxy : x ≠ y) (hl : px.line = py.line) (hu : plain u = true) (hv : plain v = true)
    (hf : (foldedForSure 8 u && foldedForSure 8 v) = false) (hc : (constantsAlone 8 u && constantsAlone 8 v) = false) : swappedStores [.Tuple [.Name x px, .Name y py] k1 pt] (.Tuple [u, v] k2 pt2) X.env = pure (some [x, y]) := by
  have hk : X.env.scope.kind = .function := by rw [G.sc]; exact G.knd
  have e1 : (X.env.blockKind != ScopeKind.function) = false := by rw [ann_fn hk]; rfl
  have e2 := lcl_kind G hx
  have e3 := lcl_kind G hy
  have n1 : (Option.map (fun z : Expr => z.pos.line) [Expr.Name x px, Expr.Name y py].head?).getD 0 = px.line := rfl
  have nm : ([Expr.Name x px, Expr.Name y py].filterMap fun
      | .Name id pos => if (X.env.kindOf id == some .local && pos.line == px.line) = true then some id else none
      | _ => none) = [x, y] := by
    simp only [List.filterMap_cons, List.filterMap_nil, e2, e3, hl, Bool.true_and, beq_self_eq_true, if_true]
  have nd : ([x, y].eraseDups.length != [x, y].length) = false := by
    have : (y == x) = false := by simpa using fun z : y = x => hxy z.symm
    simp [List.eraseDups_cons, this]
  have st : ([u, v].any fun | .Starred .. => true | _ => false) = false := by
    have a : ∀ w : Expr, plain w = true → (match w with | .Starred .. => true | _ => false) = false := fun w h => by cases w <;> first | rfl | exact Bool.noConfusion h
    simp only [List.any_cons, List.any_nil, Bool.or_false, Bool.or_eq_false_iff]
    exact ⟨a u hu, a v hv⟩
  have hf' : [u, v].all (foldedForSure 8) = false := by
    rw [List.all_cons, List.all_cons, List.all_nil, Bool.and_true]
    exact hf
  have hc' : [u, v].all (constantsAlone 8) = false := by
    rw [List.all_cons, List.all_cons, List.all_nil, Bool.and_true]
    exact hc
  unfold swappedStores
  simp only [n1, List.filterMap_cons, List.filterMap_nil, e2, e3, hl, Bool.true_and, beq_self_eq_true, if_true]
  simp only [e1, nd, hf', hc', List.length_cons, List.length_nil, Bool.or_false, Bool.or_self, beq_self_eq_true, Bool.true_or, Bool.not_true, bne_self_eq_false, Bool.false_eq_true, if_false]
  refine (if_neg (fun z => absurd (st.symm.trans z) (by decide))).trans ?_
  have nd2 : ([x, y].eraseDups.length != 0 + 1 + 1) = false := nd
  simp only [nd2, Bool.or_self, Bool.false_eq_true, if_false]
theorem par3_ok {x y z : Str} {px py pz pt pt2 : Pos} {k1 k2 : Nat} {u v w : Expr} (G : GdE P n cf I X) (hx : lclB I.sc x = true) (hy : lclB I.sc y = true) (hz : lclB I.sc z = true) (hxy : x ≠ y) (hxz : x ≠ z) (hyz : y ≠ z) (hl : px.line = py.line) (hl2 : py.line = pz.line)
    (hu : plain u = true) (hv : plain v = true) (hw : plain w = true) (hf : (foldedForSure 8 u && foldedForSure 8 v && foldedForSure 8 w) = false) (hc : (constantsAlone 8 u && constantsAlone 8 v && constantsAlone 8 w) = false) :
    swappedStores [.Tuple [.Name x px, .Name y py, .Name z pz] k1 pt] (.Tuple [u, v, w] k2 pt2) X.env = pure (some [x, y, z]) := by
  have hk : X.env.scope.kind = .function := by rw [G.sc]; exact G.knd
  have e1 : (X.env.blockKind != ScopeKind.function) = false := by rw [ann_fn hk]; rfl
  have e2 := lcl_kind G hx
  have e3 := lcl_kind G hy
  have e4 := lcl_kind G hz
  have n1 : (Option.map (fun q : Expr => q.pos.line) [Expr.Name x px, Expr.Name y py, Expr.Name z pz].head?).getD 0 = px.line := rfl
  have nd2 : ([x, y, z].eraseDups.length != 0 + 1 + 1 + 1) = false := by
    have q1 : (y == x) = false := by simpa using fun q : y = x => hxy q.symm
    have q2 : (z == x) = false := by simpa using fun q : z = x => hxz q.symm
    have q3 : (z == y) = false := by simpa using fun q : z = y => hyz q.symm
    simp [List.eraseDups_cons, q1, q2, q3]
  have st : ([u, v, w].any fun | .Starred .. => true | _ => false) = false := by
    have a : ∀ w : Expr, plain w = true → (match w with | .Starred .. => true | _ => false) = false := fun w h => by cases w <;> first | rfl | exact Bool.noConfusion h
    simp only [List.any_cons, List.any_nil, Bool.or_false, Bool.or_eq_false_iff]
    exact ⟨a u hu, a v hv, a w hw⟩
  have hf' : [u, v, w].all (foldedForSure 8) = false := by
    rw [List.all_cons, List.all_cons, List.all_cons, List.all_nil, Bool.and_true, ← Bool.and_assoc]
    exact hf
  have hc' : [u, v, w].all (constantsAlone 8) = false := by
    rw [List.all_cons, List.all_cons, List.all_cons, List.all_nil, Bool.and_true, ← Bool.and_assoc]
    exact hc
  unfold swappedStores
  simp only [n1, List.filterMap_cons, List.filterMap_nil, e2, e3, e4, hl, hl2, Bool.true_and, beq_self_eq_true, if_true]
  simp only [e1, hf', hc', List.length_cons, List.length_nil, Bool.or_false, Bool.or_self, beq_self_eq_true, Bool.true_or, Bool.or_true, Bool.not_true, bne_self_eq_false, Bool.false_eq_true, if_false]
  refine (if_neg (fun q => absurd (st.symm.trans q) (by decide))).trans ?_
  simp only [nd2, Bool.or_self, Bool.false_eq_true, if_false]
theorem comp_inv {e : E} {el : Expr} {gs : List Comprehension} {scope : Scope} {pos : Pos} (h : ckE P e I (.ListComp el gs scope pos) = true) : ∃ m it tg own c a t i fs, e = .comp m it tg own c a ∧ gs = [⟨t, i, fs, 0⟩] := by
  cases e with
  | comp m it tg own c a =>
    unfold ckE at h
    split at h
    · rename_i q
      cases q
      exact ⟨_, _, _, _, _, _, _, _, _, rfl, rfl⟩
    · cases h
  | lit d => cases d <;> (unfold ckE litB at h; cases h)
  | _ => unfold ckE at h; cases h
theorem gs_compA {m : Bool} {it : IT} {tg : Tg} {own : List Nat} {c a : E} {i : Nat} {y : Str} {py spos pos : Pos} {el : Expr} {gs : List Comprehension} {scope : Scope} (G : GdE P n cf I X) (h : ckE P (.comp m it tg own c a) I (.ListComp el gs scope pos) = true)
    (ht : ckT (.one i) I (.Name y py) = true) (hs : swB I y py scope pos = true) : GS X (.Assign [.Name y py] (.ListComp el gs scope pos) spos) (evS cf P.gc (.asg (.one i) (.comp m it tg own c a))) := by
  unfold ckE at h
  unfold ckT at ht
  simp only [Bool.and_eq_true, Bool.or_eq_true, decide_eq_true_eq] at ht
  have hy : lclB I.sc y = true := by
    unfold swB at hs
    simp only [Bool.and_eq_true] at hs
    exact hs.1.1
  split at h
  · rename_i q
    cases q
    rename_i t i' fs
    simp only [Bool.and_eq_true] at h
    obtain ⟨⟨⟨⟨⟨⟨h1, h2⟩, h3⟩, h4⟩, h5⟩, h6⟩, h7⟩ := h
    have ok : BlkOk X.N X.env.scope scope (ownOf I own) := by rw [G.N, G.sc]; exact blkOk_by h1
    have G2 := fun s H C cl fp => G.blk ok.kind s H C cl fp
    have key : PS X (.Assign [.Name y py] (.ListComp el [⟨t, i', fs, 0⟩] scope pos) spos) (fun D σ H => teM X (mComp m (evI cf P.gc it) tg ((ownOf I own).map (·.2)) (evE cf P.gc c) (evE cf P.gc a)) σ H fun v H' => D.nx (σ.set i (some v)) H') := by
      refine gs_comp G.calm (by rw [G.N]; exact G.nd) (by rw [G.N]; exact ht.1.1) (G.lcl hy) (by rw [sw_name G, hs]) (sndI P it G h3) ok (fun i hi => ?_) (fun s H C cl fp => sndT tg (G2 s H C cl fp) h4) (fun s H C cl fp => ?_) (fun s H C cl fp => (sndE P a (G2 s H C cl fp) h6).ge) fun v => ?_
      · rw [ownOf_snd]
        have := List.all_eq_true.mp h2 i hi
        simpa using this
      · cases fs with
        | nil =>
          rw [condB_eq h7]
          exact gts_nil
        | cons f fs => cases fs with
          | nil =>
            simp only [Bool.and_eq_true] at h7
            exact gts_one ((sndE P c (G2 s H C cl fp) h7.1).gt h7.2)
          | cons _ _ => cases h7
      · cases i' <;> first | rfl | cases h5
    rw [ownOf_snd] at key
    refine PS_imp key fun D σ H q => ?_
    obtain ⟨δ, μ, ρ, hE, hS, q⟩ := q
    refine te_step hE hS (show WS X D ρ H (sE _ δ _ μ) from q).sE fun x μ1 v H1 ρ1 k e1 s1 r1 E1 => ?_
    by_cases hz : i < δ.length
    · have k' : WS X D ρ H (some (.fin .nx (δ.set i (some x)) μ1)) := by
        have k2 := k
        simp only [store, if_pos hz, Option.map_some] at k2
        exact k2
      exact k' _ H1 ρ1 e1 (E1.set i r1) s1
    · simp only [store, if_neg hz, Option.map_none] at k
      exact k.elim
  · cases h
end
theorem sw_sole {t e : Expr} {l : Nat} {env : PySem.Env} (h : noComp e = true) : swapsWithSole [t] e l env = pure false := sw_none h
section
variable (P : Pg) {n : Nat} {cf : Str → List D → M D}
mutual
theorem sndS : ∀ (t : S) {I : Inf} {X : Cx} {s : Stmt}, GdS P n cf I X → ckS P t I s = true → GS X s (evS cf P.gc t)
  | .expr e, I, X, s, G, h => by
    unfold ckS at h
    split at h
    · simp only [Bool.and_eq_true] at h
      exact gs_expr (sndE P e G.toGdE h.2).ge (sw_none h.1)
    · cases h
  | .asg t e, I, X, s, G, h => by
    unfold ckS at h
    split at h
    · rename_i tg x pos
      simp only [Bool.and_eq_true, Bool.or_eq_true] at h
      obtain ⟨⟨⟨h1, h2⟩, h3⟩, h4⟩ := h
      rcases h4 with h4 | h4
      · have hl : ∀ a p, tg ≠ .List a p := by
          rintro a p rfl
          cases t <;> (unfold ckT at h2; cases h2)
        exact gs_asg (sndE P e G.toGdE h1).ge (sndT t G.toGdE h2) (asgB_ok G.toGdE h4) (nswI_ok G.sc h3 hl) (by
          cases tg <;> first | rfl | (cases t <;> (unfold ckT at h2; cases h2)))
      · unfold swaps at h4
        split at h4
        · split at h4
          · obtain ⟨m, it, tg, own, c, a, t', i, fs, rfl, rfl⟩ := comp_inv h1
            cases t with
            | one i => exact gs_compA G.toGdE h1 h2 h4
            | tup ts => unfold ckT at h2; cases h2
          · cases h4
        · cases h4
    · cases h
  | .par i j a b, I, X, s, G, h => by
    unfold ckS at h
    split at h
    · simp only [Bool.and_eq_true, Bool.not_eq_true', decide_eq_true_eq] at h
      obtain ⟨⟨⟨⟨⟨⟨⟨⟨⟨⟨⟨h1, h2⟩, h3⟩, h4⟩, h5⟩, h6⟩, h7⟩, h8⟩, h9⟩, h10⟩, h11⟩, h12⟩ := h
      have hij : i ≠ j := fun z => by subst z; rw [Nat.beq_refl] at h3; cases h3
      have hN : X.N.Nodup := by rw [G.N]; exact G.nd
      refine gs_par G.calm hN (by rw [G.N]; exact h1) (by rw [G.N]; exact h2) hij (G.lcl h4) (G.lcl h5) (sndE P a G.toGdE h11).ge (sndE P b G.toGdE h12).ge (par_ok G.toGdE h4 h5 (fun z => ?_) (Nat.eq_of_beq_eq_true h6) h7 h8 h9 h10) (star_plain h7) (star_plain h8)
      subst z
      obtain ⟨l1, e1⟩ := List.getElem?_eq_some_iff.mp h1
      obtain ⟨l2, e2⟩ := List.getElem?_eq_some_iff.mp h2
      exact hij ((List.getElem_inj G.nd).mp (e1.trans e2.symm))
    · cases h
  | .par3 i j l a b c, I, X, s, G, h => by
    unfold ckS at h
    split at h
    · simp only [Bool.and_eq_true, Bool.not_eq_true', decide_eq_true_eq] at h
      obtain ⟨⟨⟨⟨⟨⟨⟨⟨⟨⟨⟨⟨⟨⟨⟨⟨⟨⟨h1, h2⟩, h3⟩, h4⟩, h5⟩, h6⟩, h7⟩, h8⟩, h9⟩, h10⟩, h11⟩, h12⟩, h13⟩, h14⟩, h15⟩, h16⟩, h17⟩, h18⟩, h19⟩ := h
      have ne : ∀ {i j : Nat}, Nat.beq i j = false → i ≠ j := fun h z => by subst z; rw [Nat.beq_refl] at h; cases h
      have hN : X.N.Nodup := by rw [G.N]; exact G.nd
      have nm : ∀ {i j : Nat} {x y : Str}, I.N[i]? = some x → I.N[j]? = some y → i ≠ j → x ≠ y := fun h1 h2 hij z => by
        subst z
        obtain ⟨l1, e1⟩ := List.getElem?_eq_some_iff.mp h1
        obtain ⟨l2, e2⟩ := List.getElem?_eq_some_iff.mp h2
        exact hij ((List.getElem_inj G.nd).mp (e1.trans e2.symm))
      exact gs_par3 G.calm hN (by rw [G.N]; exact h1) (by rw [G.N]; exact h2) (by rw [G.N]; exact h3) (ne h4) (ne h5) (ne h6) (G.lcl h7) (G.lcl h8) (G.lcl h9) (sndE P a G.toGdE h17).ge (sndE P b G.toGdE h18).ge (sndE P c G.toGdE h19).ge
        (par3_ok G.toGdE h7 h8 h9 (nm h1 h2 (ne h4)) (nm h1 h3 (ne h5)) (nm h2 h3 (ne h6)) (Nat.eq_of_beq_eq_true h10) (Nat.eq_of_beq_eq_true h11) h12 h13 h14 h15 h16) (star_plain h12) (star_plain h13) (star_plain h14)
    · cases h
  | .setix o i e, I, X, s, G, h => by
    unfold ckS at h
    split at h
    · simp only [Bool.and_eq_true] at h
      obtain ⟨⟨⟨⟨h1, h2⟩, h3⟩, h4⟩, h5⟩ := h
      exact gs_setix h1 (sndE P o G.toGdE h3).ge (sndE P i G.toGdE h4).ge (sndE P e G.toGdE h5).ge (sw_sole h2) rfl
    · cases h
  | .aug i q e, I, X, s, G, h => by
    unfold ckS at h
    split at h
    · rename_i x p op y pos
      simp only [Bool.and_eq_true, Bool.or_eq_true, decide_eq_true_eq] at h
      obtain ⟨⟨⟨⟨⟨h1, h2⟩, h3⟩, h4⟩, h5⟩, h6⟩ := h
      refine gs_aug (by rw [G.N]; exact G.nd) (by rw [G.N]; exact h1) (G.loc h2) (sndE P e G.toGdE h6).ge (h3.imp (G.fn _) G.lcl) ?_
      cases q <;> first | exact Bool.noConfusion h5 | (cases op <;> first | exact .inl ⟨rfl, rfl⟩ | exact .inr ⟨rfl, rfl⟩ | exact Bool.noConfusion h4)
    · cases h
  | .ife c a b, I, X, s, G, h => by
    unfold ckS at h
    split at h
    · simp only [Bool.and_eq_true] at h
      obtain ⟨⟨⟨h1, h2⟩, h3⟩, h4⟩ := h
      exact gs_ife ((sndE P c G.toGdE h1).gt h2) (sndSL a G h3) (sndSL b G h4)
    · cases h
  | .whl c b, I, X, s, G, h => by
    unfold ckS at h
    split at h
    · simp only [Bool.and_eq_true] at h
      obtain ⟨⟨h1, h2⟩, h3⟩ := h
      exact gs_whl G.own ((sndE P c G.toGdE h1).gt h2) (sndSL b G h3)
    · cases h
  | .fr t it b, I, X, s, G, h => by
    unfold ckS at h
    split at h
    · rename_i tg i u pos
      simp only [Bool.and_eq_true] at h
      obtain ⟨⟨⟨h1, h2⟩, h3⟩, h4⟩ := h
      exact gs_for G.own G.calm (sndI P it G.toGdE h1) (sndT t G.toGdE h2) (sndSL b G h4) (fun v => by cases i <;> first | rfl | cases h3)
    · cases h
  | .ret e, I, X, s, G, h => by
    unfold ckS at h
    split at h
    · split at h
      · exact gs_ret (ge_frz (sndE P _ G.toGdE h).ge)
      · exact gs_ret (sndE P e G.toGdE h).ge
    · cases h
  | .retN, I, X, s, G, h => by
    unfold ckS at h
    split at h
    · exact gs_retN
    · cases h
  | .pass, I, X, s, G, h => by
    unfold ckS at h
    split at h
    · exact gs_pass
    · cases h
  | .brk, I, X, s, G, h => by
    unfold ckS at h
    split at h
    · exact gs_brk
    · cases h
  | .cont, I, X, s, G, h => by
    unfold ckS at h
    split at h
    · exact gs_cont
    · cases h
  | .never, I, X, s, G, h => gs_never
  | .rais c fl es, I, X, s, G, h => by
    unfold ckS at h
    split at h
    · rename_i x p ys cp rp
      simp only [Bool.and_eq_true, decide_eq_true_eq, Bool.not_eq_true'] at h
      obtain ⟨⟨⟨⟨⟨rfl, h2⟩, h3⟩, h4⟩, h5⟩, h6⟩ := h
      obtain ⟨C, fI, k, fd, M, hk⟩ := G.exs x fl h4
      have r := G.room3.mono hk
      obtain ⟨hl, hp⟩ := ckL_len h6
      cases ys with
      | nil =>
        cases es with
        | nil => exact gs_rais0 M r G.calm (G.gl h2) h3 h5 fun δ μ => rfl
        | cons _ _ => cases hl
      | cons y ys =>
        rw [List.all_cons, Bool.and_eq_true] at hp
        exact gs_rais M r G.calm (G.gl h2) h3 h5 (sndL P es G.toGdE h6) (star_plain hp.1) (any_plain hp.2)
    · cases h
  | .dput o i e, I, X, s, G, h => by
    unfold ckS at h
    split at h
    · simp only [Bool.and_eq_true] at h
      obtain ⟨⟨⟨⟨h1, h2⟩, h3⟩, h4⟩, h5⟩ := h
      exact gs_dput G.tw (by have := G.units; omega) (sndE P o G.toGdE h3).ge (sndE P i G.toGdE h4).ge (sndE P e G.toGdE h5).ge (sw_none h2)
    · cases h
  | .tryn b, I, X, s, G, h => by
    unfold ckS at h
    split at h
    · rename_i u x xp nm b₀ bs hp tp
      simp only [Bool.and_eq_true, Bool.not_eq_true'] at h
      obtain ⟨⟨⟨⟨⟨h1, h2⟩, h3⟩, h4⟩, h5⟩, h6⟩ := h
      obtain ⟨hs, hf⟩ := G.tp h1
      obtain ⟨fl, h4⟩ := Option.isSome_iff_exists.mp h4
      obtain ⟨C, fI, k, fd, M, hk⟩ := G.exs x fl h4
      have nd : X.N.Nodup := by rw [G.N]; exact G.nd
      obtain ⟨i, hn⟩ : ∃ i, NameFor X nm i := by
        cases nm with
        | none => exact ⟨none, trivial⟩
        | some y =>
          unfold nmB at h5
          rw [Bool.and_eq_true] at h5
          obtain ⟨j, hj, ej⟩ := List.getElem_of_mem (show y ∈ I.N by simpa using h5.1)
          refine ⟨some j, ?_, G.lcl h5.2⟩
          rw [G.N, List.getElem?_eq_getElem hj, ej]
      refine gs_tryn hs hf nd (.cons (test_one ⟨G.gl h2, h3, M.hm⟩) hn .nil) fun pn xe ho => ?_
      have G' : GdS P n cf I (X.tr pn xe) := { G with
        own := ho
        exs := fun c fl h => by
          obtain ⟨C, fI, k, fd, M, hk⟩ := G.exs c fl h
          exact ⟨C, fI, k, fd, ⟨M.T, M.iC, M.tI, M.F1, M.hb, M.hm⟩, hk⟩
        lam := fun h => by
          obtain ⟨c, T, M, r, D⟩ := G.lam h
          exact ⟨c, T, ⟨M.TB, M.code, M.mem, M.one⟩, r, D⟩
        srt := fun h => by
          obtain ⟨c, T, M, r⟩ := G.srt h
          exact ⟨c, T, ⟨M.TB, M.code, M.mem, M.one⟩, r⟩ }
      exact sndSL b G' h6
    · cases h
theorem sndSL : ∀ (t : SL) {I : Inf} {X : Cx} {ss : List Stmt}, GdS P n cf I X → ckSL P t I ss = true → GSs X ss (evSL cf P.gc t)
  | .nil, I, X, ss, G, h => by
    cases ss with
    | nil => exact gss_nil
    | cons _ _ => cases h
  | .cons s r, I, X, ss, G, h => by
    unfold ckSL at h
    cases ss with
    | nil => cases h
    | cons x xs =>
      simp only [Bool.and_eq_true] at h
      exact gss_cons (sndS s G h.1) (sndSL r G h.2)
end
end
end Ev

namespace Ev
open L2 PyProof.Rows PySem.Spec PySem

/-! ## The program by its terms -/
structure FT where
  nm : Str
  st : Stmt
  N : List Str
  dv : List He.Dv
  fn : Fn
  kw : List (Str × He.Dv) := []
  lam : Bool := false
def parsOf (a : Arguments) : List Str := a.args.map (·.arg) ++ a.kwonlyargs.map (·.arg)
def FT.ps (t : FT) : List Str := parsOf (defArgs t.st)
/-- the name in the text -/
def FT.nam (t : FT) : Str := match t.fn.own with
  | some (_, m) => m
  | none => t.nm
def FT.at_ (t : FT) : Str × Option Str := match t.fn.own with
  | some (c, m) => (c, some m)
  | none => (t.nm, none)
def FT.dd (t : FT) : He.DefD := ⟨t.at_, t.nam, t.nm, defArgs t.st, defBody t.st, defScope t.st, t.dv, t.kw⟩
def scB (N ps : List Str) (sc : Scope) : Bool := (match sc.kind with | .function => true | _ => false) && !sc.isCoroutine && !sc.isGenerator && decide N.Nodup && decide (N.take ps.length = ps) && ps.all (fun x => locB sc x) &&
  sc.names.all (fun y => match y.2 with | .free => false | _ => true)
theorem scB_ok {N ps : List Str} {sc : Scope} (h : scB N ps sc = true) : FnScope N ps sc := by
  unfold scB at h
  simp only [Bool.and_eq_true, Bool.not_eq_true', decide_eq_true_eq, List.all_eq_true] at h
  obtain ⟨⟨⟨⟨⟨⟨h1, h2⟩, h3⟩, h4⟩, h5⟩, h6⟩, h7⟩ := h
  refine ⟨?_, h2, h3, h4, h5, fun x hx => ?_, fun y hy e => ?_⟩
  · split at h1
    · assumption
    · cases h1
  · have q := h6 x hx
    unfold locB at q
    split at q
    · exact .inl (by assumption)
    · exact .inr (by assumption)
    · cases q
  · have q := h7 y hy
    rw [e] at q
    cases q
/-- the same constant -/
def eqD : D → D → Bool
  | .int a, .int b => a == b
  | .str a, .str b => a == b
  | .tup [.int a, .int b], .tup [.int c, .int d] => a == c && b == d
  | _, _ => false
theorem eqD_ok {a b : D} (h : eqD a b = true) : a = b := by
  unfold eqD at h
  split at h
  · rw [beq_iff_eq.mp h]
  · rw [beq_iff_eq.mp h]
  · rw [Bool.and_eq_true, beq_iff_eq, beq_iff_eq] at h
    rw [h.1, h.2]
  · cases h
def dvB (gc : Str → Option D) : He.Dv → D → Bool
  | .non, .non => true
  | .bl a, .bl b => a == b
  | .int a, .int b => a == b
  | .str a, .str b => a == b
  | .glo x, .tup ds => (match gc x with
    | some d => eqD d (.tup ds)
    | none => false)
  | _, _ => false
def dvsB (gc : Str → Option D) : List He.Dv → List D → Bool
  | [], [] => true
  | v :: vs, d :: ds => dvB gc v d && dvsB gc vs ds
  | _, _ => false
/-- tuples of the module -/
def GcK (gc : Str → Option D) (K : PySem.W.Frag) : Prop := ∀ x ds, gc x = some (.tup ds) → ∀ ρ H, Rep K ρ H (.tup ds) (.ref (He.ga K x))
section
variable {gc : Str → Option D} {K : PySem.W.Frag} {ρ : List Addr} {H : Hp}
theorem dvB_ok {v : He.Dv} {d : D} (g : GcK gc K) (h : dvB gc v d = true) : Rep K ρ H d (v.v K) := by
  unfold dvB at h
  split at h
  · rfl
  · rw [beq_iff_eq] at h; subst h; rfl
  · rw [beq_iff_eq] at h; subst h; rfl
  · rw [beq_iff_eq] at h; subst h; rfl
  · split at h
    · rename_i d e
      rw [eqD_ok h] at e
      exact g _ _ e ρ H
    · cases h
  · cases h
theorem dvsB_ok (g : GcK gc K) : ∀ {vs : List He.Dv} {ds : List D}, dvsB gc vs ds = true → RepL K ρ H ds (vs.map (He.Dv.v K))
  | [], [], _ => rfl
  | [], _ :: _, h => by cases h
  | _ :: _, [], h => by cases h
  | v :: vs, d :: ds, h => by
    unfold dvsB at h
    rw [Bool.and_eq_true] at h
    exact ⟨_, _, rfl, dvB_ok g h.1, dvsB_ok g h.2⟩
end
theorem dvsB_drop {gc : Str → Option D} : ∀ {vs : List He.Dv} {ds : List D} (j : Nat), dvsB gc vs ds = true → dvsB gc (vs.drop j) (ds.drop j) = true
  | vs, ds, 0, h => h
  | [], [], _ + 1, _ => rfl
  | [], _ :: _, _, h => by cases h
  | _ :: _, [], _, h => by cases h
  | v :: vs, d :: ds, j + 1, h => by
    unfold dvsB at h
    rw [Bool.and_eq_true] at h
    exact dvsB_drop j h.2
theorem dvsB_len {gc : Str → Option D} : ∀ {vs : List He.Dv} {ds : List D}, dvsB gc vs ds = true → ds.length = vs.length
  | [], [], _ => rfl
  | [], _ :: _, h => by cases h
  | _ :: _, [], h => by cases h
  | v :: vs, d :: ds, h => by
    unfold dvsB at h
    rw [Bool.and_eq_true] at h
    exact congrArg Nat.succ (dvsB_len h.2)
def FT.all (t : FT) : List He.Dv := t.dv ++ t.kw.map (·.2)
abbrev FT.inf (P : Pg) (t : FT) : Inf := ⟨t.N, defScope t.st, fun _ => true, t.lam && P.out, true, t.lam⟩
def FT.bodyB (P : Pg) (t : FT) : Bool := match t.fn.self, t.fn.own with
  | true, some (c, m) => decide (m = "__init__") && isNil t.fn.dfl && isNil t.fn.kws && ckInit P c t.fn.body (t.inf P) (defBody t.st)
  | true, none => false
  | false, _ => ckSL P t.fn.body (t.inf P) (defBody t.st)
def FT.ownB (P : Pg) (t : FT) : Bool := match t.fn.own with
  | some (c, _) => (P.cls c).isSome && !t.lam
  | none => true
def FT.ok (P : Pg) (t : FT) : Bool := scB t.N t.ps (defScope t.st) && t.bodyB P && Nat.beq t.fn.np t.ps.length && Nat.beq t.fn.ns t.N.length && dvsB P.gc t.all t.fn.dfl && decide (t.fn.kws = t.kw.map (·.1)) && t.ownB P
structure OkF (P : Pg) (t : FT) : Prop where
  sc : FnScope t.N t.ps (defScope t.st)
  body : t.bodyB P = true
  np : t.fn.np = t.ps.length
  ns : t.fn.ns = t.N.length
  dv : dvsB P.gc t.all t.fn.dfl = true
  kw : t.fn.kws = t.kw.map (·.1)
  own : t.ownB P = true
theorem FT.okF {P : Pg} {t : FT} (h : t.ok P = true) : OkF P t := by
  unfold FT.ok at h
  simp only [Bool.and_eq_true, decide_eq_true_eq] at h
  obtain ⟨⟨⟨⟨⟨⟨h1, h2⟩, h3⟩, h4⟩, h5⟩, h6⟩, h7⟩ := h
  exact ⟨scB_ok h1, h2, Nat.eq_of_beq_eq_true h3, Nat.eq_of_beq_eq_true h4, h5, h6, h7⟩
abbrev FT.F (t : FT) (K : PySem.W.Frag) (f : Addr) (fd : FuncData) : Prop := FunD K t.nam t.nm (defArgs t.st) (defBody t.st) (defScope t.st) (t.dv.map (He.Dv.v K)) (t.kw.map fun q => (q.1, q.2.v K)) f fd
/-- how the def binds, by how many values lack -/
def FT.bnd (t : FT) : Prop := ∀ (K : PySem.W.Frag) (f : Addr) (fd : FuncData), t.F K f fd → (∀ j, j ≤ t.dv.length → ∃ ds, Vals ((t.all.map (He.Dv.v K)).drop j) ds ∧ Binds K fd t.ps ds) ∧
  ∀ kn, t.kw.map (·.1) = [kn] → KBn K fd t.ps (t.ps.length - 1) [kn] (fun us ws => us ++ ws) (fun vs zs => vs ++ zs)
def lookF (L : List FT) (x : Str) : Option Fn := (L.find? fun t => t.nm == x).map (·.fn)
theorem lookF_mem {L : List FT} {x : Str} {fn : Fn} (h : lookF L x = some fn) : ∃ t ∈ L, t.nm = x ∧ t.fn = fn := by
  unfold lookF at h
  obtain ⟨t, ht, rfl⟩ := Option.map_eq_some_iff.mp h
  exact ⟨t, List.mem_of_find?_eq_some ht, by simpa using List.find?_some ht, rfl⟩
theorem pad_pad {fn : Fn} {ds : List D} (h : (pad fn ds).length = fn.np) : pad fn (pad fn ds) = pad fn ds := by
  have e : pad fn (pad fn ds) = pad fn ds ++ fn.dfl.drop (fn.dfl.length - (fn.np - (pad fn ds).length)) := rfl
  rw [e, h, Nat.sub_self, Nat.sub_zero, List.drop_length, List.append_nil]
theorem call_pad {P : Pg} : ∀ (n : Nat) (x : Str) (fn : Fn) (ds : List D), P.fns x = some fn → fn.self = false → (pad fn ds).length = fn.np → call P n x (pad fn ds) = call P n x ds
  | 0, _, _, _, _, _, _ => rfl
  | n + 1, x, fn, ds, hf, hs, hl => by
    unfold call
    rw [hf]
    show evFn _ _ fn (pad fn ds) = evFn _ _ fn ds
    unfold evFn
    rw [hs, pad_pad hl]
theorem pad_full {fn : Fn} {ds : List D} (h : ds.length = fn.np) : pad fn ds = ds := by
  unfold pad
  rw [h, Nat.sub_self, Nat.sub_zero, List.drop_length, List.append_nil]
theorem env_start {K : PySem.W.Frag} {ρ : List Addr} {H : Hp} {N : List Str} {ds : List D} {vs : List V} (r : RepL K ρ H ds vs) : EnvR K ρ H (L2.start N vs) (ds.map some ++ List.replicate (N.length - ds.length) none) := by
  refine ⟨?_, fun i d h => ?_⟩
  · unfold L2.start
    simp only [List.length_append, List.length_map, List.length_replicate, r.length]
  · unfold L2.start
    by_cases hi : i < ds.length
    · rw [List.getElem?_append_left (by simpa using hi), List.getElem?_map] at h
      cases e : ds[i]? with
      | none => rw [e] at h; cases h
      | some d' =>
        rw [e] at h
        cases h
        obtain ⟨v, h1, h2⟩ := r.get e
        refine ⟨v, ?_, h2⟩
        rw [List.getElem?_append_left (by rw [List.length_map, ← r.length]; exact hi), List.getElem?_map, h1]
        rfl
    · rw [List.getElem?_append_right (by simpa using hi), List.getElem?_replicate] at h
      split at h <;> cases h
/-- what is known of an error's class that is raised -/
def ExK (K : PySem.W.Frag) (mg : Str → Option Value) (c : Str) (fl : Option Str) : Prop := ∃ (C fI : Addr) (fd : FuncData) (x qual : Str) (params : Arguments) (body : List Stmt) (scope : Scope), XCls K C ∧ PySem.W.findIn K (.ref C) "__init__" = some (some (.ref fI)) ∧ PySem.W.typeIn K (.ref fI) = some (.type "function") ∧
  FunD K x qual params body scope [] [] fI fd ∧ FnScope (psI fl) (psI fl) scope ∧ (∀ y ∈ psI fl, Vis scope y) ∧ (∀ f, fl = some f → (f == ("__debug__" : Str)) = false ∧ (f == ("__classdict__" : Str)) = false ∧ PySem.W.findIn K (.ref C) f = some none) ∧
  InitIs c fl body ∧ PySem.W.findIn K (.ref C) "tag" = some none ∧ Binds K fd (psI fl) [] ∧ mg c = some (.ref C)
theorem exF_of {X : Cx} {n : Nat} {c : Str} {fl : Option Str} (h : ExK X.K X.mg c fl) : ExF X n c fl := by
  obtain ⟨C, fI, fd, x, qual, params, body, scope, T, iC, tI, F, S, hv, hd, hi, ht, hb, hm⟩ := h
  exact ⟨C, fI, 1, fd, ⟨T, iC, tI, init_ok (k := 0) F S hv hd hi T ht, hb, hm⟩, by omega⟩
/-- where a def lies -/
def AtK (K : PySem.W.Frag) (mg : Str → Option Value) (t : FT) (f : Addr) : Prop := match t.fn.own with
  | none => mg t.nm = some (.ref f)
  | some (c, m) => f = He.ma K (He.ga K c) m
/-- what a def promises -/
def spOf [Tb] (K : PySem.W.Frag) (mg : Str → Option Value) (fn : Fn) (g : List D → M D) : Sp := match fn.self, fn.own with
  | true, some (c, _) => SpMk K mg (He.ga K c) fn.np g
  | _, _ => SpD K mg fn.np g
section
variable [Tb]
/-- every def keeps its promise -/
structure Base (P : Pg) (L : List FT) (K : PySem.W.Frag) (mg : Str → Option Value) : Prop where
  fns : P.fns = lookF L
  ok : ∀ t ∈ L, t.ok P = true
  uniq : ∀ t ∈ L, lookF L t.nm = some t.fn
  bnd : ∀ t ∈ L, t.bnd
  def_ : ∀ t ∈ L, ∃ f fd, AtK K mg t f ∧ t.F K f fd
  gc : ∀ x d, P.gc x = some d → ∃ u v, mg x = some u ∧ RelV v u ∧ ∀ ρ H, Rep K ρ H d v
  gk : GcK P.gc K
  fr : ∀ x ∈ P.fr, mg x = none
  exs : ∀ c fl, P.exs c = some fl → ExK K mg c fl
  out : P.out = true → ∃ D : OutD K mg, ErrsK K mg D ∧ (P.err = true → ∃ D2 : ErrD K mg, D2 = D2)
  cls : ∀ c, (P.cls c).isSome = true → mg c = some (.ref (He.ga K c)) ∧ ClsF K (He.ga K c)
  mth : ∀ t ∈ L, ∀ c m, t.fn.own = some (c, m) → t.fn.self = false → Meth K (He.ga K c) m (He.ma K (He.ga K c) m)
  mak : ∀ t ∈ L, ∀ c m, t.fn.own = some (c, m) → t.fn.self = true → Mk K (He.ga K c) (He.ma K (He.ga K c) m)
/-- the tables of those that make lambdas -/
def TabK (L : List FT) (K : PySem.W.Frag) (mg : Str → Option Value) (base : Heap) : Prop := ∀ t ∈ L, t.lam = true → ∀ f fd, mg t.nm = some (.ref f) → t.F K f fd →
  ∃ c T, fd.code = .ref c ∧ LamX.TabB base mg c T ∧ (T, t.nm ++ ".<locals>." ++ "<lambda>") ∈ Tb.T ∧ ∀ p ∈ Tb.T, p.1 = T → p.2 = t.nm ++ ".<locals>." ++ "<lambda>"
theorem spD_zero {K : PySem.W.Frag} {mg : Str → Option Value} {fn : Fn} {x : Str} {P : Pg} {vs : List V} {H : Hp} {Q : VK} {E : XK} (h : spOf K mg fn (call P 0 x) vs H Q E) : False := by
  unfold spOf at h
  revert h
  generalize fn.self = a
  generalize fn.own = b
  intro h
  have hd : ∀ np, SpD K mg np (call P 0 x) vs H Q E → False := fun np h => by
    obtain ⟨_, _, _, _, _, _, w⟩ := h
    exact w
  have hi : ∀ C np, SpMk K mg C np (call P 0 x) vs H Q E → False := fun C np h => by
    obtain ⟨_, _, _, _, _, _, _, _, _, _, _, _, _, _, _, w⟩ := h
    exact w
  cases a with
  | false => cases b <;> exact hd _ h
  | true => cases b with
    | none => exact hd _ h
    | some q => exact hi _ _ h
theorem prog_ok {P : Pg} {L : List FT} {K : PySem.W.Frag} {mg : Str → Option Value} {pr : Program} {w : World} {base : Heap} (B : Base P L K mg) (TK : TabK L K mg base) (hw : Tb.w = w) : ∀ (n : Nat) (t : FT), t ∈ L → ∀ f fd, AtK K mg t f → t.F K f fd →
    FnOk pr w K mg base (L2N.CX pr w) (5 * n) f fd t.ps (spOf K mg t.fn (call P n t.nm))
  | 0, t, ht, f, fd, hm, F => ⟨fun vs H Q E h => (spD_zero h).elim, fun A outer s H args us vs Q E hr e0 hb r h => (spD_zero h).elim⟩
  | n + 1, t, ht, f, fd, hm, F => by
    obtain ⟨S, hbody, hnp, hns, hdv, hkw, hown⟩ := (B.ok t ht) |> FT.okF
    have hfn : P.fns t.nm = some t.fn := by rw [B.fns]; exact B.uniq t ht
    have hm0 : t.lam = true → mg t.nm = some (.ref f) := fun hl => by
      unfold AtK at hm
      unfold FT.ownB at hown
      cases e : t.fn.own with
      | none => rw [e] at hm; exact hm
      | some q =>
        obtain ⟨c, m⟩ := q
        rw [e] at hown
        simp only [Bool.and_eq_true, Bool.not_eq_true'] at hown
        rw [hl] at hown
        cases hown.2
    have lamK := fun h => TK t ht h f fd (hm0 h) F
    obtain ⟨oc, od, dV, kV, doc, pm, an, cdv, ct, osl, efd, lk, hcd, _, _⟩ := F.ex
    have lamC : t.lam = true → ∃ c T, cdv = .ref c ∧ LamX.TabB base mg c T ∧ (T, t.nm ++ ".<locals>." ++ "<lambda>") ∈ Tb.T ∧ ∀ p ∈ Tb.T, p.1 = T → p.2 = t.nm ++ ".<locals>." ++ "<lambda>" := fun h => by
      obtain ⟨c, T, e, r⟩ := lamK h
      rw [efd] at e
      exact ⟨c, T, e, r⟩
    have look : ∀ x fn, P.fns x = some fn → ∃ t' ∈ L, t'.nm = x ∧ t'.fn = fn := fun x fn hx => by
      rw [B.fns] at hx
      exact lookF_mem hx
    have dfls : ∀ t' ∈ L, ∀ f' fd', t'.F K f' fd' → (∀ j, j + t'.fn.kws.length ≤ t'.fn.dfl.length → ∃ dvs ds, Vals dvs ds ∧ Binds K fd' t'.ps ds ∧ ∀ ρ H, RepL K ρ H (t'.fn.dfl.drop j) dvs) ∧ ∀ kn, t'.fn.kws = [kn] → KBn K fd' t'.ps (t'.fn.np - 1) [kn] (fun us ws => us ++ ws) (fun vs zs => vs ++ zs) := fun t' ht' f' fd' F' => by
      have ok' := FT.okF (B.ok t' ht')
      have kw' := ok'.kw
      have dl := dvsB_len ok'.dv
      have np' := ok'.np
      obtain ⟨b1, b2⟩ := B.bnd t' ht' K f' fd' F'
      refine ⟨fun j hj => ?_, fun kn hk => ?_⟩
      · have hj' : j ≤ t'.dv.length := by
          rw [dl, kw', List.length_map] at hj
          unfold FT.all at hj
          rw [List.length_append, List.length_map] at hj
          omega
        obtain ⟨ds, d1, d2⟩ := b1 j hj'
        refine ⟨_, ds, d1, d2, fun ρ H => ?_⟩
        rw [← List.map_drop]
        exact dvsB_ok B.gk (dvsB_drop j ok'.dv)
      · rw [np']
        exact b2 kn (kw'.symm.trans hk)
    have Gd : ∀ (A : Around) (outer : List PySem.Env) (s : Shared) (H : Hp) (E : XK), Room (5 * n + 4) (A.deeper (envOfC t.nm (defScope t.st) s.heap.objs.size f cdv)) → GdS P n (call P n) (t.inf P) (cxOf (L2N.CX pr w) pr w K mg base t.N t.nm (defScope t.st) f cdv A outer s H E) := fun A outer s H E hr => {
      N := rfl
      nd := S.nd
      calm := rfl
      room := hr.mono (by omega)
      sc := rfl
      knd := S.kind
      fn := fun _ _ => rfl
      fns := fun x fn hx ho hs => by
        obtain ⟨t', ht', rfl, rfl⟩ := look x fn hx
        obtain ⟨f', fd', hm', F'⟩ := B.def_ t' ht'
        have po := prog_ok (pr := pr) (w := w) (base := base) B TK hw n t' ht' f' fd' hm' F'
        unfold spOf at po
        rw [hs, ho] at po
        unfold AtK at hm'
        rw [ho] at hm'
        exact ⟨f', fd', t'.ps, po, hm', F'.kp, dfls t' ht' f' fd' F'⟩
      gc := B.gc
      fr := B.fr
      pad := fun x fn ds hx hs hl => call_pad n x fn ds hx hs hl
      tw := hw
      tp := fun _ => ⟨rfl, rfl⟩
      srt := fun hl => by
        obtain ⟨c, T, e1, e2, e3, e4⟩ := lamC hl
        exact ⟨c, T, ⟨e2, e1, e3, e4⟩, hr⟩
      lam := fun hl => by
        have hl : (t.lam && P.out) = true := hl
        rw [Bool.and_eq_true] at hl
        obtain ⟨c, T, e1, e2, e3, e4⟩ := lamC hl.1
        exact ⟨c, T, ⟨e2, e1, e3, e4⟩, hr, B.out hl.2⟩
      cls := B.cls
      mth := fun x fn c m hx ho hs => by
        obtain ⟨t', ht', rfl, rfl⟩ := look x fn hx
        obtain ⟨f', fd', hm', F'⟩ := B.def_ t' ht'
        have po := prog_ok (pr := pr) (w := w) (base := base) B TK hw n t' ht' f' fd' hm' F'
        unfold spOf at po
        rw [hs] at po
        unfold AtK at hm'
        rw [ho] at hm'
        subst hm'
        have ow := (FT.okF (B.ok t' ht')).own
        unfold FT.ownB at ow
        rw [ho] at ow
        simp only [Bool.and_eq_true] at ow
        exact ⟨_, fd', t'.ps, po, B.mth t' ht' c m ho hs, (B.cls c ow.1).2, dfls t' ht' _ fd' F'⟩
      mak := fun x fn c m hx ho hs => by
        obtain ⟨t', ht', rfl, rfl⟩ := look x fn hx
        obtain ⟨f', fd', hm', F'⟩ := B.def_ t' ht'
        have po := prog_ok (pr := pr) (w := w) (base := base) B TK hw n t' ht' f' fd' hm' F'
        unfold spOf at po
        rw [hs, ho] at po
        unfold AtK at hm'
        rw [ho] at hm'
        subst hm'
        have okt := FT.okF (B.ok t' ht')
        have ow := okt.own
        unfold FT.ownB at ow
        rw [ho] at ow
        simp only [Bool.and_eq_true] at ow
        have bb := okt.body
        unfold FT.bodyB at bb
        rw [hs, ho] at bb
        simp only [Bool.and_eq_true] at bb
        have nd : t'.fn.dfl = [] := by
          have := bb.1.1.2
          cases e : t'.fn.dfl with
          | nil => rfl
          | cons _ _ => rw [e] at this; cases this
        have nk : t'.fn.kws = [] := by
          have := bb.1.2
          cases e : t'.fn.kws with
          | nil => rfl
          | cons _ _ => rw [e] at this; cases this
        obtain ⟨dvs, ds, d1, d2, d3⟩ := (dfls t' ht' _ fd' F').1 0 (by rw [nk, nd]; exact Nat.le_refl _)
        have e3 := d3 [] (fun _ => none)
        rw [nd] at e3
        have e4 : dvs = [] := e3
        subst e4
        have e5 : ds = [] := by cases d1; rfl
        subst e5
        exact ⟨_, fd', t'.ps, po, B.mak t' ht' c m ho hs, (B.cls c ow.1).1, d2⟩
      room3 := hr
      exs := fun c fl hc => exF_of (B.exs c fl hc)
      own := passes_of (K := L2N.CX pr w outer H s E) rfl }
    rw [efd] at lk ⊢
    unfold FT.bodyB at hbody
    cases hself : t.fn.self with
    | false =>
      rw [hself] at hbody
      have h2 : ckSL P t.fn.body (t.inf P) (defBody t.st) = true := by
        cases e : t.fn.own with
        | none => rw [e] at hbody; exact hbody
        | some q => rw [e] at hbody; exact hbody
      have esp : spOf K mg t.fn (call P (n + 1) t.nm) = SpD K mg t.fn.np (call P (n + 1) t.nm) := by
        unfold spOf
        rw [hself]
      rw [esp]
      refine fn_of (k := 5 * n + 4) lk hcd S (fun vs H Q E h => h.1.trans hnp) fun A outer s H vs Q E hr h => ?_
      refine ⟨_, sndSL P t.fn.body (Gd A outer s H E hr) h2, ?_⟩
      obtain ⟨hl, ρ, μ, ds, s1, r1, h⟩ := h
      have hl2 : ds.length = t.fn.np := r1.length.trans hl
      refine ⟨_, μ, ρ, env_start r1, s1, ?_⟩
      unfold WP call at h
      rw [hfn] at h
      simp only [evFn, hself] at h
      rw [pad_full hl2, if_pos hl2, hns, ← hl2] at h
      cases er : evSL (call P n) P.gc t.fn.body (ds.map some ++ List.replicate (t.N.length - ds.length) none) μ with
      | none => rw [er] at h; exact h.elim
      | some r =>
        rw [er] at h
        cases r with
        | fin o δ' μ' =>
          cases o with
          | nx => exact fun σ' H' ρ' e E1 s2 => h .non H' ρ' e s2 rfl
          | ret d => exact fun v H' ρ' e s2 r2 => h v H' ρ' e s2 r2
          | brk => exact h.elim
          | cont => exact h.elim
        | exc x δ' μ' =>
          exact L2N.Takes.imp (L2N.takes_of (E := E) rfl rfl rfl rfl) fun cls od σ' H' ⟨ρ', e, _, s2, r2⟩ => h cls od H' ρ' e s2 r2
    | true =>
      rw [hself] at hbody
      cases hq : t.fn.own with
      | none => rw [hq] at hbody; cases hbody
      | some q =>
        obtain ⟨c, m⟩ := q
        rw [hq] at hbody
        simp only [Bool.and_eq_true] at hbody
        have ci := hbody.2
        unfold FT.ownB at hown
        rw [hq] at hown
        simp only [Bool.and_eq_true] at hown
        have cf := (B.cls c hown.1).2
        have esp : spOf K mg t.fn (call P (n + 1) t.nm) = SpMk K mg (He.ga K c) t.fn.np (call P (n + 1) t.nm) := by
          unfold spOf
          rw [hself, hq]
        rw [esp]
        refine fn_of (k := 5 * n + 4) lk hcd S (fun vs H Q E h => h.1.trans hnp) fun A outer s H vs Q E hr h => ?_
        have G := Gd A outer s H E hr
        unfold ckInit at ci
        split at ci
        · rename_i c' g e hbd
          split at ci
          · rename_i sn sp an ap ex pos hst
            simp only [Bool.and_eq_true, decide_eq_true_eq, Bool.not_eq_true'] at ci
            obtain ⟨⟨⟨⟨⟨⟨⟨⟨rfl, rfl⟩, rfl⟩, i4⟩, i5⟩, i6⟩, i7⟩, i8⟩, i9⟩ := ci
            rw [hst]
            refine ⟨_, pss_one (gs_init (c := c') i4 (G.vis i5) i6 i7 (sndE P e G.toGdE i9).ge cf (sw_none i8)), ?_⟩
            obtain ⟨hl, x, dx, rest, H0, ρ, μ, ds, rfl, rfl, hx, hdx, hne, s1, r1, h⟩ := h
            have hl2 : ds.length + 1 = t.fn.np := by rw [r1.length]; exact hl
            refine ⟨x, dx, H0, ρ, μ, none :: (ds.map some ++ List.replicate (t.fn.ns - t.fn.np) none), ?_, rfl, hx, hdx, hne, ?_, s1, ?_⟩
            · unfold L2.start
              rfl
            · have er : EnvR K ρ H0 (L2.start (t.N.drop 1) rest) (ds.map some ++ List.replicate ((t.N.drop 1).length - ds.length) none) := env_start r1
              have e1 : (t.N.drop 1).length - ds.length = t.fn.ns - t.fn.np := by rw [List.length_drop, hns]; omega
              rw [e1] at er
              have e2 : L2.start t.N (.ref x :: rest) = some (.ref x) :: L2.start (t.N.drop 1) rest := by
                unfold L2.start
                rw [List.length_drop, List.map_cons, List.length_cons, List.cons_append]
                congr 3
                omega
              rw [e2]
              refine ⟨by rw [List.length_cons, List.length_cons, er.len], fun i d hd => ?_⟩
              cases i with
              | zero => cases hd
              | succ i => exact er.at_ i d hd
            · unfold WP call at h
              rw [hfn] at h
              simp only [evFn, hself] at h
              rw [if_pos hl2, hbd] at h
              have evq : ∀ δ μ, evSL (call P n) P.gc (.cons (.ret (.rcd c' "row" e)) .nil) δ μ = (match evE (call P n) P.gc e δ μ with
                | none => none
                | some (.ok d, μ') => some (.fin (.ret (.obj c' ["row"] [d])) δ μ')
                | some (.ex x, μ') => some (.exc x δ μ')) := fun δ μ => by
                simp only [evSL, evS, evE, sE, bnd, ret]
                cases evE (call P n) P.gc e δ μ with
                | none => rfl
                | some q =>
                  obtain ⟨r, μ'⟩ := q
                  cases r <;> rfl
              rw [evq] at h
              unfold WP
              cases ee : evE (call P n) P.gc e (none :: (ds.map some ++ List.replicate (t.fn.ns - t.fn.np) none)) μ with
              | none => rw [ee] at h; exact h
              | some q =>
                obtain ⟨r, μ'⟩ := q
                rw [ee] at h
                cases r with
                | ok d => exact fun σ' H' ρ' e s2 r2 => h H' ρ' e s2 r2
                | ex y => exact L2N.Takes.imp (L2N.takes_of (E := E) rfl rfl rfl rfl) fun cls od σ' H' ⟨ρ', e, _, s2, r2⟩ => h cls od H' ρ' e s2 r2
          · cases ci
        · cases ci
end
end Ev

namespace Ev
open L2 PyProof.Rows PySem.Spec PySem

/-! ## The end -/
theorem repL_ints {K : PySem.W.Frag} {ρ : List Addr} {H : Hp} : ∀ ns : List Int, RepL K ρ H (ns.map D.int) (ns.map V.int)
  | [] => rfl
  | n :: ns => ⟨_, _, rfl, rfl, repL_ints ns⟩
theorem al_nil {α : Type} {p : α → Prop} : ∀ t ∈ ([] : List α), p t := fun _ h => nomatch h
theorem al_cons {α : Type} {p : α → Prop} {a : α} {l : List α} (h : p a) (hl : ∀ t ∈ l, p t) : ∀ t ∈ a :: l, p t := List.forall_mem_cons.mpr ⟨h, hl⟩
/-! ### how defs bind -/
def plainS (nm qual : Str) (st : Stmt) (ps : List Str) : Prop := ∀ (kV doc pm : Value) (an : Option Addr) (cdv ct : Value) (us : List Value), us.length = ps.length → bindArgs (PySem.W.fnOf nm qual (defArgs st) (defBody st) (defScope st) .none kV doc pm an cdv ct) ⟨us, []⟩ = pure (ps.zip us)
def FT.plain (t : FT) : Prop := plainS t.nam t.nm t.st t.ps
theorem all_nil {t : FT} (h : t.kw = []) : t.all = t.dv := by
  unfold FT.all
  rw [h]
  simp
theorem bnd0 {t : FT} (hd : t.dv = []) (hk : t.kw = []) (h : t.plain) : t.bnd := fun K f fd F => by
  have F' : FunD K t.nam t.nm (defArgs t.st) (defBody t.st) (defScope t.st) [] [] f fd := by
    have := F
    unfold FT.F at this
    rw [hd, hk] at this
    exact this
  refine ⟨fun j hj => ?_, fun kn e => by rw [hk] at e; cases e⟩
  rw [all_nil hk, hd]
  exact ⟨[], by rw [List.map_nil, List.drop_nil]; exact .nil, F'.bindsN h⟩
theorem bnd1 {t : FT} (hd : t.dv ≠ []) (hk : t.kw = []) (hl : t.dv.length ≤ t.ps.length) (h : ∀ j, j ≤ t.dv.length → ∀ (T : Addr) (kV doc pm : Value) (an : Option Addr) (cdv ct : Value) (us its : List Value), us.length = t.ps.length - (t.dv.length - j) → its.length = t.dv.length →
      ∃ k, bindArgs (PySem.W.fnOf t.nam t.nm (defArgs t.st) (defBody t.st) (defScope t.st) (.ref T) kV doc pm an cdv ct) ⟨us, []⟩ = seqItems? (.ref T) >>= k ∧ k (some its.toArray) = pure (t.ps.zip (us ++ its.drop j))) : t.bnd := fun K f fd F => by
  have F' : FunD K t.nam t.nm (defArgs t.st) (defBody t.st) (defScope t.st) (t.dv.map (He.Dv.v K)) [] f fd := by
    have := F
    unfold FT.F at this
    rw [hk] at this
    exact this
  refine ⟨fun j hj => ?_, fun kn e => by rw [hk] at e; cases e⟩
  rw [all_nil hk]
  refine F'.binds1 (t.ps.length - (t.dv.length - j)) j (by simpa using hd) (by rw [List.length_map]; omega) fun T kV doc pm an cdv ct us its h1 h2 => h j hj T kV doc pm an cdv ct us its h1 (by rw [h2, List.length_map])
theorem bndK {t : FT} {kn : Str} {v : He.Dv} (hd : t.dv = []) (hk : t.kw = [(kn, v)]) (hl : 1 ≤ t.ps.length)
    (h0 : ∀ (T : Addr) (doc pm : Value) (an : Option Addr) (cdv ct : Value) (us : List Value) (w : Value), us.length = t.ps.length - 1 → KwChain T [(kn, w)] (bindArgs (PySem.W.fnOf t.nam t.nm (defArgs t.st) (defBody t.st) (defScope t.st) .none (.ref T) doc pm an cdv ct) ⟨us, []⟩) (t.ps.zip (us ++ [w])))
    (h1 : ∀ (kV doc pm : Value) (an : Option Addr) (cdv ct : Value) (us : List Value) (w : Value), us.length = t.ps.length - 1 → bindArgs (PySem.W.fnOf t.nam t.nm (defArgs t.st) (defBody t.st) (defScope t.st) .none kV doc pm an cdv ct) ⟨us, [(kn, w)]⟩ = pure (t.ps.zip (us ++ [w]))) : t.bnd := fun K f fd F => by
  have F' : FunD K t.nam t.nm (defArgs t.st) (defBody t.st) (defScope t.st) [] [(kn, v.v K)] f fd := by
    have := F
    unfold FT.F at this
    rw [hd, hk] at this
    exact this
  refine ⟨fun j hj => ?_, fun kn' e => ?_⟩
  · rw [hd] at hj
    obtain rfl : j = 0 := by simpa using hj
    have e : t.all.map (He.Dv.v K) = [v.v K] := by
      unfold FT.all
      rw [hd, hk]
      rfl
    rw [e]
    have q := F'.binds0 (ps := t.ps) (t.ps.length - 1) (by simp) (by show t.ps.length - 1 + 1 = t.ps.length; omega) fun T doc pm an cdv ct us ks l1 l2 => by
      obtain ⟨w, rfl⟩ : ∃ w, ks = [w] := by
        match ks, l2 with
        | [w], _ => exact ⟨w, rfl⟩
      exact h0 T doc pm an cdv ct us w l1
    exact q
  · rw [hk] at e
    obtain rfl : kn = kn' := by
      have : [kn] = [kn'] := e
      simpa using this
    obtain ⟨oc, od, dV, kV, doc, pm, an, cdv, ct, osl, efd, lk, hcd, hD, hK⟩ := F'.ex
    obtain rfl : dV = .none := by
      rcases hD with ⟨_, z⟩ | ⟨z, _⟩
      · exact z
      · exact absurd rfl z
    refine ⟨fun s us ws X l1 l2 => ?_, fun r1 r2 => r1.append r2⟩
    obtain ⟨w, rfl⟩ : ∃ w, ws = [w] := by
      match ws, l2 with
      | [w], _ => exact ⟨w, rfl⟩
    rw [efd]
    exact .of_eq (h1 kV doc pm an cdv ct us w l1)
/-! ### constants of the module -/
def gcOf (ks : List (Str × D)) (x : Str) : Option D := (ks.find? fun q => q.1 == x).map (·.2)
def okK (q : Str × D) : Bool := match q.2 with
  | .int _ => true
  | .str _ => true
  | .tup [.int _, .int _] => true
  | _ => false
def faK (q : Str × D) : He.Fa := match q.2 with
  | .int i => .int q.1 i
  | .str z => .str q.1 z
  | _ => .glo q.1
def tupK (K : PySem.W.Frag) (q : Str × D) : Bool := match q.2 with
  | .tup [.int i, .int j] => He.tupB K q.1 [.int i, .int j]
  | _ => true
/-! ### the errors, _law_outcome, _law_error -/
structure XT where
  out : Bool := false
  err : Bool := false
  stO : Stmt := .Pass ⟨0, 0, 0, 0⟩
  stF : Stmt := .Pass ⟨0, 0, 0, 0⟩
  stE : Stmt := .Pass ⟨0, 0, 0, 0⟩
  exs : List (Str × Option Str × Stmt) := []
  cls : List Str := []
def clsOf (X : XT) (c : Str) : Option Str := (X.cls.find? fun q => q == c).map fun _ => "row"
def exsOf (X : XT) (c : Str) : Option (Option Str) := (X.exs.find? fun q => q.1 == c).map (·.2.1)
/-- what of them is seen in the text -/
structure XOk (X : XT) : Prop where
  o : X.out = true → (scB oN ["_law_ask"] (defScope X.stO) && oN.all (lclB (defScope X.stO)) && (["PaceError", "NotFound", "ZeroDenominator", "EmptyHistory", "_law_error_field"] : List Str).all (gloB (defScope X.stO)) && scB ["_law_e"] ["_law_e"] (defScope X.stF)) = true ∧ OutIs (defBody X.stO) ∧ FieldIs (defBody X.stF) ∧
    plainS "_law_outcome" "_law_outcome" X.stO ["_law_ask"] ∧ plainS "_law_error_field" "_law_error_field" X.stF ["_law_e"]
  e : X.err = true → (scB ["_law_ask"] ["_law_ask"] (defScope X.stE) && gloB (defScope X.stE) "_law_outcome") = true ∧ ErrIs (defBody X.stE) ∧ plainS "_law_error" "_law_error" X.stE ["_law_ask"]
  x : ∀ q ∈ X.exs, (scB (psI q.2.1) (psI q.2.1) (defScope q.2.2) && (match q.2.1 with | some f => !(f == ("__debug__" : Str)) && !(f == ("__classdict__" : Str)) | none => true)) = true ∧ InitIs q.1 q.2.1 (defBody q.2.2) ∧ plainS "__init__" (q.1 ++ ".__init__") q.2.2 (psI q.2.1)
def ddS (at_ : Str × Option Str) (nm qual : Str) (st : Stmt) : He.DefD := ⟨at_, nm, qual, defArgs st, defBody st, defScope st, [], []⟩
def ddX (X : XT) : List He.DefD := (if X.out then [ddS ("_law_outcome", none) "_law_outcome" "_law_outcome" X.stO, ddS ("_law_error_field", none) "_law_error_field" "_law_error_field" X.stF] else []) ++
  (if X.err then [ddS ("_law_error", none) "_law_error" "_law_error" X.stE] else []) ++ X.exs.map fun q => ddS (q.1, some "__init__") "__init__" (q.1 ++ ".__init__") q.2.2
def faX (X : XT) : List He.Fa := (if X.out then (["PaceError", "NotFound", "ZeroDenominator", "EmptyHistory", "_law_outcome", "_law_error_field"] : List Str).map He.Fa.glo ++ ((errPN ++ errZE).filter fun c => !X.exs.any fun q => q.1 == c).map He.Fa.free else []) ++
  (if X.err then [He.Fa.glo "_law_error"] else []) ++ (X.exs.map fun q => He.Fa.glo q.1) ++ X.cls.map He.Fa.glo
/-- what a method must be -/
def mthB (K : PySem.W.Frag) (t : FT) : Bool := match t.fn.own with
  | some (c, m) => decide (PySem.W.findIn K (.ref (He.ga K c)) m = some (some (.ref (He.ma K (He.ga K c) m)))) && PySem.W.isFn K (.ref (He.ma K (He.ga K c) m)) && (match t.fn.self with
    | true => decide (m = "__init__") && PySem.W.makesIn K (He.ga K c) && PySem.W.keepIn K (.ref (He.ga K c))
    | false => PySem.W.keepIn K (.ref (He.ma K (He.ga K c) m)))
  | none => true
def clsX (K : PySem.W.Frag) (out : Bool) (q : Str × Option Str × Stmt) : Bool := xclsB K (He.ga K q.1) && decide (PySem.W.findIn K (.ref (He.ga K q.1)) "__init__" = some (some (.ref (He.ma K (He.ga K q.1) "__init__")))) && decide (PySem.W.typeIn K (.ref (He.ma K (He.ga K q.1) "__init__")) = some (.type "function")) &&
  decide (PySem.W.findIn K (.ref (He.ga K q.1)) "tag" = some none) && (match q.2.1 with | some f => decide (PySem.W.findIn K (.ref (He.ga K q.1)) f = some none) | none => true) &&
  (!out || (if q.1 ∈ errPN then decide (PySem.W.exmAny K (.ref (He.ga K q.1)) [.ref (He.ga K "PaceError"), .ref (He.ga K "NotFound")] = some true) && (match selF q.1 with | some f => decide (PySem.W.findIn K (.ref (He.ga K q.1)) f = some none) | none => true)
    else if q.1 ∈ errZE then decide (PySem.W.exmAny K (.ref (He.ga K q.1)) [.ref (He.ga K "PaceError"), .ref (He.ga K "NotFound")] = some false) && decide (PySem.W.exmAny K (.ref (He.ga K q.1)) [.ref (He.ga K "ZeroDenominator"), .ref (He.ga K "EmptyHistory")] = some true) else true))
def tfOf (L : List FT) : List He.Defn := (L.filter (·.lam)).map fun t => (t.nm, none)
def exB (L : List FT) (ks : List (Str × D)) (X : XT) (K : PySem.W.Frag) : Bool := ks.all (tupK K) && X.exs.all (clsX K X.out) && decide ((tfOf L).map fun p => (He.cT K p).2).Nodup && L.all (mthB K) && X.cls.all (fun c => clsF K (He.ga K c))
def faOf (P : Pg) (L : List FT) (ks : List (Str × D)) (X : XT) : List He.Fa := (L.filter fun t => t.fn.own.isNone).map (fun t => He.Fa.glo t.nm) ++ P.fr.map He.Fa.free ++ ks.map faK ++ faX X
def ddOf (L : List FT) (X : XT) : List He.DefD := L.map FT.dd ++ ddX X
abbrev hookOf (m : Nat) (P : Pg) (L : List FT) (ks : List (Str × D)) (X : XT) : PySem.W.Hook := He.hookX m (faOf P L ks X) (ddOf L X) [] (tfOf L) (exB L ks X)
abbrev SaysOf (P : Pg) (L : List FT) (ks : List (Str × D)) (X : XT) (w : World) (h : Heap) (K : PySem.W.Frag) : Prop := He.SaysX (faOf P L ks X) (ddOf L X) [] (tfOf L) (exB L ks X) w h K
/-- the tables that are followed -/
@[reducible] def tbOf (w : World) (L : List FT) (K : PySem.W.Frag) : Tb := ⟨(tfOf L).map fun p => ((He.cT K p).2, p.1 ++ ".<locals>." ++ "<lambda>"), w⟩
structure Stc (P : Pg) (L : List FT) (ks : List (Str × D)) (X : XT) : Prop where
  fns : P.fns = lookF L
  ok : ∀ t ∈ L, t.ok P = true
  uniq : ∀ t ∈ L, lookF L t.nm = some t.fn
  bnd : ∀ t ∈ L, t.bnd
  gc : P.gc = gcOf ks
  hks : ks.all okK = true
  exs : P.exs = exsOf X
  err : P.err = X.err
  x : XOk X
  lo : P.out = X.out
  cls : P.cls = clsOf X
section
variable {P : Pg} {L : List FT} {ks : List (Str × D)} {X : XT} {K : PySem.W.Frag} {h : Heap} {w : World} {mg : Str → Option Value}
theorem vis_par {N ps : List Str} {sc : Scope} (S : FnScope N ps sc) {y : Str} (hy : y ∈ ps) : Vis sc y := (S.par y hy).elim .inl fun q => .inr (.inl q)
theorem lcl_of {sc : Scope} {y : Str} (h : lclB sc y = true) : sc.names.lookup y = some .local := by
  unfold lclB at h
  split at h
  · assumption
  · cases h
theorem glo_of {sc : Scope} {y : Str} (h : gloB sc y = true) : sc.names.lookup y = some .globalImplicit := by
  unfold gloB at h
  split at h
  · assumption
  · cases h
theorem base_of (T : Stc P L ks X) (XK : K.In h) (G : h.Ns mainGlobals mg) (c : SaysOf P L ks X w h K) : Base P L K mg := by

  have cd : He.SaysD (faOf P L ks X) (ddOf L X) K := c.t.d
  have more : exB L ks X K = true := c.more
  unfold exB at more
  simp only [Bool.and_eq_true, List.all_eq_true] at more
  obtain ⟨⟨⟨⟨mt, mx⟩, mn⟩, mm⟩, mc⟩ := more
  have fa : ∀ f ∈ faX X, f.ok K = true := fun f hf => cd.facts (List.mem_append_right _ hf)
  have glo : ∀ y, He.Fa.glo y ∈ faX X → mg y = some (.ref (He.ga K y)) := fun y hy => He.glo_ok XK G (fa _ hy)
  have dd : ∀ d ∈ ddX X, ∃ fd, FunD K d.name d.qual d.params d.body d.scope (d.dvs K) (d.kws K) (He.fAd K d.at_) fd := fun d hd => cd.defs (List.mem_append_right _ hd)
  have fx : ∀ q ∈ X.exs, He.Fa.glo q.1 ∈ faX X := fun q hq => by
    unfold faX
    exact List.mem_append_left _ (List.mem_append_right _ (List.mem_map_of_mem (f := fun q : Str × Option Str × Stmt => He.Fa.glo q.1) hq))
  have cls : ∀ q ∈ X.exs, XCls K (He.ga K q.1) ∧ PySem.W.findIn K (.ref (He.ga K q.1)) "__init__" = some (some (.ref (He.ma K (He.ga K q.1) "__init__"))) ∧ PySem.W.typeIn K (.ref (He.ma K (He.ga K q.1) "__init__")) = some (.type "function") ∧ PySem.W.findIn K (.ref (He.ga K q.1)) "tag" = some none ∧
      (∀ f, q.2.1 = some f → PySem.W.findIn K (.ref (He.ga K q.1)) f = some none) ∧ (X.out = true → (q.1 ∈ errPN ∨ q.1 ∈ errZE) → ErrK K (He.ga K "PaceError") (He.ga K "NotFound") (He.ga K "ZeroDenominator") (He.ga K "EmptyHistory") q.1 (He.ga K q.1)) := fun q hq => by
    have z := mx q hq
    unfold clsX at z
    simp only [Bool.and_eq_true, decide_eq_true_eq] at z
    obtain ⟨⟨⟨⟨⟨z1, z2⟩, z3⟩, z4⟩, z5⟩, z6⟩ := z
    have C := xcls_of z1
    refine ⟨C, z2, z3, z4, fun f e => ?_, fun ho hc => ?_⟩
    · rw [e] at z5
      exact of_decide_eq_true z5
    · rw [ho] at z6
      simp only [Bool.not_true, Bool.false_or] at z6
      refine ⟨C, z4, ?_⟩
      by_cases h1 : q.1 ∈ errPN
      · rw [if_pos h1, Bool.and_eq_true] at z6
        refine .inl ⟨h1, of_decide_eq_true z6.1, fun f e => ?_⟩
        have z7 := z6.2
        rw [e] at z7
        exact of_decide_eq_true z7
      · have h2 := hc.resolve_left h1
        rw [if_neg h1, if_pos h2, Bool.and_eq_true] at z6
        exact .inr ⟨h2, of_decide_eq_true z6.1, of_decide_eq_true z6.2⟩
  refine { fns := T.fns, ok := T.ok, uniq := T.uniq, bnd := T.bnd, def_ := fun t ht => ?_, gc := fun x d hx => ?_, gk := fun x ds hx ρ H => ?_, fr := fun x hx => ?_, exs := fun c fl hc => ?_, out := fun hl => ?_, cls := fun c hc => ?_, mth := fun t ht c m ho hs => ?_, mak := fun t ht c m ho hs => ?_ }
  · obtain ⟨fd, F⟩ := cd.defs (List.mem_append_left _ (List.mem_map_of_mem (f := FT.dd) ht))
    refine ⟨_, fd, ?_, F⟩
    show AtK K mg t (He.fAd K t.at_)
    unfold AtK FT.at_
    cases ho : t.fn.own with
    | none =>
      refine He.glo_ok XK G (cd.facts (f := He.Fa.glo t.nm) ?_)
      exact List.mem_append_left _ (List.mem_append_left _ (List.mem_append_left _ (List.mem_map_of_mem (f := fun t : FT => He.Fa.glo t.nm) (List.mem_filter.mpr ⟨ht, by rw [ho]; rfl⟩))))
    | some q =>
      obtain ⟨c, m⟩ := q
      rfl
  · rw [T.gc] at hx
    unfold gcOf at hx
    obtain ⟨q, hq, rfl⟩ := Option.map_eq_some_iff.mp hx
    have hm := List.mem_of_find?_eq_some hq
    have hn : q.1 = x := by simpa using List.find?_some hq
    have f := cd.facts (f := faK q) (List.mem_append_left _ (List.mem_append_right _ (List.mem_map_of_mem (f := faK) hm)))
    have o := List.all_eq_true.mp T.hks q hm
    have tk := mt q hm
    obtain ⟨y, d⟩ := q
    subst hn
    unfold okK at o
    split at o
    · rename_i i e
      cases e
      obtain ⟨t, e⟩ := He.int_ok XK G (show (He.Fa.int y i).ok K = true from f)
      exact ⟨_, .int i, e, ⟨t, rfl⟩, fun _ _ => rfl⟩
    · rename_i z e
      cases e
      obtain ⟨t, e⟩ := He.str_ok XK G (show (He.Fa.str y z).ok K = true from f)
      exact ⟨_, .str z, e, ⟨t, rfl⟩, fun _ _ => rfl⟩
    · rename_i i j e
      cases e
      exact ⟨_, .ref (He.ga K y), He.glo_ok XK G (show (He.Fa.glo y).ok K = true from f), rfl, fun ρ H => ⟨_, _, rfl, He.tupB_ok (show He.tupB K y [.int i, .int j] = true from tk) H, _, _, rfl, rfl, _, _, rfl, rfl, rfl⟩⟩
    · cases o
  · rw [T.gc] at hx
    unfold gcOf at hx
    obtain ⟨q, hq, e⟩ := Option.map_eq_some_iff.mp hx
    have hm := List.mem_of_find?_eq_some hq
    have hn : q.1 = x := by simpa using List.find?_some hq
    have o := List.all_eq_true.mp T.hks q hm
    have tk := mt q hm
    obtain ⟨y, d⟩ := q
    subst hn
    have e' : d = .tup ds := e
    subst e'
    unfold okK at o
    split at o
    · rename_i i e; cases e
    · rename_i i e; cases e
    · rename_i i j e
      cases e
      exact ⟨_, _, rfl, He.tupB_ok (show He.tupB K y [.int i, .int j] = true from tk) H, _, _, rfl, rfl, _, _, rfl, rfl, rfl⟩
    · cases o
  · exact He.free_ok XK G (cd.facts (f := He.Fa.free x) (List.mem_append_left _ (List.mem_append_left _ (List.mem_append_right _ (List.mem_map_of_mem (f := He.Fa.free) hx)))))
  · rw [T.exs] at hc
    unfold exsOf at hc
    obtain ⟨q, hq, rfl⟩ := Option.map_eq_some_iff.mp hc
    have hm := List.mem_of_find?_eq_some hq
    have hn : q.1 = c := by simpa using List.find?_some hq
    subst hn
    obtain ⟨z1, z2, z3, z4, z5, _⟩ := cls q hm
    obtain ⟨y1, y2, y3⟩ := T.x.x q hm
    rw [Bool.and_eq_true] at y1
    have S := scB_ok y1.1
    obtain ⟨fd, F⟩ := dd (ddS (q.1, some "__init__") "__init__" (q.1 ++ ".__init__") q.2.2) (List.mem_append_right _ (List.mem_map_of_mem (f := fun q : Str × Option Str × Stmt => ddS (q.1, some "__init__") "__init__" (q.1 ++ ".__init__") q.2.2) hm))
    refine ⟨_, _, fd, _, _, _, _, _, z1, z2, z3, F, S, fun y hy => vis_par S hy, fun f e => ?_, y2, z4, F.bindsN y3, glo _ (fx q hm)⟩
    have y4 := y1.2
    rw [e] at y4
    simp only [Bool.and_eq_true, Bool.not_eq_true'] at y4
    exact ⟨y4.1, y4.2, z5 f e⟩
  · have ho : X.out = true := T.lo.symm.trans hl
    have fo : ∀ y ∈ (["PaceError", "NotFound", "ZeroDenominator", "EmptyHistory", "_law_outcome", "_law_error_field"] : List Str), mg y = some (.ref (He.ga K y)) := fun y hy => glo y (by
      unfold faX
      rw [if_pos ho]
      exact List.mem_append_left _ (List.mem_append_left _ (List.mem_append_left _ (List.mem_append_left _ (List.mem_map_of_mem (f := He.Fa.glo) hy)))))
    have fno : ∀ c ∈ errPN ++ errZE, (X.exs.any fun q => q.1 == c) = false → mg c = none := fun c hc hn => He.free_ok XK G (fa (He.Fa.free c) (by
      unfold faX
      rw [if_pos ho]
      exact List.mem_append_left _ (List.mem_append_left _ (List.mem_append_left _ (List.mem_append_right _ (List.mem_map_of_mem (f := He.Fa.free) (List.mem_filter.mpr ⟨hc, by rw [hn]; rfl⟩)))))))
    obtain ⟨b1, b2, b3, b4, b5⟩ := T.x.o ho
    simp only [Bool.and_eq_true, List.all_eq_true] at b1
    obtain ⟨⟨⟨s1, s2⟩, s3⟩, s4⟩ := b1
    obtain ⟨fd, F⟩ := dd (ddS ("_law_outcome", none) "_law_outcome" "_law_outcome" X.stO) (by
      unfold ddX
      rw [if_pos ho]
      exact List.mem_append_left _ (List.mem_append_left _ List.mem_cons_self))
    obtain ⟨efd, eF⟩ := dd (ddS ("_law_error_field", none) "_law_error_field" "_law_error_field" X.stF) (by
      unfold ddX
      rw [if_pos ho]
      exact List.mem_append_left _ (List.mem_append_left _ (List.mem_cons_of_mem _ List.mem_cons_self)))
    let D0 : OutD K mg := {
      g := _
      fd := fd
      pars := _
      body := _
      sc := _
      F := F
      S := scB_ok s1
      lc := fun y hy => lcl_of (s2 y hy)
      gl := fun y hy => glo_of (s3 y hy)
      hb := F.bindsN b4
      hm := fo _ (by simp)
      is_ := b2
      eg := _
      efd := efd
      epars := _
      ebody := _
      esc := _
      eF := eF
      eS := scB_ok s4
      ehb := eF.bindsN b5
      ehm := fo _ (by simp)
      eis := b3
      pe := _
      nf := _
      zd := _
      eh := _
      mpe := fo _ (by simp)
      mnf := fo _ (by simp)
      mzd := fo _ (by simp)
      meh := fo _ (by simp) }
    refine ⟨D0, fun c cls' hm hc => ?_, fun he => ?_⟩
    · cases e : X.exs.any fun q => q.1 == c with
      | false =>
        rw [fno c (List.mem_append.mpr hc) e] at hm
        cases hm
      | true =>
        obtain ⟨q, hq, e2⟩ := List.any_eq_true.mp e
        have e3 : q.1 = c := by simpa using e2
        subst e3
        rw [glo _ (fx q hq)] at hm
        cases hm
        exact ⟨_, rfl, (cls q hq).2.2.2.2.2 ho hc⟩
    · rw [T.err] at he
      obtain ⟨c1, c2, c3⟩ := T.x.e he
      rw [Bool.and_eq_true] at c1
      obtain ⟨fd2, F2⟩ := dd (ddS ("_law_error", none) "_law_error" "_law_error" X.stE) (by
        unfold ddX
        rw [if_pos he]
        exact List.mem_append_left _ (List.mem_append_right _ List.mem_cons_self))
      refine ⟨{ g := _, fd := fd2, pars := _, body := _, sc := _, F := F2, S := scB_ok c1.1, gl := glo_of c1.2, hb := F2.bindsN c3, hm := glo _ (by
        unfold faX
        rw [if_pos he]
        exact List.mem_append_left _ (List.mem_append_left _ (List.mem_append_right _ List.mem_cons_self))), is_ := c2 }, rfl⟩
  · rw [T.cls] at hc
    unfold clsOf at hc
    have hm : c ∈ X.cls := by
      cases e : X.cls.find? fun q => q == c with
      | none => rw [e] at hc; cases hc
      | some q =>
        have h1 := List.find?_some e
        have h2 : q = c := by simpa using h1
        rw [← h2]
        exact List.mem_of_find?_eq_some e
    refine ⟨glo c ?_, clsF_ok (mc c hm)⟩
    unfold faX
    exact List.mem_append_right _ (List.mem_map_of_mem (f := He.Fa.glo) hm)
  · have z := mm t ht
    unfold mthB at z
    rw [ho, hs] at z
    simp only [Bool.and_eq_true, decide_eq_true_eq] at z
    exact ⟨z.1.1, z.1.2, z.2⟩
  · have z := mm t ht
    unfold mthB at z
    rw [ho, hs] at z
    simp only [Bool.and_eq_true, decide_eq_true_eq] at z
    obtain ⟨⟨z1, z2⟩, ⟨z3, z4⟩, z5⟩ := z
    subst z3
    exact ⟨z4, z1, z2, z5⟩
end
end Ev

namespace Ev
open L2 PyProof.Rows PySem.Spec PySem

/-! ## The end of a law -/
/-- a class's first def -/
def initAt (s : Stmt) : Stmt := match s with
  | .ClassDef _ _ _ body _ _ _ _ _ _ _ => body.getD 0 (.Pass ⟨0, 0, 0, 0⟩)
  | s => s
/-- a class's j-th def -/
def mthAt (s : Stmt) (j : Nat) : Stmt := match s with
  | .ClassDef _ _ _ body _ _ _ _ _ _ _ => body.getD j (.Pass ⟨0, 0, 0, 0⟩)
  | s => s
/-- the script is told for good ahead of the call -/
def spF (K : PySem.W.Frag) (sp : Sp) : Sp := fun vs H Q E => vs.length = 1 ∧ (∀ cls d H', ¬ E cls d H') ∧ ∃ a xs, vs = [.ref a] ∧ SqL K H a xs ∧ ∀ H', FrL K H' a xs → (H' = H ∨ ∃ o, H a = some (.lst xs) ∧ H' = upd H a (.frz o (.lst xs))) → sp vs H' Q E
theorem un_frz {fs : List Addr} {H H2 : Hp} {h h2 : Heap} {a : Addr} {xs : List V} {o : Obj} (ha : H a = some (.lst xs)) (u : Un fs [] (upd H a (.frz o (.lst xs))) H2 h h2) : Un fs [] H H2 h h2 := by
  have ne : ∀ b, H b = none → b ≠ a := fun b n z => by rw [z, ha] at n; cases n
  exact ⟨fun b q e n hb hx => u.keep b q e (by rw [upd_ne (ne b n)]; exact n) hb hx, fun b q e n hb hx => u.slot b q e (by rw [upd_ne (ne b n)]; exact n) hb hx, fun b q e n hx => u.free b q e (by rw [upd_ne (ne b n)]; exact n) hx, u.there,
    fun b ys e => u.tups b ys (by rw [upd_ne (ne_of e ha (by intro z; cases z))]; exact e), fun b q x e => u.frzs b q x (by rw [upd_ne (ne_of e ha (by intro z; cases z))]; exact e), fun b ps e => u.tbls b ps (by rw [upd_ne (ne_of e ha (by intro z; cases z))]; exact e)⟩
theorem law_fr {P : Program} {w : World} {K : PySem.W.Frag} {mg : Str → Option Value} {base : Heap} {k : Nat} {fa : Addr} {fd : FuncData} {x : Str} {sp : Sp} (F : FnOk P w K mg base (L2N.CX P w) k fa fd [x] sp) : FnOk P w K mg base (L2N.CX P w) k fa fd [x] (spF K sp) := by
  refine ⟨fun vs H Q E h => h.1, fun A outer s H args us vs Q E hr e0 hb r h => ?_⟩
  obtain ⟨_, hE, a, xs, rfl, hq, h⟩ := h
  by_cases hl : H a = some (.lst xs)
  · obtain ⟨z, its, n, r1, e⟩ := (show ObjOk P w H s.heap a (.lst xs) from e0.hok a _ hl)
    have ne : ∀ b, H b = none → b ≠ a := fun b n z => by rw [z, hl] at n; cases n
    have hok : HOk P w (upd H a (.frz { cls := .type "list", data := .seq its.toArray n } (.lst xs))) s.heap := fun b q e1 => by
      by_cases hb : b = a
      · subst hb
        rw [upd_same] at e1
        cases e1
        exact ⟨e, z, its, n, r1, e⟩
      · rw [upd_ne hb] at e1
        exact (e0.hok b q e1).stay (fun c v _ e2 => e2) (fun c e2 => by rw [upd_ne (ne_of e2 hl (by intro z; cases z))]; exact e2) fun c ys e2 => by rw [upd_ne (ne_of e2 hl (by intro z; cases z))]; exact e2
    have e1 : Env0 P w K mg base A outer s (upd H a (.frz { cls := .type "list", data := .seq its.toArray n } (.lst xs))) := ⟨e0.frames, e0.mod, fun b q e2 => ⟨(e0.bs b q e2).1, by rw [upd_ne (ne b (e0.bs b q e2).2)]; exact (e0.bs b q e2).2⟩, e0.bsz, e0.funs, fun b hb => by rw [upd_ne (ne b (e0.frf b hb))]; exact e0.frf b hb, hok, e0.bare⟩
    refine codeAny_mono (F.run A outer s _ args us [.ref a] Q E hr e1 hb r (h _ (.inl ⟨_, upd_same⟩) (.inr ⟨_, hl, rfl⟩))) fun res s' q => ?_
    cases res with
    | error e =>
      obtain ⟨_, _, H', cls, d, _, _, _, _, _, _, _, z⟩ := q
      exact (hE _ _ _ z).elim
    | ok fl =>
      cases fl with
      | ret u =>
        obtain ⟨v, H', os, bare, un, hok', rv, qv⟩ := q
        exact ⟨v, H', os, bare, un_frz hl un, hok', rv, qv⟩
      | next => exact q
      | brk => exact q
      | cont => exact q
  · refine F.run A outer s H args us [.ref a] Q E hr e0 hb r (h H ?_ (.inl rfl))
    rcases hq with (q | ⟨o, q⟩) | q
    · exact absurd q hl
    · exact .inl ⟨o, q⟩
    · exact .inr q
theorem nodup_map {α β : Type} {f : α → β} : ∀ {l : List α}, (l.map f).Nodup → ∀ a ∈ l, ∀ b ∈ l, f a = f b → a = b
  | [], _, a, ha, _, _, _ => nomatch ha
  | x :: l, h, a, ha, b, hb, e => by
    rw [List.map_cons, List.nodup_cons] at h
    rcases List.mem_cons.mp ha with ea | ha'
    · rcases List.mem_cons.mp hb with eb | hb'
      · rw [ea, eb]
      · rw [ea] at e
        exact absurd (by rw [e]; exact List.mem_map_of_mem hb') h.1
    · rcases List.mem_cons.mp hb with eb | hb'
      · rw [eb] at e
        exact absurd (by rw [← e]; exact List.mem_map_of_mem ha') h.1
      · exact nodup_map h.2 a ha' b hb' e
section
variable {P : Pg} {L : List FT} {ks : List (Str × D)} {X : XT} {K : PySem.W.Frag} {h : Heap} {w : World} {mg : Str → Option Value}
theorem tabK_of (T : Stc P L ks X) (XK : K.In h) (G : h.Ns mainGlobals mg) (c : SaysOf P L ks X w h K) {base : Heap} (hb : ∀ p ∈ (tfOf L).map (He.cT K), LamX.TabB base mg p.1 p.2) : @TabK (tbOf w L K) L K mg base := by
  intro t ht hl f fd hm F
  obtain ⟨oc, od, dV, kV, doc, pm, an, cdv, ct, osl, efd, lk, hcd, _, _⟩ := F.ex
  obtain ⟨c0, rfl⟩ := He.codeIn_ref hcd
  have hno : t.fn.own = none := by
    have := (FT.okF (T.ok t ht)).own
    unfold FT.ownB at this
    cases e : t.fn.own with
    | none => rfl
    | some q =>
      rw [e] at this
      simp only [Bool.and_eq_true, Bool.not_eq_true'] at this
      rw [hl] at this
      cases this.2
  have hg : mg t.nm = some (.ref (He.ga K t.nm)) := He.glo_ok XK G (c.t.d.facts (f := He.Fa.glo t.nm) (List.mem_append_left _ (List.mem_append_left _ (List.mem_append_left _ (List.mem_map_of_mem (f := fun t : FT => He.Fa.glo t.nm) (List.mem_filter.mpr ⟨ht, by rw [hno]; rfl⟩))))))
  rw [hg] at hm
  cases hm
  have hmem : (t.nm, none) ∈ tfOf L := List.mem_map_of_mem (f := fun t : FT => ((t.nm, none) : He.Defn)) (List.mem_filter.mpr ⟨ht, hl⟩)
  have ec : (He.cT K (t.nm, none)).1 = c0 := He.codeOf_eq (p := (t.nm, none)) lk (by rw [efd])
  refine ⟨c0, (He.cT K (t.nm, none)).2, by rw [efd], ?_, ?_, ?_⟩
  · have := hb (He.cT K (t.nm, none)) (List.mem_map_of_mem hmem)
    rw [ec] at this
    exact this
  · exact List.mem_map_of_mem (f := fun p : He.Defn => ((He.cT K p).2, p.1 ++ ".<locals>." ++ "<lambda>")) hmem
  · intro p hp e
    obtain ⟨p2, h2, rfl⟩ := List.mem_map.mp (show p ∈ (tfOf L).map fun p => ((He.cT K p).2, p.1 ++ ".<locals>." ++ "<lambda>") from hp)
    have more : exB L ks X K = true := c.more
    unfold exB at more
    simp only [Bool.and_eq_true, decide_eq_true_eq] at more
    rw [nodup_map more.1.1.2 p2 h2 _ hmem e]
end
theorem walk_endX {l : PySem.W.OpenLaw} {P : Pg} {L : List FT} {ks : List (Str × D)} {X : XT} {t : FT} {n m : Nat} {x : Str} {q : Program} {loose : List Str} {XP : (Str → Option Value) → Heap → Prop} {d : DefRec} (hn : l.most = some 63) (hdf : d.params.defaults = []) (hr : Room (5 * n) callerA) (T : Stc P L ks X)
    (hm : t ∈ L) (hnm : d.name = t.nm) (hps : t.ps = [x]) (hdv : t.dv = []) (hkw : t.kw = []) (hpl : t.plain) (hown : t.fn.own = none) (hself : t.fn.self = false)
    (hp : ∀ ns : List Int, ns.length ≤ 63 → (∀ k ∈ ns, Builtin.Int.intBits k ≤ 1048576) → ∃ μ, call P n t.nm [.lst (ns.map D.int)] [] = some (.ok (.bl true), μ)) :
    PySem.W.WalkO q loose XP (hookOf m P L ks X).says l.row.toRowW d [] (fun f vs => PySem.call f vs) := by
  refine Att.attach_callB hn hdf fun w s₀ s₁ mg mb fa o pm cd doc a vs ns G Y ho hd hcd hmg hobj hints hlen hbits hg => ?_
  obtain ⟨K, KX, c⟩ := Y
  letI : Tb := tbOf w L K
  have B := base_of T KX G.T.g c
  obtain ⟨f, fd, hmf, F⟩ := B.def_ t hm
  have hat := hmf
  unfold AtK at hmf
  rw [hown] at hmf
  rw [hnm, hmf] at hmg
  cases hmg
  have hnam : t.nam = t.nm := by
    unfold FT.nam
    rw [hown]
  have np1 : t.fn.np = 1 := by
    rw [(FT.okF (T.ok t hm)).np, hps]
    rfl
  have F' : FunD K t.nm t.nm (defArgs t.st) (defBody t.st) (defScope t.st) [] [] fa fd := by
    have := F
    unfold FT.F at this
    rw [hdv, hkw, hnam] at this
    exact this
  have hbind : ∀ (s : Shared) (u : Value), BindsTo s fd ⟨[u], []⟩ [(x, u)] := fun s u => by
    have hpl' : plainS t.nm t.nm t.st t.ps := by
      have := hpl
      unfold FT.plain at this
      rw [hnam] at this
      exact this
    have := F'.bindsA hpl' s [u] (by rw [hps]; rfl)
    rw [hps] at this
    exact this
  have tab : ∀ p ∈ (tfOf L).map (He.cT K), ∃ p0 ∈ tfOf L, p = He.cT K p0 := fun p hp => by
    obtain ⟨p0, h0, e⟩ := List.mem_map.mp hp
    exact ⟨p0, h0, e.symm⟩
  refine LamX.law_callTs (CX := L2N.CX l.prog w) (k := 5 * n) (x := x) (cs := (tfOf L).map (He.cT K)) (sp := spF K (SpD K mg t.fn.np (call P n t.nm))) KX G.T.g G.T.b G.T.builtins G.T.nolimit hg (fun p hp => ?_) (fun p hp => ?_) (fun p hp => ?_) G.T.bmain hobj hints (Nat.le_trans hlen (by decide)) hr
    (fun base hKb hNb hTb => ?_) hbind (fun H hH hS => ?_) fun H e s' z => ?_
  · obtain ⟨p0, h0, rfl⟩ := tab p hp
    exact c.empty p0 h0
  · obtain ⟨p0, h0, rfl⟩ := tab p hp
    exact c.out p0 h0
  · obtain ⟨p0, h0, rfl⟩ := tab p hp
    exact PySem.W.codeHd_of_K KX (c.hd p0 h0)
  · have := prog_ok (pr := l.prog) (w := w) (base := base) B (tabK_of T KX G.T.g c hTb) rfl n t hm fa fd hat F
    unfold spOf at this
    rw [hself, hps] at this
    exact law_fr this
  · refine ⟨rfl, fun _ _ _ z => z, a, ns.map V.int, rfl, hS, fun H' hf hH' => ?_⟩
    obtain ⟨μ, hp⟩ := hp ns hlen hbits
    have tabs : LamX.Tabs (tbOf w L K).T H' := fun p hp => by
      obtain ⟨p0, h0, rfl⟩ := List.mem_map.mp (show p ∈ (tfOf L).map fun p => ((He.cT K p).2, p.1 ++ ".<locals>." ++ "<lambda>") from hp)
      have e := hH _ (List.mem_map_of_mem (f := He.cT K) h0)
      refine LamX.TabS.nil ?_
      rcases hH' with rfl | ⟨o, ha, rfl⟩
      · exact e
      · rw [upd_ne (ne_of e ha (by intro z; cases z))]
        exact e
    rw [np1]
    refine ⟨rfl, [], [], [.lst (ns.map D.int)], ⟨rfl, List.nodup_nil, (fun n c a h => by simp at h), (fun a h => by cases h), tabs⟩, ⟨_, _, rfl, ⟨a, ns.map V.int, rfl, hf, repL_ints ns⟩, rfl⟩, ?_⟩
    unfold WP
    rw [hp]
    exact fun v H' ρ' _ _ r => r
  · obtain ⟨_, _, _, _, _, _, _, _, _, _, _, _, z⟩ := z
    exact z
end Ev

namespace Ev
open PySem

/-! ## Reading the terms: loops, calls -/
theorem whileN_succ {c : Env → M Bool} {b : Env → Mu → Option SR} {r : SR} : ∀ {n : Nat} {δ : Env} {μ : Mu}, whileN c b n δ μ = some r → whileN c b (n + 1) δ μ = some r
  | 0, δ, μ, h => by cases h
  | n + 1, δ, μ, h => by
    have ih := @whileN_succ c b r n
    unfold whileN at h ⊢
    unfold sE at h ⊢
    cases e : c δ μ with
    | none => rw [e] at h; cases h
    | some q =>
      obtain ⟨a, μ'⟩ := q
      rw [e] at h
      cases a with
      | ex x => exact h
      | ok z =>
        cases z with
        | false => exact h
        | true =>
          simp only [if_true] at h ⊢
          cases eb : b δ μ' with
          | none => simp only [eb] at h; cases h
          | some r' =>
            simp only [eb] at h
            cases r' with
            | exc x δ' μ2 => exact h
            | fin o δ' μ2 => cases o with
              | nx => exact ih h
              | cont => exact ih h
              | brk => exact h
              | ret d => exact h
theorem whileN_le {c : Env → M Bool} {b : Env → Mu → Option SR} {r : SR} {n m : Nat} {δ : Env} {μ : Mu} (h : whileN c b n δ μ = some r) (k : n ≤ m) : whileN c b m δ μ = some r := by
  induction k with
  | refl => exact h
  | step _ ih => exact whileN_succ ih
theorem whileF_of {c : Env → M Bool} {b : Env → Mu → Option SR} {r : SR} {n : Nat} {δ : Env} {μ : Mu} (h : whileN c b n δ μ = some r) : whileF c b δ μ = some r := by
  have hx : ∃ n, (whileN c b n δ μ).isSome = true := ⟨n, by rw [h]; rfl⟩
  unfold whileF
  rw [dif_pos hx]
  obtain ⟨r', hr⟩ := Option.isSome_iff_exists.mp (Classical.choose_spec hx)
  rw [hr]
  have h1 := whileN_le h (Nat.le_max_left n (Classical.choose hx))
  have h2 := whileN_le hr (Nat.le_max_right n (Classical.choose hx))
  rw [h1] at h2
  exact h2.symm
/-- the loop ends here -/
theorem while_end {c : Env → M Bool} {b : Env → Mu → Option SR} {δ : Env} {μ μ' : Mu} (h : c δ μ = some (.ok false, μ')) : whileF c b δ μ = some (.fin .nx δ μ') := by
  refine whileF_of (n := 1) ?_
  unfold whileN sE
  rw [h]
  rfl
/-- one turn -/
theorem while_turn {c : Env → M Bool} {b : Env → Mu → Option SR} {δ δ2 : Env} {μ μ1 μ2 : Mu} {r : SR} (h : c δ μ = some (.ok true, μ1)) (hb : b δ μ1 = some (.fin .nx δ2 μ2)) (hr : whileF c b δ2 μ2 = some r) : whileF c b δ μ = some r := by
  have hn : ∃ n, whileN c b n δ2 μ2 = some r := by
    unfold whileF at hr
    split at hr
    · exact ⟨_, hr⟩
    · cases hr
  obtain ⟨n, hn⟩ := hn
  refine whileF_of (n := n + 1) ?_
  unfold whileN sE
  rw [h]
  simp only [if_true, hb]
  exact hn
def fnRes : Option SR → Option (Rs D × Mu)
  | some (.fin (.ret d) _ μ') => some (.ok d, μ')
  | some (.fin .nx _ μ') => some (.ok .non, μ')
  | some (.exc x _ μ') => some (.ex x, μ')
  | _ => none
theorem call_fn {P : Pg} {n : Nat} {x : Str} {fn : Fn} {ds : List D} {μ : Mu} (h : P.fns x = some fn) (hl : (pad fn ds).length = fn.np) (hs : fn.self = false := by rfl) : call P (n + 1) x ds μ = fnRes (evSL (call P n) P.gc fn.body ((pad fn ds).map some ++ List.replicate (fn.ns - fn.np) none) μ) := by
  show (match P.fns x with | none => fun _ => none | some fn => evFn P.gc (call P n) fn ds) μ = _
  rw [h]
  show evFn P.gc (call P n) fn ds μ = _
  unfold evFn
  rw [hs]
  dsimp only
  rw [if_pos hl]
  cases evSL (call P n) P.gc fn.body ((pad fn ds).map some ++ List.replicate (fn.ns - fn.np) none) μ with
  | none => rfl
  | some r => cases r with
    | fin o _ _ => cases o <;> rfl
    | exc _ _ _ => rfl
theorem sl_nx {cf : Str → List D → M D} {gc : Str → Option D} {s : S} {r : SL} {δ δ' : Env} {μ μ' : Mu} (h : evS cf gc s δ μ = some (.fin .nx δ' μ')) : evSL cf gc (.cons s r) δ μ = evSL cf gc r δ' μ' := by
  show (match evS cf gc s δ μ with | some (.fin .nx δ' μ') => evSL cf gc r δ' μ' | o => o) = _
  rw [h]
/-- the program has this def -/
class Has (P : Pg) (x : Str) (f : Fn) : Prop where
  out : P.fns x = some f
end Ev

namespace Ev.Q
open Ev PySem
/-- _law_source -/
def b__law_source : SL := (.cons (.asg (.one 1) (.bin .add (.lit (.int 9483)) (.bin .mul (.lit (.int 59)) (.bi .len (.cons (.slc (.var 0) .no (.yes (.lit (.int 63)))) .nil))))) (.cons (.fr (.one 2) (.seq (.slc (.var 0) .no (.yes (.lit (.int 63))))) (.cons (.asg (.one 1) (.bin .mod (.bin .add (.bin .add (.bin .mul (.var 1) (.lit (.int 48271))) (.bin .mod (.var 2) (.lit (.int 2147483563)))) (.lit (.int 41))) (.lit (.int 2147483563)))) .nil)) (.cons (.ret (.lst true (.cons (.bi (.list false) (.cons (.slc (.var 0) .no (.yes (.lit (.int 63)))) .nil)) (.cons (.lit (.int 0)) (.cons (.lit (.int 0)) (.cons (.var 1) .nil)))))) .nil)))
def f__law_source : Fn := ⟨1, 3, b__law_source, [], [], none, false⟩
abbrev H__law_source (P : Pg) : Prop := Has P "_law_source" f__law_source
/-- _law_draw -/
def b__law_draw : SL := (.cons (.ife (.and (.cmp .eq (.ix (.var 0) (.lit (.int 2))) (.lit (.int 0))) (.cmp .lt (.ix (.var 0) (.lit (.int 1))) (.bi .len (.cons (.ix (.var 0) (.lit (.int 0))) .nil)))) (.cons (.asg (.one 3) (.ix (.ix (.var 0) (.lit (.int 0))) (.ix (.var 0) (.lit (.int 1))))) (.cons (.setix (.var 0) (.lit (.int 1)) (.bin .add (.ix (.var 0) (.lit (.int 1))) (.lit (.int 1)))) (.cons (.ife (.cmp .ge (.var 3) (.bin .pow (.lit (.int 10)) (.lit (.int 18)))) (.cons (.setix (.var 0) (.lit (.int 2)) (.var 3)) .nil) (.cons (.setix (.var 0) (.lit (.int 3)) (.bin .mod (.bin .add (.bin .add (.bin .mul (.ix (.var 0) (.lit (.int 3))) (.lit (.int 40692))) (.bin .mul (.bin .mod (.var 3) (.lit (.int 2147483563))) (.lit (.int 67)))) (.ix (.var 0) (.lit (.int 1)))) (.lit (.int 2147483563)))) .nil)) .nil))) .nil) (.cons (.ife (.cmp .gt (.ix (.var 0) (.lit (.int 2))) (.lit (.int 0))) (.cons (.asg (.one 4) (.bin .mod (.ix (.var 0) (.lit (.int 2))) (.var 1))) (.cons (.setix (.var 0) (.lit (.int 2)) (.bin .fdiv (.ix (.var 0) (.lit (.int 2))) (.var 1))) (.cons (.ret (.var 4)) .nil))) .nil) (.cons (.asg (.one 2) (.ix (.var 0) (.lit (.int 3)))) (.cons (.setix (.var 0) (.lit (.int 3)) (.bin .mod (.bin .add (.bin .add (.bin .mul (.var 2) (.var 2)) (.bin .mul (.var 2) (.lit (.int 40123)))) (.lit (.int 70001))) (.lit (.int 2147483563)))) (.cons (.ret (.bin .mod (.bin .add (.bin .fdiv (.ix (.var 0) (.lit (.int 3))) (.lit (.int 59))) (.bin .mul (.bin .mod (.ix (.var 0) (.lit (.int 3))) (.lit (.int 8111))) (.lit (.int 229)))) (.var 1))) .nil)))))
def f__law_draw : Fn := ⟨2, 5, b__law_draw, [], [], none, false⟩
abbrev H__law_draw (P : Pg) : Prop := Has P "_law_draw" f__law_draw
/-- _law_choice -/
def b__law_choice : SL := (.cons (.ret (.ix (.var 1) (.call "_law_draw" (.cons (.var 0) (.cons (.bi .len (.cons (.var 1) .nil)) .nil))))) .nil)
def f__law_choice : Fn := ⟨2, 2, b__law_choice, [], [], none, false⟩
abbrev H__law_choice (P : Pg) : Prop := Has P "_law_choice" f__law_choice
/-- _law_equal -/
def b__law_equal : SL := (.cons (.ife (.cmp .is (.var 1) (.lit .non)) (.cons (.ret (.cmp .is (.var 0) (.lit .non))) .nil) .nil) (.cons (.ife (.or (.isi (.var 1) "list") (.isi (.var 1) "tuple")) (.cons (.ife (.or (.cmp .ne (.isi (.var 0) "list") (.isi (.var 1) "list")) (.cmp .ne (.isi (.var 0) "tuple") (.isi (.var 1) "tuple"))) (.cons (.ret (.lit (.bl false))) .nil) .nil) (.cons (.ret (.and (.cmp .eq (.bi .len (.cons (.var 0) .nil)) (.bi .len (.cons (.var 1) .nil))) (.bi .all (.cons (.comp false (.zip (.var 0) (.var 1)) (.tup (.cons (.one 2) (.cons (.one 3) .nil))) [2, 3] (.lit (.bl true)) (.call "_law_equal" (.cons (.var 2) (.cons (.var 3) .nil)))) .nil)))) .nil)) .nil) (.cons (.ife (.or (.cmp .ne (.isi (.var 1) "bool") (.isi (.var 0) "bool")) (.cmp .ne (.isi (.var 1) "int") (.isi (.var 0) "int"))) (.cons (.ret (.lit (.bl false))) .nil) .nil) (.cons (.ret (.and (.cmp .eq (.isi (.var 0) "str") (.isi (.var 1) "str")) (.cmp .eq (.var 0) (.var 1)))) .nil))))
def f__law_equal : Fn := ⟨2, 4, b__law_equal, [], [], none, false⟩
abbrev H__law_equal (P : Pg) : Prop := Has P "_law_equal" f__law_equal
/-- _law_divisor -/
def b__law_divisor : SL := (.cons (.par 0 1 (.bi .abs (.cons (.var 0) .nil)) (.bi .abs (.cons (.var 1) .nil))) (.cons (.whl (.cmp .ne (.var 1) (.lit (.int 0))) (.cons (.par 0 1 (.var 1) (.bin .mod (.var 0) (.var 1))) .nil)) (.cons (.ret (.var 0)) .nil)))
def f__law_divisor : Fn := ⟨2, 2, b__law_divisor, [], [], none, false⟩
abbrev H__law_divisor (P : Pg) : Prop := Has P "_law_divisor" f__law_divisor
/-- _law_reduce -/
def b__law_reduce : SL := (.cons (.asg (.one 2) (.call "_law_divisor" (.cons (.var 0) (.cons (.var 1) .nil)))) (.cons (.asg (.one 3) (.ite (.cmp .gt (.var 1) (.lit (.int 0))) (.lit (.int 1)) (.neg (.lit (.int 1))))) (.cons (.ret (.tup (.cons (.bin .fdiv (.bin .mul (.var 3) (.var 0)) (.var 2)) (.cons (.bin .fdiv (.bin .mul (.var 3) (.var 1)) (.var 2)) .nil)))) .nil)))
def f__law_reduce : Fn := ⟨2, 4, b__law_reduce, [], [], none, false⟩
abbrev H__law_reduce (P : Pg) : Prop := Has P "_law_reduce" f__law_reduce
/-- _law_subtract -/
def b__law_subtract : SL := (.cons (.ret (.call "_law_reduce" (.cons (.bin .sub (.bin .mul (.ix (.var 0) (.lit (.int 0))) (.ix (.var 1) (.lit (.int 1)))) (.bin .mul (.ix (.var 1) (.lit (.int 0))) (.ix (.var 0) (.lit (.int 1))))) (.cons (.bin .mul (.ix (.var 0) (.lit (.int 1))) (.ix (.var 1) (.lit (.int 1)))) .nil)))) .nil)
def f__law_subtract : Fn := ⟨2, 2, b__law_subtract, [], [], none, false⟩
abbrev H__law_subtract (P : Pg) : Prop := Has P "_law_subtract" f__law_subtract
/-- _law_divide -/
def b__law_divide : SL := (.cons (.ret (.call "_law_reduce" (.cons (.bin .mul (.ix (.var 0) (.lit (.int 0))) (.ix (.var 1) (.lit (.int 1)))) (.cons (.bin .mul (.ix (.var 0) (.lit (.int 1))) (.ix (.var 1) (.lit (.int 0)))) .nil)))) .nil)
def f__law_divide : Fn := ⟨2, 2, b__law_divide, [], [], none, false⟩
abbrev H__law_divide (P : Pg) : Prop := Has P "_law_divide" f__law_divide
/-- _law_less -/
def b__law_less : SL := (.cons (.ret (.cmp .lt (.bin .mul (.ix (.var 0) (.lit (.int 0))) (.ix (.var 1) (.lit (.int 1)))) (.bin .mul (.ix (.var 1) (.lit (.int 0))) (.ix (.var 0) (.lit (.int 1)))))) .nil)
def f__law_less : Fn := ⟨2, 2, b__law_less, [], [], none, false⟩
abbrev H__law_less (P : Pg) : Prop := Has P "_law_less" f__law_less
/-- _law_times -/
def b__law_times : SL := (.cons (.ret (.call "_law_reduce" (.cons (.bin .mul (.var 0) (.ix (.var 1) (.lit (.int 0)))) (.cons (.ix (.var 1) (.lit (.int 1))) .nil)))) .nil)
def f__law_times : Fn := ⟨2, 2, b__law_times, [], [], none, false⟩
abbrev H__law_times (P : Pg) : Prop := Has P "_law_times" f__law_times
/-- _law_floor -/
def b__law_floor : SL := (.cons (.ret (.bin .fdiv (.ix (.var 0) (.lit (.int 0))) (.ix (.var 0) (.lit (.int 1))))) .nil)
def f__law_floor : Fn := ⟨1, 1, b__law_floor, [], [], none, false⟩
abbrev H__law_floor (P : Pg) : Prop := Has P "_law_floor" f__law_floor
/-- _law_rest -/
def b__law_rest : SL := (.cons (.ret (.call "_law_subtract" (.cons (.var 0) (.cons (.call "_law_times" (.cons (.call "_law_floor" (.cons (.call "_law_divide" (.cons (.var 0) (.cons (.var 1) .nil))) .nil)) (.cons (.var 1) .nil))) .nil)))) .nil)
def f__law_rest : Fn := ⟨2, 2, b__law_rest, [], [], none, false⟩
abbrev H__law_rest (P : Pg) : Prop := Has P "_law_rest" f__law_rest
/-- _law_small -/
def b__law_small : SL := (.cons (.ret (.call "_law_reduce" (.cons (.bin .sub (.call "_law_draw" (.cons (.var 0) (.cons (.lit (.int 25)) .nil))) (.lit (.int 12))) (.cons (.call "_law_choice" (.cons (.var 0) (.cons (.lst false (.cons (.lit (.int 1)) (.cons (.lit (.int 1)) (.cons (.lit (.int 2)) (.cons (.lit (.int 3)) (.cons (.lit (.int 4)) .nil)))))) .nil))) .nil)))) .nil)
def f__law_small : Fn := ⟨1, 1, b__law_small, [], [], none, false⟩
abbrev H__law_small (P : Pg) : Prop := Has P "_law_small" f__law_small
/-- divisor_of -/
def b_divisor_of : SL := (.cons (.par 0 1 (.bi .abs (.cons (.var 0) .nil)) (.bi .abs (.cons (.var 1) .nil))) (.cons (.whl (.cmp .gt (.var 1) (.lit (.int 0))) (.cons (.par 0 1 (.var 1) (.bin .mod (.var 0) (.var 1))) .nil)) (.cons (.ret (.var 0)) .nil)))
def f_divisor_of : Fn := ⟨2, 2, b_divisor_of, [], [], none, false⟩
abbrev H_divisor_of (P : Pg) : Prop := Has P "divisor_of" f_divisor_of
/-- _law_add -/
def b__law_add : SL := (.cons (.ret (.call "_law_reduce" (.cons (.bin .add (.bin .mul (.ix (.var 0) (.lit (.int 0))) (.ix (.var 1) (.lit (.int 1)))) (.bin .mul (.ix (.var 1) (.lit (.int 0))) (.ix (.var 0) (.lit (.int 1))))) (.cons (.bin .mul (.ix (.var 0) (.lit (.int 1))) (.ix (.var 1) (.lit (.int 1)))) .nil)))) .nil)
def f__law_add : Fn := ⟨2, 2, b__law_add, [], [], none, false⟩
abbrev H__law_add (P : Pg) : Prop := Has P "_law_add" f__law_add
/-- _law_multiply -/
def b__law_multiply : SL := (.cons (.ret (.call "_law_reduce" (.cons (.bin .mul (.ix (.var 0) (.lit (.int 0))) (.ix (.var 1) (.lit (.int 0)))) (.cons (.bin .mul (.ix (.var 0) (.lit (.int 1))) (.ix (.var 1) (.lit (.int 1)))) .nil)))) .nil)
def f__law_multiply : Fn := ⟨2, 2, b__law_multiply, [], [], none, false⟩
abbrev H__law_multiply (P : Pg) : Prop := Has P "_law_multiply" f__law_multiply
/-- _law_wide -/
def b__law_wide : SL := (.cons (.asg (.one 1) (.call "_law_reduce" (.cons (.bin .add (.bin .sub (.call "_law_draw" (.cons (.var 0) (.cons (.bin .sub (.bin .mul (.lit (.int 2)) (.bin .pow (.lit (.int 10)) (.lit (.int 12)))) (.lit (.int 1))) .nil))) (.bin .pow (.lit (.int 10)) (.lit (.int 12)))) (.lit (.int 1))) (.cons (.bin .add (.lit (.int 1)) (.call "_law_draw" (.cons (.var 0) (.cons (.bin .sub (.bin .pow (.lit (.int 10)) (.lit (.int 12))) (.lit (.int 1))) .nil)))) .nil)))) (.cons (.ret (.call "_law_choice" (.cons (.var 0) (.cons (.lst false (.cons (.var 1) (.cons (.call "_law_small" (.cons (.var 0) .nil)) (.cons (.call "_law_small" (.cons (.var 0) .nil)) (.cons (.tup (.cons (.lit (.int 0)) (.cons (.lit (.int 1)) .nil))) (.cons (.tup (.cons (.lit (.int 1)) (.cons (.lit (.int 1)) .nil))) (.cons (.tup (.cons (.bin .sub (.bin .pow (.lit (.int 10)) (.lit (.int 12))) (.lit (.int 1))) (.cons (.lit (.int 1)) .nil))) .nil))))))) .nil)))) .nil))
def f__law_wide : Fn := ⟨1, 2, b__law_wide, [], [], none, false⟩
abbrev H__law_wide (P : Pg) : Prop := Has P "_law_wide" f__law_wide
/-- fraction -/
def b_fraction : SL := (.cons (.ife (.cmp .eq (.var 1) (.lit (.int 0))) (.cons (.rais "ZeroDenominator" none .nil) .nil) .nil) (.cons (.asg (.one 2) (.call "divisor_of" (.cons (.var 0) (.cons (.var 1) .nil)))) (.cons (.ife (.cmp .lt (.var 1) (.lit (.int 0))) (.cons (.asg (.one 2) (.neg (.var 2))) .nil) .nil) (.cons (.ret (.tup (.cons (.bin .fdiv (.var 0) (.var 2)) (.cons (.bin .fdiv (.var 1) (.var 2)) .nil)))) .nil))))
def f_fraction : Fn := ⟨2, 3, b_fraction, [.int 1], [], none, false⟩
abbrev H_fraction (P : Pg) : Prop := Has P "fraction" f_fraction
/-- add -/
def b_add : SL := (.cons (.ret (.call "fraction" (.cons (.bin .add (.bin .mul (.ix (.var 0) (.lit (.int 0))) (.ix (.var 1) (.lit (.int 1)))) (.bin .mul (.ix (.var 1) (.lit (.int 0))) (.ix (.var 0) (.lit (.int 1))))) (.cons (.bin .mul (.ix (.var 0) (.lit (.int 1))) (.ix (.var 1) (.lit (.int 1)))) .nil)))) .nil)
def f_add : Fn := ⟨2, 2, b_add, [], [], none, false⟩
abbrev H_add (P : Pg) : Prop := Has P "add" f_add
/-- subtract -/
def b_subtract : SL := (.cons (.ret (.call "fraction" (.cons (.bin .sub (.bin .mul (.ix (.var 0) (.lit (.int 0))) (.ix (.var 1) (.lit (.int 1)))) (.bin .mul (.ix (.var 1) (.lit (.int 0))) (.ix (.var 0) (.lit (.int 1))))) (.cons (.bin .mul (.ix (.var 0) (.lit (.int 1))) (.ix (.var 1) (.lit (.int 1)))) .nil)))) .nil)
def f_subtract : Fn := ⟨2, 2, b_subtract, [], [], none, false⟩
abbrev H_subtract (P : Pg) : Prop := Has P "subtract" f_subtract
/-- multiply -/
def b_multiply : SL := (.cons (.ret (.call "fraction" (.cons (.bin .mul (.ix (.var 0) (.lit (.int 0))) (.ix (.var 1) (.lit (.int 0)))) (.cons (.bin .mul (.ix (.var 0) (.lit (.int 1))) (.ix (.var 1) (.lit (.int 1)))) .nil)))) .nil)
def f_multiply : Fn := ⟨2, 2, b_multiply, [], [], none, false⟩
abbrev H_multiply (P : Pg) : Prop := Has P "multiply" f_multiply
/-- divide -/
def b_divide : SL := (.cons (.ret (.call "fraction" (.cons (.bin .mul (.ix (.var 0) (.lit (.int 0))) (.ix (.var 1) (.lit (.int 1)))) (.cons (.bin .mul (.ix (.var 0) (.lit (.int 1))) (.ix (.var 1) (.lit (.int 0)))) .nil)))) .nil)
def f_divide : Fn := ⟨2, 2, b_divide, [], [], none, false⟩
abbrev H_divide (P : Pg) : Prop := Has P "divide" f_divide
/-- is_less -/
def b_is_less : SL := (.cons (.ret (.cmp .lt (.bin .mul (.ix (.var 0) (.lit (.int 0))) (.ix (.var 1) (.lit (.int 1)))) (.bin .mul (.ix (.var 1) (.lit (.int 0))) (.ix (.var 0) (.lit (.int 1)))))) .nil)
def f_is_less : Fn := ⟨2, 2, b_is_less, [], [], none, false⟩
abbrev H_is_less (P : Pg) : Prop := Has P "is_less" f_is_less
/-- floor_of -/
def b_floor_of : SL := (.cons (.ret (.bin .fdiv (.ix (.var 0) (.lit (.int 0))) (.ix (.var 0) (.lit (.int 1))))) .nil)
def f_floor_of : Fn := ⟨1, 1, b_floor_of, [], [], none, false⟩
abbrev H_floor_of (P : Pg) : Prop := Has P "floor_of" f_floor_of
/-- ceiling_of -/
def b_ceiling_of : SL := (.cons (.ret (.neg (.bin .fdiv (.neg (.ix (.var 0) (.lit (.int 0)))) (.ix (.var 0) (.lit (.int 1)))))) .nil)
def f_ceiling_of : Fn := ⟨1, 1, b_ceiling_of, [], [], none, false⟩
abbrev H_ceiling_of (P : Pg) : Prop := Has P "ceiling_of" f_ceiling_of
/-- times -/
def b_times : SL := (.cons (.ret (.call "fraction" (.cons (.bin .mul (.var 0) (.ix (.var 1) (.lit (.int 0)))) (.cons (.ix (.var 1) (.lit (.int 1))) .nil)))) .nil)
def f_times : Fn := ⟨2, 2, b_times, [], [], none, false⟩
abbrev H_times (P : Pg) : Prop := Has P "times" f_times
/-- remainder -/
def b_remainder : SL := (.cons (.ret (.call "subtract" (.cons (.var 0) (.cons (.call "times" (.cons (.call "floor_of" (.cons (.call "divide" (.cons (.var 0) (.cons (.var 1) .nil))) .nil)) (.cons (.var 1) .nil))) .nil)))) .nil)
def f_remainder : Fn := ⟨2, 2, b_remainder, [], [], none, false⟩
abbrev H_remainder (P : Pg) : Prop := Has P "remainder" f_remainder
/-- common_divisor -/
def b_common_divisor : SL := (.cons (.asg (.one 2) (.bin .mul (.ix (.var 0) (.lit (.int 1))) (.ix (.var 1) (.lit (.int 1))))) (.cons (.ret (.call "fraction" (.cons (.call "divisor_of" (.cons (.bin .mul (.ix (.var 0) (.lit (.int 0))) (.ix (.var 1) (.lit (.int 1)))) (.cons (.bin .mul (.ix (.var 1) (.lit (.int 0))) (.ix (.var 0) (.lit (.int 1)))) .nil))) (.cons (.var 2) .nil)))) .nil))
def f_common_divisor : Fn := ⟨2, 3, b_common_divisor, [], [], none, false⟩
abbrev H_common_divisor (P : Pg) : Prop := Has P "common_divisor" f_common_divisor
/-- spans_fit -/
def b_spans_fit : SL := (.cons (.fr (.tup (.cons (.one 2) (.cons (.tup (.cons (.one 4) (.cons (.one 5) .nil))) .nil))) (.enum (.var 1)) (.cons (.ife (.or (.cmp .lt (.ix (.var 4) (.lit (.int 0))) (.lit (.int 0))) (.or (.not (.call "is_less" (.cons (.var 4) (.cons (.var 0) .nil)))) (.or (.cmp .lt (.ix (.var 5) (.lit (.int 0))) (.lit (.int 1))) (.call "is_less" (.cons (.var 0) (.cons (.var 5) .nil)))))) (.cons (.ret (.lit (.bl false))) .nil) .nil) (.cons (.asg (.one 3) (.ite (.cmp .eq (.var 2) (.bin .sub (.bi .len (.cons (.var 1) .nil)) (.lit (.int 1)))) (.call "add" (.cons (.ix (.ix (.var 1) (.lit (.int 0))) (.lit (.int 0))) (.cons (.var 0) .nil))) (.ix (.ix (.var 1) (.bin .add (.var 2) (.lit (.int 1)))) (.lit (.int 0))))) (.cons (.ife (.call "is_less" (.cons (.var 3) (.cons (.call "add" (.cons (.var 4) (.cons (.var 5) .nil))) .nil))) (.cons (.ret (.lit (.bl false))) .nil) .nil) .nil)))) (.cons (.ret (.lit (.bl true))) .nil))
def f_spans_fit : Fn := ⟨2, 6, b_spans_fit, [], [], none, false⟩
abbrev H_spans_fit (P : Pg) : Prop := Has P "spans_fit" f_spans_fit
/-- is_gate -/
def b_is_gate : SL := (.cons (.asg (.tup (.cons (.one 1) (.cons (.one 2) (.cons (.one 3) .nil)))) (.var 0)) (.cons (.ret (.and (.cmp .gt (.ix (.var 2) (.lit (.int 0))) (.lit (.int 0))) (.and (.cmp .le (.bi .len (.cons (.var 3) .nil)) (.con "MAX_SPANS")) (.call "spans_fit" (.cons (.var 2) (.cons (.var 3) .nil)))))) .nil))
def f_is_gate : Fn := ⟨1, 4, b_is_gate, [], [], none, false⟩
abbrev H_is_gate (P : Pg) : Prop := Has P "is_gate" f_is_gate
/-- repeats -/
def b_repeats : SL := (.cons (.asg (.one 4) (.bi .len (.cons (.var 1) .nil))) (.cons (.fr (.tup (.cons (.one 5) (.cons (.tup (.cons (.one 8) (.cons (.one 9) .nil))) .nil))) (.enum (.var 1)) (.cons (.asg (.one 6) (.ix (.var 1) (.bin .mod (.bin .add (.var 5) (.var 2)) (.var 4)))) (.cons (.asg (.one 7) (.ite (.cmp .ge (.bin .add (.var 5) (.var 2)) (.var 4)) (.call "add" (.cons (.ix (.var 6) (.lit (.int 0))) (.cons (.var 0) .nil))) (.ix (.var 6) (.lit (.int 0))))) (.cons (.ife (.or (.cmp .ne (.ix (.var 6) (.lit (.int 1))) (.var 9)) (.cmp .ne (.call "subtract" (.cons (.var 7) (.cons (.var 8) .nil))) (.var 3))) (.cons (.ret (.lit (.bl false))) .nil) .nil) .nil)))) (.cons (.ret (.lit (.bl true))) .nil)))
def f_repeats : Fn := ⟨4, 10, b_repeats, [], [], none, false⟩
abbrev H_repeats (P : Pg) : Prop := Has P "repeats" f_repeats
/-- normalized -/
def b_normalized : SL := (.cons (.asg (.tup (.cons (.one 3) (.cons (.one 4) (.cons (.one 5) .nil)))) (.var 0)) (.cons (.asg (.one 1) (.bi .len (.cons (.var 5) .nil))) (.cons (.ife (.cmp .eq (.var 1) (.lit (.int 0))) (.cons (.ret (.tup (.cons (.var 3) (.cons (.con "ONE") (.cons (.tup .nil) .nil))))) .nil) .nil) (.cons (.fr (.one 2) (.rng2 (.lit (.int 1)) (.var 1)) (.cons (.asg (.one 6) (.call "fraction" (.cons (.bin .mul (.ix (.var 4) (.lit (.int 0))) (.var 2)) (.cons (.bin .mul (.ix (.var 4) (.lit (.int 1))) (.var 1)) .nil)))) (.cons (.ife (.and (.cmp .eq (.bin .mod (.var 1) (.var 2)) (.lit (.int 0))) (.call "repeats" (.cons (.var 4) (.cons (.var 5) (.cons (.var 2) (.cons (.var 6) .nil)))))) (.cons (.ret (.tup (.cons (.var 3) (.cons (.var 6) (.cons (.bi .tuple (.cons (.slc (.var 5) .no (.yes (.var 2))) .nil)) .nil))))) .nil) .nil) .nil))) (.cons (.ret (.tup (.cons (.var 3) (.cons (.var 4) (.cons (.bi .tuple (.cons (.comp false (.seq (.var 5)) (.one 7) [7] (.lit (.bl true)) (.bi .tuple (.cons (.var 7) .nil))) .nil)) .nil))))) .nil)))))
def f_normalized : Fn := ⟨1, 8, b_normalized, [], [], none, false⟩
abbrev H_normalized (P : Pg) : Prop := Has P "normalized" f_normalized
/-- copied -/
def b_copied : SL := (.cons (.asg (.tup (.cons (.one 2) (.cons (.one 3) (.cons (.one 4) .nil)))) (.var 0)) (.cons (.asg (.one 1) (.tup (.cons (.var 2) (.cons (.var 3) (.cons (.bi .tuple (.cons (.comp false (.seq (.var 4)) (.tup (.cons (.one 5) (.cons (.one 6) .nil))) [5, 6] (.lit (.bl true)) (.tup (.cons (.var 5) (.cons (.var 6) .nil)))) .nil)) .nil))))) (.cons (.ife (.not (.call "is_gate" (.cons (.var 1) .nil))) (.cons (.rais "InvalidGate" (some "position") (.cons (.lit (.int 0)) .nil)) .nil) .nil) (.cons (.ret (.var 1)) .nil))))
def f_copied : Fn := ⟨1, 7, b_copied, [], [], none, false⟩
abbrev H_copied (P : Pg) : Prop := Has P "copied" f_copied
/-- normal_gate -/
def b_normal_gate : SL := (.cons (.ret (.call "normalized" (.cons (.call "copied" (.cons (.var 0) .nil)) .nil))) .nil)
def f_normal_gate : Fn := ⟨1, 1, b_normal_gate, [], [], none, false⟩
abbrev H_normal_gate (P : Pg) : Prop := Has P "normal_gate" f_normal_gate
/-- barring_gate -/
def b_barring_gate : SL := (.cons (.asg (.one 1) (.call "normal_gate" (.cons (.var 0) .nil))) (.cons (.ife (.cmp .eq (.ix (.var 1) (.lit (.int 2))) (.tup .nil)) (.cons (.rais "NotBarring" (some "place") (.cons (.ix (.var 1) (.lit (.int 0))) .nil)) .nil) .nil) (.cons (.ret (.var 1)) .nil)))
def f_barring_gate : Fn := ⟨1, 2, b_barring_gate, [], [], none, false⟩
abbrev H_barring_gate (P : Pg) : Prop := Has P "barring_gate" f_barring_gate
/-- turned -/
def b_turned : SL := (.cons (.asg (.one 4) (.comp false (.seq (.var 2)) (.tup (.cons (.one 7) (.cons (.one 8) .nil))) [7, 8] (.lit (.bl true)) (.tup (.cons (.call "remainder" (.cons (.call "add" (.cons (.var 7) (.cons (.var 3) .nil))) (.cons (.var 1) .nil))) (.cons (.var 8) .nil))))) (.cons (.asg (.one 5) (.lit (.int 0))) (.cons (.fr (.one 6) (.rng2 (.lit (.int 1)) (.bi .len (.cons (.var 4) .nil))) (.cons (.ife (.call "is_less" (.cons (.ix (.ix (.var 4) (.var 6)) (.lit (.int 0))) (.cons (.ix (.ix (.var 4) (.bin .sub (.var 6) (.lit (.int 1)))) (.lit (.int 0))) .nil))) (.cons (.asg (.one 5) (.var 6)) .nil) .nil) .nil)) (.cons (.ret (.tup (.cons (.var 0) (.cons (.var 1) (.cons (.bi .tuple (.cons (.bin .add (.slc (.var 4) (.yes (.var 5)) .no) (.slc (.var 4) .no (.yes (.var 5)))) .nil)) .nil))))) .nil))))
def f_turned : Fn := ⟨4, 9, b_turned, [], [], none, false⟩
abbrev H_turned (P : Pg) : Prop := Has P "turned" f_turned
/-- delayed -/
def b_delayed : SL := (.cons (.asg (.tup (.cons (.one 2) (.cons (.one 3) (.cons (.one 4) .nil)))) (.var 0)) (.cons (.ret (.call "turned" (.cons (.var 2) (.cons (.var 3) (.cons (.var 4) (.cons (.var 1) .nil)))))) .nil))
def f_delayed : Fn := ⟨2, 5, b_delayed, [], [], none, false⟩
abbrev H_delayed (P : Pg) : Prop := Has P "delayed" f_delayed
/-- delayed_gate -/
def b_delayed_gate : SL := (.cons (.ret (.call "delayed" (.cons (.call "normal_gate" (.cons (.var 0) .nil)) (.cons (.var 1) .nil)))) .nil)
def f_delayed_gate : Fn := ⟨2, 2, b_delayed_gate, [], [], none, false⟩
abbrev H_delayed_gate (P : Pg) : Prop := Has P "delayed_gate" f_delayed_gate
/-- opens -/
def b_opens : SL := (.cons (.asg (.tup (.cons (.one 2) (.cons (.one 3) (.cons (.one 4) .nil)))) (.var 0)) (.cons (.asg (.tup (.cons (.one 5) (.cons (.one 6) .nil))) (.ix (.var 4) (.bin .mod (.var 1) (.bi .len (.cons (.var 4) .nil))))) (.cons (.ret (.call "add" (.cons (.call "add" (.cons (.var 5) (.cons (.var 6) .nil))) (.cons (.call "times" (.cons (.bin .fdiv (.var 1) (.bi .len (.cons (.var 4) .nil))) (.cons (.var 3) .nil))) .nil)))) .nil)))
def f_opens : Fn := ⟨2, 7, b_opens, [], [], none, false⟩
abbrev H_opens (P : Pg) : Prop := Has P "opens" f_opens
/-- closes -/
def b_closes : SL := (.cons (.asg (.tup (.cons (.one 3) (.cons (.one 4) (.cons (.one 5) .nil)))) (.var 0)) (.cons (.asg (.one 2) (.bin .add (.var 1) (.lit (.int 1)))) (.cons (.ret (.call "add" (.cons (.ix (.ix (.var 5) (.bin .mod (.var 2) (.bi .len (.cons (.var 5) .nil)))) (.lit (.int 0))) (.cons (.call "times" (.cons (.bin .fdiv (.var 2) (.bi .len (.cons (.var 5) .nil))) (.cons (.var 4) .nil))) .nil)))) .nil)))
def f_closes : Fn := ⟨2, 6, b_closes, [], [], none, false⟩
abbrev H_closes (P : Pg) : Prop := Has P "closes" f_closes
/-- turns_since -/
def b_turns_since : SL := (.cons (.ret (.call "floor_of" (.cons (.call "divide" (.cons (.call "subtract" (.cons (.var 0) (.cons (.var 1) .nil))) (.cons (.var 2) .nil))) .nil))) .nil)
def f_turns_since : Fn := ⟨3, 3, b_turns_since, [], [], none, false⟩
abbrev H_turns_since (P : Pg) : Prop := Has P "turns_since" f_turns_since
/-- last_opening -/
def b_last_opening : SL := (.cons (.asg (.tup (.cons (.one 3) (.cons (.one 4) (.cons (.one 5) .nil)))) (.var 0)) (.cons (.asg (.one 2) (.bin .mul (.bi .len (.cons (.var 5) .nil)) (.call "turns_since" (.cons (.var 1) (.cons (.call "opens" (.cons (.var 0) (.cons (.lit (.int 0)) .nil))) (.cons (.var 4) .nil)))))) (.cons (.whl (.not (.call "is_less" (.cons (.var 1) (.cons (.call "opens" (.cons (.var 0) (.cons (.bin .add (.var 2) (.lit (.int 1))) .nil))) .nil)))) (.cons (.aug 2 .add (.lit (.int 1))) .nil)) (.cons (.ret (.var 2)) .nil))))
def f_last_opening : Fn := ⟨2, 6, b_last_opening, [], [], none, false⟩
abbrev H_last_opening (P : Pg) : Prop := Has P "last_opening" f_last_opening
/-- first_closing -/
def b_first_closing : SL := (.cons (.asg (.tup (.cons (.one 3) (.cons (.one 4) (.cons (.one 5) .nil)))) (.var 0)) (.cons (.asg (.one 2) (.bin .sub (.bin .mul (.bi .len (.cons (.var 5) .nil)) (.call "turns_since" (.cons (.var 1) (.cons (.ix (.ix (.var 5) (.lit (.int 0))) (.lit (.int 0))) (.cons (.var 4) .nil))))) (.lit (.int 1)))) (.cons (.whl (.call "is_less" (.cons (.call "closes" (.cons (.var 0) (.cons (.var 2) .nil))) (.cons (.var 1) .nil))) (.cons (.aug 2 .add (.lit (.int 1))) .nil)) (.cons (.ret (.var 2)) .nil))))
def f_first_closing : Fn := ⟨2, 6, b_first_closing, [], [], none, false⟩
abbrev H_first_closing (P : Pg) : Prop := Has P "first_closing" f_first_closing
/-- number_at -/
def b_number_at : SL := (.cons (.asg (.one 2) (.call "last_opening" (.cons (.var 0) (.cons (.var 1) .nil)))) (.cons (.ret (.ite (.call "is_less" (.cons (.call "closes" (.cons (.var 0) (.cons (.var 2) .nil))) (.cons (.var 1) .nil))) (.lit .non) (.var 2))) .nil))
def f_number_at : Fn := ⟨2, 3, b_number_at, [], [], none, false⟩
abbrev H_number_at (P : Pg) : Prop := Has P "number_at" f_number_at
/-- lets -/
def b_lets : SL := (.cons (.ret (.or (.cmp .eq (.ix (.var 0) (.lit (.int 2))) (.tup .nil)) (.cmp .isnot (.call "number_at" (.cons (.var 0) (.cons (.var 1) .nil))) (.lit .non)))) .nil)
def f_lets : Fn := ⟨2, 2, b_lets, [], [], none, false⟩
abbrev H_lets (P : Pg) : Prop := Has P "lets" f_lets
/-- is_open -/
def b_is_open : SL := (.cons (.ret (.call "lets" (.cons (.call "normal_gate" (.cons (.var 0) .nil)) (.cons (.var 1) .nil)))) .nil)
def f_is_open : Fn := ⟨2, 2, b_is_open, [], [], none, false⟩
abbrev H_is_open (P : Pg) : Prop := Has P "is_open" f_is_open
/-- window -/
def b_window : SL := (.cons (.asg (.one 2) (.call "barring_gate" (.cons (.var 0) .nil))) (.cons (.ret (.tup (.cons (.call "opens" (.cons (.var 2) (.cons (.var 1) .nil))) (.cons (.call "closes" (.cons (.var 2) (.cons (.var 1) .nil))) .nil)))) .nil))
def f_window : Fn := ⟨2, 3, b_window, [], [], none, false⟩
abbrev H_window (P : Pg) : Prop := Has P "window" f_window
/-- window_at -/
def b_window_at : SL := (.cons (.ret (.call "number_at" (.cons (.call "barring_gate" (.cons (.var 0) .nil)) (.cons (.var 1) .nil)))) .nil)
def f_window_at : Fn := ⟨2, 2, b_window_at, [], [], none, false⟩
abbrev H_window_at (P : Pg) : Prop := Has P "window_at" f_window_at
/-- next_open -/
def b_next_open : SL := (.cons (.asg (.one 2) (.call "normal_gate" (.cons (.var 0) .nil))) (.cons (.ife (.call "lets" (.cons (.var 2) (.cons (.var 1) .nil))) (.cons (.ret (.var 1)) .nil) .nil) (.cons (.ret (.call "opens" (.cons (.var 2) (.cons (.bin .add (.call "last_opening" (.cons (.var 2) (.cons (.var 1) .nil))) (.lit (.int 1))) .nil)))) .nil)))
def f_next_open : Fn := ⟨2, 3, b_next_open, [], [], none, false⟩
abbrev H_next_open (P : Pg) : Prop := Has P "next_open" f_next_open
/-- _law_parts -/
def b__law_parts : SL := (.cons (.ret (.bin .add (.var 1) (.call "_law_choice" (.cons (.var 0) (.cons (.lst false (.cons (.lit (.int 0)) (.cons (.lit (.int 1)) (.cons (.lit (.int 1)) (.cons (.lit (.int 2)) (.cons (.call "_law_draw" (.cons (.var 0) (.cons (.var 2) .nil))) .nil)))))) .nil))))) .nil)
def f__law_parts : Fn := ⟨3, 3, b__law_parts, [], [], none, false⟩
abbrev H__law_parts (P : Pg) : Prop := Has P "_law_parts" f__law_parts
/-- _law_gate -/
def b__law_gate : SL := (.cons (.asg (.one 3) (.call "_law_draw" (.cons (.var 0) (.cons (.bin .add (.var 2) (.lit (.int 1))) .nil)))) (.cons (.asg (.one 4) (.call "_law_choice" (.cons (.var 0) (.cons (.lst false (.cons (.lit (.int 1)) (.cons (.lit (.int 1)) (.cons (.lit (.int 2)) (.cons (.lit (.int 3)) (.cons (.bin .add (.lit (.int 1)) (.call "_law_draw" (.cons (.var 0) (.cons (.bin .pow (.lit (.int 10)) (.lit (.int 5))) .nil)))) .nil)))))) .nil)))) (.cons (.par 9 10 (.lit (.int 0)) (.lst true .nil)) (.cons (.fr (.one 5) (.rng1 (.var 3)) (.cons (.asg (.one 9) (.bin .add (.var 9) (.call "_law_parts" (.cons (.var 0) (.cons (.lit (.int 0)) (.cons (.bin .pow (.lit (.int 10)) (.lit (.int 5))) .nil)))))) (.cons (.asg (.one 11) (.call "_law_parts" (.cons (.var 0) (.cons (.lit (.int 1)) (.cons (.bin .pow (.lit (.int 10)) (.lit (.int 5))) .nil))))) (.cons (.expr (.app (.var 10) (.tup (.cons (.var 9) (.cons (.var 11) .nil))))) (.cons (.asg (.one 9) (.bin .add (.var 9) (.var 11))) .nil))))) (.cons (.asg (.one 6) (.bin .add (.var 9) (.call "_law_parts" (.cons (.var 0) (.cons (.bi .int (.cons (.cmp .eq (.var 9) (.lit (.int 0))) .nil)) (.cons (.bin .pow (.lit (.int 10)) (.lit (.int 5))) .nil)))))) (.cons (.asg (.one 7) (.call "_law_choice" (.cons (.var 0) (.cons (.lst false (.cons (.lit (.int 0)) (.cons (.lit (.int 1)) (.cons (.call "_law_draw" (.cons (.var 0) (.cons (.var 6) .nil))) .nil)))) .nil)))) (.cons (.asg (.one 8) (.bi .sorted (.cons (.comp false (.seq (.var 10)) (.tup (.cons (.one 12) (.cons (.one 11) .nil))) [11, 12] (.lit (.bl true)) (.tup (.cons (.bin .mod (.bin .add (.var 12) (.var 7)) (.var 6)) (.cons (.var 11) .nil)))) .nil))) (.cons (.asg (.one 8) (.comp false (.seq (.var 8)) (.tup (.cons (.one 12) (.cons (.one 11) .nil))) [11, 12] (.lit (.bl true)) (.tup (.cons (.call "_law_reduce" (.cons (.var 12) (.cons (.var 4) .nil))) (.cons (.call "_law_reduce" (.cons (.var 11) (.cons (.var 4) .nil))) .nil))))) (.cons (.ret (.tup (.cons (.var 1) (.cons (.call "_law_reduce" (.cons (.var 6) (.cons (.var 4) .nil))) (.cons (.bi .tuple (.cons (.var 8) .nil)) .nil))))) .nil)))))))))
def f__law_gate : Fn := ⟨3, 13, b__law_gate, [], [], none, false⟩
abbrev H__law_gate (P : Pg) : Prop := Has P "_law_gate" f__law_gate
/-- _law_copied_gate -/
def b__law_copied_gate : SL := (.cons (.asg (.one 2) (.call "_law_choice" (.cons (.var 0) (.cons (.lst false (.cons (.lit (.int 1)) (.cons (.lit (.int 1)) (.cons (.lit (.int 2)) (.cons (.lit (.int 3)) .nil))))) .nil)))) (.cons (.asg (.tup (.cons (.one 5) (.cons (.one 6) (.cons (.one 7) .nil)))) (.var 1)) (.cons (.ife (.cmp .gt (.bin .mul (.var 2) (.bi .len (.cons (.var 7) .nil))) (.lit (.int 6))) (.cons (.ret (.var 1)) .nil) .nil) (.cons (.asg (.one 3) (.lst true .nil)) (.cons (.fr (.one 4) (.rng1 (.var 2)) (.cons (.expr (.ext (.var 3) (.comp true (.seq (.var 7)) (.tup (.cons (.one 8) (.cons (.one 9) .nil))) [8, 9] (.lit (.bl true)) (.tup (.cons (.call "_law_add" (.cons (.var 8) (.cons (.call "_law_times" (.cons (.var 4) (.cons (.var 6) .nil))) .nil))) (.cons (.var 9) .nil)))))) .nil)) (.cons (.ret (.tup (.cons (.var 5) (.cons (.call "_law_times" (.cons (.var 2) (.cons (.var 6) .nil))) (.cons (.bi .tuple (.cons (.var 3) .nil)) .nil))))) .nil))))))
def f__law_copied_gate : Fn := ⟨2, 10, b__law_copied_gate, [], [], none, false⟩
abbrev H__law_copied_gate (P : Pg) : Prop := Has P "_law_copied_gate" f__law_copied_gate
/-- _law_shut_by -/
def b__law_shut_by : SL := (.cons (.asg (.tup (.cons (.one 3) (.cons (.one 4) (.cons (.one 5) .nil)))) (.var 0)) (.cons (.fr (.one 2) (.rng1 (.bi .len (.cons (.var 5) .nil))) (.cons (.asg (.tup (.cons (.one 7) (.cons (.one 8) .nil))) (.ix (.var 5) (.var 2))) (.cons (.asg (.one 6) (.call "_law_rest" (.cons (.call "_law_subtract" (.cons (.var 1) (.cons (.var 7) .nil))) (.cons (.var 4) .nil)))) (.cons (.ife (.and (.cmp .gt (.ix (.var 6) (.lit (.int 0))) (.lit (.int 0))) (.call "_law_less" (.cons (.var 6) (.cons (.var 8) .nil)))) (.cons (.ret (.var 2)) .nil) .nil) .nil)))) (.cons (.ret (.lit .non)) .nil)))
def f__law_shut_by : Fn := ⟨2, 9, b__law_shut_by, [], [], none, false⟩
abbrev H__law_shut_by (P : Pg) : Prop := Has P "_law_shut_by" f__law_shut_by
/-- _law_is_open -/
def b__law_is_open : SL := (.cons (.ret (.cmp .is (.call "_law_shut_by" (.cons (.var 0) (.cons (.var 1) .nil))) (.lit .non))) .nil)
def f__law_is_open : Fn := ⟨2, 2, b__law_is_open, [], [], none, false⟩
abbrev H__law_is_open (P : Pg) : Prop := Has P "_law_is_open" f__law_is_open
/-- _law_normal -/
def b__law_normal : SL := (.cons (.asg (.tup (.cons (.one 2) (.cons (.one 3) (.cons (.one 4) .nil)))) (.var 0)) (.cons (.ife (.cmp .eq (.bi .len (.cons (.var 4) .nil)) (.lit (.int 0))) (.cons (.ret (.tup (.cons (.var 2) (.cons (.tup (.cons (.lit (.int 1)) (.cons (.lit (.int 1)) .nil))) (.cons (.tup .nil) .nil))))) .nil) .nil) (.cons (.fr (.one 1) (.rng2 (.lit (.int 1)) (.bi .len (.cons (.var 4) .nil))) (.cons (.asg (.one 5) (.call "_law_divide" (.cons (.call "_law_times" (.cons (.var 1) (.cons (.var 3) .nil))) (.cons (.tup (.cons (.bi .len (.cons (.var 4) .nil)) (.cons (.lit (.int 1)) .nil))) .nil)))) (.cons (.asg (.one 6) (.comp false (.seq (.var 4)) (.tup (.cons (.one 7) (.cons (.one 8) .nil))) [7, 8] (.lit (.bl true)) (.tup (.cons (.call "_law_rest" (.cons (.call "_law_add" (.cons (.var 7) (.cons (.var 5) .nil))) (.cons (.var 3) .nil))) (.cons (.var 8) .nil))))) (.cons (.ife (.and (.cmp .eq (.bin .mod (.bi .len (.cons (.var 4) .nil)) (.var 1)) (.lit (.int 0))) (.bi .all (.cons (.comp false (.seq (.var 4)) (.one 9) [9] (.lit (.bl true)) (.cmp .inn (.var 9) (.var 6))) .nil))) (.cons (.ret (.tup (.cons (.var 2) (.cons (.var 5) (.cons (.bi .tuple (.cons (.slc (.var 4) .no (.yes (.var 1))) .nil)) .nil))))) .nil) .nil) .nil)))) (.cons (.ret (.tup (.cons (.var 2) (.cons (.var 3) (.cons (.bi .tuple (.cons (.var 4) .nil)) .nil))))) .nil))))
def f__law_normal : Fn := ⟨1, 10, b__law_normal, [], [], none, false⟩
abbrev H__law_normal (P : Pg) : Prop := Has P "_law_normal" f__law_normal
/-- _law_near_moment -/
def b__law_near_moment : SL := (.cons (.asg (.one 2) (.call "_law_times" (.cons (.call "_law_choice" (.cons (.var 0) (.cons (.lst false (.cons (.lit (.int 0)) (.cons (.lit (.int 1)) (.cons (.neg (.lit (.int 2))) (.cons (.bin .sub (.call "_law_draw" (.cons (.var 0) (.cons (.lit (.int 9)) .nil))) (.lit (.int 4))) .nil))))) .nil))) (.cons (.ix (.var 1) (.lit (.int 1))) .nil)))) (.cons (.ife (.cmp .eq (.bi .len (.cons (.ix (.var 1) (.lit (.int 2))) .nil)) (.lit (.int 0))) (.cons (.ret (.call "_law_add" (.cons (.var 2) (.cons (.call "_law_small" (.cons (.var 0) .nil)) .nil)))) .nil) .nil) (.cons (.asg (.tup (.cons (.one 4) (.cons (.one 5) .nil))) (.call "_law_choice" (.cons (.var 0) (.cons (.bi (.list false) (.cons (.ix (.var 1) (.lit (.int 2))) .nil)) .nil)))) (.cons (.asg (.one 3) (.call "_law_choice" (.cons (.var 0) (.cons (.lst false (.cons (.var 4) (.cons (.call "_law_add" (.cons (.var 4) (.cons (.var 5) .nil))) (.cons (.call "_law_add" (.cons (.var 4) (.cons (.call "_law_multiply" (.cons (.var 5) (.cons (.tup (.cons (.lit (.int 1)) (.cons (.lit (.int 2)) .nil))) .nil))) .nil))) (.cons (.call "_law_subtract" (.cons (.var 4) (.cons (.tup (.cons (.lit (.int 1)) (.cons (.lit (.int 4)) .nil))) .nil))) (.cons (.call "_law_add" (.cons (.call "_law_add" (.cons (.var 4) (.cons (.var 5) .nil))) (.cons (.tup (.cons (.lit (.int 1)) (.cons (.lit (.int 8)) .nil))) .nil))) .nil)))))) .nil)))) (.cons (.ret (.call "_law_add" (.cons (.var 3) (.cons (.var 2) .nil)))) .nil)))))
def f__law_near_moment : Fn := ⟨2, 6, b__law_near_moment, [], [], none, false⟩
abbrev H__law_near_moment (P : Pg) : Prop := Has P "_law_near_moment" f__law_near_moment
/-- _law_window -/
def b__law_window : SL := (.cons (.asg (.tup (.cons (.one 4) (.cons (.one 5) (.cons (.one 6) .nil)))) (.var 0)) (.cons (.par 7 8 (.bin .fdiv (.var 1) (.bi .len (.cons (.var 6) .nil))) (.bin .mod (.var 1) (.bi .len (.cons (.var 6) .nil)))) (.cons (.asg (.one 2) (.ite (.cmp .lt (.bin .add (.var 8) (.lit (.int 1))) (.bi .len (.cons (.var 6) .nil))) (.ix (.ix (.var 6) (.bin .add (.var 8) (.lit (.int 1)))) (.lit (.int 0))) (.call "_law_add" (.cons (.ix (.ix (.var 6) (.lit (.int 0))) (.lit (.int 0))) (.cons (.var 5) .nil))))) (.cons (.asg (.one 3) (.call "_law_times" (.cons (.var 7) (.cons (.var 5) .nil)))) (.cons (.ret (.tup (.cons (.call "_law_add" (.cons (.call "_law_add" (.cons (.ix (.ix (.var 6) (.var 8)) (.lit (.int 0))) (.cons (.ix (.ix (.var 6) (.var 8)) (.lit (.int 1))) .nil))) (.cons (.var 3) .nil))) (.cons (.call "_law_add" (.cons (.var 2) (.cons (.var 3) .nil))) .nil)))) .nil)))))
def f__law_window : Fn := ⟨2, 9, b__law_window, [], [], none, false⟩
abbrev H__law_window (P : Pg) : Prop := Has P "_law_window" f__law_window
/-- _law_positive -/
def b__law_positive : SL := (.cons (.ret (.call "_law_reduce" (.cons (.bin .add (.lit (.int 1)) (.call "_law_choice" (.cons (.var 0) (.cons (.lst false (.cons (.call "_law_draw" (.cons (.var 0) (.cons (.lit (.int 6)) .nil))) (.cons (.call "_law_draw" (.cons (.var 0) (.cons (.bin .pow (.lit (.int 10)) (.lit (.int 6))) .nil))) .nil))) .nil)))) (.cons (.call "_law_choice" (.cons (.var 0) (.cons (.lst false (.cons (.lit (.int 1)) (.cons (.lit (.int 2)) (.cons (.lit (.int 3)) (.cons (.bin .add (.lit (.int 1)) (.call "_law_draw" (.cons (.var 0) (.cons (.bin .pow (.lit (.int 10)) (.lit (.int 6))) .nil)))) .nil))))) .nil))) .nil)))) .nil)
def f__law_positive : Fn := ⟨1, 1, b__law_positive, [], [], none, false⟩
abbrev H__law_positive (P : Pg) : Prop := Has P "_law_positive" f__law_positive
/-- _law_ascending -/
def b__law_ascending : SL := (.cons (.asg (.one 1) (.lst true .nil)) (.cons (.fr (.one 2) (.seq (.var 0)) (.cons (.asg (.one 3) (.bi .len (.cons (.comp false (.seq (.var 1)) (.one 4) [4] (.call "_law_less" (.cons (.var 4) (.cons (.var 2) .nil))) (.var 4)) .nil))) (.cons (.expr (.ins (.var 1) (.var 3) (.var 2))) .nil))) (.cons (.ret (.frz (.var 1))) .nil)))
def f__law_ascending : Fn := ⟨1, 5, b__law_ascending, [], [], none, false⟩
abbrev H__law_ascending (P : Pg) : Prop := Has P "_law_ascending" f__law_ascending
/-- _law_delayed -/
def b__law_delayed : SL := (.cons (.asg (.tup (.cons (.one 4) (.cons (.one 5) (.cons (.one 6) .nil)))) (.call "_law_normal" (.cons (.var 0) .nil))) (.cons (.asg (.one 2) (.comp false (.seq (.var 6)) (.tup (.cons (.one 7) (.cons (.one 8) .nil))) [7, 8] (.lit (.bl true)) (.tup (.cons (.call "_law_rest" (.cons (.call "_law_add" (.cons (.var 7) (.cons (.var 1) .nil))) (.cons (.var 5) .nil))) (.cons (.var 8) .nil))))) (.cons (.asg (.one 3) (.call "_law_ascending" (.cons (.comp false (.seq (.var 2)) (.tup (.cons (.one 7) (.cons (.one 8) .nil))) [7, 8] (.lit (.bl true)) (.var 7)) .nil))) (.cons (.ret (.tup (.cons (.var 4) (.cons (.var 5) (.cons (.bi .tuple (.cons (.comp false (.seq (.var 3)) (.one 7) [7] (.lit (.bl true)) (.ix (.comp false (.seq (.var 2)) (.one 9) [9] (.cmp .eq (.ix (.var 9) (.lit (.int 0))) (.var 7)) (.var 9)) (.lit (.int 0)))) .nil)) .nil))))) .nil))))
def f__law_delayed : Fn := ⟨2, 10, b__law_delayed, [], [], none, false⟩
abbrev H__law_delayed (P : Pg) : Prop := Has P "_law_delayed" f__law_delayed
/-- common_denominator -/
def b_common_denominator : SL := (.cons (.asg (.one 1) (.lit (.int 1))) (.cons (.fr (.one 2) (.seq (.var 0)) (.cons (.asg (.one 1) (.bin .mul (.bin .fdiv (.var 1) (.call "divisor_of" (.cons (.var 1) (.cons (.ix (.var 2) (.lit (.int 1))) .nil)))) (.ix (.var 2) (.lit (.int 1))))) .nil)) (.cons (.ret (.var 1)) .nil)))
def f_common_denominator : Fn := ⟨1, 3, b_common_denominator, [], [], none, false⟩
abbrev H_common_denominator (P : Pg) : Prop := Has P "common_denominator" f_common_denominator
/-- ascending -/
def b_ascending : SL := (.cons (.asg (.one 1) (.call "common_denominator" (.cons (.var 0) .nil))) (.cons (.ret (.sortk false (.var 0) 2 (.bin .mul (.ix (.var 2) (.lit (.int 0))) (.bin .fdiv (.var 1) (.ix (.var 2) (.lit (.int 1))))))) .nil))
def f_ascending : Fn := ⟨1, 3, b_ascending, [], [], none, false⟩
abbrev H_ascending (P : Pg) : Prop := Has P "ascending" f_ascending
/-- moment_at -/
def b_moment_at : SL := (.cons (.ret (.call "add" (.cons (.ix (.var 0) (.lit (.int 0))) (.cons (.call "multiply" (.cons (.ix (.var 0) (.lit (.int 1))) (.cons (.var 1) .nil))) .nil)))) .nil)
def f_moment_at : Fn := ⟨2, 2, b_moment_at, [], [], none, false⟩
abbrev H_moment_at (P : Pg) : Prop := Has P "moment_at" f_moment_at
/-- checked_gates -/
def b_checked_gates : SL := (.cons (.ife (.cmp .gt (.bi .len (.cons (.var 0) .nil)) (.con "MAX_GATES")) (.cons (.rais "CapacityExceeded" (some "capacity") (.cons (.con "MAX_GATES") .nil)) .nil) .nil) (.cons (.asg (.one 1) (.lst true .nil)) (.cons (.fr (.tup (.cons (.one 2) (.cons (.one 3) .nil))) (.enum (.var 0)) (.cons (.tryn (.cons (.expr (.app (.var 1) (.call "normalized" (.cons (.call "copied" (.cons (.var 3) .nil)) .nil)))) .nil)) .nil)) (.cons (.ret (.frz (.var 1))) .nil))))
def f_checked_gates : Fn := ⟨1, 5, b_checked_gates, [], [], none, false⟩
abbrev H_checked_gates (P : Pg) : Prop := Has P "checked_gates" f_checked_gates
/-- in_order -/
def b_in_order : SL := (.cons (.asg (.one 1) .dnew) (.cons (.fr (.one 2) (.seq (.var 0)) (.cons (.ife (.din false (.ix (.var 2) (.lit (.int 0))) (.var 1)) (.cons (.rais "SamePlace" (some "place") (.cons (.ix (.var 2) (.lit (.int 0))) .nil)) .nil) .nil) (.cons (.dput (.var 1) (.ix (.var 2) (.lit (.int 0))) (.var 2)) .nil))) (.cons (.ret (.comp false (.seq (.call "ascending" (.cons (.comp false (.seq (.var 0)) (.one 2) [2] (.lit (.bl true)) (.ix (.var 2) (.lit (.int 0)))) .nil))) (.one 3) [3] (.lit (.bl true)) (.dget (.var 1) (.var 3)))) .nil)))
def f_in_order : Fn := ⟨1, 4, b_in_order, [], [], none, false⟩
abbrev H_in_order (P : Pg) : Prop := Has P "in_order" f_in_order
/-- Road.__init__ Road___init__-/
def b_Road___init__ : SL := (.cons (.ret (.rcd "Road" "row" (.call "in_order" (.cons (.call "checked_gates" (.cons (.var 1) .nil)) .nil)))) .nil)
def f_Road___init__ : Fn := ⟨2, 2, b_Road___init__, [], [], some ("Road", "__init__"), true⟩
abbrev H_Road___init__ (P : Pg) : Prop := Has P "Road.__init__" f_Road___init__
/-- Road.__eq__ Road___eq__-/
def b_Road___eq__ : SL := (.cons (.ret (.and (.isc (.var 1) "Road") (.cmp .eq (.fld "Road" (.var 0) "row") (.fld "Road" (.var 1) "row")))) .nil)
def f_Road___eq__ : Fn := ⟨2, 2, b_Road___eq__, [], [], some ("Road", "__eq__"), false⟩
abbrev H_Road___eq__ (P : Pg) : Prop := Has P "Road.__eq__" f_Road___eq__
/-- Road.gates Road_gates-/
def b_Road_gates : SL := (.cons (.ret (.bi (.list false) (.cons (.fld "Road" (.var 0) "row") .nil))) .nil)
def f_Road_gates : Fn := ⟨1, 1, b_Road_gates, [], [], some ("Road", "gates"), false⟩
abbrev H_Road_gates (P : Pg) : Prop := Has P "Road.gates" f_Road_gates
/-- Road.barring Road_barring-/
def b_Road_barring : SL := (.cons (.ret (.comp false (.seq (.fld "Road" (.var 0) "row")) (.one 1) [1] (.cmp .ne (.ix (.var 1) (.lit (.int 2))) (.tup .nil)) (.var 1))) .nil)
def f_Road_barring : Fn := ⟨1, 2, b_Road_barring, [], [], some ("Road", "barring"), false⟩
abbrev H_Road_barring (P : Pg) : Prop := Has P "Road.barring" f_Road_barring
/-- Road.places Road_places-/
def b_Road_places : SL := (.cons (.ret (.comp false (.seq (.fld "Road" (.var 0) "row")) (.one 1) [1] (.lit (.bl true)) (.ix (.var 1) (.lit (.int 0))))) .nil)
def f_Road_places : Fn := ⟨1, 2, b_Road_places, [], [], some ("Road", "places"), false⟩
abbrev H_Road_places (P : Pg) : Prop := Has P "Road.places" f_Road_places
/-- Road.gate_at Road_gate_at-/
def b_Road_gate_at : SL := (.cons (.fr (.one 2) (.seq (.fld "Road" (.var 0) "row")) (.cons (.ife (.cmp .eq (.ix (.var 2) (.lit (.int 0))) (.var 1)) (.cons (.ret (.var 2)) .nil) .nil) .nil)) (.cons (.rais "UnknownGate" (some "place") (.cons (.var 1) .nil)) .nil))
def f_Road_gate_at : Fn := ⟨2, 3, b_Road_gate_at, [], [], some ("Road", "gate_at"), false⟩
abbrev H_Road_gate_at (P : Pg) : Prop := Has P "Road.gate_at" f_Road_gate_at
/-- Road.moments Road_moments-/
def b_Road_moments : SL := (.cons (.ret (.comp false (.seq (.fld "Road" (.var 0) "row")) (.one 2) [2] (.lit (.bl true)) (.call "moment_at" (.cons (.var 1) (.cons (.ix (.var 2) (.lit (.int 0))) .nil))))) .nil)
def f_Road_moments : Fn := ⟨2, 3, b_Road_moments, [], [], some ("Road", "moments"), false⟩
abbrev H_Road_moments (P : Pg) : Prop := Has P "Road.moments" f_Road_moments
/-- Road.passes Road_passes-/
def b_Road_passes : SL := (.cons (.ret (.cmp .is (.meth "Road" "first_shut" "Road.first_shut" (.var 0) (.cons (.var 1) .nil)) (.lit .non))) .nil)
def f_Road_passes : Fn := ⟨2, 2, b_Road_passes, [], [], some ("Road", "passes"), false⟩
abbrev H_Road_passes (P : Pg) : Prop := Has P "Road.passes" f_Road_passes
/-- Road.first_shut Road_first_shut-/
def b_Road_first_shut : SL := (.cons (.fr (.one 2) (.seq (.fld "Road" (.var 0) "row")) (.cons (.ife (.not (.call "lets" (.cons (.var 2) (.cons (.call "moment_at" (.cons (.var 1) (.cons (.ix (.var 2) (.lit (.int 0))) .nil))) .nil)))) (.cons (.ret (.ix (.var 2) (.lit (.int 0)))) .nil) .nil) .nil)) (.cons (.ret (.lit .non)) .nil))
def f_Road_first_shut : Fn := ⟨2, 3, b_Road_first_shut, [], [], some ("Road", "first_shut"), false⟩
abbrev H_Road_first_shut (P : Pg) : Prop := Has P "Road.first_shut" f_Road_first_shut
/-- Road.put Road_put-/
def b_Road_put : SL := (.cons (.ife (.cmp .ge (.bi .len (.cons (.fld "Road" (.var 0) "row") .nil)) (.con "MAX_GATES")) (.cons (.rais "CapacityExceeded" (some "capacity") (.cons (.con "MAX_GATES") .nil)) .nil) .nil) (.cons (.ret (.mk "Road" "Road.__init__" (.cons (.bin .add (.fld "Road" (.var 0) "row") (.lst false (.cons (.call "normal_gate" (.cons (.var 1) .nil)) .nil))) .nil))) .nil))
def f_Road_put : Fn := ⟨2, 2, b_Road_put, [], [], some ("Road", "put"), false⟩
abbrev H_Road_put (P : Pg) : Prop := Has P "Road.put" f_Road_put
/-- Road.without Road_without-/
def b_Road_without : SL := (.cons (.asg (.one 2) (.meth "Road" "gate_at" "Road.gate_at" (.var 0) (.cons (.var 1) .nil))) (.cons (.ret (.mk "Road" "Road.__init__" (.cons (.comp false (.seq (.fld "Road" (.var 0) "row")) (.one 3) [3] (.cmp .ne (.var 3) (.var 2)) (.var 3)) .nil))) .nil))
def f_Road_without : Fn := ⟨2, 4, b_Road_without, [], [], some ("Road", "without"), false⟩
abbrev H_Road_without (P : Pg) : Prop := Has P "Road.without" f_Road_without
/-- Road.joined Road_joined-/
def b_Road_joined : SL := (.cons (.ret (.mk "Road" "Road.__init__" (.cons (.bin .add (.fld "Road" (.var 0) "row") (.fld "Road" (.var 1) "row")) .nil))) .nil)
def f_Road_joined : Fn := ⟨2, 2, b_Road_joined, [], [], some ("Road", "joined"), false⟩
abbrev H_Road_joined (P : Pg) : Prop := Has P "Road.joined" f_Road_joined
/-- Road.later Road_later-/
def b_Road_later : SL := (.cons (.asg (.one 3) (.comp false (.seq (.fld "Road" (.var 0) "row")) (.one 4) [4] (.lit (.bl true)) (.call "delayed" (.cons (.var 4) (.cons (.call "add" (.cons (.var 1) (.cons (.call "multiply" (.cons (.var 2) (.cons (.ix (.var 4) (.lit (.int 0))) .nil))) .nil))) .nil))))) (.cons (.ret (.mk "Road" "Road.__init__" (.cons (.var 3) .nil))) .nil))
def f_Road_later : Fn := ⟨3, 5, b_Road_later, [.tup [.int 0, .int 1]], ["per_length"], some ("Road", "later"), false⟩
abbrev H_Road_later (P : Pg) : Prop := Has P "Road.later" f_Road_later
/-- Road.scaled Road_scaled-/
def b_Road_scaled : SL := (.cons (.ife (.cmp .lt (.ix (.var 1) (.lit (.int 0))) (.lit (.int 1))) (.cons (.rais "InvalidFactor" (some "factor") (.cons (.var 1) .nil)) .nil) .nil) (.cons (.asg (.one 2) (.lst true .nil)) (.cons (.fr (.tup (.cons (.one 3) (.cons (.one 4) (.cons (.one 5) .nil)))) (.seq (.fld "Road" (.var 0) "row")) (.cons (.asg (.one 6) (.comp false (.seq (.var 5)) (.tup (.cons (.one 7) (.cons (.one 8) .nil))) [7, 8] (.lit (.bl true)) (.tup (.cons (.call "multiply" (.cons (.var 7) (.cons (.var 1) .nil))) (.cons (.call "multiply" (.cons (.var 8) (.cons (.var 1) .nil))) .nil))))) (.cons (.expr (.app (.var 2) (.tup (.cons (.var 3) (.cons (.call "multiply" (.cons (.var 4) (.cons (.var 1) .nil))) (.cons (.bi .tuple (.cons (.var 6) .nil)) .nil)))))) .nil))) (.cons (.ret (.mk "Road" "Road.__init__" (.cons (.var 2) .nil))) .nil))))
def f_Road_scaled : Fn := ⟨2, 9, b_Road_scaled, [], [], some ("Road", "scaled"), false⟩
abbrev H_Road_scaled (P : Pg) : Prop := Has P "Road.scaled" f_Road_scaled
/-- _law_shuffled -/
def b__law_shuffled : SL := (.cons (.asg (.one 2) (.lst true .nil)) (.cons (.fr (.one 3) (.seq (.var 1)) (.cons (.expr (.ins (.var 2) (.call "_law_draw" (.cons (.var 0) (.cons (.bin .add (.bi .len (.cons (.var 2) .nil)) (.lit (.int 1))) .nil))) (.var 3))) .nil)) (.cons (.ret (.frz (.var 2))) .nil)))
def f__law_shuffled : Fn := ⟨2, 4, b__law_shuffled, [], [], none, false⟩
abbrev H__law_shuffled (P : Pg) : Prop := Has P "_law_shuffled" f__law_shuffled
/-- _law_in_order -/
def b__law_in_order : SL := (.cons (.asg (.one 1) (.call "_law_ascending" (.cons (.comp false (.seq (.var 0)) (.one 4) [4] (.lit (.bl true)) (.ix (.var 4) (.lit (.int 0)))) .nil))) (.cons (.asg (.one 2) (.lst true .nil)) (.cons (.fr (.one 3) (.seq (.var 1)) (.cons (.expr (.ext (.var 2) (.comp true (.seq (.var 0)) (.one 4) [4] (.cmp .eq (.ix (.var 4) (.lit (.int 0))) (.var 3)) (.var 4)))) .nil)) (.cons (.ret (.frz (.var 2))) .nil))))
def f__law_in_order : Fn := ⟨1, 5, b__law_in_order, [], [], none, false⟩
abbrev H__law_in_order (P : Pg) : Prop := Has P "_law_in_order" f__law_in_order
/-- _law_places -/
def b__law_places : SL := (.cons (.par 3 4 (.call "_law_choice" (.cons (.var 0) (.cons (.lst false (.cons (.tup (.cons (.lit (.int 0)) (.cons (.lit (.int 1)) .nil))) (.cons (.tup (.cons (.lit (.int 0)) (.cons (.lit (.int 1)) .nil))) (.cons (.tup (.cons (.neg (.lit (.int 1))) (.cons (.lit (.int 1)) .nil))) (.cons (.call "_law_small" (.cons (.var 0) .nil)) .nil))))) .nil))) (.lst true .nil)) (.cons (.fr (.one 2) (.rng1 (.var 1)) (.cons (.expr (.app (.var 4) (.var 3))) (.cons (.asg (.one 3) (.call "_law_add" (.cons (.var 3) (.cons (.call "_law_choice" (.cons (.var 0) (.cons (.lst false (.cons (.tup (.cons (.lit (.int 1)) (.cons (.lit (.int 1)) .nil))) (.cons (.tup (.cons (.lit (.int 1)) (.cons (.lit (.int 1)) .nil))) (.cons (.tup (.cons (.lit (.int 2)) (.cons (.lit (.int 1)) .nil))) (.cons (.tup (.cons (.lit (.int 1)) (.cons (.lit (.int 2)) .nil))) (.cons (.tup (.cons (.bin .add (.lit (.int 1)) (.call "_law_draw" (.cons (.var 0) (.cons (.bin .pow (.lit (.int 10)) (.lit (.int 6))) .nil)))) (.cons (.lit (.int 1)) .nil))) .nil)))))) .nil))) .nil)))) .nil))) (.cons (.ret (.call "_law_shuffled" (.cons (.var 0) (.cons (.var 4) .nil)))) .nil)))
def f__law_places : Fn := ⟨2, 5, b__law_places, [], [], none, false⟩
abbrev H__law_places (P : Pg) : Prop := Has P "_law_places" f__law_places
/-- _law_gates -/
def b__law_gates : SL := (.cons (.ret (.comp false (.seq (.call "_law_places" (.cons (.var 0) (.cons (.call "_law_draw" (.cons (.var 0) (.cons (.bin .add (.var 1) (.lit (.int 1))) .nil))) .nil)))) (.one 3) [3] (.lit (.bl true)) (.call "_law_gate" (.cons (.var 0) (.cons (.var 3) (.cons (.var 2) .nil)))))) .nil)
def f__law_gates : Fn := ⟨3, 4, b__law_gates, [], [], none, false⟩
abbrev H__law_gates (P : Pg) : Prop := Has P "_law_gates" f__law_gates
/-- _law_moment -/
def b__law_moment : SL := (.cons (.ret (.call "_law_add" (.cons (.ix (.var 0) (.lit (.int 0))) (.cons (.call "_law_multiply" (.cons (.ix (.var 0) (.lit (.int 1))) (.cons (.var 1) .nil))) .nil)))) .nil)
def f__law_moment : Fn := ⟨2, 2, b__law_moment, [], [], none, false⟩
abbrev H__law_moment (P : Pg) : Prop := Has P "_law_moment" f__law_moment
/-- _law_passes -/
def b__law_passes : SL := (.cons (.ret (.bi .all (.cons (.comp false (.seq (.var 0)) (.one 2) [2] (.lit (.bl true)) (.call "_law_is_open" (.cons (.var 2) (.cons (.call "_law_moment" (.cons (.var 1) (.cons (.ix (.var 2) (.lit (.int 0))) .nil))) .nil)))) .nil))) .nil)
def f__law_passes : Fn := ⟨2, 3, b__law_passes, [], [], none, false⟩
abbrev H__law_passes (P : Pg) : Prop := Has P "_law_passes" f__law_passes
/-- _law_near_walker -/
def b__law_near_walker : SL := (.cons (.ife (.cmp .lt (.bi .len (.cons (.var 1) .nil)) (.lit (.int 2))) (.cons (.ret (.tup (.cons (.call "_law_small" (.cons (.var 0) .nil)) (.cons (.call "_law_small" (.cons (.var 0) .nil)) .nil)))) .nil) .nil) (.cons (.asg (.one 2) (.call "_law_draw" (.cons (.var 0) (.cons (.bi .len (.cons (.var 1) .nil)) .nil)))) (.cons (.asg (.one 3) (.bin .mod (.bin .add (.bin .add (.var 2) (.lit (.int 1))) (.call "_law_draw" (.cons (.var 0) (.cons (.bin .sub (.bi .len (.cons (.var 1) .nil)) (.lit (.int 1))) .nil)))) (.bi .len (.cons (.var 1) .nil)))) (.cons (.asg (.one 4) (.comp false (.seq (.tup (.cons (.var 2) (.cons (.var 3) .nil)))) (.one 6) [6] (.lit (.bl true)) (.call "_law_near_moment" (.cons (.var 0) (.cons (.ix (.var 1) (.var 6)) .nil))))) (.cons (.asg (.one 5) (.call "_law_divide" (.cons (.call "_law_subtract" (.cons (.ix (.var 4) (.lit (.int 1))) (.cons (.ix (.var 4) (.lit (.int 0))) .nil))) (.cons (.call "_law_subtract" (.cons (.ix (.ix (.var 1) (.var 3)) (.lit (.int 0))) (.cons (.ix (.ix (.var 1) (.var 2)) (.lit (.int 0))) .nil))) .nil)))) (.cons (.ret (.tup (.cons (.call "_law_subtract" (.cons (.ix (.var 4) (.lit (.int 0))) (.cons (.call "_law_multiply" (.cons (.var 5) (.cons (.ix (.ix (.var 1) (.var 2)) (.lit (.int 0))) .nil))) .nil))) (.cons (.var 5) .nil)))) .nil))))))
def f__law_near_walker : Fn := ⟨2, 7, b__law_near_walker, [], [], none, false⟩
abbrev H__law_near_walker (P : Pg) : Prop := Has P "_law_near_walker" f__law_near_walker
/-- _law_walker -/
def b__law_walker : SL := (.cons (.ret (.tup (.cons (.call "_law_wide" (.cons (.var 0) .nil)) (.cons (.call "_law_wide" (.cons (.var 0) .nil)) .nil)))) .nil)
def f__law_walker : Fn := ⟨1, 1, b__law_walker, [], [], none, false⟩
abbrev H__law_walker (P : Pg) : Prop := Has P "_law_walker" f__law_walker
/-- _law_barring -/
def b__law_barring : SL := (.cons (.ret (.comp false (.seq (.var 0)) (.one 1) [1] (.cmp .gt (.bi .len (.cons (.ix (.var 1) (.lit (.int 2))) .nil)) (.lit (.int 0))) (.var 1))) .nil)
def f__law_barring : Fn := ⟨1, 2, b__law_barring, [], [], none, false⟩
abbrev H__law_barring (P : Pg) : Prop := Has P "_law_barring" f__law_barring
end Ev.Q

namespace Ev
open PySem

/-! ## Steps of a reading -/
section
variable {cf : Str → List D → M D} {gc : Str → Option D} {δ : Env} {μ : Mu} {Q : D → Mu → Prop} {X : Exn → Mu → Prop} {a b c : E} {es : EL}
theorem wp_bnd {α β : Type} {m : M α} {f : α → M β} {μ : Mu} {Q : β → Mu → Prop} {X : Exn → Mu → Prop} (h : WP m μ (fun x μ1 => WP (f x) μ1 Q X) X) : WP (bnd m f) μ Q X := by
  unfold WP bnd at *
  cases e : m μ with
  | none => rw [e] at h; exact h
  | some q =>
    obtain ⟨r, μ1⟩ := q
    rw [e] at h
    cases r with
    | ok x => exact h
    | ex x => exact h
theorem wp_lft {α : Type} {o : Option α} {μ : Mu} {Q : α → Mu → Prop} {X : Exn → Mu → Prop} (h : ∃ x, o = some x ∧ Q x μ) : WP (lft o) μ Q X := by
  obtain ⟨x, rfl, h⟩ := h
  exact h
theorem wp_rd {α : Type} {f : Mu → Option α} {μ : Mu} {Q : α → Mu → Prop} {X : Exn → Mu → Prop} (h : ∃ x, f μ = some x ∧ Q x μ) : WP (rd f) μ Q X := by
  obtain ⟨x, e, h⟩ := h
  unfold WP rd lft
  rw [e]
  exact h
theorem wp_imp {α : Type} {m : M α} {μ : Mu} {Q Q' : α → Mu → Prop} {X : Exn → Mu → Prop} (h : WP m μ Q' X) (hi : ∀ x μ', Q' x μ' → Q x μ') : WP m μ Q X := by
  unfold WP at *
  cases e : m μ with
  | none => rw [e] at h; exact h
  | some q =>
    obtain ⟨r, μ1⟩ := q
    rw [e] at h
    cases r with
    | ok x => exact hi _ _ h
    | ex x => exact h
theorem w_lit {d : D} (q : Q d μ) : WP (evE cf gc (.lit d) δ) μ Q X := q
theorem w_var {i : Nat} {d : D} (h : δ[i]? = some (some d)) (q : Q d μ) : WP (evE cf gc (.var i) δ) μ Q X := by
  refine wp_lft ⟨d, ?_, q⟩
  rw [h]
  rfl
theorem w_con {x : Str} {d : D} (h : gc x = some d) (q : Q d μ) : WP (evE cf gc (.con x) δ) μ Q X := wp_lft ⟨d, h, q⟩
theorem w_bin {o : Bop} (h : WP (evE cf gc a δ) μ (fun x μ1 => WP (evE cf gc b δ) μ1 (fun y μ2 => ∃ z, bop o (view μ2 x) (view μ2 y) = some z ∧ Q z μ2) X) X) : WP (evE cf gc (.bin o a b) δ) μ Q X :=
  wp_bnd (wp_imp h fun x μ1 h => wp_bnd (wp_imp h fun y μ2 h => wp_rd h))
theorem w_arI {o : Bop} {g : Int → Int → Int} {C : Int → Int → Prop} (hg : ∀ i j, C i j → bop o (.int i) (.int j) = some (.int (g i j))) (h : WP (evE cf gc a δ) μ (fun x μ1 => ∃ i, x = .int i ∧ WP (evE cf gc b δ) μ1 (fun y μ2 => ∃ j, y = .int j ∧ C i j ∧ Q (.int (g i j)) μ2) X) X) : WP (evE cf gc (.bin o a b) δ) μ Q X :=
  w_bin (wp_imp h fun x μ1 h => by
    obtain ⟨i, rfl, h⟩ := h
    exact wp_imp h fun y μ2 h => by
      obtain ⟨j, rfl, c, h⟩ := h
      exact ⟨_, hg i j c, h⟩)
theorem w_add (h : WP (evE cf gc a δ) μ (fun x μ1 => ∃ i, x = .int i ∧ WP (evE cf gc b δ) μ1 (fun y μ2 => ∃ j, y = .int j ∧ True ∧ Q (.int (i + j)) μ2) X) X) : WP (evE cf gc (.bin .add a b) δ) μ Q X :=
  w_arI (g := fun i j => i + j) (C := fun _ _ => True) (fun _ _ _ => rfl) h
theorem w_sub (h : WP (evE cf gc a δ) μ (fun x μ1 => ∃ i, x = .int i ∧ WP (evE cf gc b δ) μ1 (fun y μ2 => ∃ j, y = .int j ∧ True ∧ Q (.int (i - j)) μ2) X) X) : WP (evE cf gc (.bin .sub a b) δ) μ Q X :=
  w_arI (g := fun i j => i - j) (C := fun _ _ => True) (fun _ _ _ => rfl) h
def MulOk (i j : Int) : Prop := i.natAbs.log2 + j.natAbs.log2 < 1000000
def DivOk (j : Int) : Prop := j ≠ 0 ∧ j.natAbs.log2 < 9000
theorem w_mul (h : WP (evE cf gc a δ) μ (fun x μ1 => ∃ i, x = .int i ∧ WP (evE cf gc b δ) μ1 (fun y μ2 => ∃ j, y = .int j ∧ MulOk i j ∧ Q (.int (i * j)) μ2) X) X) : WP (evE cf gc (.bin .mul a b) δ) μ Q X :=
  w_arI (g := fun i j => i * j) (C := MulOk) (fun _ _ h => if_pos h) h
theorem w_fdiv (h : WP (evE cf gc a δ) μ (fun x μ1 => ∃ i, x = .int i ∧ WP (evE cf gc b δ) μ1 (fun y μ2 => ∃ j, y = .int j ∧ DivOk j ∧ Q (.int (i.fdiv j)) μ2) X) X) : WP (evE cf gc (.bin .fdiv a b) δ) μ Q X :=
  w_arI (g := fun i j => i.fdiv j) (C := fun _ j => DivOk j) (fun _ _ h => if_pos h) h
theorem w_mod (h : WP (evE cf gc a δ) μ (fun x μ1 => ∃ i, x = .int i ∧ WP (evE cf gc b δ) μ1 (fun y μ2 => ∃ j, y = .int j ∧ j ≠ 0 ∧ Q (.int (i.fmod j)) μ2) X) X) : WP (evE cf gc (.bin .mod a b) δ) μ Q X :=
  w_arI (g := fun i j => i.fmod j) (C := fun _ j => j ≠ 0) (fun _ _ h => if_pos h) h
def PowOk (i j : Int) : Prop := 0 ≤ j ∧ j ≤ 1000000 ∧ i.natAbs < 2 ^ 64
theorem w_pow (h : WP (evE cf gc a δ) μ (fun x μ1 => ∃ i, x = .int i ∧ WP (evE cf gc b δ) μ1 (fun y μ2 => ∃ j, y = .int j ∧ PowOk i j ∧ Q (.int (i ^ j.toNat)) μ2) X) X) : WP (evE cf gc (.bin .pow a b) δ) μ Q X :=
  w_arI (g := fun i j => i ^ j.toNat) (C := PowOk) (fun _ _ h => if_pos h) h
theorem w_neg (h : WP (evE cf gc a δ) μ (fun x μ1 => ∃ i, x = .int i ∧ Q (.int (-i)) μ1) X) : WP (evE cf gc (.neg a) δ) μ Q X :=
  wp_bnd (wp_imp h fun x μ1 h => by
    obtain ⟨i, rfl, h⟩ := h
    exact h)
theorem w_cmp {o : Cop} (h : WP (evE cf gc a δ) μ (fun x μ1 => WP (evE cf gc b δ) μ1 (fun y μ2 => ∃ r, cop o (view μ2 x) (view μ2 y) = some r ∧ Q (.bl r) μ2) X) X) : WP (evE cf gc (.cmp o a b) δ) μ Q X :=
  wp_bnd (wp_imp h fun x μ1 h => wp_bnd (wp_imp h fun y μ2 h => wp_rd (by
    obtain ⟨r, e, h⟩ := h
    exact ⟨.bl r, by rw [e]; rfl, h⟩)))
theorem w_cmpI {o : Cop} {g : Int → Int → Bool} (hg : ∀ i j, cop o (.int i) (.int j) = some (g i j)) (h : WP (evE cf gc a δ) μ (fun x μ1 => ∃ i, x = .int i ∧ WP (evE cf gc b δ) μ1 (fun y μ2 => ∃ j, y = .int j ∧ Q (.bl (g i j)) μ2) X) X) : WP (evE cf gc (.cmp o a b) δ) μ Q X :=
  w_cmp (wp_imp h fun x μ1 h => by
    obtain ⟨i, rfl, h⟩ := h
    exact wp_imp h fun y μ2 h => by
      obtain ⟨j, rfl, h⟩ := h
      exact ⟨_, hg i j, h⟩)
theorem eqO_int (neg : Bool) (i j : Int) : eqO neg (.int i) (.int j) = some (if neg then !decide (i = j) else decide (i = j)) := by
  have e : PyData.eqv (.int i) (.int j) = decide (i = j) := by
    by_cases h : i = j
    · subst h
      rw [decide_eq_true rfl]
      show (i == i) = true
      exact beq_self_eq_true i
    · rw [decide_eq_false h]
      show (i == j) = false
      exact beq_eq_false_iff_ne.mpr h
  show (if (SeqAt.shaped (.int i) && SeqAt.shaped (.int j)) = true then some (if neg then !PyData.eqv (.int i) (.int j) else PyData.eqv (.int i) (.int j)) else none) = _
  rw [if_pos (by rfl), e]
theorem w_lt (h : WP (evE cf gc a δ) μ (fun x μ1 => ∃ i, x = .int i ∧ WP (evE cf gc b δ) μ1 (fun y μ2 => ∃ j, y = .int j ∧ Q (.bl (decide (i < j))) μ2) X) X) : WP (evE cf gc (.cmp .lt a b) δ) μ Q X := w_cmpI (g := fun i j => decide (i < j)) (fun _ _ => rfl) h
theorem w_le (h : WP (evE cf gc a δ) μ (fun x μ1 => ∃ i, x = .int i ∧ WP (evE cf gc b δ) μ1 (fun y μ2 => ∃ j, y = .int j ∧ Q (.bl (decide (i ≤ j))) μ2) X) X) : WP (evE cf gc (.cmp .le a b) δ) μ Q X := w_cmpI (g := fun i j => decide (i ≤ j)) (fun _ _ => rfl) h
theorem w_gt (h : WP (evE cf gc a δ) μ (fun x μ1 => ∃ i, x = .int i ∧ WP (evE cf gc b δ) μ1 (fun y μ2 => ∃ j, y = .int j ∧ Q (.bl (decide (j < i))) μ2) X) X) : WP (evE cf gc (.cmp .gt a b) δ) μ Q X := w_cmpI (g := fun i j => decide (j < i)) (fun _ _ => rfl) h
theorem w_ge (h : WP (evE cf gc a δ) μ (fun x μ1 => ∃ i, x = .int i ∧ WP (evE cf gc b δ) μ1 (fun y μ2 => ∃ j, y = .int j ∧ Q (.bl (decide (j ≤ i))) μ2) X) X) : WP (evE cf gc (.cmp .ge a b) δ) μ Q X := w_cmpI (g := fun i j => decide (j ≤ i)) (fun _ _ => rfl) h
theorem w_eqI (h : WP (evE cf gc a δ) μ (fun x μ1 => ∃ i, x = .int i ∧ WP (evE cf gc b δ) μ1 (fun y μ2 => ∃ j, y = .int j ∧ Q (.bl (decide (i = j))) μ2) X) X) : WP (evE cf gc (.cmp .eq a b) δ) μ Q X := w_cmpI (g := fun i j => decide (i = j)) (fun i j => eqO_int false i j) h
theorem w_neI (h : WP (evE cf gc a δ) μ (fun x μ1 => ∃ i, x = .int i ∧ WP (evE cf gc b δ) μ1 (fun y μ2 => ∃ j, y = .int j ∧ Q (.bl (!decide (i = j))) μ2) X) X) : WP (evE cf gc (.cmp .ne a b) δ) μ Q X := w_cmpI (g := fun i j => !decide (i = j)) (fun i j => eqO_int true i j) h
theorem w_and (h : WP (evE cf gc a δ) μ (fun x μ1 => ∃ r, x = .bl r ∧ (r = true → WP (evE cf gc b δ) μ1 Q X) ∧ (r = false → Q (.bl false) μ1)) X) : WP (evE cf gc (.and a b) δ) μ Q X :=
  wp_bnd (wp_imp h fun x μ1 h => by
    obtain ⟨r, rfl, h1, h2⟩ := h
    cases r with
    | true => exact h1 rfl
    | false => exact h2 rfl)
theorem w_or (h : WP (evE cf gc a δ) μ (fun x μ1 => ∃ r, x = .bl r ∧ (r = false → WP (evE cf gc b δ) μ1 Q X) ∧ (r = true → Q (.bl true) μ1)) X) : WP (evE cf gc (.or a b) δ) μ Q X :=
  wp_bnd (wp_imp h fun x μ1 h => by
    obtain ⟨r, rfl, h1, h2⟩ := h
    cases r with
    | true => exact h2 rfl
    | false => exact h1 rfl)
theorem w_not (h : WP (evE cf gc a δ) μ (fun x μ1 => ∃ r, x = .bl r ∧ Q (.bl (!r)) μ1) X) : WP (evE cf gc (.not a) δ) μ Q X :=
  wp_bnd (wp_imp h fun x μ1 h => by
    obtain ⟨r, rfl, h⟩ := h
    exact h)
theorem w_ite (h : WP (evE cf gc c δ) μ (fun x μ1 => ∃ r, x = .bl r ∧ (r = true → WP (evE cf gc a δ) μ1 Q X) ∧ (r = false → WP (evE cf gc b δ) μ1 Q X)) X) : WP (evE cf gc (.ite c a b) δ) μ Q X :=
  wp_bnd (wp_imp h fun x μ1 h => by
    obtain ⟨r, rfl, h1, h2⟩ := h
    cases r with
    | true => exact h1 rfl
    | false => exact h2 rfl)
theorem wl_nil {Q : List D → Mu → Prop} (q : Q [] μ) : WP (evL cf gc .nil δ) μ Q X := q
theorem wl_cons {Q : List D → Mu → Prop} (h : WP (evE cf gc a δ) μ (fun x μ1 => WP (evL cf gc es δ) μ1 (fun xs μ2 => Q (x :: xs) μ2) X) X) : WP (evL cf gc (.cons a es) δ) μ Q X :=
  wp_bnd (wp_imp h fun x μ1 h => wp_bnd h)
theorem w_tup (h : WP (evL cf gc es δ) μ (fun ds μ1 => ds.length ≤ sizeLine ∧ Q (.tup ds) μ1) X) : WP (evE cf gc (.tup es) δ) μ Q X :=
  wp_bnd (wp_imp h fun ds μ1 h => by
    rw [if_pos h.1]
    exact h.2)
theorem w_lstF (h : WP (evL cf gc es δ) μ (fun ds μ1 => ds.length ≤ sizeLine ∧ Q (.lst ds) μ1) X) : WP (evE cf gc (.lst false es) δ) μ Q X :=
  wp_bnd (wp_imp h fun ds μ1 h => by
    unfold WP newList
    rw [if_pos h.1]
    exact h.2)
theorem w_lstT (h : WP (evL cf gc es δ) μ (fun ds μ1 => ds.length ≤ sizeLine ∧ Q (.ptr μ1.length) (μ1 ++ [.lst ds])) X) : WP (evE cf gc (.lst true es) δ) μ Q X :=
  wp_bnd (wp_imp h fun ds μ1 h => by
    unfold WP newList
    rw [if_pos h.1]
    exact h.2)
theorem w_ix (h : WP (evE cf gc a δ) μ (fun x μ1 => WP (evE cf gc b δ) μ1 (fun y μ2 => ∃ z, ixOp (view μ2 x) y = some z ∧ Q z μ2) X) X) : WP (evE cf gc (.ix a b) δ) μ Q X :=
  wp_bnd (wp_imp h fun x μ1 h => wp_bnd (wp_imp h fun y μ2 h => wp_rd h))
theorem wo_no (q : Q .non μ) : WP (evO cf gc .no δ) μ Q X := q
theorem wo_yes (h : WP (evE cf gc a δ) μ (fun x μ1 => ∃ i, x = .int i ∧ Q (.int i) μ1) X) : WP (evO cf gc (.yes a) δ) μ Q X :=
  wp_bnd (wp_imp h fun x μ1 h => by
    obtain ⟨i, rfl, h⟩ := h
    exact h)
theorem w_slc {lo hi : OE} (h : WP (evE cf gc a δ) μ (fun x μ1 => WP (evO cf gc lo δ) μ1 (fun y μ2 => WP (evO cf gc hi δ) μ2 (fun z μ3 => ∃ v, slcOp (view μ3 x) y z = some v ∧ Q v μ3) X) X) X) : WP (evE cf gc (.slc a lo hi) δ) μ Q X :=
  wp_bnd (wp_imp h fun x μ1 h => wp_bnd (wp_imp h fun y μ2 h => wp_bnd (wp_imp h fun z μ3 h => wp_rd h)))
theorem w_call {f : Str} (h : WP (evL cf gc es δ) μ (fun ds μ1 => WP (cf f ds) μ1 Q X) X) : WP (evE cf gc (.call f es) δ) μ Q X := wp_bnd h
theorem w_bi {f : Bi} (h : WP (evL cf gc es δ) μ (fun ds μ1 => WP (biOp f ds) μ1 Q X) X) : WP (evE cf gc (.bi f es) δ) μ Q X := wp_bnd h
theorem w_isi {t : String} (h : WP (evE cf gc a δ) μ (fun x μ1 => ∃ r, isOf μ1 x t = some r ∧ Q (.bl r) μ1) X) : WP (evE cf gc (.isi a t) δ) μ Q X :=
  wp_bnd (wp_imp h fun x μ1 h => wp_rd (by
    obtain ⟨r, e, h⟩ := h
    exact ⟨.bl r, by rw [e]; rfl, h⟩))
theorem w_app (h : WP (evE cf gc a δ) μ (fun x μ1 => ∃ u, isCell x μ1 = some u ∧ WP (evE cf gc b δ) μ1 (fun y μ2 => WP (appOp x y) μ2 Q X) X) X) : WP (evE cf gc (.app a b) δ) μ Q X :=
  wp_bnd (wp_imp h fun x μ1 h => wp_bnd (wp_rd (by
    obtain ⟨u, e, h⟩ := h
    exact ⟨u, e, wp_bnd h⟩)))
theorem w_ext (h : WP (evE cf gc a δ) μ (fun x μ1 => ∃ u, isCell x μ1 = some u ∧ WP (evE cf gc b δ) μ1 (fun y μ2 => WP (extOp x y) μ2 Q X) X) X) : WP (evE cf gc (.ext a b) δ) μ Q X :=
  wp_bnd (wp_imp h fun x μ1 h => wp_bnd (wp_rd (by
    obtain ⟨u, e, h⟩ := h
    exact ⟨u, e, wp_bnd h⟩)))
theorem p_ext {p q : Nat} {ds es : List D} (h : μ[p]? = some (.lst ds)) (h2 : μ[q]? = some (.lst es)) (hn : p ≠ q) (hl : ds.length + es.length ≤ sizeLine) (z : Q .non (μ.set p (.lst (ds ++ es)))) : WP (extOp (.ptr p) (.ptr q)) μ Q X := by
  unfold WP extOp
  simp only [h, h2]
  rw [if_pos ⟨hn, hl⟩]
  exact z
theorem b_sorted {x : D} {ds : List D} {ps : List (Int × Int)} (h : view μ x = .lst ds) (hp : pairsOf ds = some ps) (z : Q (.lst ((ps.mergeSort lexLe).map pairD)) μ) : WP (biOp .sorted [x]) μ Q X :=
  wp_rd ⟨_, by rw [h]; show (pairsOf ds).map _ = _; rw [hp]; rfl, z⟩
theorem w_frz (h : WP (evE cf gc a δ) μ (fun x μ1 => WP (frzOp x) μ1 Q X) X) : WP (evE cf gc (.frz a) δ) μ Q X := wp_bnd h
theorem w_outc (h : WP (evE cf gc a δ) μ (fun d μ1 => Q (.tup [d, .str "", .non]) μ1) (fun x μ1 => ∃ p, outD x = some p ∧ Q (.tup [.non, p.1, p.2]) μ1)) : WP (evE cf gc (.outc a) δ) μ Q X := by
  show WP (outM (evE cf gc a δ) _ _) μ Q X
  unfold WP at h
  unfold WP outM
  cases e : evE cf gc a δ μ with
  | none => rw [e] at h; exact h
  | some q =>
    obtain ⟨r, μ1⟩ := q
    rw [e] at h
    cases r with
    | ok d => exact h
    | ex x =>
      obtain ⟨p, e2, h⟩ := h
      simp only [e2, Option.map_some]
      exact h
theorem w_err (h : WP (evE cf gc a δ) μ (fun _ μ1 => Q (.tup [.str "", .non]) μ1) (fun x μ1 => ∃ p, outD x = some p ∧ Q (.tup [p.1, p.2]) μ1)) : WP (evE cf gc (.err a) δ) μ Q X := by
  show WP (outM (evE cf gc a δ) _ _) μ Q X
  unfold WP at h
  unfold WP outM
  cases e : evE cf gc a δ μ with
  | none => rw [e] at h; exact h
  | some q =>
    obtain ⟨r, μ1⟩ := q
    rw [e] at h
    cases r with
    | ok d => exact h
    | ex x =>
      obtain ⟨p, e2, h⟩ := h
      simp only [e2, Option.map_some]
      exact h
theorem w_callk {f k : Str} (h : WP (evL cf gc es δ) μ (fun ds μ1 => WP (evE cf gc a δ) μ1 (fun d μ2 => WP (cf f (ds ++ [d])) μ2 Q X) X) X) : WP (evE cf gc (.callk f es k a) δ) μ Q X :=
  wp_bnd (wp_imp h fun ds μ1 h => wp_bnd h)
/-! built-ins -/
theorem b_len {x : D} {ds : List D} (h : seqOf (view μ x) = some ds) (hz : ∀ z, x ≠ .str z) (q : Q (.int ds.length) μ) : WP (biOp .len [x]) μ Q X := by
  have e : biOp .len [x] = rd fun μ => (seqOf (view μ x)).map fun ds => .int ds.length := by cases x <;> first | rfl | exact absurd rfl (hz _)
  rw [e]
  exact wp_rd ⟨_, by rw [h]; rfl, q⟩
theorem b_abs {i : Int} (q : Q (.int (if i < 0 then -i else i)) μ) : WP (biOp .abs [.int i]) μ Q X := q
theorem b_listF {x : D} {ds : List D} (h : seqOf (view μ x) = some ds) (hl : ds.length ≤ sizeLine) (q : Q (.lst ds) μ) : WP (biOp (.list false) [x]) μ Q X := by
  have e : biOp (.list false) [x] μ = newList false ds μ := by
    show (match seqOf (view μ x) with | some ds => newList false ds μ | none => none) = _
    rw [h]
  unfold WP
  rw [e]
  unfold newList
  rw [if_pos hl]
  exact q
/-! statements -/
def WQ (r : Option SR) (R : Out → Env → Mu → Prop) (X : Exn → Env → Mu → Prop) : Prop := match r with
  | none => False
  | some (.fin o δ μ) => R o δ μ
  | some (.exc x δ μ) => X x δ μ
def thenQ (cf : Str → List D → M D) (gc : Str → Option D) (r : SL) (R : Out → Env → Mu → Prop) (X : Exn → Env → Mu → Prop) : Out → Env → Mu → Prop
  | .nx, δ, μ => WQ (evSL cf gc r δ μ) R X
  | o, δ, μ => R o δ μ
variable {R : Out → Env → Mu → Prop} {Y : Exn → Env → Mu → Prop} {s : S} {r sa sb : SL}
theorem t_nx (h : WQ (evSL cf gc r δ μ) R Y) : thenQ cf gc r R Y .nx δ μ := h
theorem t_ret {d : D} (h : R (.ret d) δ μ) : thenQ cf gc r R Y (.ret d) δ μ := h
theorem t_brk (h : R .brk δ μ) : thenQ cf gc r R Y .brk δ μ := h
theorem t_cont (h : R .cont δ μ) : thenQ cf gc r R Y .cont δ μ := h
theorem q_nil (h : R .nx δ μ) : WQ (evSL cf gc .nil δ μ) R Y := h
theorem q_cons (h : WQ (evS cf gc s δ μ) (thenQ cf gc r R Y) Y) : WQ (evSL cf gc (.cons s r) δ μ) R Y := by
  show WQ (match evS cf gc s δ μ with | some (.fin .nx δ' μ') => evSL cf gc r δ' μ' | o => o) R Y
  cases e : evS cf gc s δ μ with
  | none => rw [e] at h; exact h
  | some q =>
    rw [e] at h
    cases q with
    | exc x δ' μ' => exact h
    | fin o δ' μ' => cases o <;> exact h
theorem wq_sE {α : Type} {m : M α} {f : α → Mu → Option SR} (h : WP m μ (fun x μ1 => WQ (f x μ1) R Y) (fun x μ1 => Y x δ μ1)) : WQ (sE m δ f μ) R Y := by
  unfold sE
  unfold WP at h
  cases e : m μ with
  | none => rw [e] at h; exact h
  | some q =>
    obtain ⟨r, μ1⟩ := q
    rw [e] at h
    cases r with
    | ok x => exact h
    | ex x => exact h
theorem q_expr (h : WP (evE cf gc a δ) μ (fun _ μ1 => R .nx δ μ1) (fun x μ1 => Y x δ μ1)) : WQ (evS cf gc (.expr a) δ μ) R Y := wq_sE h
theorem q_asg {t : Tg} (h : WP (evE cf gc a δ) μ (fun x μ1 => ∃ δ', store t x δ = some δ' ∧ R .nx δ' μ1) (fun x μ1 => Y x δ μ1)) : WQ (evS cf gc (.asg t a) δ μ) R Y :=
  wq_sE (wp_imp h fun x μ1 h => by
    obtain ⟨δ', e, h⟩ := h
    rw [e]
    exact h)
theorem q_par {i j : Nat} (h : WP (evE cf gc a δ) μ (fun x μ1 => WP (evE cf gc b δ) μ1 (fun y μ2 => (i < δ.length ∧ j < δ.length) ∧ R .nx ((δ.set i (some x)).set j (some y)) μ2) (fun x μ1 => Y x δ μ1)) (fun x μ1 => Y x δ μ1)) : WQ (evS cf gc (.par i j a b) δ μ) R Y :=
  wq_sE (wp_bnd (wp_imp h fun x μ1 h => wp_bnd (wp_imp h fun y μ2 h => by
    show WQ (if i < δ.length ∧ j < δ.length then _ else _) R Y
    rw [if_pos h.1]
    exact h.2)))
theorem q_par3 {i j l : Nat} (h : WP (evE cf gc a δ) μ (fun x μ1 => WP (evE cf gc b δ) μ1 (fun y μ2 => WP (evE cf gc c δ) μ2 (fun z μ3 => (i < δ.length ∧ j < δ.length ∧ l < δ.length) ∧ R .nx (((δ.set i (some x)).set j (some y)).set l (some z)) μ3) (fun x μ1 => Y x δ μ1)) (fun x μ1 => Y x δ μ1)) (fun x μ1 => Y x δ μ1)) : WQ (evS cf gc (.par3 i j l a b c) δ μ) R Y :=
  wq_sE (wp_bnd (wp_imp h fun x μ1 h => wp_bnd (wp_imp h fun y μ2 h => wp_bnd (wp_imp h fun z μ3 h => by
    show WQ (if i < δ.length ∧ j < δ.length ∧ l < δ.length then _ else _) R Y
    rw [if_pos h.1]
    exact h.2))))
theorem o_lt3 {A : Prop} {i j l : Nat} {δ : Env} (h : i + 1 ≤ δ.length) (h2 : j + 1 ≤ δ.length) (h3 : l + 1 ≤ δ.length) (q : A) : (i < δ.length ∧ j < δ.length ∧ l < δ.length) ∧ A := ⟨⟨h, h2, h3⟩, q⟩
theorem q_ret (h : WP (evE cf gc a δ) μ (fun d μ1 => R (.ret d) δ μ1) (fun x μ1 => Y x δ μ1)) : WQ (evS cf gc (.ret a) δ μ) R Y := wq_sE h
theorem q_retN (h : R (.ret .non) δ μ) : WQ (evS cf gc .retN δ μ) R Y := h
theorem q_rais {c : Str} {fl : Option Str} (h : WP (evL cf gc es δ) μ (fun ds μ1 => ds.length = nfl fl ∧ Y ⟨c, fldN fl, ds ++ [.str c]⟩ δ μ1) (fun x μ1 => Y x δ μ1)) : WQ (evS cf gc (.rais c fl es) δ μ) R Y :=
  wq_sE (wp_imp h fun ds μ1 h => by
    rw [if_pos h.1]
    exact h.2)
theorem q_pass (h : R .nx δ μ) : WQ (evS cf gc .pass δ μ) R Y := h
theorem q_brk (h : R .brk δ μ) : WQ (evS cf gc .brk δ μ) R Y := h
theorem q_cont (h : R .cont δ μ) : WQ (evS cf gc .cont δ μ) R Y := h
theorem q_ife (h : WP (evE cf gc c δ) μ (fun x μ1 => ∃ r, x = .bl r ∧ (r = true → WQ (evSL cf gc sa δ μ1) R Y) ∧ (r = false → WQ (evSL cf gc sb δ μ1) R Y)) (fun x μ1 => Y x δ μ1)) : WQ (evS cf gc (.ife c sa sb) δ μ) R Y :=
  wq_sE (wp_bnd (wp_imp h fun x μ1 h => by
    obtain ⟨r, rfl, h1, h2⟩ := h
    cases r with
    | true => exact h1 rfl
    | false => exact h2 rfl))
theorem q_setix (h : WP (evE cf gc c δ) μ (fun x μ1 => WP (evE cf gc a δ) μ1 (fun y μ2 => WP (evE cf gc b δ) μ2 (fun k μ3 => WP (setOp y k x) μ3 (fun _ μ4 => R .nx δ μ4) (fun x μ1 => Y x δ μ1)) (fun x μ1 => Y x δ μ1)) (fun x μ1 => Y x δ μ1)) (fun x μ1 => Y x δ μ1)) : WQ (evS cf gc (.setix a b c) δ μ) R Y :=
  wq_sE (wp_bnd (wp_imp h fun x μ1 h => wp_bnd (wp_imp h fun y μ2 h => wp_bnd h)))
theorem p_set {p : Nat} {k : Int} {j : Nat} {x : D} {ds : List D} {Q : Unit → Mu → Prop} (h : μ[p]? = some (.lst ds)) (hj : L2.ixN ds.length k = some j) (q : Q () (μ.set p (.lst (ds.set j x)))) : WP (setOp (.ptr p) (.int k) x) μ Q X := by
  unfold WP setOp
  simp only [h, hj]
  exact q
theorem p_app {p : Nat} {x : D} {ds : List D} (h : μ[p]? = some (.lst ds)) (hl : ds.length < sizeLine) (q : Q .non (μ.set p (.lst (ds ++ [x])))) : WP (appOp (.ptr p) x) μ Q X := by
  unfold WP appOp
  simp only [h]
  rw [if_pos hl]
  exact q
theorem q_aug {i : Nat} {o : Bop} (h : ∃ x, δ[i]? = some (some x) ∧ WP (evE cf gc a δ) μ (fun y μ1 => ∃ z, augOp o x y = some z ∧ R .nx (δ.set i (some z)) μ1) (fun x μ1 => Y x δ μ1)) : WQ (evS cf gc (.aug i o a) δ μ) R Y := by
  obtain ⟨x, hx, h⟩ := h
  have hi : i < δ.length := (List.getElem?_eq_some_iff.mp hx).1
  refine wq_sE (wp_bnd (wp_lft ⟨x, by rw [hx]; rfl, wp_bnd (wp_imp h fun y μ1 h => ?_)⟩))
  obtain ⟨z, e, h⟩ := h
  refine wp_lft ⟨z, e, ?_⟩
  show WQ (if i < δ.length then _ else _) R Y
  rw [if_pos hi]
  exact h
def fnQ (Q : D → Mu → Prop) : Out → Env → Mu → Prop
  | .ret d, _, μ => Q d μ
  | .nx, _, μ => Q .non μ
  | _, _, _ => False
theorem f_ret {d : D} (h : Q d μ) : fnQ Q (.ret d) δ μ := h
theorem f_nx (h : Q .non μ) : fnQ Q .nx δ μ := h
theorem w_fn {P : Pg} {n : Nat} {x : Str} {fn : Fn} {ds : List D} (hf : P.fns x = some fn) (hl : (pad fn ds).length = fn.np)
    (h : WQ (evSL (call P n) P.gc fn.body ((pad fn ds).map some ++ List.replicate (fn.ns - fn.np) none) μ) (fnQ Q) (fun x _ μ' => X x μ')) (hs : fn.self = false := by rfl) : WP (call P (n + 1) x ds) μ Q X := by
  unfold WP
  rw [call_fn hf hl hs]
  cases e : evSL (call P n) P.gc fn.body ((pad fn ds).map some ++ List.replicate (fn.ns - fn.np) none) μ with
  | none => rw [e] at h; exact h
  | some q =>
    rw [e] at h
    cases q with
    | exc x δ' μ' => exact h
    | fin o δ' μ' => cases o <;> exact h
end
/-! ### dicts, own classes, try -/
section
variable {cf : Str → List D → M D} {gc : Str → Option D} {δ : Env} {μ : Mu} {Q : D → Mu → Prop} {X : Exn → Mu → Prop} {R : Out → Env → Mu → Prop} {Y : Exn → Env → Mu → Prop} {a b e i o k : E} {es : EL} {c f m g : Str}
theorem w_ins {a i b : E} (h : WP (evE cf gc a δ) μ (fun x μ1 => ∃ u, isCell x μ1 = some u ∧ WP (evE cf gc i δ) μ1 (fun y μ2 => WP (evE cf gc b δ) μ2 (fun z μ3 => WP (insOp x y z) μ3 Q X) X) X) X) : WP (evE cf gc (.ins a i b) δ) μ Q X :=
  wp_bnd (wp_imp h fun x μ1 h => wp_bnd (wp_rd (by
    obtain ⟨u, e, h⟩ := h
    exact ⟨u, e, wp_bnd (wp_imp h fun y μ2 h => wp_bnd h)⟩)))
theorem w_mk (h : WP (evL cf gc es δ) μ (fun ds μ1 => WP (cf f ds) μ1 Q X) X) : WP (evE cf gc (.mk c f es) δ) μ Q X := wp_bnd h
theorem w_fld (h : WP (evE cf gc a δ) μ (fun x μ1 => ∃ d, fldOp c g x = some d ∧ Q d μ1) X) : WP (evE cf gc (.fld c a g) δ) μ Q X := wp_bnd (wp_imp h fun x μ1 h => wp_lft h)
theorem w_rcd (h : WP (evE cf gc e δ) μ (fun d μ1 => Q (.obj c [g] [d]) μ1) X) : WP (evE cf gc (.rcd c g e) δ) μ Q X := wp_bnd h
theorem w_meth (h : WP (evE cf gc a δ) μ (fun x μ1 => isObj c x = true ∧ WP (evL cf gc es δ) μ1 (fun ds μ2 => WP (cf f (x :: ds)) μ2 Q X) X) X) : WP (evE cf gc (.meth c m f a es) δ) μ Q X :=
  wp_bnd (wp_imp h fun x μ1 h => by
    obtain ⟨e, h⟩ := h
    rw [e]
    exact wp_bnd h)
theorem w_methk {kn : Str} (h : WP (evE cf gc a δ) μ (fun x μ1 => isObj c x = true ∧ WP (evL cf gc es δ) μ1 (fun ds μ2 => WP (evE cf gc e δ) μ2 (fun d μ3 => WP (cf f (x :: (ds ++ [d]))) μ3 Q X) X) X) X) : WP (evE cf gc (.methk c m f a es kn e) δ) μ Q X :=
  wp_bnd (wp_imp h fun x μ1 h => by
    obtain ⟨e, h⟩ := h
    rw [e]
    exact wp_bnd (wp_imp h fun ds μ2 h => wp_bnd h))
theorem w_oeq (h : WP (evE cf gc a δ) μ (fun x μ1 => WP (evE cf gc b δ) μ1 (fun y μ2 => isObj c x = true ∧ isObj c y = true ∧ WP (cf f [x, y]) μ2 (fun r μ3 => ∃ z, r = .bl z ∧ Q (.bl z) μ3) X) X) X) : WP (evE cf gc (.oeq c f a b) δ) μ Q X :=
  wp_bnd (wp_imp h fun x μ1 h => wp_bnd (wp_imp h fun y μ2 h => by
    obtain ⟨e1, e2, h⟩ := h
    rw [e1, e2]
    exact wp_bnd (wp_imp h fun r μ3 h => by
      obtain ⟨z, rfl, q⟩ := h
      exact wp_lft ⟨_, rfl, q⟩)))
theorem w_isc (h : WP (evE cf gc a δ) μ (fun x μ1 => isObj c x = true ∧ Q (.bl true) μ1) X) : WP (evE cf gc (.isc a c) δ) μ Q X :=
  wp_bnd (wp_imp h fun x μ1 h => by
    rw [h.1]
    exact h.2)
theorem o_obj {x : D} {A : Prop} (h : isObj c x = true) (q : A) : isObj c x = true ∧ A := ⟨h, q⟩
theorem w_dnew (q : Q (.ptr μ.length) (μ ++ [.dic []])) : WP (evE cf gc .dnew δ) μ Q X := q
theorem w_dget (h : WP (evE cf gc a δ) μ (fun x μ1 => WP (evE cf gc i δ) μ1 (fun y μ2 => ∃ z, dLook x y μ2 = some (some z) ∧ Q z μ2) X) X) : WP (evE cf gc (.dget a i) δ) μ Q X :=
  wp_bnd (wp_imp h fun x μ1 h => wp_bnd (wp_imp h fun y μ2 h => by
    obtain ⟨z, e, q⟩ := h
    exact wp_rd ⟨z, by rw [e]; rfl, q⟩))
theorem w_din {neg : Bool} (h : WP (evE cf gc i δ) μ (fun y μ1 => WP (evE cf gc a δ) μ1 (fun x μ2 => ∃ r, dLook x y μ2 = some r ∧ Q (.bl (if neg then !r.isSome else r.isSome)) μ2) X) X) : WP (evE cf gc (.din neg i a) δ) μ Q X :=
  wp_bnd (wp_imp h fun x μ1 h => wp_bnd (wp_imp h fun y μ2 h => by
    obtain ⟨z, e, q⟩ := h
    exact wp_rd ⟨_, by rw [e]; rfl, q⟩))
theorem q_dput (h : WP (evE cf gc e δ) μ (fun v μ1 => WP (evE cf gc o δ) μ1 (fun x μ2 => WP (evE cf gc k δ) μ2 (fun y μ3 => WP (dPut x y v) μ3 (fun _ μ4 => R .nx δ μ4) (fun x μ1 => Y x δ μ1)) (fun x μ1 => Y x δ μ1)) (fun x μ1 => Y x δ μ1)) (fun x μ1 => Y x δ μ1)) : WQ (evS cf gc (.dput o k e) δ μ) R Y :=
  wq_sE (wp_bnd (wp_imp h fun v μ1 h => wp_bnd (wp_imp h fun x μ2 h => wp_bnd h)))
theorem q_tryn {b : SL} (h : WQ (evSL cf gc b δ μ) R (fun _ _ _ => False)) : WQ (evS cf gc (.tryn b) δ μ) R Y := by
  unfold WQ at h ⊢
  show (match (match evSL cf gc b δ μ with
    | some (.exc _ _ _) => none
    | r => r) with
    | none => False
    | some (.fin o δ' μ') => R o δ' μ'
    | some (.exc x δ' μ') => Y x δ' μ')
  cases e : evSL cf gc b δ μ with
  | none => rw [e] at h; exact h
  | some q =>
    rw [e] at h
    cases q with
    | exc x δ' μ' => exact h.elim
    | fin o δ' μ' => exact h
end
theorem call_fnS {P : Pg} {n : Nat} {x : Str} {fn : Fn} {ds : List D} {μ : Mu} (h : P.fns x = some fn) (hl : ds.length + 1 = fn.np) (hs : fn.self = true) : call P (n + 1) x ds μ = (match evSL (call P n) P.gc fn.body (none :: (ds.map some ++ List.replicate (fn.ns - fn.np) none)) μ with
    | some (.fin (.ret d) _ μ') => some (.ok d, μ')
    | some (.exc x _ μ') => some (.ex x, μ')
    | _ => none) := by
  show (match P.fns x with | none => fun _ => none | some fn => evFn P.gc (call P n) fn ds) μ = _
  rw [h]
  show evFn P.gc (call P n) fn ds μ = _
  unfold evFn
  rw [hs]
  dsimp only
  refine Eq.trans (if_pos hl) ?_
  rfl
theorem w_fnS {P : Pg} {n : Nat} {x : Str} {fn : Fn} {ds : List D} {μ : Mu} {Q : D → Mu → Prop} {X : Exn → Mu → Prop} (hf : P.fns x = some fn) (hl : ds.length + 1 = fn.np)
    (h : WQ (evSL (call P n) P.gc fn.body (none :: (ds.map some ++ List.replicate (fn.ns - fn.np) none)) μ) (fun o _ μ' => match o with | .ret d => Q d μ' | _ => False) (fun x _ μ' => X x μ')) (hs : fn.self = true := by rfl) : WP (call P (n + 1) x ds) μ Q X := by
  unfold WP
  rw [call_fnS hf hl hs]
  cases e : evSL (call P n) P.gc fn.body (none :: (ds.map some ++ List.replicate (fn.ns - fn.np) none)) μ with
  | none => rw [e] at h; exact h
  | some q =>
    rw [e] at h
    cases q with
    | exc x δ' μ' => exact h
    | fin o δ' μ' => cases o <;> first | exact h | exact h.elim
theorem wp_get {P : Pg} {n : Nat} {x : Str} {ds : List D} {μ : Mu} {Q : D → Mu → Prop} (h : WP (call P n x ds) μ Q (fun _ _ => False)) : ∃ d μ', call P n x ds μ = some (.ok d, μ') ∧ Q d μ' := by
  unfold WP at h
  cases e : call P n x ds μ with
  | none => rw [e] at h; exact h.elim
  | some q =>
    obtain ⟨r, μ'⟩ := q
    rw [e] at h
    cases r with
    | ok d => exact ⟨d, μ', rfl, h⟩
    | ex x => exact h.elim
section
variable {A : Prop}
theorem o_mul {i j : Int} (h : MulOk i j) (q : A) : MulOk i j ∧ A := ⟨h, q⟩
theorem o_div {j : Int} (h : DivOk j) (q : A) : DivOk j ∧ A := ⟨h, q⟩
theorem o_ne {j : Int} (h : j ≠ 0) (q : A) : j ≠ 0 ∧ A := ⟨h, q⟩
theorem o_pow {i j : Int} (h : PowOk i j) (q : A) : PowOk i j ∧ A := ⟨h, q⟩
theorem o_tr (q : A) : True ∧ A := ⟨trivial, q⟩
theorem o_len {ds : List D} (h : ds.length ≤ sizeLine) (q : A) : ds.length ≤ sizeLine ∧ A := ⟨h, q⟩
theorem o_lt2 {i j : Nat} {δ : Env} (h : i + 1 ≤ δ.length) (h2 : j + 1 ≤ δ.length) (q : A) : (i < δ.length ∧ j < δ.length) ∧ A := ⟨⟨h, h2⟩, q⟩
theorem br {r : Bool} {A B : Prop} (h1 : r = true → A) (h2 : r = false → B) : (r = true → A) ∧ (r = false → B) := ⟨h1, h2⟩
theorem br2 {r : Bool} {A B : Prop} (h1 : r = false → A) (h2 : r = true → B) : (r = false → A) ∧ (r = true → B) := ⟨h1, h2⟩
theorem ix_ptr {μ : Mu} {p : Nat} {ds : List D} {k : Int} {v : D} (h : μ[p]? = some (.lst ds)) (h2 : L2.atI ds k = some v) : ixOp (view μ (.ptr p)) (.int k) = some v := by
  show ixOp (match μ[p]? with | some (.lst ds) => .lst ds | _ => .ptr p) (.int k) = some v
  rw [h]
  exact h2
end

theorem log2_lt {a k : Nat} (h : a < 2 ^ k) (hk : 0 < k) : a.log2 < k := by
  by_cases e : a = 0
  · subst e
    simpa using hk
  · exact (Nat.log2_lt e).mpr h
/-- |x| < 2^k -/
def Bd (k : Nat) (x : Int) : Prop := x.natAbs < 2 ^ k
theorem Bd.mul {i j : Nat} {x y : Int} (h : Bd i x) (g : Bd j y) : Bd (i + j) (x * y) := by
  unfold Bd at *
  rw [Int.natAbs_mul, Nat.pow_add]
  exact Nat.mul_lt_mul'' h g
theorem Bd.mono {i j : Nat} {x : Int} (h : Bd i x) (k : i ≤ j) : Bd j x := Nat.lt_of_lt_of_le h (Nat.pow_le_pow_right (by decide) k)
theorem Bd.add {i j : Nat} {x y : Int} (h : Bd i x) (g : Bd j y) : Bd (max i j + 1) (x + y) := by
  have h' := h.mono (Nat.le_max_left i j)
  have g' := g.mono (Nat.le_max_right i j)
  unfold Bd at *
  rw [Nat.pow_succ]
  have := Int.natAbs_add_le x y
  omega
theorem Bd.neg {i : Nat} {x : Int} (h : Bd i x) : Bd i (-x) := by
  unfold Bd at *
  rwa [Int.natAbs_neg]
theorem Bd.sub {i j : Nat} {x y : Int} (h : Bd i x) (g : Bd j y) : Bd (max i j + 1) (x - y) := by
  rw [Int.sub_eq_add_neg]
  exact h.add g.neg
theorem Bd.ofN {n : Nat} : Bd (n.log2 + 1) (OfNat.ofNat n : Int) := Nat.lt_log2_self
theorem Bd.nat {n : Nat} : Bd (n.log2 + 1) (n : Int) := Nat.lt_log2_self
theorem Bd.ok {i j : Nat} {x y : Int} (h : Bd i x) (g : Bd j y) (k : i + j + 2 ≤ 1000000) : MulOk x y := by
  have h1 := log2_lt (h.mono (Nat.le_succ i)) (Nat.succ_pos i)
  have h2 := log2_lt (g.mono (Nat.le_succ j)) (Nat.succ_pos j)
  unfold MulOk
  omega
theorem Bd.div {j : Nat} {y : Int} (h0 : y ≠ 0) (g : Bd j y) (k : j + 1 ≤ 9000) : DivOk y := by
  have h2 := log2_lt (g.mono (Nat.le_succ j)) (Nat.succ_pos j)
  exact ⟨h0, by omega⟩
theorem fmod_bd {a b : Int} (h : 0 < b) : 0 ≤ a.fmod b ∧ a.fmod b < b := ⟨Int.fmod_nonneg_of_pos a h, Int.fmod_lt_of_pos a h⟩
theorem Bd.fmod {k : Nat} {x y : Int} (h : 0 < y) (g : Bd k y) : Bd k (x.fmod y) := by
  have := fmod_bd (a := x) h
  unfold Bd at *
  omega
theorem Bd.of {k : Nat} {x : Int} (h : x.natAbs < 2 ^ k) : Bd k x := h
theorem DivOk.ne {j : Int} (h : DivOk j) : j ≠ 0 := h.1
theorem rng1_c {i : Int} (h : (decide (-(2 ^ 62) ≤ i) && decide (i < 2 ^ 62)) = true) : rng1Of (.int i) = some (.rng 0 i.toNat) := by
  have h2 : -(2 ^ 62) ≤ i ∧ i < 2 ^ 62 := by simpa using h
  unfold rng1Of
  simp only [if_pos h2]
end Ev

namespace Ev
open PySem
/-! ## Loops -/
section
variable {cf : Str → List D → M D} {gc : Str → Option D} {δ : Env} {μ : Mu} {X : Exn → Mu → Prop} {R : Out → Env → Mu → Prop} {Y : Exn → Env → Mu → Prop} {Q : D → Mu → Prop}
structure Stat (iv : Iv) (L : List D) : Prop where
  at_ : ∀ (μ : Mu) (i : Nat), itemAt iv μ i = some (L[i]?)
  fuel : ∀ μ : Mu, L.length ≤ fuelOf iv μ
theorem stat_lst (ds : List D) : Stat (.seq (.lst ds)) ds := ⟨fun _ _ => rfl, fun _ => Nat.le_refl _⟩
theorem stat_tup (ds : List D) : Stat (.seq (.tup ds)) ds := ⟨fun _ _ => rfl, fun _ => Nat.le_refl _⟩
theorem stat_rng (lo : Int) (n : Nat) : Stat (.rng lo n) ((List.range n).map fun i : Nat => D.int (lo + (i : Int))) := ⟨fun μ i => by
  show some _ = _
  rw [List.getElem?_map]
  by_cases h : i < n
  · rw [if_pos h, List.getElem?_range h]
    rfl
  · rw [if_neg h, List.getElem?_eq_none (by simpa using h)]
    rfl, fun _ => by simp [fuelOf]⟩
def loopQ (R : Out → Env → Mu → Prop) (I : Env → Mu → Prop) : Out → Env → Mu → Prop
  | .nx, δ, μ => I δ μ
  | .cont, δ, μ => I δ μ
  | .brk, δ, μ => R .nx δ μ
  | .ret d, δ, μ => R (.ret d) δ μ
theorem l_nx {I : Env → Mu → Prop} (h : I δ μ) : loopQ R I .nx δ μ := h
theorem l_cont {I : Env → Mu → Prop} (h : I δ μ) : loopQ R I .cont δ μ := h
theorem l_brk {I : Env → Mu → Prop} (h : R .nx δ μ) : loopQ R I .brk δ μ := h
theorem l_ret {I : Env → Mu → Prop} {d : D} (h : R (.ret d) δ μ) : loopQ R I (.ret d) δ μ := h
theorem for_go {iv : Iv} {L : List D} {tg : Tg} {b : SL} (st : Stat iv L) (I : Nat → Env → Mu → Prop) (hs : ∀ i x δ μ, L[i]? = some x → I i δ μ → ∃ δ2, store tg x δ = some δ2 ∧ WQ (evSL cf gc b δ2 μ) (loopQ R (I (i + 1))) Y)
    (he : ∀ δ μ, I L.length δ μ → R .nx δ μ) : ∀ (k i : Nat) (δ : Env) (μ : Mu), i ≤ L.length → L.length ≤ i + k → I i δ μ → WQ (forN iv tg (evSL cf gc b) k i δ μ) R Y := by
  intro k
  induction k with
  | zero =>
    intro i δ μ h1 h2 hI
    have : i = L.length := by omega
    subst this
    unfold forN
    rw [st.at_, List.getElem?_eq_none (Nat.le_refl _)]
    exact he _ _ hI
  | succ k ih =>
    intro i δ μ h1 h2 hI
    unfold forN
    rw [st.at_]
    cases e : L[i]? with
    | none =>
      have := List.getElem?_eq_none_iff.mp e
      have : i = L.length := by omega
      subst this
      exact he _ _ hI
    | some x =>
      have hi := (List.getElem?_eq_some_iff.mp e).1
      obtain ⟨δ2, es, h⟩ := hs i x δ μ e hI
      simp only [es]
      cases eb : evSL cf gc b δ2 μ with
      | none => rw [eb] at h; exact h
      | some r =>
        rw [eb] at h
        cases r with
        | exc x δ' μ' => exact h
        | fin o δ' μ' =>
          cases o with
          | nx => exact ih (i + 1) δ' μ' (by omega) (by omega) h
          | cont => exact ih (i + 1) δ' μ' (by omega) (by omega) h
          | brk => exact h
          | ret d => exact h
theorem q_for {tg : Tg} {it : IT} {b : SL} (h : WP (evI cf gc it δ) μ (fun iv μ1 => ∃ L, Stat iv L ∧ ∃ I : Nat → Env → Mu → Prop, I 0 δ μ1 ∧
    (∀ i x δ μ, L[i]? = some x → I i δ μ → ∃ δ2, store tg x δ = some δ2 ∧ WQ (evSL cf gc b δ2 μ) (loopQ R (I (i + 1))) Y) ∧ (∀ δ μ, I L.length δ μ → R .nx δ μ)) (fun x μ1 => Y x δ μ1)) : WQ (evS cf gc (.fr tg it b) δ μ) R Y :=
  wq_sE (wp_imp h fun iv μ1 h => by
    obtain ⟨L, st, I, h0, hs, he⟩ := h
    exact for_go st I hs he _ 0 δ μ1 (Nat.zero_le _) (by have := st.fuel μ1; omega) h0)
theorem wi_seq {a : E} {Q : Iv → Mu → Prop} (h : WP (evE cf gc a δ) μ (fun x μ1 => ∃ iv, ckSeq x μ1 = some iv ∧ Q iv μ1) X) : WP (evI cf gc (.seq a) δ) μ Q X := wp_bnd (wp_imp h fun x μ1 h => wp_rd h)
theorem wi_rng1 {a : E} {Q : Iv → Mu → Prop} (h : WP (evE cf gc a δ) μ (fun x μ1 => ∃ iv, rng1Of x = some iv ∧ Q iv μ1) X) : WP (evI cf gc (.rng1 a) δ) μ Q X := wp_bnd (wp_imp h fun x μ1 h => wp_lft h)
theorem wi_zip {a b : E} {Q : Iv → Mu → Prop} (h : WP (evE cf gc a δ) μ (fun x μ1 => WP (evE cf gc b δ) μ1 (fun y μ2 => ∃ iv, ckZip x y μ2 = some iv ∧ Q iv μ2) X) X) : WP (evI cf gc (.zip a b) δ) μ Q X := wp_bnd (wp_imp h fun x μ1 h => wp_bnd (wp_imp h fun y μ2 h => wp_rd h))
theorem whl_go {c : E} {b : SL} (I : Nat → Env → Mu → Prop) (hs : ∀ k δ μ, I k δ μ → WP (evE cf gc c δ) μ (fun x μ1 => ∃ r, x = .bl r ∧ (r = true → WQ (evSL cf gc b δ μ1) (loopQ R (fun δ' μ' => ∃ k', k' < k ∧ I k' δ' μ')) Y) ∧ (r = false → R .nx δ μ1)) (fun x μ1 => Y x δ μ1)) :
    ∀ (k : Nat) (δ : Env) (μ : Mu), I k δ μ → ∃ n r, whileN (evT cf gc c) (evSL cf gc b) n δ μ = some r ∧ WQ (some r) R Y := by
  intro k
  induction k using Nat.strongRecOn with
  | ind k ih =>
    intro δ μ hI
    have h := hs k δ μ hI
    unfold WP at h
    cases ec : evE cf gc c δ μ with
    | none => rw [ec] at h; exact h.elim
    | some q =>
      obtain ⟨r, μ1⟩ := q
      rw [ec] at h
      have et : ∀ n, whileN (evT cf gc c) (evSL cf gc b) (n + 1) δ μ = sE (evT cf gc c δ) δ (fun r μ' => if r then (match evSL cf gc b δ μ' with
        | some (.fin .nx δ' μ2) => whileN (evT cf gc c) (evSL cf gc b) n δ' μ2
        | some (.fin .cont δ' μ2) => whileN (evT cf gc c) (evSL cf gc b) n δ' μ2
        | some (.fin .brk δ' μ2) => some (.fin .nx δ' μ2)
        | r => r) else some (.fin .nx δ μ')) μ := fun n => rfl
      cases r with
      | ex x =>
        refine ⟨1, .exc x δ μ1, ?_, h⟩
        rw [et]
        unfold sE evT bnd
        rw [ec]
      | ok x =>
        obtain ⟨r, rfl, h1, h2⟩ := h
        have hev : evT cf gc c δ μ = some (.ok r, μ1) := by
          unfold evT bnd
          rw [ec]
          rfl
        cases r with
        | false =>
          refine ⟨1, .fin .nx δ μ1, ?_, h2 rfl⟩
          rw [et]
          unfold sE
          rw [hev]
          rfl
        | true =>
          have h := h1 rfl
          cases eb : evSL cf gc b δ μ1 with
          | none => rw [eb] at h; exact h.elim
          | some q =>
            rw [eb] at h
            have one : ∀ n r, (match (some q : Option SR) with
              | some (.fin .nx δ' μ2) => whileN (evT cf gc c) (evSL cf gc b) n δ' μ2
              | some (.fin .cont δ' μ2) => whileN (evT cf gc c) (evSL cf gc b) n δ' μ2
              | some (.fin .brk δ' μ2) => some (.fin .nx δ' μ2)
              | r => r) = some r → whileN (evT cf gc c) (evSL cf gc b) (n + 1) δ μ = some r := fun n r e => by
              rw [et]
              unfold sE
              rw [hev]
              simp only [if_true, eb]
              exact e
            cases q with
            | exc x δ' μ' => exact ⟨1, _, one 0 _ rfl, h⟩
            | fin o δ' μ' =>
              cases o with
              | nx =>
                obtain ⟨k', hk, hI'⟩ := h
                obtain ⟨n, r, e, w⟩ := ih k' hk δ' μ' hI'
                exact ⟨n + 1, r, one n r e, w⟩
              | cont =>
                obtain ⟨k', hk, hI'⟩ := h
                obtain ⟨n, r, e, w⟩ := ih k' hk δ' μ' hI'
                exact ⟨n + 1, r, one n r e, w⟩
              | brk => exact ⟨1, _, one 0 _ rfl, h⟩
              | ret d => exact ⟨1, _, one 0 _ rfl, h⟩
theorem q_whl {c : E} {b : SL} (h : ∃ (I : Nat → Env → Mu → Prop) (k : Nat), I k δ μ ∧ ∀ k δ μ, I k δ μ → WP (evE cf gc c δ) μ (fun x μ1 => ∃ r, x = .bl r ∧ (r = true → WQ (evSL cf gc b δ μ1) (loopQ R (fun δ' μ' => ∃ k', k' < k ∧ I k' δ' μ')) Y) ∧ (r = false → R .nx δ μ1)) (fun x μ1 => Y x δ μ1)) :
    WQ (evS cf gc (.whl c b) δ μ) R Y := by
  obtain ⟨I, k, h0, hs⟩ := h
  obtain ⟨n, r, e, w⟩ := whl_go I hs k δ μ h0
  show WQ (whileF (evT cf gc c) (evSL cf gc b) δ μ) R Y
  rw [whileF_of e]
  exact w
/-! comprehensions -/
theorem comp_go {iv : Iv} {L : List D} {tg : Tg} {own : List Nat} {c a : E} (st : Stat iv L) (I : Nat → List D → Mu → Prop) {Q : List D → Mu → Prop}
    (hs : ∀ i x acc μ, L[i]? = some x → I i acc μ → ∃ δ', store tg x (wipe δ own) = some δ' ∧ WP (evE cf gc c δ') μ (fun c μ2 => ∃ r, c = .bl r ∧ (r = true → WP (evE cf gc a δ') μ2 (fun y μ3 => acc.length < sizeLine ∧ I (i + 1) (acc ++ [y]) μ3) (fun _ _ => False)) ∧ (r = false → I (i + 1) acc μ2)) (fun _ _ => False))
    (he : ∀ acc μ, I L.length acc μ → Q acc μ) : ∀ (k i : Nat) (acc : List D) (μ : Mu), i ≤ L.length → L.length ≤ i + k → I i acc μ → WP (compM iv (fun x => match store tg x (wipe δ own) with
      | none => fun _ => none
      | some δ' => bnd (evE cf gc c δ') fun c => bnd (lft (asBool c)) fun r => if r then bnd (evE cf gc a δ') fun y => ret (some y) else ret none) k i acc) μ Q X := by
  intro k
  induction k with
  | zero =>
    intro i acc μ h1 h2 hI
    have : i = L.length := by omega
    subst this
    unfold WP compM
    simp only [st.at_, List.getElem?_eq_none (Nat.le_refl L.length)]
    exact he _ _ hI
  | succ k ih =>
    intro i acc μ h1 h2 hI
    unfold WP compM
    simp only [st.at_]
    cases e : L[i]? with
    | none =>
      have := List.getElem?_eq_none_iff.mp e
      have : i = L.length := by omega
      subst this
      exact he _ _ hI
    | some x =>
      have hi := (List.getElem?_eq_some_iff.mp e).1
      obtain ⟨δ', es, h⟩ := hs i x acc μ e hI
      simp only [es]
      unfold WP at h
      simp only [bnd]
      cases ec : evE cf gc c δ' μ with
      | none => rw [ec] at h; exact h.elim
      | some q =>
        obtain ⟨r, μ1⟩ := q
        rw [ec] at h
        cases r with
        | ex x => exact h.elim
        | ok cd =>
          obtain ⟨r, rfl, h1', h2'⟩ := h
          simp only [asBool, lft]
          cases r with
          | false =>
            simp only [Bool.false_eq_true, if_false, ret]
            exact ih (i + 1) acc μ1 (by omega) (by omega) (h2' rfl)
          | true =>
            have h := h1' rfl
            unfold WP at h
            simp only [if_true, bnd]
            cases ea : evE cf gc a δ' μ1 with
            | none => rw [ea] at h; exact h.elim
            | some q =>
              obtain ⟨r, μ2⟩ := q
              rw [ea] at h
              cases r with
              | ex x => exact h.elim
              | ok y =>
                simp only [ret, if_pos h.1]
                exact ih (i + 1) _ μ2 (by omega) (by omega) h.2
theorem w_compF {tg : Tg} {it : IT} {own : List Nat} {c a : E} (h : WP (evI cf gc it δ) μ (fun iv μ1 => ∃ L, Stat iv L ∧ ∃ I : Nat → List D → Mu → Prop, I 0 [] μ1 ∧
    (∀ i x acc μ, L[i]? = some x → I i acc μ → ∃ δ', store tg x (wipe δ own) = some δ' ∧ WP (evE cf gc c δ') μ (fun c μ2 => ∃ r, c = .bl r ∧ (r = true → WP (evE cf gc a δ') μ2 (fun y μ3 => acc.length < sizeLine ∧ I (i + 1) (acc ++ [y]) μ3) (fun _ _ => False)) ∧ (r = false → I (i + 1) acc μ2)) (fun _ _ => False)) ∧
    (∀ acc μ, I L.length acc μ → acc.length ≤ sizeLine ∧ Q (.lst acc) μ)) X) : WP (evE cf gc (.comp false it tg own c a) δ) μ Q X :=
  wp_bnd (wp_imp h fun iv μ1 h => by
    obtain ⟨L, st, I, h0, hs, he⟩ := h
    refine wp_bnd (wp_imp (comp_go (Q := fun acc μ => acc.length ≤ sizeLine ∧ Q (.lst acc) μ) st I hs he _ 0 [] μ1 (Nat.zero_le _) (by have := st.fuel μ1; omega) h0) fun ds μ2 h => ?_)
    unfold WP newList
    rw [if_pos h.1]
    exact h.2)
end
end Ev

local macro_rules | `(tactic| walk_at "ev_len") => `(tactic| first | exact Nat.le_of_ble_eq_true rfl | assumption | (simp only [List.length_map, List.length_cons, List.length_nil, List.length_append]; omega) | fail)
local macro_rules | `(tactic| walk_at "ev_sm") => `(tactic| first | assumption | ((with_reducible refine Ev.Bd.mul (i := ?i) (j := ?j) ?h ?g); (case h => walk_at "ev_sm"); case g => walk_at "ev_sm") | ((with_reducible refine Ev.Bd.add (i := ?i) (j := ?j) ?h ?g); (case h => walk_at "ev_sm"); case g => walk_at "ev_sm") | ((with_reducible refine Ev.Bd.sub (i := ?i) (j := ?j) ?h ?g); (case h => walk_at "ev_sm"); case g => walk_at "ev_sm") | ((with_reducible refine Ev.Bd.neg (i := ?i) ?h); case h => walk_at "ev_sm") | (with_reducible exact Ev.Bd.ofN) | (with_reducible exact Ev.Bd.nat) | ((with_reducible refine Ev.Bd.fmod (k := ?k) ?h ?g); (case h => omega); case g => walk_at "ev_sm") | fail)
local macro_rules | `(tactic| walk_at "ev_side") => `(tactic| first | assumption | omega | exact ⟨by decide, by decide, by decide⟩ | (unfold Ev.MulOk; decide +kernel) | exact ⟨by decide, by decide⟩ | ((with_reducible refine Ev.Bd.ok (i := ?i) (j := ?j) ?h ?g ?k); (case h => walk_at "ev_sm"); (case g => walk_at "ev_sm"); case k => decide +kernel) | ((with_reducible refine Ev.Bd.div (j := ?j) ?h ?g ?k); (case h => first | assumption | omega); (case g => walk_at "ev_sm"); case k => decide +kernel) | fail)
local macro_rules | `(tactic| walk_at "ev_call") => `(tactic| fail)
local macro_rules | `(tactic| walk_at "ev_ix") => `(tactic| first | assumption | rfl | (with_reducible exact Ev.rng1_c (by decide +kernel)) | ((with_reducible refine Ev.ix_ptr (ds := ?ds) ?h ?h2); (case h => rfl); case h2 => first | rfl | assumption) | fail)
local macro_rules | `(tactic| walk_at "ev_br") => `(tactic| (intro hc; try simp only [decide_eq_true_eq, decide_eq_false_iff_not, Bool.not_eq_true', Bool.not_eq_false', Bool.not_eq_eq_eq_not, Bool.not_true, Bool.not_false, Bool.true_eq_false, Bool.false_eq_true, reduceCtorEq, beq_iff_eq, Int.not_lt, Int.not_le, List.length_map, Int.reduceToNat, Int.reducePow] at hc))
local macro_rules | `(tactic| walk_at "ev_kill") => `(tactic| try (exfalso; first | contradiction | omega))
local macro_rules | `(tactic| walk_at "ev1") => `(tactic| first
  | (with_reducible refine Ev.t_nx ?_) | (with_reducible refine Ev.t_ret ?_) | (with_reducible refine Ev.q_nil ?_) | (with_reducible refine Ev.q_cons ?_) | (with_reducible refine Ev.f_ret ?_) | (with_reducible refine Ev.f_nx ?_)
  | ((with_reducible refine Ev.w_var (d := ?d) ?h ?_); case h => rfl) | (with_reducible refine Ev.w_lit ?_) | (with_reducible refine Ev.wl_cons ?_) | (with_reducible refine Ev.wl_nil ?_)
  | (with_reducible refine Ev.w_add ?_) | (with_reducible refine Ev.w_sub ?_) | (with_reducible refine Ev.w_mul ?_) | (with_reducible refine Ev.w_fdiv ?_) | (with_reducible refine Ev.w_mod ?_) | (with_reducible refine Ev.w_pow ?_) | (with_reducible refine Ev.w_neg ?_)
  | (with_reducible refine Ev.w_lt ?_) | (with_reducible refine Ev.w_le ?_) | (with_reducible refine Ev.w_gt ?_) | (with_reducible refine Ev.w_ge ?_) | (with_reducible refine Ev.w_eqI ?_) | (with_reducible refine Ev.w_neI ?_)
  | (with_reducible refine Ev.w_ix ?_) | (with_reducible refine Ev.w_tup ?_) | (with_reducible refine Ev.w_lstF ?_) | (with_reducible refine Ev.w_lstT ?_) | (with_reducible refine Ev.w_call ?_) | (with_reducible refine Ev.w_bi ?_) | (with_reducible refine Ev.w_slc ?_) | (with_reducible refine Ev.wo_no ?_) | (with_reducible refine Ev.wo_yes ?_)
  | (with_reducible refine Ev.w_and ?_) | (with_reducible refine Ev.w_or ?_) | (with_reducible refine Ev.w_not ?_) | (with_reducible refine Ev.w_ite ?_) | (with_reducible refine Ev.w_isi ?_) | (with_reducible refine Ev.w_frz ?_) | (with_reducible refine Ev.w_app ?_) | (with_reducible refine Ev.w_ext ?_) | (with_reducible refine Ev.w_outc ?_) | (with_reducible refine Ev.w_err ?_) | (with_reducible refine Ev.w_callk ?_) | (with_reducible refine Ev.w_mk ?_) | (with_reducible refine Ev.w_fld ?_) | (with_reducible refine Ev.w_meth ?_) | (with_reducible refine Ev.w_methk ?_) | (with_reducible refine Ev.w_oeq ?_) | (with_reducible refine Ev.w_isc ?_) | (with_reducible refine Ev.w_rcd ?_) | ((with_reducible refine Ev.o_obj ?h ?_); case h => rfl)
  | (with_reducible refine Ev.q_asg ?_) | (with_reducible refine Ev.q_par ?_) | (with_reducible refine Ev.q_par3 ?_) | (with_reducible refine Ev.q_ret ?_) | (with_reducible refine Ev.q_ife ?_) | (with_reducible refine Ev.q_setix ?_) | (with_reducible refine Ev.q_aug ?_) | (with_reducible refine Ev.q_expr ?_) | (with_reducible refine Ev.q_retN ?_) | (with_reducible refine Ev.q_rais ?_) | (with_reducible refine Ev.q_pass ?_) | (with_reducible refine Ev.q_brk ?_) | (with_reducible refine Ev.q_cont ?_)
  | (with_reducible refine Ev.b_abs ?_) | ((with_reducible refine Ev.b_len (ds := ?ds) ?h ?hz ?_); (case h => rfl); case hz => exact fun _ h => nomatch h) | ((with_reducible refine Ev.b_listF (ds := ?ds) ?h ?hl ?_); (case h => rfl); case hl => walk_at "ev_len")
  | ((with_reducible refine Ev.o_mul ?_ ?_); next => walk_at "ev_side") | ((with_reducible refine Ev.o_div ?_ ?_); next => walk_at "ev_side") | ((with_reducible refine Ev.o_ne ?_ ?_); next => walk_at "ev_side") | ((with_reducible refine Ev.o_pow ?_ ?_); next => walk_at "ev_side") | (with_reducible refine Ev.o_tr ?_) | ((with_reducible refine Ev.o_len ?_ ?_); next => walk_at "ev_len")
  | ((with_reducible refine Ev.o_lt2 ?_ ?_ ?_); (next => exact Nat.le_of_ble_eq_true rfl); next => exact Nat.le_of_ble_eq_true rfl)
  | ((with_reducible refine Ev.o_lt3 ?_ ?_ ?_ ?_); (next => exact Nat.le_of_ble_eq_true rfl); (next => exact Nat.le_of_ble_eq_true rfl); next => exact Nat.le_of_ble_eq_true rfl)
  | ((with_reducible refine Ev.p_set (ds := ?ds) (j := ?j) ?h ?hj ?_); (case h => rfl); case hj => rfl)
  | (with_reducible refine Ev.l_nx ?_) | (with_reducible refine Ev.l_cont ?_) | (with_reducible refine Ev.l_brk ?_) | (with_reducible refine Ev.l_ret ?_) | (with_reducible refine Ev.q_for ?_) | (with_reducible refine Ev.q_whl ?_) | (with_reducible refine Ev.w_compF ?_) | (with_reducible refine Ev.wi_seq ?_) | (with_reducible refine Ev.wi_rng1 ?_) | (with_reducible refine Ev.wi_zip ?_)
  | walk_at "ev_call"
  | ((with_reducible refine Ev.br ?_ ?_) <;> (walk_at "ev_br"; walk_at "ev_kill")) | ((with_reducible refine Ev.br2 ?_ ?_) <;> (walk_at "ev_br"; walk_at "ev_kill"))
  | ((with_reducible refine Exists.intro ?w (And.intro ?h ?_)); case h => walk_at "ev_ix") | fail)
local macro_rules | `(tactic| walk_at "ev") => `(tactic| repeat' walk_at "ev1")
local macro_rules | `(tactic| walk_at "evn") => `(tactic| repeat' (first | ((fail_if_success (with_reducible refine Ev.t_nx ?_)); walk_at "ev1") | fail))
local macro_rules | `(tactic| walk_at "evc") => `(tactic| repeat' (first | (with_reducible refine Ev.w_cmp ?_) | walk_at "ev1"))

namespace K13
open Ev L2 PyProof.Rows PySem.Spec PySem
def top (i : Nat) : Stmt := PySem.Challenge.pw_evenpace_k13_delayed_gates.main.body.getD i (.Pass ⟨0, 0, 0, 0⟩)
abbrev f_divisor_of : Fn := Ev.Q.f_divisor_of
def t_divisor_of : FT := ⟨"divisor_of", top 6, ["one", "other"], [], f_divisor_of, [], false⟩
abbrev f_fraction : Fn := Ev.Q.f_fraction
def t_fraction : FT := ⟨"fraction", top 7, ["num", "den", "by"], [.int 1], f_fraction, [], false⟩
abbrev f_add : Fn := Ev.Q.f_add
def t_add : FT := ⟨"add", top 8, ["one", "other"], [], f_add, [], false⟩
abbrev f_subtract : Fn := Ev.Q.f_subtract
def t_subtract : FT := ⟨"subtract", top 9, ["one", "other"], [], f_subtract, [], false⟩
abbrev f_divide : Fn := Ev.Q.f_divide
def t_divide : FT := ⟨"divide", top 10, ["one", "other"], [], f_divide, [], false⟩
abbrev f_is_less : Fn := Ev.Q.f_is_less
def t_is_less : FT := ⟨"is_less", top 11, ["one", "other"], [], f_is_less, [], false⟩
abbrev f_floor_of : Fn := Ev.Q.f_floor_of
def t_floor_of : FT := ⟨"floor_of", top 12, ["one"], [], f_floor_of, [], false⟩
abbrev f_times : Fn := Ev.Q.f_times
def t_times : FT := ⟨"times", top 13, ["number", "one"], [], f_times, [], false⟩
abbrev f_remainder : Fn := Ev.Q.f_remainder
def t_remainder : FT := ⟨"remainder", top 14, ["one", "period"], [], f_remainder, [], false⟩
abbrev f_spans_fit : Fn := Ev.Q.f_spans_fit
def t_spans_fit : FT := ⟨"spans_fit", top 17, ["period", "spans", "at", "later", "begin", "length"], [], f_spans_fit, [], false⟩
abbrev f_is_gate : Fn := Ev.Q.f_is_gate
def t_is_gate : FT := ⟨"is_gate", top 18, ["gate", "place", "period", "spans"], [], f_is_gate, [], false⟩
abbrev f_repeats : Fn := Ev.Q.f_repeats
def t_repeats : FT := ⟨"repeats", top 19, ["period", "spans", "part", "shift", "many", "at", "other", "there", "begin", "length"], [], f_repeats, [], false⟩
abbrev f_normalized : Fn := Ev.Q.f_normalized
def t_normalized : FT := ⟨"normalized", top 20, ["gate", "many", "part", "place", "period", "spans", "shift", "span"], [], f_normalized, [], false⟩
abbrev f_copied : Fn := Ev.Q.f_copied
def t_copied : FT := ⟨"copied", top 21, ["gate", "result", "place", "period", "spans", "begin", "length"], [], f_copied, [], false⟩
abbrev f_normal_gate : Fn := Ev.Q.f_normal_gate
def t_normal_gate : FT := ⟨"normal_gate", top 22, ["gate"], [], f_normal_gate, [], false⟩
abbrev f_opens : Fn := Ev.Q.f_opens
def t_opens : FT := ⟨"opens", top 23, ["gate", "number", "place", "period", "spans", "begin", "length"], [], f_opens, [], false⟩
abbrev f_closes : Fn := Ev.Q.f_closes
def t_closes : FT := ⟨"closes", top 24, ["gate", "number", "later", "place", "period", "spans"], [], f_closes, [], false⟩
abbrev f_turns_since : Fn := Ev.Q.f_turns_since
def t_turns_since : FT := ⟨"turns_since", top 25, ["moment", "begin", "period"], [], f_turns_since, [], false⟩
abbrev f_last_opening : Fn := Ev.Q.f_last_opening
def t_last_opening : FT := ⟨"last_opening", top 26, ["gate", "moment", "number", "place", "period", "spans"], [], f_last_opening, [], false⟩
abbrev f_number_at : Fn := Ev.Q.f_number_at
def t_number_at : FT := ⟨"number_at", top 27, ["gate", "moment", "number"], [], f_number_at, [], false⟩
abbrev f_lets : Fn := Ev.Q.f_lets
def t_lets : FT := ⟨"lets", top 28, ["gate", "moment"], [], f_lets, [], false⟩
abbrev f_is_open : Fn := Ev.Q.f_is_open
def t_is_open : FT := ⟨"is_open", top 29, ["gate", "moment"], [], f_is_open, [], false⟩
abbrev f_turned : Fn := Ev.Q.f_turned
def t_turned : FT := ⟨"turned", top 30, ["place", "period", "spans", "delay", "moved", "split", "at", "begin", "length"], [], f_turned, [], false⟩
abbrev f_delayed : Fn := Ev.Q.f_delayed
def t_delayed : FT := ⟨"delayed", top 31, ["gate", "delay", "place", "period", "spans"], [], f_delayed, [], false⟩
abbrev f_delayed_gate : Fn := Ev.Q.f_delayed_gate
def t_delayed_gate : FT := ⟨"delayed_gate", top 32, ["gate", "delay"], [], f_delayed_gate, [], false⟩
abbrev f__law_source : Fn := Ev.Q.f__law_source
def t__law_source : FT := ⟨"_law_source", top 34, ["_law_script", "_law_seed", "_law_cell"], [], f__law_source, [], false⟩
abbrev f__law_draw : Fn := Ev.Q.f__law_draw
def t__law_draw : FT := ⟨"_law_draw", top 35, ["_law_rng", "_law_many", "_law_seed", "_law_cell", "_law_got"], [], f__law_draw, [], false⟩
abbrev f__law_choice : Fn := Ev.Q.f__law_choice
def t__law_choice : FT := ⟨"_law_choice", top 36, ["_law_rng", "_law_some"], [], f__law_choice, [], false⟩
abbrev f__law_equal : Fn := Ev.Q.f__law_equal
def t__law_equal : FT := ⟨"_law_equal", top 37, ["_law_result", "_law_expected", "_law_a", "_law_b"], [], f__law_equal, [], false⟩
abbrev f__law_divisor : Fn := Ev.Q.f__law_divisor
def t__law_divisor : FT := ⟨"_law_divisor", top 38, ["_law_one", "_law_other"], [], f__law_divisor, [], false⟩
abbrev f__law_reduce : Fn := Ev.Q.f__law_reduce
def t__law_reduce : FT := ⟨"_law_reduce", top 39, ["_law_num", "_law_den", "_law_by", "_law_sign"], [], f__law_reduce, [], false⟩
abbrev f__law_add : Fn := Ev.Q.f__law_add
def t__law_add : FT := ⟨"_law_add", top 40, ["_law_one", "_law_other"], [], f__law_add, [], false⟩
abbrev f__law_subtract : Fn := Ev.Q.f__law_subtract
def t__law_subtract : FT := ⟨"_law_subtract", top 41, ["_law_one", "_law_other"], [], f__law_subtract, [], false⟩
abbrev f__law_multiply : Fn := Ev.Q.f__law_multiply
def t__law_multiply : FT := ⟨"_law_multiply", top 42, ["_law_one", "_law_other"], [], f__law_multiply, [], false⟩
abbrev f__law_divide : Fn := Ev.Q.f__law_divide
def t__law_divide : FT := ⟨"_law_divide", top 43, ["_law_one", "_law_other"], [], f__law_divide, [], false⟩
abbrev f__law_less : Fn := Ev.Q.f__law_less
def t__law_less : FT := ⟨"_law_less", top 44, ["_law_one", "_law_other"], [], f__law_less, [], false⟩
abbrev f__law_times : Fn := Ev.Q.f__law_times
def t__law_times : FT := ⟨"_law_times", top 45, ["_law_number", "_law_one"], [], f__law_times, [], false⟩
abbrev f__law_floor : Fn := Ev.Q.f__law_floor
def t__law_floor : FT := ⟨"_law_floor", top 46, ["_law_one"], [], f__law_floor, [], false⟩
abbrev f__law_rest : Fn := Ev.Q.f__law_rest
def t__law_rest : FT := ⟨"_law_rest", top 47, ["_law_one", "_law_period"], [], f__law_rest, [], false⟩
abbrev f__law_ascending : Fn := Ev.Q.f__law_ascending
def t__law_ascending : FT := ⟨"_law_ascending", top 48, ["_law_some", "_law_result", "_law_one", "_law_spot", "_law_other"], [], f__law_ascending, [], false⟩
abbrev f__law_small : Fn := Ev.Q.f__law_small
def t__law_small : FT := ⟨"_law_small", top 49, ["_law_rng"], [], f__law_small, [], false⟩
abbrev f__law_positive : Fn := Ev.Q.f__law_positive
def t__law_positive : FT := ⟨"_law_positive", top 50, ["_law_rng"], [], f__law_positive, [], false⟩
abbrev f__law_parts : Fn := Ev.Q.f__law_parts
def t__law_parts : FT := ⟨"_law_parts", top 51, ["_law_rng", "_law_low", "_law_great"], [], f__law_parts, [], false⟩
abbrev f__law_gate : Fn := Ev.Q.f__law_gate
def t__law_gate : FT := ⟨"_law_gate", top 52, ["_law_rng", "_law_place", "_law_most", "_law_many", "_law_by", "_law_k", "_law_period", "_law_delay", "_law_rows", "_law_spot", "_law_spans", "_law_length", "_law_begin"], [], f__law_gate, [], false⟩
abbrev f__law_copied_gate : Fn := Ev.Q.f__law_copied_gate
def t__law_copied_gate : FT := ⟨"_law_copied_gate", top 53, ["_law_rng", "_law_gate_here", "_law_copies", "_law_rows", "_law_k", "_law_place", "_law_period", "_law_spans", "_law_begin", "_law_length"], [], f__law_copied_gate, [], false⟩
abbrev f__law_shut_by : Fn := Ev.Q.f__law_shut_by
def t__law_shut_by : FT := ⟨"_law_shut_by", top 54, ["_law_gate_here", "_law_moment", "_law_k", "_law_place", "_law_period", "_law_spans", "_law_late", "_law_begin", "_law_length"], [], f__law_shut_by, [], false⟩
abbrev f__law_is_open : Fn := Ev.Q.f__law_is_open
def t__law_is_open : FT := ⟨"_law_is_open", top 55, ["_law_gate_here", "_law_moment"], [], f__law_is_open, [], false⟩
abbrev f__law_normal : Fn := Ev.Q.f__law_normal
def t__law_normal : FT := ⟨"_law_normal", top 56, ["_law_gate_here", "_law_part", "_law_place", "_law_period", "_law_spans", "_law_shift", "_law_later", "_law_begin", "_law_length", "_law_span"], [], f__law_normal, [], false⟩
abbrev f__law_near_moment : Fn := Ev.Q.f__law_near_moment
def t__law_near_moment : FT := ⟨"_law_near_moment", top 57, ["_law_rng", "_law_gate_here", "_law_shift", "_law_spot", "_law_begin", "_law_length"], [], f__law_near_moment, [], false⟩
abbrev f__law_delayed : Fn := Ev.Q.f__law_delayed
def t__law_delayed : FT := ⟨"_law_delayed", top 58, ["_law_gate_here", "_law_delay", "_law_rows", "_law_begins", "_law_place", "_law_period", "_law_spans", "_law_begin", "_law_length", "_law_row"], [], f__law_delayed, [], false⟩
def b_law : SL := (.cons (.asg (.one 1) (.call "_law_source" (.cons (.var 0) .nil))) (.cons (.fr (.one 2) (.rng1 (.lit (.int 5))) (.cons (.asg (.one 3) (.call "_law_copied_gate" (.cons (.var 1) (.cons (.call "_law_gate" (.cons (.var 1) (.cons (.call "_law_small" (.cons (.var 1) .nil)) (.cons (.lit (.int 6)) .nil)))) .nil)))) (.cons (.asg (.one 4) (.lst false (.cons (.call "_law_small" (.cons (.var 1) .nil)) (.cons (.ix (.var 3) (.lit (.int 1))) (.cons (.call "_law_times" (.cons (.bin .sub (.lit (.int 0)) (.lit (.int 3))) (.cons (.ix (.var 3) (.lit (.int 1))) .nil))) (.cons (.call "_law_positive" (.cons (.var 1) .nil)) .nil)))))) (.cons (.asg (.one 4) (.bin .add (.var 4) (.comp false (.seq (.ix (.var 3) (.lit (.int 2)))) (.one 11) [11] (.lit (.bl true)) (.call "_law_subtract" (.cons (.ix (.ix (.ix (.var 3) (.lit (.int 2))) (.neg (.lit (.int 1)))) (.lit (.int 0))) (.cons (.ix (.var 11) (.lit (.int 0))) .nil)))))) (.cons (.par 8 9 (.call "_law_choice" (.cons (.var 1) (.cons (.var 4) .nil))) (.call "_law_choice" (.cons (.var 1) (.cons (.var 4) .nil)))) (.cons (.asg (.one 5) (.call "delayed_gate" (.cons (.var 3) (.cons (.var 8) .nil)))) (.cons (.ife (.not (.call "_law_equal" (.cons (.var 5) (.cons (.call "_law_delayed" (.cons (.var 3) (.cons (.var 8) .nil))) .nil)))) (.cons (.ret (.lit (.bl false))) .nil) .nil) (.cons (.asg (.one 6) (.bin .mul (.bin .mul (.bin .sub (.call "_law_draw" (.cons (.var 1) (.cons (.bin .mul (.lit (.int 2)) (.bin .pow (.lit (.int 10)) (.lit (.int 9)))) .nil))) (.bin .pow (.lit (.int 10)) (.lit (.int 9)))) (.bin .pow (.lit (.int 10)) (.lit (.int 30)))) (.bin .pow (.lit (.int 10)) (.lit (.int 30))))) (.cons (.ife (.not (.call "_law_equal" (.cons (.call "delayed_gate" (.cons (.var 3) (.cons (.call "_law_add" (.cons (.var 8) (.cons (.call "_law_times" (.cons (.var 6) (.cons (.ix (.var 3) (.lit (.int 1))) .nil))) .nil))) .nil))) (.cons (.var 5) .nil)))) (.cons (.ret (.lit (.bl false))) .nil) .nil) (.cons (.ife (.not (.call "_law_equal" (.cons (.call "delayed_gate" (.cons (.var 5) (.cons (.var 9) .nil))) (.cons (.call "delayed_gate" (.cons (.var 3) (.cons (.call "_law_add" (.cons (.var 8) (.cons (.var 9) .nil))) .nil))) .nil)))) (.cons (.ret (.lit (.bl false))) .nil) .nil) (.cons (.fr (.one 7) (.rng1 (.lit (.int 3))) (.cons (.asg (.one 10) (.call "_law_near_moment" (.cons (.var 1) (.cons (.var 3) .nil)))) (.cons (.ife (.not (.call "_law_equal" (.cons (.call "is_open" (.cons (.var 5) (.cons (.call "_law_add" (.cons (.var 10) (.cons (.var 8) .nil))) .nil))) (.cons (.call "_law_is_open" (.cons (.var 3) (.cons (.var 10) .nil))) .nil)))) (.cons (.ret (.lit (.bl false))) .nil) .nil) .nil))) .nil))))))))))) (.cons (.ret (.lit (.bl true))) .nil)))
def f_law : Fn := ⟨1, 12, b_law, [], [], none, false⟩
def t_law : FT := ⟨"law", top 59, ["_law_script", "_law_rng", "_law_turn", "_law_gate_here", "_law_some", "_law_late", "_law_whole", "_law_k", "_law_one", "_law_two", "_law_moment", "_law_span"], [], f_law, [], false⟩
def L : List FT := [t_divisor_of, t_fraction, t_add, t_subtract, t_divide, t_is_less, t_floor_of, t_times, t_remainder, t_spans_fit, t_is_gate, t_repeats, t_normalized, t_copied, t_normal_gate, t_opens, t_closes, t_turns_since, t_last_opening, t_number_at, t_lets, t_is_open, t_turned, t_delayed, t_delayed_gate, t__law_source, t__law_draw, t__law_choice, t__law_equal, t__law_divisor, t__law_reduce, t__law_add, t__law_subtract, t__law_multiply, t__law_divide, t__law_less, t__law_times, t__law_floor, t__law_rest, t__law_ascending, t__law_small, t__law_positive, t__law_parts, t__law_gate, t__law_copied_gate, t__law_shut_by, t__law_is_open, t__law_normal, t__law_near_moment, t__law_delayed, t_law]
def ks : List (Str × D) := [("ONE", .tup [.int 1, .int 1]), ("MAX_SPANS", .int 6)]
def X : XT := { exs := [("InvalidGate", (some "position"), initAt (top 2)), ("ZeroDenominator", none, initAt (top 3))] }
def P : Pg := ⟨lookF L, gcOf ks, ["abs", "all", "bool", "enumerate", "int", "isinstance", "len", "list", "range", "sorted", "str", "tuple", "zip"], exsOf X, false, false, clsOf X⟩
theorem s_divisor_of : P.fns "divisor_of" = some f_divisor_of := by kernel_rfl
instance h_divisor_of : Ev.Q.H_divisor_of P := ⟨s_divisor_of⟩
theorem s_fraction : P.fns "fraction" = some f_fraction := by kernel_rfl
instance h_fraction : Ev.Q.H_fraction P := ⟨s_fraction⟩
theorem s_add : P.fns "add" = some f_add := by kernel_rfl
instance h_add : Ev.Q.H_add P := ⟨s_add⟩
theorem s_subtract : P.fns "subtract" = some f_subtract := by kernel_rfl
instance h_subtract : Ev.Q.H_subtract P := ⟨s_subtract⟩
theorem s_divide : P.fns "divide" = some f_divide := by kernel_rfl
instance h_divide : Ev.Q.H_divide P := ⟨s_divide⟩
theorem s_is_less : P.fns "is_less" = some f_is_less := by kernel_rfl
instance h_is_less : Ev.Q.H_is_less P := ⟨s_is_less⟩
theorem s_floor_of : P.fns "floor_of" = some f_floor_of := by kernel_rfl
instance h_floor_of : Ev.Q.H_floor_of P := ⟨s_floor_of⟩
theorem s_times : P.fns "times" = some f_times := by kernel_rfl
instance h_times : Ev.Q.H_times P := ⟨s_times⟩
theorem s_remainder : P.fns "remainder" = some f_remainder := by kernel_rfl
instance h_remainder : Ev.Q.H_remainder P := ⟨s_remainder⟩
theorem s_spans_fit : P.fns "spans_fit" = some f_spans_fit := by kernel_rfl
instance h_spans_fit : Ev.Q.H_spans_fit P := ⟨s_spans_fit⟩
theorem s_is_gate : P.fns "is_gate" = some f_is_gate := by kernel_rfl
instance h_is_gate : Ev.Q.H_is_gate P := ⟨s_is_gate⟩
theorem s_repeats : P.fns "repeats" = some f_repeats := by kernel_rfl
instance h_repeats : Ev.Q.H_repeats P := ⟨s_repeats⟩
theorem s_normalized : P.fns "normalized" = some f_normalized := by kernel_rfl
instance h_normalized : Ev.Q.H_normalized P := ⟨s_normalized⟩
theorem s_copied : P.fns "copied" = some f_copied := by kernel_rfl
instance h_copied : Ev.Q.H_copied P := ⟨s_copied⟩
theorem s_normal_gate : P.fns "normal_gate" = some f_normal_gate := by kernel_rfl
instance h_normal_gate : Ev.Q.H_normal_gate P := ⟨s_normal_gate⟩
theorem s_opens : P.fns "opens" = some f_opens := by kernel_rfl
instance h_opens : Ev.Q.H_opens P := ⟨s_opens⟩
theorem s_closes : P.fns "closes" = some f_closes := by kernel_rfl
instance h_closes : Ev.Q.H_closes P := ⟨s_closes⟩
theorem s_turns_since : P.fns "turns_since" = some f_turns_since := by kernel_rfl
instance h_turns_since : Ev.Q.H_turns_since P := ⟨s_turns_since⟩
theorem s_last_opening : P.fns "last_opening" = some f_last_opening := by kernel_rfl
instance h_last_opening : Ev.Q.H_last_opening P := ⟨s_last_opening⟩
theorem s_number_at : P.fns "number_at" = some f_number_at := by kernel_rfl
instance h_number_at : Ev.Q.H_number_at P := ⟨s_number_at⟩
theorem s_lets : P.fns "lets" = some f_lets := by kernel_rfl
instance h_lets : Ev.Q.H_lets P := ⟨s_lets⟩
theorem s_is_open : P.fns "is_open" = some f_is_open := by kernel_rfl
instance h_is_open : Ev.Q.H_is_open P := ⟨s_is_open⟩
theorem s_turned : P.fns "turned" = some f_turned := by kernel_rfl
instance h_turned : Ev.Q.H_turned P := ⟨s_turned⟩
theorem s_delayed : P.fns "delayed" = some f_delayed := by kernel_rfl
instance h_delayed : Ev.Q.H_delayed P := ⟨s_delayed⟩
theorem s_delayed_gate : P.fns "delayed_gate" = some f_delayed_gate := by kernel_rfl
instance h_delayed_gate : Ev.Q.H_delayed_gate P := ⟨s_delayed_gate⟩
theorem s__law_source : P.fns "_law_source" = some f__law_source := by kernel_rfl
instance h__law_source : Ev.Q.H__law_source P := ⟨s__law_source⟩
theorem s__law_draw : P.fns "_law_draw" = some f__law_draw := by kernel_rfl
instance h__law_draw : Ev.Q.H__law_draw P := ⟨s__law_draw⟩
theorem s__law_choice : P.fns "_law_choice" = some f__law_choice := by kernel_rfl
instance h__law_choice : Ev.Q.H__law_choice P := ⟨s__law_choice⟩
theorem s__law_equal : P.fns "_law_equal" = some f__law_equal := by kernel_rfl
instance h__law_equal : Ev.Q.H__law_equal P := ⟨s__law_equal⟩
theorem s__law_divisor : P.fns "_law_divisor" = some f__law_divisor := by kernel_rfl
instance h__law_divisor : Ev.Q.H__law_divisor P := ⟨s__law_divisor⟩
theorem s__law_reduce : P.fns "_law_reduce" = some f__law_reduce := by kernel_rfl
instance h__law_reduce : Ev.Q.H__law_reduce P := ⟨s__law_reduce⟩
theorem s__law_add : P.fns "_law_add" = some f__law_add := by kernel_rfl
instance h__law_add : Ev.Q.H__law_add P := ⟨s__law_add⟩
theorem s__law_subtract : P.fns "_law_subtract" = some f__law_subtract := by kernel_rfl
instance h__law_subtract : Ev.Q.H__law_subtract P := ⟨s__law_subtract⟩
theorem s__law_multiply : P.fns "_law_multiply" = some f__law_multiply := by kernel_rfl
instance h__law_multiply : Ev.Q.H__law_multiply P := ⟨s__law_multiply⟩
theorem s__law_divide : P.fns "_law_divide" = some f__law_divide := by kernel_rfl
instance h__law_divide : Ev.Q.H__law_divide P := ⟨s__law_divide⟩
theorem s__law_less : P.fns "_law_less" = some f__law_less := by kernel_rfl
instance h__law_less : Ev.Q.H__law_less P := ⟨s__law_less⟩
theorem s__law_times : P.fns "_law_times" = some f__law_times := by kernel_rfl
instance h__law_times : Ev.Q.H__law_times P := ⟨s__law_times⟩
theorem s__law_floor : P.fns "_law_floor" = some f__law_floor := by kernel_rfl
instance h__law_floor : Ev.Q.H__law_floor P := ⟨s__law_floor⟩
theorem s__law_rest : P.fns "_law_rest" = some f__law_rest := by kernel_rfl
instance h__law_rest : Ev.Q.H__law_rest P := ⟨s__law_rest⟩
theorem s__law_ascending : P.fns "_law_ascending" = some f__law_ascending := by kernel_rfl
instance h__law_ascending : Ev.Q.H__law_ascending P := ⟨s__law_ascending⟩
theorem s__law_small : P.fns "_law_small" = some f__law_small := by kernel_rfl
instance h__law_small : Ev.Q.H__law_small P := ⟨s__law_small⟩
theorem s__law_positive : P.fns "_law_positive" = some f__law_positive := by kernel_rfl
instance h__law_positive : Ev.Q.H__law_positive P := ⟨s__law_positive⟩
theorem s__law_parts : P.fns "_law_parts" = some f__law_parts := by kernel_rfl
instance h__law_parts : Ev.Q.H__law_parts P := ⟨s__law_parts⟩
theorem s__law_gate : P.fns "_law_gate" = some f__law_gate := by kernel_rfl
instance h__law_gate : Ev.Q.H__law_gate P := ⟨s__law_gate⟩
theorem s__law_copied_gate : P.fns "_law_copied_gate" = some f__law_copied_gate := by kernel_rfl
instance h__law_copied_gate : Ev.Q.H__law_copied_gate P := ⟨s__law_copied_gate⟩
theorem s__law_shut_by : P.fns "_law_shut_by" = some f__law_shut_by := by kernel_rfl
instance h__law_shut_by : Ev.Q.H__law_shut_by P := ⟨s__law_shut_by⟩
theorem s__law_is_open : P.fns "_law_is_open" = some f__law_is_open := by kernel_rfl
instance h__law_is_open : Ev.Q.H__law_is_open P := ⟨s__law_is_open⟩
theorem s__law_normal : P.fns "_law_normal" = some f__law_normal := by kernel_rfl
instance h__law_normal : Ev.Q.H__law_normal P := ⟨s__law_normal⟩
theorem s__law_near_moment : P.fns "_law_near_moment" = some f__law_near_moment := by kernel_rfl
instance h__law_near_moment : Ev.Q.H__law_near_moment P := ⟨s__law_near_moment⟩
theorem s__law_delayed : P.fns "_law_delayed" = some f__law_delayed := by kernel_rfl
instance h__law_delayed : Ev.Q.H__law_delayed P := ⟨s__law_delayed⟩
theorem s_law : P.fns "law" = some f_law := by kernel_rfl
theorem k_divisor_of : t_divisor_of.ok P = true := by decide +kernel
theorem k_fraction : t_fraction.ok P = true := by decide +kernel
theorem k_add : t_add.ok P = true := by decide +kernel
theorem k_subtract : t_subtract.ok P = true := by decide +kernel
theorem k_divide : t_divide.ok P = true := by decide +kernel
theorem k_is_less : t_is_less.ok P = true := by decide +kernel
theorem k_floor_of : t_floor_of.ok P = true := by decide +kernel
theorem k_times : t_times.ok P = true := by decide +kernel
theorem k_remainder : t_remainder.ok P = true := by decide +kernel
theorem k_spans_fit : t_spans_fit.ok P = true := by decide +kernel
theorem k_is_gate : t_is_gate.ok P = true := by decide +kernel
theorem k_repeats : t_repeats.ok P = true := by decide +kernel
theorem k_normalized : t_normalized.ok P = true := by decide +kernel
theorem k_copied : t_copied.ok P = true := by decide +kernel
theorem k_normal_gate : t_normal_gate.ok P = true := by decide +kernel
theorem k_opens : t_opens.ok P = true := by decide +kernel
theorem k_closes : t_closes.ok P = true := by decide +kernel
theorem k_turns_since : t_turns_since.ok P = true := by decide +kernel
theorem k_last_opening : t_last_opening.ok P = true := by decide +kernel
theorem k_number_at : t_number_at.ok P = true := by decide +kernel
theorem k_lets : t_lets.ok P = true := by decide +kernel
theorem k_is_open : t_is_open.ok P = true := by decide +kernel
theorem k_turned : t_turned.ok P = true := by decide +kernel
theorem k_delayed : t_delayed.ok P = true := by decide +kernel
theorem k_delayed_gate : t_delayed_gate.ok P = true := by decide +kernel
theorem k__law_source : t__law_source.ok P = true := by decide +kernel
theorem k__law_draw : t__law_draw.ok P = true := by decide +kernel
theorem k__law_choice : t__law_choice.ok P = true := by decide +kernel
theorem k__law_equal : t__law_equal.ok P = true := by decide +kernel
theorem k__law_divisor : t__law_divisor.ok P = true := by decide +kernel
theorem k__law_reduce : t__law_reduce.ok P = true := by decide +kernel
theorem k__law_add : t__law_add.ok P = true := by decide +kernel
theorem k__law_subtract : t__law_subtract.ok P = true := by decide +kernel
theorem k__law_multiply : t__law_multiply.ok P = true := by decide +kernel
theorem k__law_divide : t__law_divide.ok P = true := by decide +kernel
theorem k__law_less : t__law_less.ok P = true := by decide +kernel
theorem k__law_times : t__law_times.ok P = true := by decide +kernel
theorem k__law_floor : t__law_floor.ok P = true := by decide +kernel
theorem k__law_rest : t__law_rest.ok P = true := by decide +kernel
theorem k__law_ascending : t__law_ascending.ok P = true := by decide +kernel
theorem k__law_small : t__law_small.ok P = true := by decide +kernel
theorem k__law_positive : t__law_positive.ok P = true := by decide +kernel
theorem k__law_parts : t__law_parts.ok P = true := by decide +kernel
theorem k__law_gate : t__law_gate.ok P = true := by decide +kernel
theorem k__law_copied_gate : t__law_copied_gate.ok P = true := by decide +kernel
theorem k__law_shut_by : t__law_shut_by.ok P = true := by decide +kernel
theorem k__law_is_open : t__law_is_open.ok P = true := by decide +kernel
theorem k__law_normal : t__law_normal.ok P = true := by decide +kernel
theorem k__law_near_moment : t__law_near_moment.ok P = true := by decide +kernel
theorem k__law_delayed : t__law_delayed.ok P = true := by decide +kernel
theorem k_law : t_law.ok P = true := by decide +kernel
theorem p_divisor_of : t_divisor_of.plain := fun _ _ _ _ _ _ us hl => match us, hl with | [_, _], _ => rfl
theorem n_divisor_of : t_divisor_of.bnd := bnd0 rfl rfl p_divisor_of
theorem n_fraction : t_fraction.bnd := bnd1 (by decide) rfl (by decide) fun j hj T kV doc pm an cdv ct us its h1 h2 => match j, hj with
  | 0, _ => match us, its, (show us.length = 1 from h1), (show its.length = 1 from h2) with | [_], [_], _, _ => ⟨_, rfl, rfl⟩
  | 1, _ => match us, its, (show us.length = 2 from h1), (show its.length = 1 from h2) with | [_, _], [_], _, _ => ⟨_, rfl, rfl⟩
theorem p_add : t_add.plain := fun _ _ _ _ _ _ us hl => match us, hl with | [_, _], _ => rfl
theorem n_add : t_add.bnd := bnd0 rfl rfl p_add
theorem p_subtract : t_subtract.plain := fun _ _ _ _ _ _ us hl => match us, hl with | [_, _], _ => rfl
theorem n_subtract : t_subtract.bnd := bnd0 rfl rfl p_subtract
theorem p_divide : t_divide.plain := fun _ _ _ _ _ _ us hl => match us, hl with | [_, _], _ => rfl
theorem n_divide : t_divide.bnd := bnd0 rfl rfl p_divide
theorem p_is_less : t_is_less.plain := fun _ _ _ _ _ _ us hl => match us, hl with | [_, _], _ => rfl
theorem n_is_less : t_is_less.bnd := bnd0 rfl rfl p_is_less
theorem p_floor_of : t_floor_of.plain := fun _ _ _ _ _ _ us hl => match us, hl with | [_], _ => rfl
theorem n_floor_of : t_floor_of.bnd := bnd0 rfl rfl p_floor_of
theorem p_times : t_times.plain := fun _ _ _ _ _ _ us hl => match us, hl with | [_, _], _ => rfl
theorem n_times : t_times.bnd := bnd0 rfl rfl p_times
theorem p_remainder : t_remainder.plain := fun _ _ _ _ _ _ us hl => match us, hl with | [_, _], _ => rfl
theorem n_remainder : t_remainder.bnd := bnd0 rfl rfl p_remainder
theorem p_spans_fit : t_spans_fit.plain := fun _ _ _ _ _ _ us hl => match us, hl with | [_, _], _ => rfl
theorem n_spans_fit : t_spans_fit.bnd := bnd0 rfl rfl p_spans_fit
theorem p_is_gate : t_is_gate.plain := fun _ _ _ _ _ _ us hl => match us, hl with | [_], _ => rfl
theorem n_is_gate : t_is_gate.bnd := bnd0 rfl rfl p_is_gate
theorem p_repeats : t_repeats.plain := fun _ _ _ _ _ _ us hl => match us, hl with | [_, _, _, _], _ => rfl
theorem n_repeats : t_repeats.bnd := bnd0 rfl rfl p_repeats
theorem p_normalized : t_normalized.plain := fun _ _ _ _ _ _ us hl => match us, hl with | [_], _ => rfl
theorem n_normalized : t_normalized.bnd := bnd0 rfl rfl p_normalized
theorem p_copied : t_copied.plain := fun _ _ _ _ _ _ us hl => match us, hl with | [_], _ => rfl
theorem n_copied : t_copied.bnd := bnd0 rfl rfl p_copied
theorem p_normal_gate : t_normal_gate.plain := fun _ _ _ _ _ _ us hl => match us, hl with | [_], _ => rfl
theorem n_normal_gate : t_normal_gate.bnd := bnd0 rfl rfl p_normal_gate
theorem p_opens : t_opens.plain := fun _ _ _ _ _ _ us hl => match us, hl with | [_, _], _ => rfl
theorem n_opens : t_opens.bnd := bnd0 rfl rfl p_opens
theorem p_closes : t_closes.plain := fun _ _ _ _ _ _ us hl => match us, hl with | [_, _], _ => rfl
theorem n_closes : t_closes.bnd := bnd0 rfl rfl p_closes
theorem p_turns_since : t_turns_since.plain := fun _ _ _ _ _ _ us hl => match us, hl with | [_, _, _], _ => rfl
theorem n_turns_since : t_turns_since.bnd := bnd0 rfl rfl p_turns_since
theorem p_last_opening : t_last_opening.plain := fun _ _ _ _ _ _ us hl => match us, hl with | [_, _], _ => rfl
theorem n_last_opening : t_last_opening.bnd := bnd0 rfl rfl p_last_opening
theorem p_number_at : t_number_at.plain := fun _ _ _ _ _ _ us hl => match us, hl with | [_, _], _ => rfl
theorem n_number_at : t_number_at.bnd := bnd0 rfl rfl p_number_at
theorem p_lets : t_lets.plain := fun _ _ _ _ _ _ us hl => match us, hl with | [_, _], _ => rfl
theorem n_lets : t_lets.bnd := bnd0 rfl rfl p_lets
theorem p_is_open : t_is_open.plain := fun _ _ _ _ _ _ us hl => match us, hl with | [_, _], _ => rfl
theorem n_is_open : t_is_open.bnd := bnd0 rfl rfl p_is_open
theorem p_turned : t_turned.plain := fun _ _ _ _ _ _ us hl => match us, hl with | [_, _, _, _], _ => rfl
theorem n_turned : t_turned.bnd := bnd0 rfl rfl p_turned
theorem p_delayed : t_delayed.plain := fun _ _ _ _ _ _ us hl => match us, hl with | [_, _], _ => rfl
theorem n_delayed : t_delayed.bnd := bnd0 rfl rfl p_delayed
theorem p_delayed_gate : t_delayed_gate.plain := fun _ _ _ _ _ _ us hl => match us, hl with | [_, _], _ => rfl
theorem n_delayed_gate : t_delayed_gate.bnd := bnd0 rfl rfl p_delayed_gate
theorem p__law_source : t__law_source.plain := fun _ _ _ _ _ _ us hl => match us, hl with | [_], _ => rfl
theorem n__law_source : t__law_source.bnd := bnd0 rfl rfl p__law_source
theorem p__law_draw : t__law_draw.plain := fun _ _ _ _ _ _ us hl => match us, hl with | [_, _], _ => rfl
theorem n__law_draw : t__law_draw.bnd := bnd0 rfl rfl p__law_draw
theorem p__law_choice : t__law_choice.plain := fun _ _ _ _ _ _ us hl => match us, hl with | [_, _], _ => rfl
theorem n__law_choice : t__law_choice.bnd := bnd0 rfl rfl p__law_choice
theorem p__law_equal : t__law_equal.plain := fun _ _ _ _ _ _ us hl => match us, hl with | [_, _], _ => rfl
theorem n__law_equal : t__law_equal.bnd := bnd0 rfl rfl p__law_equal
theorem p__law_divisor : t__law_divisor.plain := fun _ _ _ _ _ _ us hl => match us, hl with | [_, _], _ => rfl
theorem n__law_divisor : t__law_divisor.bnd := bnd0 rfl rfl p__law_divisor
theorem p__law_reduce : t__law_reduce.plain := fun _ _ _ _ _ _ us hl => match us, hl with | [_, _], _ => rfl
theorem n__law_reduce : t__law_reduce.bnd := bnd0 rfl rfl p__law_reduce
theorem p__law_add : t__law_add.plain := fun _ _ _ _ _ _ us hl => match us, hl with | [_, _], _ => rfl
theorem n__law_add : t__law_add.bnd := bnd0 rfl rfl p__law_add
theorem p__law_subtract : t__law_subtract.plain := fun _ _ _ _ _ _ us hl => match us, hl with | [_, _], _ => rfl
theorem n__law_subtract : t__law_subtract.bnd := bnd0 rfl rfl p__law_subtract
theorem p__law_multiply : t__law_multiply.plain := fun _ _ _ _ _ _ us hl => match us, hl with | [_, _], _ => rfl
theorem n__law_multiply : t__law_multiply.bnd := bnd0 rfl rfl p__law_multiply
theorem p__law_divide : t__law_divide.plain := fun _ _ _ _ _ _ us hl => match us, hl with | [_, _], _ => rfl
theorem n__law_divide : t__law_divide.bnd := bnd0 rfl rfl p__law_divide
theorem p__law_less : t__law_less.plain := fun _ _ _ _ _ _ us hl => match us, hl with | [_, _], _ => rfl
theorem n__law_less : t__law_less.bnd := bnd0 rfl rfl p__law_less
theorem p__law_times : t__law_times.plain := fun _ _ _ _ _ _ us hl => match us, hl with | [_, _], _ => rfl
theorem n__law_times : t__law_times.bnd := bnd0 rfl rfl p__law_times
theorem p__law_floor : t__law_floor.plain := fun _ _ _ _ _ _ us hl => match us, hl with | [_], _ => rfl
theorem n__law_floor : t__law_floor.bnd := bnd0 rfl rfl p__law_floor
theorem p__law_rest : t__law_rest.plain := fun _ _ _ _ _ _ us hl => match us, hl with | [_, _], _ => rfl
theorem n__law_rest : t__law_rest.bnd := bnd0 rfl rfl p__law_rest
theorem p__law_ascending : t__law_ascending.plain := fun _ _ _ _ _ _ us hl => match us, hl with | [_], _ => rfl
theorem n__law_ascending : t__law_ascending.bnd := bnd0 rfl rfl p__law_ascending
theorem p__law_small : t__law_small.plain := fun _ _ _ _ _ _ us hl => match us, hl with | [_], _ => rfl
theorem n__law_small : t__law_small.bnd := bnd0 rfl rfl p__law_small
theorem p__law_positive : t__law_positive.plain := fun _ _ _ _ _ _ us hl => match us, hl with | [_], _ => rfl
theorem n__law_positive : t__law_positive.bnd := bnd0 rfl rfl p__law_positive
theorem p__law_parts : t__law_parts.plain := fun _ _ _ _ _ _ us hl => match us, hl with | [_, _, _], _ => rfl
theorem n__law_parts : t__law_parts.bnd := bnd0 rfl rfl p__law_parts
theorem p__law_gate : t__law_gate.plain := fun _ _ _ _ _ _ us hl => match us, hl with | [_, _, _], _ => rfl
theorem n__law_gate : t__law_gate.bnd := bnd0 rfl rfl p__law_gate
theorem p__law_copied_gate : t__law_copied_gate.plain := fun _ _ _ _ _ _ us hl => match us, hl with | [_, _], _ => rfl
theorem n__law_copied_gate : t__law_copied_gate.bnd := bnd0 rfl rfl p__law_copied_gate
theorem p__law_shut_by : t__law_shut_by.plain := fun _ _ _ _ _ _ us hl => match us, hl with | [_, _], _ => rfl
theorem n__law_shut_by : t__law_shut_by.bnd := bnd0 rfl rfl p__law_shut_by
theorem p__law_is_open : t__law_is_open.plain := fun _ _ _ _ _ _ us hl => match us, hl with | [_, _], _ => rfl
theorem n__law_is_open : t__law_is_open.bnd := bnd0 rfl rfl p__law_is_open
theorem p__law_normal : t__law_normal.plain := fun _ _ _ _ _ _ us hl => match us, hl with | [_], _ => rfl
theorem n__law_normal : t__law_normal.bnd := bnd0 rfl rfl p__law_normal
theorem p__law_near_moment : t__law_near_moment.plain := fun _ _ _ _ _ _ us hl => match us, hl with | [_, _], _ => rfl
theorem n__law_near_moment : t__law_near_moment.bnd := bnd0 rfl rfl p__law_near_moment
theorem p__law_delayed : t__law_delayed.plain := fun _ _ _ _ _ _ us hl => match us, hl with | [_, _], _ => rfl
theorem n__law_delayed : t__law_delayed.bnd := bnd0 rfl rfl p__law_delayed
theorem p_law : t_law.plain := fun _ _ _ _ _ _ us hl => match us, hl with | [_], _ => rfl
theorem n_law : t_law.bnd := bnd0 rfl rfl p_law
theorem all_ok : ∀ t ∈ L, t.ok P = true := al_cons k_divisor_of <| al_cons k_fraction <| al_cons k_add <| al_cons k_subtract <| al_cons k_divide <| al_cons k_is_less <| al_cons k_floor_of <| al_cons k_times <| al_cons k_remainder <| al_cons k_spans_fit <| al_cons k_is_gate <| al_cons k_repeats <| al_cons k_normalized <| al_cons k_copied <| al_cons k_normal_gate <| al_cons k_opens <| al_cons k_closes <| al_cons k_turns_since <| al_cons k_last_opening <| al_cons k_number_at <| al_cons k_lets <| al_cons k_is_open <| al_cons k_turned <| al_cons k_delayed <| al_cons k_delayed_gate <| al_cons k__law_source <| al_cons k__law_draw <| al_cons k__law_choice <| al_cons k__law_equal <| al_cons k__law_divisor <| al_cons k__law_reduce <| al_cons k__law_add <| al_cons k__law_subtract <| al_cons k__law_multiply <| al_cons k__law_divide <| al_cons k__law_less <| al_cons k__law_times <| al_cons k__law_floor <| al_cons k__law_rest <| al_cons k__law_ascending <| al_cons k__law_small <| al_cons k__law_positive <| al_cons k__law_parts <| al_cons k__law_gate <| al_cons k__law_copied_gate <| al_cons k__law_shut_by <| al_cons k__law_is_open <| al_cons k__law_normal <| al_cons k__law_near_moment <| al_cons k__law_delayed <| al_cons k_law <| al_nil
theorem all_bnd : ∀ t ∈ L, t.bnd := al_cons n_divisor_of <| al_cons n_fraction <| al_cons n_add <| al_cons n_subtract <| al_cons n_divide <| al_cons n_is_less <| al_cons n_floor_of <| al_cons n_times <| al_cons n_remainder <| al_cons n_spans_fit <| al_cons n_is_gate <| al_cons n_repeats <| al_cons n_normalized <| al_cons n_copied <| al_cons n_normal_gate <| al_cons n_opens <| al_cons n_closes <| al_cons n_turns_since <| al_cons n_last_opening <| al_cons n_number_at <| al_cons n_lets <| al_cons n_is_open <| al_cons n_turned <| al_cons n_delayed <| al_cons n_delayed_gate <| al_cons n__law_source <| al_cons n__law_draw <| al_cons n__law_choice <| al_cons n__law_equal <| al_cons n__law_divisor <| al_cons n__law_reduce <| al_cons n__law_add <| al_cons n__law_subtract <| al_cons n__law_multiply <| al_cons n__law_divide <| al_cons n__law_less <| al_cons n__law_times <| al_cons n__law_floor <| al_cons n__law_rest <| al_cons n__law_ascending <| al_cons n__law_small <| al_cons n__law_positive <| al_cons n__law_parts <| al_cons n__law_gate <| al_cons n__law_copied_gate <| al_cons n__law_shut_by <| al_cons n__law_is_open <| al_cons n__law_normal <| al_cons n__law_near_moment <| al_cons n__law_delayed <| al_cons n_law <| al_nil
theorem all_uniq : ∀ t ∈ L, lookF L t.nm = some t.fn := al_cons rfl <| al_cons rfl <| al_cons rfl <| al_cons rfl <| al_cons rfl <| al_cons rfl <| al_cons rfl <| al_cons rfl <| al_cons rfl <| al_cons rfl <| al_cons rfl <| al_cons rfl <| al_cons rfl <| al_cons rfl <| al_cons rfl <| al_cons rfl <| al_cons rfl <| al_cons rfl <| al_cons rfl <| al_cons rfl <| al_cons rfl <| al_cons rfl <| al_cons rfl <| al_cons rfl <| al_cons rfl <| al_cons rfl <| al_cons rfl <| al_cons rfl <| al_cons rfl <| al_cons rfl <| al_cons rfl <| al_cons rfl <| al_cons rfl <| al_cons rfl <| al_cons rfl <| al_cons rfl <| al_cons rfl <| al_cons rfl <| al_cons rfl <| al_cons rfl <| al_cons rfl <| al_cons rfl <| al_cons rfl <| al_cons rfl <| al_cons rfl <| al_cons rfl <| al_cons rfl <| al_cons rfl <| al_cons rfl <| al_cons rfl <| al_cons rfl <| al_nil
theorem xi_InvalidGate : InitIs "InvalidGate" (some "position") (defBody (initAt (top 2))) := ⟨_, _, _, _, _, _, _, _, _, rfl⟩
theorem xp_InvalidGate : plainS "__init__" ("InvalidGate" ++ ".__init__") (initAt (top 2)) (psI (some "position")) := fun _ _ _ _ _ _ us hl => match us, (show us.length = 2 from hl) with | [_, _], _ => rfl
theorem xi_ZeroDenominator : InitIs "ZeroDenominator" none (defBody (initAt (top 3))) := ⟨_, _, _, _, _, rfl⟩
theorem xp_ZeroDenominator : plainS "__init__" ("ZeroDenominator" ++ ".__init__") (initAt (top 3)) (psI none) := fun _ _ _ _ _ _ us hl => match us, (show us.length = 1 from hl) with | [_], _ => rfl
theorem xok : XOk X := ⟨(fun h => nomatch h), (fun h => nomatch h), al_cons ⟨by decide +kernel, xi_InvalidGate, xp_InvalidGate⟩ <| al_cons ⟨by decide +kernel, xi_ZeroDenominator, xp_ZeroDenominator⟩ <| al_nil⟩
theorem stc : Stc P L ks X := ⟨rfl, all_ok, all_uniq, all_bnd, rfl, by decide +kernel, rfl, rfl, xok, rfl, rfl⟩
abbrev R : PySem.W.OpenRow := PySem.W.OpenLaw.row PySem.Challenge.rw_evenpace_k13_delayed_gates
abbrev hk : PySem.W.Hook := hookOf 6 P L ks X
def ob (s : PySem.W.SharedT) : He.AlX := He.obsX 6 (faOf P L ks X) (ddOf L X) [] (tfOf L) (exB L ks X) (HandSHeadRun.getT s)
theorem ob_eq (s : PySem.W.SharedT) : ob s = hk.obs s.abs := He.obsX_eq (HandSHeadRun.getT_eq s)
def loose : List Str := [("PaceError" : Str), ("InvalidGate" : Str), ("ZeroDenominator" : Str), ("ONE" : Str), ("divisor_of" : Str), ("fraction" : Str), ("add" : Str), ("subtract" : Str), ("divide" : Str), ("is_less" : Str), ("floor_of" : Str), ("times" : Str), ("remainder" : Str), ("MAX_SPANS" : Str), ("spans_fit" : Str), ("is_gate" : Str), ("repeats" : Str), ("normalized" : Str), ("copied" : Str), ("normal_gate" : Str), ("opens" : Str), ("closes" : Str), ("turns_since" : Str), ("last_opening" : Str), ("number_at" : Str), ("lets" : Str), ("is_open" : Str), ("turned" : Str), ("delayed" : Str), ("delayed_gate" : Str), ("_law_source" : Str), ("_law_draw" : Str), ("_law_choice" : Str), ("_law_equal" : Str), ("_law_divisor" : Str), ("_law_reduce" : Str), ("_law_add" : Str), ("_law_subtract" : Str), ("_law_multiply" : Str), ("_law_divide" : Str), ("_law_less" : Str), ("_law_times" : Str), ("_law_floor" : Str), ("_law_rest" : Str), ("_law_ascending" : Str), ("_law_small" : Str), ("_law_positive" : Str), ("_law_parts" : Str), ("_law_gate" : Str), ("_law_copied_gate" : Str), ("_law_shut_by" : Str), ("_law_is_open" : Str), ("_law_normal" : Str), ("_law_near_moment" : Str), ("_law_delayed" : Str)]
theorem run (w : World) : HandSHeadRun.RunEq R (PySem.W.view R.prog [59]) hk ob 3000 loose w := by
  intro os
  kernel_rfl
end K13
open PySem PySem.W PySem.Calls PyProof.Rows in
theorem K13.holds_of (hp : ∀ ns : List Int, ns.length ≤ 63 → (∀ k ∈ ns, PySem.Builtin.Int.intBits k ≤ 1048576) → ∃ μ, Ev.call K13.P 40 "law" [.lst (ns.map Ev.D.int)] [] = some (.ok (.bl true), μ)) : PySem.Challenge.rw_evenpace_k13_delayed_gates.Holds := by
  w_on; o_law
  refine HandSHeadRun.head_any (r := K13.R) (q := view K13.R.prog [59]) (H := K13.hk) (ob := K13.ob) (M := 3000) (loose := K13.loose) (d := HandSHeadRun.topDef K13.R.prog 59) (kwd := []) K13.ob_eq
    (by kernel_rfl) (fun s => by kernel_rfl) K13.run (by kernel_rfl) (by kernel_rfl) (by kernel_rfl) (by rfl) (by first | assumption | decide +kernel) (by decide +kernel) ⟨rfl, rfl, rfl, rfl, rfl, by decide +kernel⟩ ?hw ?hc
  case hw => w_witness2
  case hc =>
    exact Ev.walk_endX (m := 6) (l := PySem.Challenge.rw_evenpace_k13_delayed_gates) (t := K13.t_law) (n := 40) (x := "_law_script") rfl (by kernel_rfl) ⟨rfl, by decide, by decide⟩ K13.stc (by simp [K13.L]) (by kernel_rfl) (by kernel_rfl) rfl rfl K13.p_law rfl rfl hp

namespace Ev
/-! ## Gates, plainly -/
structure Gate where
  pl : Rat
  T : Rat
  sp : List (Rat × Rat)
namespace Gate
def n (g : Gate) : Nat := g.sp.length
def at' (g : Gate) (i : Nat) : Rat × Rat := g.sp.getD i (0, 0)
/-- the k-th begin, over all turns -/
def bg (g : Gate) (k : Int) : Rat := (g.at' (k.fmod g.n).toNat).1 + (k.fdiv g.n : Int) * g.T
def ln (g : Gate) (k : Int) : Rat := (g.at' (k.fmod g.n).toNat).2
def en (g : Gate) (k : Int) : Rat := g.bg k + g.ln k
structure Ok (g : Gate) : Prop where
  T0 : 0 < g.T
  len : g.n ≤ 6
  sp0 : ∀ i, i < g.n → 0 ≤ (g.at' i).1 ∧ (g.at' i).1 < g.T ∧ 0 < (g.at' i).2 ∧ (g.at' i).2 ≤ g.T
  nxt : ∀ i, i + 1 < g.n → (g.at' i).1 + (g.at' i).2 ≤ (g.at' (i + 1)).1
  cyc : 0 < g.n → (g.at' (g.n - 1)).1 + (g.at' (g.n - 1)).2 ≤ (g.at' 0).1 + g.T
section
variable {g : Gate}
theorem im {k : Int} (h : 0 < g.n) : (k.fmod g.n).toNat < g.n ∧ 0 ≤ k.fmod g.n := by
  have h1 := Int.fmod_nonneg_of_pos (b := (g.n : Int)) k (by omega)
  have h2 := Int.fmod_lt_of_pos (b := (g.n : Int)) k (by omega)
  omega
theorem fadd (n : Nat) (k q : Int) (h : 0 < n) : (k + q * n).fmod n = k.fmod n ∧ (k + q * n).fdiv n = k.fdiv n + q := by
  have h0 : (0 : Int) < n := by omega
  refine ⟨Int.add_mul_fmod_self_right .., ?_⟩
  exact Int.add_mul_fdiv_right _ _ (by omega)
theorem fsmall {n : Nat} {r q : Int} (h0 : 0 ≤ r) (h : r < n) : (r + q * n).fmod n = r ∧ (r + q * n).fdiv n = q := by
  have := fadd n r q (by omega)
  have e1 : r.fmod n = r := Int.fmod_eq_of_lt h0 h
  have e2 : r.fdiv n = 0 := by
    rw [Int.fdiv_eq_ediv_of_nonneg _ (by omega)]
    exact Int.ediv_eq_zero_of_lt h0 h
  rw [this.1, this.2, e1, e2]
  exact ⟨rfl, by omega⟩
theorem bg_turn (h : 0 < g.n) (k q : Int) : g.bg (k + q * g.n) = g.bg k + q * g.T := by
  unfold bg
  rw [(fadd g.n k q h).1, (fadd g.n k q h).2, Rat.intCast_add]
  grind
theorem ln_turn (h : 0 < g.n) (k q : Int) : g.ln (k + q * g.n) = g.ln k := by
  unfold ln
  rw [(fadd g.n k q h).1]
theorem split (h : 0 < g.n) (k : Int) : ∃ (i : Nat) (q : Int), i < g.n ∧ k = i + q * g.n ∧ g.bg k = (g.at' i).1 + q * g.T ∧ g.ln k = (g.at' i).2 := by
  have hi := im (g := g) (k := k) h
  refine ⟨(k.fmod g.n).toNat, k.fdiv g.n, hi.1, ?_, rfl, rfl⟩
  rw [Int.toNat_of_nonneg hi.2]
  have := Int.mul_fdiv_add_fmod k g.n
  rw [Int.mul_comm] at this
  omega
theorem bg_at (h : 0 < g.n) {i : Nat} (hi : i < g.n) (q : Int) : g.bg (i + q * g.n) = (g.at' i).1 + q * g.T ∧ g.ln (i + q * g.n) = (g.at' i).2 := by
  have := fsmall (n := g.n) (r := i) (q := q) (by omega) (by omega)
  unfold bg ln
  rw [this.1, this.2]
  exact ⟨rfl, rfl⟩
theorem ln_pos (o : Ok g) (h : 0 < g.n) (k : Int) : 0 < g.ln k ∧ g.ln k ≤ g.T := by
  have := o.sp0 _ (im (k := k) h).1
  exact ⟨this.2.2.1, this.2.2.2⟩
theorem step (o : Ok g) (h : 0 < g.n) (k : Int) : g.en k ≤ g.bg (k + 1) := by
  obtain ⟨i, q, hi, rfl, e1, e2⟩ := split h k
  unfold en
  rw [e1, e2]
  by_cases hl : i + 1 < g.n
  · have e := (bg_at h hl q).1
    rw [show ((i : Int) + q * g.n + 1) = ((i + 1 : Nat) : Int) + q * g.n by omega, e]
    have := o.nxt i hl
    grind
  · have hin : i = g.n - 1 := by omega
    have e := (bg_at h h (q + 1)).1
    rw [show ((i : Int) + q * g.n + 1) = ((0 : Nat) : Int) + (q + 1) * g.n by rw [Int.add_mul]; omega, e, Rat.intCast_add]
    have := o.cyc h
    rw [hin]
    grind
theorem bg_lt_succ (o : Ok g) (h : 0 < g.n) (k : Int) : g.bg k < g.bg (k + 1) := by
  have h1 := step o h k
  have h2 := (ln_pos o h k).1
  unfold en at h1
  grind
theorem bg_mono_nat (o : Ok g) (h : 0 < g.n) (k : Int) : ∀ d : Nat, g.bg k + d * 0 ≤ g.bg (k + d)
  | 0 => by
    rw [show k + ((0 : Nat) : Int) = k by omega]
    grind
  | d + 1 => by
    have h1 := bg_mono_nat o h k d
    have h2 := bg_lt_succ o h (k + d)
    rw [show k + ((d + 1 : Nat) : Int) = k + d + 1 by omega]
    grind
theorem bg_le (o : Ok g) (h : 0 < g.n) {j k : Int} (hjk : j ≤ k) : g.bg j ≤ g.bg k := by
  have := bg_mono_nat o h j (k - j).toNat
  rw [show j + ((k - j).toNat : Int) = k by omega] at this
  grind
theorem en_le_bg (o : Ok g) (h : 0 < g.n) {j k : Int} (hjk : j < k) : g.en j ≤ g.bg k := by
  have h1 := step o h j
  have h2 := bg_le o h (show j + 1 ≤ k by omega)
  grind
theorem bg_lt (o : Ok g) (h : 0 < g.n) {j k : Int} (hjk : j < k) : g.bg j < g.bg k := by
  have h1 := en_le_bg o h hjk
  have h2 := (ln_pos o h j).1
  unfold en at h1
  grind
theorem bg_inj (o : Ok g) (h : 0 < g.n) {j k : Int} (e : g.bg j = g.bg k) : j = k := by
  rcases Int.lt_trichotomy j k with h1 | h1 | h1
  · have := bg_lt o h h1; grind
  · exact h1
  · have := bg_lt o h h1; grind
theorem en_le (o : Ok g) (h : 0 < g.n) {j k : Int} (hjk : j ≤ k) : g.en j ≤ g.en k := by
  by_cases e : j = k
  · subst e; grind
  · have h1 := en_le_bg o h (show j < k by omega)
    have h2 := (ln_pos o h k).1
    unfold en at *
    grind
theorem en_turn (h : 0 < g.n) (k q : Int) : g.en (k + q * g.n) = g.en k + q * g.T := by
  unfold en
  rw [bg_turn h, ln_turn h]
  grind
/-- nobody is shut out at m -/
def Open (g : Gate) (m : Rat) : Prop := 0 < g.n → ∀ k, ¬ (g.bg k < m ∧ m < g.en k)
theorem open_iff (o : Ok g) (h : 0 < g.n) {m : Rat} {k : Int} (h1 : g.en k ≤ m) (h2 : m < g.en (k + 1)) : g.Open m ↔ ¬ g.bg (k + 1) < m := by
  constructor
  · intro ho hb
    exact ho h (k + 1) ⟨hb, h2⟩
  · intro hb _ j hj
    by_cases hjk : j ≤ k
    · have := en_le o h hjk
      grind
    · have := bg_le o h (show k + 1 ≤ j by omega)
      grind
end
end Gate
end Ev

namespace Ev
open PySem
/-! ## The scripts' source -/
def rngC (ns : List Int) (i b s : Int) : C := .lst [.lst (ns.map D.int), .int i, .int b, .int s]
structure RngF (ns : List Int) (i b s : Int) : Prop where
  i0 : 0 ≤ i
  i1 : i ≤ ns.length
  b0 : 0 ≤ b
  s0 : 0 ≤ s
  s1 : s < 2147483563
  l : ns.length ≤ 63
def RngOk (ns : List Int) (c : C) : Prop := ∃ i b s, c = rngC ns i b s ∧ RngF ns i b s
theorem atI_nat {α : Type} {xs : List α} {i : Nat} {a : α} (h : xs[i]? = some a) : L2.atI xs (i : Int) = some a := by
  have hl := (List.getElem?_eq_some_iff.mp h).1
  unfold L2.atI L2.ixN
  rw [if_pos (by omega), if_pos (by omega)]
  simpa using h
theorem atI_int {α : Type} {xs : List α} {i : Int} {a : α} (h0 : 0 ≤ i) (h : xs[i.toNat]? = some a) : L2.atI xs i = some a := by
  have := atI_nat h
  rwa [Int.toNat_of_nonneg h0] at this
section
variable {P : Pg} {n : Nat} {μs : Mu} {ns : List Int} {c : C} {Q : D → Mu → Prop} {X : Exn → Mu → Prop}
theorem w_draw (hf : P.fns "_law_draw" = some Ev.Q.f__law_draw) {many : Int} (hm : 0 < many) (hm2 : DivOk many) (hr : RngOk ns c) (q : ∀ r c', 0 ≤ r → r < many → RngOk ns c' → Q (.int r) (c' :: μs)) : WP (call P (n + 1) "_law_draw" [.ptr 0, .int many]) (c :: μs) Q X := by
  obtain ⟨i, b, s, rfl, F⟩ := hr
  obtain ⟨i0, i1, b0, s0, s1, hl⟩ := F
  have bs : Bd 31 s := Bd.of (by omega)
  have fin : ∀ {i b s : Int}, RngF ns i b s → RngOk ns (rngC ns i b s) := fun F => ⟨_, _, _, rfl, F⟩
  have m1 := fun a : Int => fmod_bd (a := a) hm
  have m2 := fun a : Int => fmod_bd (a := a) (show (0 : Int) < 2147483563 by decide)
  by_cases hlt : i < ns.length
  · obtain ⟨k, hk⟩ : ∃ k, ns[i.toNat]? = some k := ⟨ns[i.toNat]'(by omega), List.getElem?_eq_getElem _⟩
    have hx : L2.atI (ns.map D.int) i = some (.int k) := atI_int i0 (by rw [List.getElem?_map, hk]; rfl)
    refine w_fn hf rfl ?_
    show WQ (evSL _ _ Ev.Q.b__law_draw [some (.ptr 0), some (.int many), none, none, none] _) _ _
    unfold Ev.Q.b__law_draw
    walk_at "ev"
    · exact q _ (rngC ns (i + 1) (k.fdiv many) s) (m1 _).1 (m1 _).2 (fin ⟨by omega, by omega, Int.fdiv_nonneg (by omega) (by omega), by omega, by omega, by omega⟩)
    · exact q _ (rngC ns (i + 1) b _) (m1 _).1 (m1 _).2 (fin ⟨by omega, by omega, by omega, (m2 _).1, (m2 _).2, by omega⟩)
    · exact q _ (rngC ns i (b.fdiv many) s) (m1 _).1 (m1 _).2 (fin ⟨by omega, by omega, Int.fdiv_nonneg (by omega) (by omega), by omega, by omega, by omega⟩)
  · refine w_fn hf rfl ?_
    show WQ (evSL _ _ Ev.Q.b__law_draw [some (.ptr 0), some (.int many), none, none, none] _) _ _
    unfold Ev.Q.b__law_draw
    walk_at "ev"
    · exact q _ (rngC ns i b _) (m1 _).1 (m1 _).2 (fin ⟨by omega, by omega, by omega, (m2 _).1, (m2 _).2, by omega⟩)
    · exact q _ (rngC ns i (b.fdiv many) s) (m1 _).1 (m1 _).2 (fin ⟨by omega, by omega, Int.fdiv_nonneg (by omega) (by omega), by omega, by omega, by omega⟩)
end
end Ev

namespace Ev
open PySem
theorem cut_all {α : Type} {xs : List α} {k : Int} (h0 : 0 ≤ k) (h : (xs.length : Int) ≤ k) : cut xs none (some k) = xs := by
  unfold cut
  have e1 : HT.sIx xs.length 0 none = 0 := rfl
  have e2 : HT.sIx xs.length xs.length (some k) = xs.length := by
    show (if k < 0 then _ else min k.toNat xs.length) = _
    rw [if_neg (by omega)]
    omega
  rw [e1, e2]
  simp
section
variable {P : Pg} {n : Nat} {μs : Mu} {μ : Mu} {ns : List Int} {c : C} {Q : D → Mu → Prop} {X : Exn → Mu → Prop}
theorem w_source (hf : P.fns "_law_source" = some Ev.Q.f__law_source) (hl : ns.length ≤ 63) (q : ∀ c, RngOk ns c → Q (.ptr 0) [c]) : WP (call P (n + 1) "_law_source" [.lst (ns.map D.int)]) [] Q X := by
  have hs : slcOp (.lst (ns.map D.int)) .non (.int 63) = some (.lst (ns.map D.int)) := by
    show some (D.lst (cut (ns.map D.int) none (some 63))) = _
    rw [cut_all (by decide) (by rw [List.length_map]; omega)]
  have m2 := fun a : Int => fmod_bd (a := a) (show (0 : Int) < 2147483563 by decide)
  have hz : (ns.map D.int).length ≤ sizeLine := by
    rw [List.length_map]
    exact Nat.le_trans hl (by decide)
  have b63 : Bd 7 ((ns.map D.int).length : Int) := Bd.of (by rw [List.length_map]; show (ns.length : Int).natAbs < 128; omega)
  refine w_fn hf rfl ?_
  show WQ (evSL _ _ Ev.Q.b__law_source [some (.lst (ns.map D.int)), none, none] _) _ _
  unfold Ev.Q.b__law_source
  walk_at "ev"
  refine ⟨_, stat_lst _, fun i δ μ => μ = [] ∧ ∃ s y, δ = [some (.lst (ns.map D.int)), some (.int s), y] ∧ Bd 40 s ∧ 0 ≤ s ∧ s < 2147483563, ?_, ?_, ?_⟩
  · refine ⟨rfl, _, none, rfl, ?_, ?_, ?_⟩
    · refine Bd.of ?_
      rw [List.length_map]
      omega
    · omega
    · rw [List.length_map]
      omega
  · rintro i x δ μ hx ⟨rfl, s, y, rfl, bs, s0, s1⟩
    rw [List.getElem?_map] at hx
    obtain ⟨k, hk, rfl⟩ := Option.map_eq_some_iff.mp hx
    refine ⟨_, rfl, ?_⟩
    walk_at "ev"
    exact ⟨rfl, _, _, rfl, Bd.of (by have := m2 (s * 48271 + k.fmod 2147483563 + 41); omega), (m2 _).1, (m2 _).2⟩
  · rintro δ μ ⟨rfl, s, y, rfl, bs, s0, s1⟩
    walk_at "ev"
    exact q _ ⟨0, 0, s, rfl, ⟨by omega, by omega, by omega, s0, s1, hl⟩⟩
theorem w_choice (hf : P.fns "_law_choice" = some Ev.Q.f__law_choice) (hd : P.fns "_law_draw" = some Ev.Q.f__law_draw) {ds : List D} (h0 : ds ≠ []) (hl : ds.length < 1000) (hr : RngOk ns c) (q : ∀ x c', x ∈ ds → RngOk ns c' → Q x (c' :: μs)) :
    WP (call P (n + 2) "_law_choice" [.ptr 0, .lst ds]) (c :: μs) Q X := by
  have hp : 0 < ds.length := List.length_pos_iff.mpr h0
  refine w_fn hf rfl ?_
  show WQ (evSL _ _ Ev.Q.b__law_choice [some (.ptr 0), some (.lst ds)] _) _ _
  unfold Ev.Q.b__law_choice
  walk_at "ev"
  refine w_draw hd (by omega) (Bd.div (j := 10) (by omega) (Bd.of (by show (ds.length : Int).natAbs < 1024; omega)) (by decide)) hr fun r c' r0 r1 hr' => ?_
  have hx : L2.atI ds r = some (ds[r.toNat]'(by omega)) := atI_int r0 (List.getElem?_eq_getElem _)
  walk_at "ev"
  exact q _ c' (List.getElem_mem _) hr'
end
/-! equal things are equal -/
def plainD : Nat → D → Bool
  | _, .non => true
  | _, .bl _ => true
  | _, .int _ => true
  | _, .str x => SeqAt.shaped (.str x)
  | k + 1, .tup ds => Nat.ble ds.length 100000 && ds.all (plainD k)
  | k + 1, .lst ds => Nat.ble ds.length 100000 && ds.all (plainD k)
  | _, _ => false
theorem eqO_bl (neg a b : Bool) : eqO neg (.bl a) (.bl b) = some (if neg then !(a == b) else a == b) := by cases neg <;> cases a <;> cases b <;> rfl
theorem eqO_str (x : Str) (h : SeqAt.shaped (.str x) = true) : eqO false (.str x) (.str x) = some true := by
  show (if (SeqAt.shaped (.str x) && SeqAt.shaped (.str x)) = true then some (PyData.eqv (.str x) (.str x)) else none) = _
  rw [if_pos (by rw [h]; rfl)]
  have : PyData.eqv (.str x) (.str x) = true := by
    show (x == x) = true
    exact beq_self_eq_true x
  rw [this]
theorem stat_zip (a b : D) (ds : List D) (h : (a = .tup ds ∧ b = .tup ds) ∨ (a = .lst ds ∧ b = .lst ds)) : Stat (.zip a b) (ds.map fun x => .tup [x, x]) := by
  rcases h with ⟨rfl, rfl⟩ | ⟨rfl, rfl⟩
  · refine ⟨fun μ i => ?_, fun μ => by rw [List.length_map]; exact Nat.le_refl _⟩
    show some (match ds[i]?, ds[i]? with | some x, some y => some (D.tup [x, y]) | _, _ => none) = _
    rw [List.getElem?_map]
    cases ds[i]? <;> rfl
  · refine ⟨fun μ i => ?_, fun μ => by rw [List.length_map]; exact Nat.le_refl _⟩
    show some (match ds[i]?, ds[i]? with | some x, some y => some (D.tup [x, y]) | _, _ => none) = _
    rw [List.getElem?_map]
    cases ds[i]? <;> rfl
theorem bools_trues : ∀ n : Nat, bools (List.replicate n (D.bl true)) = some (List.replicate n true)
  | 0 => rfl
  | n + 1 => by
    show (bools (List.replicate n (D.bl true))).map (true :: ·) = _
    rw [bools_trues n]
    rfl
section
variable {P : Pg} {μ : Mu} {Q : D → Mu → Prop} {X : Exn → Mu → Prop}
theorem b_all {ds : List D} {bs : List Bool} (h : bools ds = some bs) (q : Q (.bl (bs.all id)) μ) : WP (biOp .all [.lst ds]) μ Q X :=
  wp_rd ⟨_, by show (bools ds).map _ = _; rw [h]; rfl, q⟩
def atomD : D → Bool
  | .non => true
  | .bl _ => true
  | .int _ => true
  | .str x => SeqAt.shaped (.str x)
  | _ => false
theorem w_equal0 (hf : P.fns "_law_equal" = some Ev.Q.f__law_equal) (d : D) (hd : atomD d = true) (m : Nat) (q : Q (.bl true) μ) : WP (call P (m + 1) "_law_equal" [d, d]) μ Q X := by
  refine w_fn hf rfl ?_
  show WQ (evSL _ _ Ev.Q.b__law_equal [some d, some d, none, none] _) _ _
  unfold Ev.Q.b__law_equal
  cases d with
  | non =>
    repeat' (first | (with_reducible refine Ev.w_cmp ?_) | walk_at "ev1")
    exact q
  | bl b =>
    have z1 : cop .eq (.bl b) (.bl b) = some true := by cases b <;> rfl
    repeat' (first | (with_reducible refine Ev.w_cmp ?_) | walk_at "ev1")
    exact q
  | int i =>
    have z1 : cop .eq (.int i) (.int i) = some true := by
      have := eqO_int false i i
      simp only [Bool.false_eq_true, if_false, decide_true] at this
      exact this
    repeat' (first | (with_reducible refine Ev.w_cmp ?_) | walk_at "ev1")
    exact q
  | str x =>
    have z1 : cop .eq (.str x) (.str x) = some true := eqO_str x hd
    repeat' (first | (with_reducible refine Ev.w_cmp ?_) | walk_at "ev1")
    exact q
  | _ => cases hd
theorem w_equalS (hf : P.fns "_law_equal" = some Ev.Q.f__law_equal) (d : D) (ds : List D) (hd : d = .tup ds ∨ d = .lst ds) (hl : ds.length ≤ 100000) (m : Nat) (ih : ∀ x ∈ ds, ∀ {μ : Mu} {Q : D → Mu → Prop} {X : Exn → Mu → Prop}, Q (.bl true) μ → WP (call P m "_law_equal" [x, x]) μ Q X) (q : Q (.bl true) μ) :
    WP (call P (m + 1) "_law_equal" [d, d]) μ Q X := by
  refine w_fn hf rfl ?_
  show WQ (evSL _ _ Ev.Q.b__law_equal [some d, some d, none, none] _) _ _
  unfold Ev.Q.b__law_equal
  have z1 : ∀ i : Int, cop .eq (.int i) (.int i) = some true := fun i => by
    have := eqO_int false i i
    simp only [Bool.false_eq_true, if_false, decide_true] at this
    exact this
  have z2 := z1 ds.length
  have st := stat_zip d d ds (hd.imp (fun h => ⟨h, h⟩) (fun h => ⟨h, h⟩))
  have big : ds.length < sizeLine := Nat.lt_of_le_of_lt hl (by decide)
  have go : ∀ {R : D → Mu → Prop} {Y : Exn → Mu → Prop}, R (.lst (List.replicate ds.length (.bl true))) μ → WP (evE (call P m) P.gc (.comp false (.zip (.var 0) (.var 1)) (.tup (.cons (.one 2) (.cons (.one 3) .nil))) [2, 3] (.lit (.bl true)) (.call "_law_equal" (.cons (.var 2) (.cons (.var 3) .nil)))) [some d, some d, none, none]) μ R Y := by
    intro R Y hR
    refine w_compF (wi_zip (w_var rfl (w_var rfl ⟨.zip d d, ?_, _, st, fun i acc μ' => μ' = μ ∧ acc = List.replicate i (.bl true), ⟨rfl, rfl⟩, ?_, ?_⟩)))
    · rcases hd with rfl | rfl <;> rfl
    · rintro i x acc μ' hx ⟨rfl, rfl⟩
      rw [List.getElem?_map] at hx
      obtain ⟨y, hy, rfl⟩ := Option.map_eq_some_iff.mp hx
      have hi := (List.getElem?_eq_some_iff.mp hy).1
      refine ⟨_, rfl, w_lit ⟨true, rfl, fun _ => ?_, fun h => by cases h⟩⟩
      refine w_call (wl_cons (w_var rfl (wl_cons (w_var rfl (wl_nil ?_)))))
      refine ih y (List.mem_of_getElem? hy) ⟨by rw [List.length_replicate]; omega, rfl, ?_⟩
      rw [List.replicate_succ']
    · rintro acc μ' ⟨rfl, rfl⟩
      rw [List.length_map]
      exact ⟨by rw [List.length_replicate]; omega, hR⟩
  rcases hd with rfl | rfl
  all_goals
    repeat' (first | (with_reducible refine Ev.w_cmp ?_) | (refine go ?_) | walk_at "ev1")
    all_goals
      refine b_all (bools_trues _) ?_
      repeat' walk_at "ev1"
      first
        | exact q
        | (have : (List.replicate ds.length true).all id = true := by simp
           rw [this]
           exact q)
theorem w_equal (hf : P.fns "_law_equal" = some Ev.Q.f__law_equal) : ∀ (k : Nat) (d : D), plainD k d = true → ∀ (m : Nat) {μ : Mu} {Q : D → Mu → Prop} {X : Exn → Mu → Prop}, k ≤ m → Q (.bl true) μ → WP (call P (m + 1) "_law_equal" [d, d]) μ Q X := by
  intro k
  induction k with
  | zero =>
    intro d hd m μ Q X hk q
    refine w_equal0 hf d ?_ m q
    cases d <;> first | rfl | exact hd | cases hd
  | succ k ih =>
    intro d hd m μ Q X hk q
    obtain ⟨m, rfl⟩ : ∃ m', m = m' + 1 := ⟨m - 1, by omega⟩
    have seq : ∀ ds, (d = .tup ds ∨ d = .lst ds) → (Nat.ble ds.length 100000 && ds.all (plainD k)) = true → WP (call P (m + 1 + 1) "_law_equal" [d, d]) μ Q X := fun ds h1 h2 => by
      simp only [Bool.and_eq_true] at h2
      exact w_equalS hf d ds h1 (Nat.le_of_ble_eq_true h2.1) (m + 1) (fun x hx {μ Q X} q => ih x (List.all_eq_true.mp h2.2 x hx) m (by omega) q) q
    cases d with
    | tup ds => exact seq ds (.inl rfl) hd
    | lst ds => exact seq ds (.inr rfl) hd
    | non => exact w_equal0 hf _ rfl _ q
    | bl b => exact w_equal0 hf _ rfl _ q
    | int b => exact w_equal0 hf _ rfl _ q
    | str b => exact w_equal0 hf (.str b) hd _ q
    | _ => cases hd
end
end Ev

namespace Ev
open PySem
section
variable {P : Pg} {n : Nat} {μ : Mu} {Q : D → Mu → Prop} {X : Exn → Mu → Prop}
theorem abs_gcd (a b : Int) : Int.gcd (if a < 0 then -a else a) (if b < 0 then -b else b) = Int.gcd a b := by
  have h : ∀ x : Int, (if x < 0 then -x else x).natAbs = x.natAbs := fun x => by split <;> omega
  rw [Int.gcd_eq_natAbs_gcd_natAbs, Int.gcd_eq_natAbs_gcd_natAbs a b, h, h]
theorem gcd_turn {x y : Int} (hx : 0 ≤ x) (hy : 0 < y) : Int.gcd y (x.fmod y) = Int.gcd x y ∧ 0 ≤ x.fmod y ∧ (x.fmod y).toNat < y.toNat := by
  have h := fmod_bd (a := x) hy
  refine ⟨?_, h.1, by omega⟩
  obtain ⟨m, rfl⟩ := Int.eq_ofNat_of_zero_le hx
  obtain ⟨k, rfl⟩ := Int.eq_ofNat_of_zero_le (Int.le_of_lt hy)
  rw [Int.fmod_eq_emod_of_nonneg _ (by omega), ← Int.natCast_emod, Int.gcd_natCast_natCast, Int.gcd_natCast_natCast, Nat.gcd_comm m k, Nat.gcd_rec k m, Nat.gcd_comm]
theorem w_divisor (hf : P.fns "_law_divisor" = some Ev.Q.f__law_divisor) (a b : Int) (q : Q (.int (Int.gcd a b)) μ) : WP (call P (n + 1) "_law_divisor" [.int a, .int b]) μ Q X := by
  refine w_fn hf rfl ?_
  show WQ (evSL _ _ Ev.Q.b__law_divisor [some (.int a), some (.int b)] _) _ _
  unfold Ev.Q.b__law_divisor
  walk_at "ev"
  refine ⟨fun k δ μ' => ∃ x y : Int, δ = [some (.int x), some (.int y)] ∧ 0 ≤ x ∧ 0 ≤ y ∧ Int.gcd x y = Int.gcd a b ∧ k = y.toNat ∧ μ' = μ, _, ⟨_, _, rfl, ?_, ?_, abs_gcd a b, rfl, rfl⟩, ?_⟩
  · split <;> omega
  · split <;> omega
  · rintro k δ μ' ⟨x, y, rfl, hx, hy, hg, rfl, rfl⟩
    walk_at "ev"
    · obtain ⟨g1, g2, g3⟩ := gcd_turn hx (show 0 < y by omega)
      exact ⟨_, g3, _, _, rfl, hy, g2, g1.trans hg, rfl, rfl⟩
    · have : y = 0 := by omega
      subst this
      rw [Int.gcd_zero_right] at hg
      have e : x = ((Int.gcd a b : Nat) : Int) := by omega
      rw [e]
      exact q
theorem w_divisor_of (hf : P.fns "divisor_of" = some Ev.Q.f_divisor_of) (a b : Int) (q : Q (.int (Int.gcd a b)) μ) : WP (call P (n + 1) "divisor_of" [.int a, .int b]) μ Q X := by
  refine w_fn hf rfl ?_
  show WQ (evSL _ _ Ev.Q.b_divisor_of [some (.int a), some (.int b)] _) _ _
  unfold Ev.Q.b_divisor_of
  walk_at "ev"
  refine ⟨fun k δ μ' => ∃ x y : Int, δ = [some (.int x), some (.int y)] ∧ 0 ≤ x ∧ 0 ≤ y ∧ Int.gcd x y = Int.gcd a b ∧ k = y.toNat ∧ μ' = μ, _, ⟨_, _, rfl, ?_, ?_, abs_gcd a b, rfl, rfl⟩, ?_⟩
  · split <;> omega
  · split <;> omega
  · rintro k δ μ' ⟨x, y, rfl, hx, hy, hg, rfl, rfl⟩
    walk_at "ev"
    · obtain ⟨g1, g2, g3⟩ := gcd_turn hx (show 0 < y by omega)
      exact ⟨_, g3, _, _, rfl, hy, g2, g1.trans hg, rfl, rfl⟩
    · have : y = 0 := by omega
      subst this
      rw [Int.gcd_zero_right] at hg
      have e : x = ((Int.gcd a b : Nat) : Int) := by omega
      rw [e]
      exact q
end
/-! ## Fractions in their lowest terms -/
def sgn (d : Int) : Int := if 0 < d then 1 else -1
def rdN (n d : Int) : Int := (sgn d * n).fdiv (Int.gcd n d)
def rdD (n d : Int) : Int := (sgn d * d).fdiv (Int.gcd n d)
theorem sgn_abs (x d : Int) : (sgn d * x).natAbs = x.natAbs := by
  unfold sgn
  split
  · rw [Int.one_mul]
  · rw [Int.neg_mul, Int.one_mul, Int.natAbs_neg]
theorem gcd_pos {n d : Int} (h : d ≠ 0) : 0 < Int.gcd n d := Int.gcd_pos_of_ne_zero_right _ h
theorem fdiv_exact {a g : Int} (h : g ∣ a) (hg : 0 < g) : a.fdiv g * g = a := by
  obtain ⟨k, rfl⟩ := h
  rw [Int.mul_fdiv_cancel_left _ (by omega), Int.mul_comm]
theorem rd_spec {n d : Int} (h : d ≠ 0) : ∃ g : Int, 0 < g ∧ rdN n d * g = sgn d * n ∧ rdD n d * g = sgn d * d ∧ 0 < rdD n d := by
  have hg : (0 : Int) < (Int.gcd n d : Int) := by have := gcd_pos (n := n) h; omega
  have e1 : rdN n d * (Int.gcd n d : Int) = sgn d * n := fdiv_exact (Int.dvd_mul_of_dvd_right (Int.gcd_dvd_left n d)) hg
  have e2 : rdD n d * (Int.gcd n d : Int) = sgn d * d := fdiv_exact (Int.dvd_mul_of_dvd_right (Int.gcd_dvd_right n d)) hg
  refine ⟨_, hg, e1, e2, ?_⟩
  have h2 : 0 < sgn d * d := by
    unfold sgn
    split <;> omega
  rw [← e2] at h2
  exact Int.pos_of_mul_pos_left h2 hg
theorem fl_spec (x : Int) {y : Int} (h : 0 < y) : x.fdiv y * y ≤ x ∧ x < (x.fdiv y + 1) * y := by
  have h1 := Int.mul_fdiv_add_fmod x y
  have h2 := fmod_bd (a := x) h
  rw [Int.mul_comm] at h1
  rw [Int.add_mul]
  omega
theorem Bd.fdiv {k : Nat} {x y : Int} (h : 0 < y) (g : Bd k x) : Bd k (x.fdiv y) := by
  unfold Bd at *
  have : (x.fdiv y).natAbs ≤ x.natAbs := by
    obtain ⟨h1, h2⟩ := fl_spec x h
    by_cases h0 : 0 ≤ x
    · have h3 : 0 ≤ x.fdiv y := Int.fdiv_nonneg h0 (by omega)
      have h4 : x.fdiv y * 1 ≤ x.fdiv y * y := Int.mul_le_mul_of_nonneg_left (by omega) h3
      omega
    · have h4 : x.fdiv y < 0 := Int.fdiv_neg_of_neg_of_pos (by omega) h
      have h5 : (x.fdiv y + 1) * y ≤ (x.fdiv y + 1) * 1 := Int.mul_le_mul_of_nonpos_left (by omega) (by omega)
      omega
  omega
theorem Bd.rdN {k : Nat} {n d : Int} (h : d ≠ 0) (g : Bd k n) : Bd k (rdN n d) := by
  refine Bd.fdiv (by have := gcd_pos (n := n) h; omega) ?_
  unfold Bd at *
  rw [sgn_abs]
  exact g
theorem Bd.rdD {k : Nat} {n d : Int} (h : d ≠ 0) (g : Bd k d) : Bd k (rdD n d) := by
  refine Bd.fdiv (by have := gcd_pos (n := n) h; omega) ?_
  unfold Bd at *
  rw [sgn_abs]
  exact g
section
variable {P : Pg} {n : Nat} {μ : Mu} {Q : D → Mu → Prop} {X : Exn → Mu → Prop}
theorem Bd.sgn {d : Int} : Bd 1 (sgn d) := by
  unfold Ev.sgn
  split <;> exact Bd.of (by decide)
theorem Bd.gcd {k : Nat} {n d : Int} (h : d ≠ 0) (g : Bd k d) : Bd k (Int.gcd n d : Int) := by
  refine Bd.of (Nat.lt_of_le_of_lt ?_ g)
  have := Int.gcd_le_natAbs_right n h
  omega
theorem w_reduce (hf : P.fns "_law_reduce" = some Ev.Q.f__law_reduce) (hv : P.fns "_law_divisor" = some Ev.Q.f__law_divisor) {a b : Int} (h : b ≠ 0) (ba : Bd 8900 a) (bb : Bd 8900 b) (q : Q (.tup [.int (rdN a b), .int (rdD a b)]) μ) : WP (call P (n + 2) "_law_reduce" [.int a, .int b]) μ Q X := by
  have hg := gcd_pos (n := a) h
  have dg : DivOk (Int.gcd a b : Int) := Bd.div (by omega) (Bd.gcd h bb) (by decide)
  refine w_fn hf rfl ?_
  show WQ (evSL _ _ Ev.Q.b__law_reduce [some (.int a), some (.int b), none, none] _) _ _
  unfold Ev.Q.b__law_reduce
  walk_at "ev"
  refine w_divisor hv a b ?_
  walk_at "ev"
  · unfold rdN rdD sgn at q
    rw [if_pos (by assumption)] at q
    exact q
  · unfold rdN rdD sgn at q
    rw [if_neg (by omega)] at q
    exact q
end
end Ev

namespace Ev
open PySem
/-! ## Sums of floors -/
/-- the sum of (a k + b) // m over k < n -/
def fsum (a b m : Int) : Nat → Int
  | 0 => 0
  | n + 1 => fsum a b m n + (a * n + b).fdiv m
theorem fdiv_unique {x y q : Int} (h : 0 < y) (h1 : q * y ≤ x) (h2 : x < (q + 1) * y) : x.fdiv y = q := by
  obtain ⟨g1, g2⟩ := fl_spec x h
  by_cases hc : x.fdiv y < q
  · have : (x.fdiv y + 1) * y ≤ q * y := Int.mul_le_mul_of_nonneg_right (by omega) (by omega)
    omega
  · by_cases hc2 : q < x.fdiv y
    · have : (q + 1) * y ≤ x.fdiv y * y := Int.mul_le_mul_of_nonneg_right (by omega) (by omega)
      omega
    · omega
theorem fdiv_cross {x y x' y' : Int} (h : 0 < y) (h' : 0 < y') (e : x * y' = x' * y) : x.fdiv y = x'.fdiv y' := by
  obtain ⟨g1, g2⟩ := fl_spec x' h'
  refine fdiv_unique h ?_ ?_
  · have k1 : x'.fdiv y' * y' * y ≤ x' * y := Int.mul_le_mul_of_nonneg_right g1 (by omega)
    have k2 : x'.fdiv y' * y * y' = x'.fdiv y' * y' * y := by grind
    exact Int.le_of_mul_le_mul_right (by rw [k2, e]; exact k1) h'
  · have k1 : x' * y < (x'.fdiv y' + 1) * y' * y := Int.mul_lt_mul_of_pos_right g2 h
    have k2 : (x'.fdiv y' + 1) * y * y' = (x'.fdiv y' + 1) * y' * y := by grind
    exact Int.lt_of_mul_lt_mul_right (by rw [k2, e]; exact k1) (by omega)
theorem fdiv_add {x y k : Int} (h : 0 < y) : (x + k * y).fdiv y = x.fdiv y + k := by
  obtain ⟨g1, g2⟩ := fl_spec x h
  refine fdiv_unique h ?_ ?_
  · rw [Int.add_mul]
    omega
  · have : (x.fdiv y + k + 1) * y = (x.fdiv y + 1) * y + k * y := by grind
    omega
/-- k (k - 1) // 2 -/
def tri : Nat → Int
  | 0 => 0
  | n + 1 => tri n + n
theorem tri_two : ∀ n : Nat, 2 * tri n = (n : Int) * (n - 1)
  | 0 => rfl
  | n + 1 => by
    have := tri_two n
    show 2 * (tri n + n) = _
    have e : ((n + 1 : Nat) : Int) = n + 1 := rfl
    rw [e]
    grind
theorem tri_eq (n : Nat) : ((n : Int) * (n - 1)).fdiv 2 = tri n := fdiv_unique (by decide) (by have := tri_two n; omega) (by have := tri_two n; omega)
theorem fsum_shift {m : Int} (h : 0 < m) (a b u v : Int) : ∀ n : Nat, fsum (a + u * m) (b + v * m) m n = fsum a b m n + u * tri n + v * n
  | 0 => by simp [fsum, tri]
  | n + 1 => by
    show fsum (a + u * m) (b + v * m) m n + _ = fsum a b m n + _ + u * (tri n + n) + v * ((n : Int) + 1)
    have e : (a + u * m) * (n : Int) + (b + v * m) = (a * n + b) + (u * n + v) * m := by grind
    rw [fsum_shift h a b u v n, e, fdiv_add h]
    grind
theorem fsum_zero {a b m : Int} (h : 0 < m) (ha : 0 ≤ a) (hb : 0 ≤ b) : ∀ n : Nat, a * ((n : Int) - 1) + b < m → fsum a b m n = 0
  | 0, _ => rfl
  | n + 1, ht => by
    have e : ((n + 1 : Nat) : Int) - 1 = n := by omega
    rw [e] at ht
    have h0 : 0 ≤ a * (n : Int) := Int.mul_nonneg ha (by omega)
    have h1 : (a * (n : Int) + b).fdiv m = 0 := fdiv_unique h (by omega) (by omega)
    have h2 : a * ((n : Int) - 1) + b < m := by
      have : a * ((n : Int) - 1) = a * n - a := by grind
      omega
    show fsum a b m n + _ = 0
    rw [fsum_zero h ha hb n h2, h1]
    rfl
/-- rows and columns: both count the same points -/
theorem fsum_swap {a b m : Int} (ha : 0 < a) (ham : a < m) (hb : 0 ≤ b) (hbm : b < m) : ∀ (n : Nat) (R : Nat), (R : Int) = (a * (n : Int) + b).fdiv m → fsum a b m (n + 1) = R * ((n : Int) + 1) - fsum m (m - b + a - 1) a R
  | 0, R, hR => by
    have h0 : (a * ((0 : Nat) : Int) + b).fdiv m = 0 := fdiv_unique (by omega) (by simp; omega) (by simp; omega)
    rw [h0] at hR
    have : R = 0 := by omega
    subst this
    show fsum a b m 0 + (a * ((0 : Nat) : Int) + b).fdiv m = _
    rw [h0]
    simp [fsum]
  | n + 1, R, hR => by
    have hm : 0 < m := by omega
    have e1 : a * ((n + 1 : Nat) : Int) + b = (a * n + b) + a := by
      have : ((n + 1 : Nat) : Int) = n + 1 := rfl
      rw [this]
      grind
    obtain ⟨g1, g2⟩ := fl_spec (a * (n : Int) + b) hm
    obtain ⟨f1, f2⟩ := fl_spec (a * ((n + 1 : Nat) : Int) + b) hm
    have hn : 0 ≤ a * (n : Int) := Int.mul_nonneg (by omega) (by omega)
    have hpos : 0 ≤ (a * (n : Int) + b).fdiv m := Int.fdiv_nonneg (by omega) (by omega)
    obtain ⟨r, hr⟩ := Int.eq_ofNat_of_zero_le hpos
    have ih := fsum_swap ha ham hb hbm n r hr.symm
    rw [← hR] at f1 f2
    rw [hr] at g1 g2
    show fsum a b m (n + 1) + (a * ((n + 1 : Nat) : Int) + b).fdiv m = _
    rw [ih, ← hR]
    have hcase : R = r ∨ R = r + 1 := by
      by_cases h1 : R < r
      · have : ((R : Int) + 1) * m ≤ (r : Int) * m := Int.mul_le_mul_of_nonneg_right (by omega) (by omega)
        omega
      · by_cases h2 : r + 1 < R
        · have h3 : ((r : Int) + 2) * m ≤ (R : Int) * m := Int.mul_le_mul_of_nonneg_right (by omega) (by omega)
          have h4 : ((r : Int) + 2) * m = ((r : Int) + 1) * m + m := by grind
          omega
        · omega
    have e2 : ((n + 1 : Nat) : Int) = n + 1 := rfl
    rcases hcase with rfl | rfl
    · rw [e2]
      grind
    · have e3 : ((r + 1 : Nat) : Int) = r + 1 := rfl
      rw [e3] at f1 f2
      have hg : (m * (r : Int) + (m - b + a - 1)).fdiv a = (n : Int) + 1 := by
        refine fdiv_unique ha ?_ ?_
        · grind
        · grind
      show _ = ((r + 1 : Nat) : Int) * _ - (fsum m (m - b + a - 1) a r + (m * (r : Int) + (m - b + a - 1)).fdiv a)
      rw [hg, e2, e3]
      grind
theorem fsum_congr {a b m a' b' m' : Int} (h : 0 < m) (h' : 0 < m') (e : ∀ k : Int, (a * k + b) * m' = (a' * k + b') * m) : ∀ n : Nat, fsum a b m n = fsum a' b' m' n
  | 0 => rfl
  | n + 1 => by
    show fsum a b m n + _ = fsum a' b' m' n + _
    rw [fsum_congr h h' e n, fdiv_cross h h' (e n)]
theorem fsum_split (a b m : Int) (f : Nat) : ∀ j : Nat, fsum a b m (f + j) = fsum a b m f + fsum a (a * f + b) m j
  | 0 => by simp [fsum]
  | j + 1 => by
    show fsum a b m (f + j) + (a * ((f + j : Nat) : Int) + b).fdiv m = _ + (fsum a (a * f + b) m j + (a * (j : Int) + (a * f + b)).fdiv m)
    rw [fsum_split a b m f j]
    have e : a * ((f + j : Nat) : Int) + b = a * (j : Int) + (a * f + b) := by
      rw [Int.natCast_add]
      grind
    rw [e]
    omega
theorem fsum_rev (a m : Int) : ∀ (n : Nat) (b : Int), fsum (-a) (b + a * ((n : Int) - 1)) m n = fsum a b m n
  | 0, b => rfl
  | n + 1, b => by
    have e1 : ((n + 1 : Nat) : Int) - 1 = n := by omega
    rw [e1]
    show fsum (-a) (b + a * n) m n + (-a * (n : Int) + (b + a * n)).fdiv m = _
    have e2 : b + a * (n : Int) = (b + a) + a * ((n : Int) - 1) := by grind
    have e3 : -a * (n : Int) + (b + a * n) = b := by grind
    rw [e3, e2, fsum_rev a m n (b + a)]
    have e4 := fsum_split a b m 1 n
    rw [Nat.add_comm 1 n] at e4
    rw [e4]
    have e5 : fsum a b m 1 = b.fdiv m := by
      show 0 + (a * ((0 : Nat) : Int) + b).fdiv m = _
      simp
    have e6 : a * ((1 : Nat) : Int) + b = b + a := by grind
    rw [e5, e6]
    omega
theorem fdiv_mirror {x m : Int} (h : 0 < m) : (m - 1 - x).fdiv m = -(x.fdiv m) := by
  obtain ⟨g1, g2⟩ := fl_spec x h
  refine fdiv_unique h ?_ ?_
  · have : (x.fdiv m + 1) * m = x.fdiv m * m + m := by grind
    rw [Int.neg_mul]
    omega
  · have : (x.fdiv m + 1) * m = x.fdiv m * m + m := by grind
    have e : (-(x.fdiv m) + 1) * m = -(x.fdiv m * m) + m := by grind
    omega
theorem fsum_mirror {a b m : Int} (h : 0 < m) : ∀ n : Nat, fsum (-a) (m - 1 - b) m n = -fsum a b m n
  | 0 => rfl
  | n + 1 => by
    show fsum (-a) (m - 1 - b) m n + (-a * (n : Int) + (m - 1 - b)).fdiv m = -(fsum a b m n + _)
    have e : -a * (n : Int) + (m - 1 - b) = m - 1 - (a * n + b) := by grind
    rw [fsum_mirror h n, e, fdiv_mirror h]
    omega
/-- the sum of floors of p/q k + r/s -/
def FS (n : Nat) (p q r s : Int) : Int := fsum (p * s) (r * q) (q * s) n
theorem rd_cross {n d : Int} (h : 0 < d) : rdN n d * d = n * rdD n d ∧ 0 < rdD n d := by
  obtain ⟨g, g0, e1, e2, p⟩ := rd_spec (n := n) (d := d) (by omega)
  have : sgn d = 1 := if_pos h
  rw [this, Int.one_mul] at e1 e2
  refine ⟨Int.eq_of_mul_eq_mul_right (a := g) (by omega) ?_, p⟩
  grind
theorem FS_eq {n : Nat} {p q r s p' q' r' s' : Int} (hq : 0 < q) (hs : 0 < s) (hq' : 0 < q') (hs' : 0 < s') (e1 : p * q' = p' * q) (e2 : r * s' = r' * s) : FS n p q r s = FS n p' q' r' s' := by
  refine fsum_congr (Int.mul_pos hq hs) (Int.mul_pos hq' hs') (fun k => ?_) n
  grind
section
variable {P : Pg} {n : Nat} {μ : Mu} {Q : D → Mu → Prop} {X : Exn → Mu → Prop}
theorem b_min {i j : Int} (q : Q (.int (if j < i then j else i)) μ) : WP (biOp .min [.int i, .int j]) μ Q X := q
theorem b_sum {ds : List D} {v : Int} (h : sumInts ds = some v) (q : Q (.int v) μ) : WP (biOp .sum [.lst ds]) μ Q X :=
  wp_rd ⟨_, by show (sumInts ds).map _ = _; rw [h]; rfl, q⟩
abbrev frac (p q : Int) : D := .tup [.int p, .int q]
abbrev rdF (n d : Int) : D := frac (rdN n d) (rdD n d)
variable {p q a b k : Int}
theorem wl_sub (hf : P.fns "_law_subtract" = some Ev.Q.f__law_subtract) (hr : P.fns "_law_reduce" = some Ev.Q.f__law_reduce) (hv : P.fns "_law_divisor" = some Ev.Q.f__law_divisor) (h : q * b ≠ 0) (b1 : Bd 900 p) (b2 : Bd 900 q) (b3 : Bd 900 a) (b4 : Bd 900 b) (z : Q (rdF (p * b - a * q) (q * b)) μ) :
    WP (call P (n + 3) "_law_subtract" [frac p q, frac a b]) μ Q X := by
  refine w_fn hf rfl ?_
  show WQ (evSL _ _ Ev.Q.b__law_subtract [some (frac p q), some (frac a b)] _) _ _
  unfold Ev.Q.b__law_subtract
  walk_at "ev"
  refine w_reduce hr hv h (((b1.mul b4).sub (b3.mul b2)).mono (by decide)) ((b2.mul b4).mono (by decide)) ?_
  walk_at "ev"
  exact z
theorem wl_add (hf : P.fns "_law_add" = some Ev.Q.f__law_add) (hr : P.fns "_law_reduce" = some Ev.Q.f__law_reduce) (hv : P.fns "_law_divisor" = some Ev.Q.f__law_divisor) (h : q * b ≠ 0) (b1 : Bd 900 p) (b2 : Bd 900 q) (b3 : Bd 900 a) (b4 : Bd 900 b) (z : Q (rdF (p * b + a * q) (q * b)) μ) :
    WP (call P (n + 3) "_law_add" [frac p q, frac a b]) μ Q X := by
  refine w_fn hf rfl ?_
  show WQ (evSL _ _ Ev.Q.b__law_add [some (frac p q), some (frac a b)] _) _ _
  unfold Ev.Q.b__law_add
  walk_at "ev"
  refine w_reduce hr hv h (((b1.mul b4).add (b3.mul b2)).mono (by decide)) ((b2.mul b4).mono (by decide)) ?_
  walk_at "ev"
  exact z
theorem wl_times (hf : P.fns "_law_times" = some Ev.Q.f__law_times) (hr : P.fns "_law_reduce" = some Ev.Q.f__law_reduce) (hv : P.fns "_law_divisor" = some Ev.Q.f__law_divisor) (h : q ≠ 0) (b0 : Bd 1900 k) (b1 : Bd 1900 p) (b2 : Bd 1900 q) (z : Q (rdF (k * p) q) μ) :
    WP (call P (n + 3) "_law_times" [.int k, frac p q]) μ Q X := by
  refine w_fn hf rfl ?_
  show WQ (evSL _ _ Ev.Q.b__law_times [some (.int k), some (frac p q)] _) _ _
  unfold Ev.Q.b__law_times
  walk_at "ev"
  refine w_reduce hr hv h ((b0.mul b1).mono (by decide)) (b2.mono (by decide)) ?_
  walk_at "ev"
  exact z
theorem wl_floor (hf : P.fns "_law_floor" = some Ev.Q.f__law_floor) (h : DivOk q) (z : Q (.int (p.fdiv q)) μ) : WP (call P (n + 1) "_law_floor" [frac p q]) μ Q X := by
  refine w_fn hf rfl ?_
  show WQ (evSL _ _ Ev.Q.b__law_floor [some (frac p q)] _) _ _
  unfold Ev.Q.b__law_floor
  walk_at "ev"
  exact z
theorem w_comden (hf : P.fns "common_denominator" = some Ev.Q.f_common_denominator) (hd : P.fns "divisor_of" = some Ev.Q.f_divisor_of) {r s : Int} (hq : 0 < q) (hs : 0 < s) (b1 : Bd 900 q) (b2 : Bd 900 s) (z : ∀ L u v : Int, 0 < L → L = q * u → L = s * v → 0 < u → 0 < v → L ≤ q * s → Q (.int L) μ) :
    WP (call P (n + 2) "common_denominator" [.lst [frac p q, frac r s]]) μ Q X := by
  have hg := gcd_pos (n := q) (d := s) (by omega)
  have g1 : Int.gcd 1 q = 1 := by simp
  refine w_fn hf rfl ?_
  show WQ (evSL _ _ Ev.Q.b_common_denominator [some (.lst [frac p q, frac r s]), none, none] _) _ _
  unfold Ev.Q.b_common_denominator
  walk_at "ev"
  refine ⟨_, stat_lst _, fun i δ μ' => ∃ t y, δ = [some (.lst [frac p q, frac r s]), some (.int t), y] ∧ μ' = μ ∧ ((i = 0 ∧ t = 1) ∨ (i = 1 ∧ t = q) ∨ (i = 2 ∧ t = q.fdiv (Int.gcd q s) * s)), ⟨_, none, rfl, rfl, .inl ⟨rfl, rfl⟩⟩, ?_, ?_⟩
  · rintro i x δ μ' hx ⟨t, y, rfl, rfl, h⟩
    rcases h with ⟨rfl, rfl⟩ | ⟨rfl, rfl⟩ | ⟨rfl, rfl⟩
    · cases hx
      refine ⟨_, rfl, ?_⟩
      walk_at "ev"
      refine w_divisor_of hd _ _ ?_
      rw [g1]
      have d1 : DivOk ((1 : Nat) : Int) := ⟨by decide, by decide +kernel⟩
      have e1 : (1 : Int).fdiv ((1 : Nat) : Int) = 1 := by decide
      walk_at "ev"
      rw [e1]
      have m1 : MulOk 1 q := Bd.ok (i := 1) (j := 900) (Bd.of (by decide)) b1 (by decide)
      walk_at "ev"
      exact ⟨_, _, rfl, rfl, .inr (.inl ⟨rfl, Int.one_mul q⟩)⟩
    · cases hx
      refine ⟨_, rfl, ?_⟩
      have d1 : DivOk (Int.gcd t s : Int) := Bd.div (by omega) (Bd.gcd (by omega) b2) (by decide)
      have m1 : MulOk (t.fdiv (Int.gcd t s)) s := Bd.ok (Bd.fdiv (by omega) b1) b2 (by decide)
      walk_at "ev"
      refine w_divisor_of hd _ _ ?_
      walk_at "ev"
      exact ⟨_, _, rfl, rfl, .inr (.inr ⟨rfl, rfl⟩)⟩
    · cases hx
  · rintro δ μ' ⟨t, y, rfl, rfl, h⟩
    have ht : t = q.fdiv (Int.gcd q s) * s := by
      rcases h with ⟨h, _⟩ | ⟨h, _⟩ | ⟨_, h⟩
      · cases h
      · cases h
      · exact h
    walk_at "ev"
    obtain ⟨q', hq'⟩ := Int.gcd_dvd_left q s
    obtain ⟨s', hs'⟩ := Int.gcd_dvd_right q s
    have hgI : (0 : Int) < (Int.gcd q s : Int) := by omega
    have p1 : 0 < q' := Int.pos_of_mul_pos_right (by rw [← hq']; exact hq) hgI
    have p2 : 0 < s' := Int.pos_of_mul_pos_right (by rw [← hs']; exact hs) hgI
    have e1 : q.fdiv (Int.gcd q s) = q' := fdiv_unique hgI (by rw [Int.mul_comm, ← hq']; exact Int.le_refl _) (by rw [Int.add_mul, Int.mul_comm q', ← hq']; omega)
    rw [e1] at ht
    refine z t s' q' (by rw [ht]; exact Int.mul_pos p1 hs) ?_ (by rw [ht, Int.mul_comm]) p2 p1 ?_
    · rw [ht]
      generalize (Int.gcd q s : Int) = g at *
      grind
    · rw [ht]
      refine Int.mul_le_mul_of_nonneg_right ?_ (by omega)
      generalize (Int.gcd q s : Int) = g at *
      have : 1 * q' ≤ g * q' := Int.mul_le_mul_of_nonneg_right (by omega) (by omega)
      omega
end
end Ev

namespace Ev
open Ev.Q PySem
/-! ## Fractions as rational numbers -/
def fr (x : Rat) : D := .tup [.int x.num, .int (x.den : Int)]
structure BR (k : Nat) (x : Rat) : Prop where
  n : Bd k x.num
  d : Bd k (x.den : Int)
theorem dpos (x : Rat) : 0 < (x.den : Int) := by
  have := x.den_nz
  omega
theorem dne (x : Rat) : (x.den : Int) ≠ 0 := by
  have := x.den_nz
  omega
theorem rdN_eq {a b : Int} (h : b ≠ 0) : rdN a b = (Rat.divInt a b).num := by
  unfold rdN
  rw [Rat.num_divInt, Int.fdiv_eq_ediv_of_nonneg _ (by omega), Int.gcd_comm]
  have e : sgn b = b.sign := by
    unfold sgn
    split
    · rw [Int.sign_eq_one_of_pos (by assumption)]
    · rw [Int.sign_eq_neg_one_of_neg (by omega)]
  rw [e]
theorem rdD_eq {a b : Int} (h : b ≠ 0) : rdD a b = ((Rat.divInt a b).den : Int) := by
  unfold rdD
  rw [Rat.den_divInt, if_neg h, Int.fdiv_eq_ediv_of_nonneg _ (by omega), Int.gcd_comm]
  have e : sgn b * b = (b.natAbs : Int) := by
    unfold sgn
    split <;> omega
  rw [e]
  rfl
theorem fr_rd {a b : Int} (h : b ≠ 0) : D.tup [.int (rdN a b), .int (rdD a b)] = fr (Rat.divInt a b) := by
  unfold fr
  rw [rdN_eq h, rdD_eq h]
theorem BR.of {k : Nat} {a b : Int} (h : b ≠ 0) (ba : Bd k a) (bb : Bd k b) : BR k (Rat.divInt a b) :=
  ⟨by rw [← rdN_eq h]; exact Bd.rdN h ba, by rw [← rdD_eq h]; exact Bd.rdD h bb⟩
theorem BR.mono {i j : Nat} {x : Rat} (h : BR i x) (k : i ≤ j) : BR j x := ⟨h.n.mono k, h.d.mono k⟩
theorem add_eq (x y : Rat) : Rat.divInt (x.num * y.den + y.num * x.den) (x.den * y.den) = x + y := by
  rw [← Rat.divInt_add_divInt _ _ (dne x) (dne y), Rat.num_divInt_den, Rat.num_divInt_den]
theorem sub_eq (x y : Rat) : Rat.divInt (x.num * y.den - y.num * x.den) (x.den * y.den) = x - y := by
  rw [← Rat.divInt_sub_divInt _ _ (dne x) (dne y), Rat.num_divInt_den, Rat.num_divInt_den]
theorem mul_eq (x y : Rat) : Rat.divInt (x.num * y.num) (x.den * y.den) = x * y := by
  rw [← Rat.divInt_mul_divInt, Rat.num_divInt_den, Rat.num_divInt_den]
theorem div_eq (x y : Rat) : Rat.divInt (x.num * y.den) (x.den * y.num) = x / y := by
  rw [Rat.div_def, Rat.inv_def, ← Rat.divInt_mul_divInt, Rat.num_divInt_den]
theorem tim_eq (k : Int) (x : Rat) : Rat.divInt (k * x.num) x.den = k * x := by
  have := mul_eq (k : Rat) x
  simpa using this
theorem divInt_one (a : Int) : Rat.divInt a 1 = (a : Rat) := by
  have := Rat.num_divInt_den (a : Rat)
  simpa using this
theorem num_ne {x : Rat} (h : x ≠ 0) : x.num ≠ 0 := fun z => h (Rat.num_eq_zero.mp z)
theorem BR.add {i j : Nat} {x y : Rat} (h : BR i x) (g : BR j y) : BR (i + j + 1) (x + y) := by
  rw [← add_eq]
  exact BR.of (Int.mul_ne_zero (dne x) (dne y)) (((h.n.mul g.d).add (g.n.mul h.d)).mono (by omega)) ((h.d.mul g.d).mono (by omega))
theorem BR.sub {i j : Nat} {x y : Rat} (h : BR i x) (g : BR j y) : BR (i + j + 1) (x - y) := by
  rw [← sub_eq]
  exact BR.of (Int.mul_ne_zero (dne x) (dne y)) (((h.n.mul g.d).sub (g.n.mul h.d)).mono (by omega)) ((h.d.mul g.d).mono (by omega))
theorem BR.mul {i j : Nat} {x y : Rat} (h : BR i x) (g : BR j y) : BR (i + j) (x * y) := by
  rw [← mul_eq]
  exact BR.of (Int.mul_ne_zero (dne x) (dne y)) (h.n.mul g.n) (h.d.mul g.d)
theorem BR.div {i j : Nat} {x y : Rat} (h : BR i x) (g : BR j y) (ny : y ≠ 0) : BR (i + j) (x / y) := by
  rw [← div_eq]
  exact BR.of (Int.mul_ne_zero (dne x) (num_ne ny)) (h.n.mul g.d) (h.d.mul g.n)
theorem BR.int {k : Nat} {a : Int} (h : Bd (k + 1) a) : BR (k + 1) (a : Rat) := ⟨by simpa using h, Bd.of (by
  show ((1 : Nat) : Int).natAbs < 2 ^ (k + 1)
  rw [Nat.pow_succ]
  have : 0 < 2 ^ k := Nat.pow_pos (by decide)
  show 1 < _
  omega)⟩
theorem BR.tim {i j : Nat} {k : Int} {x : Rat} (h : Bd i k) (g : BR j x) : BR (i + j) (k * x) := by
  rw [← tim_eq]
  exact BR.of (dne x) (h.mul g.n) (g.d.mono (by omega))
theorem floor_fdiv (x : Rat) : x.num.fdiv x.den = x.floor := by
  rw [Rat.floor_def, Int.fdiv_eq_ediv_of_nonneg _ (by omega)]
theorem BR.floor {k : Nat} {x : Rat} (h : BR k x) : Bd k x.floor := by
  rw [← floor_fdiv]
  exact Bd.fdiv (dpos x) h.n
section
variable {P : Pg} {n : Nat} {μ : Mu} {Q : D → Mu → Prop} {X : Exn → Mu → Prop}
theorem w_redR [H__law_reduce P] [H__law_divisor P] {a b : Int} (h : b ≠ 0) (ba : Bd 8900 a) (bb : Bd 8900 b) (q : Q (fr (Rat.divInt a b)) μ) : WP (call P (n + 2) "_law_reduce" [.int a, .int b]) μ Q X :=
  w_reduce Has.out Has.out h ba bb (by rw [fr_rd h]; exact q)
theorem fdiv_exN {a g : Int} (h : g ∣ a) (hg : 0 < g) : a.fdiv (-g) = (-a).fdiv g := by
  obtain ⟨k, rfl⟩ := h
  rw [show g * k = (-g) * (-k) by rw [Int.neg_mul_neg], Int.mul_fdiv_cancel_left _ (by omega), show -((-g) * (-k)) = g * (-k) by grind, Int.mul_fdiv_cancel_left _ (by omega)]
theorem w_fraction [H_fraction P] [H_divisor_of P] {a b : Int} (h : b ≠ 0) (ba : Bd 8900 a) (bb : Bd 8900 b) (q : Q (fr (Rat.divInt a b)) μ) : WP (call P (n + 2) "fraction" [.int a, .int b]) μ Q X := by
  have hg := gcd_pos (n := a) h
  have dg : DivOk (Int.gcd a b : Int) := Bd.div (by omega) (Bd.gcd h bb) (by decide)
  have dn : DivOk (-(Int.gcd a b : Int)) := ⟨by omega, by rw [Int.natAbs_neg]; exact dg.2⟩
  have ga : (Int.gcd a b : Int) ∣ a := Int.gcd_dvd_left a b
  have gb : (Int.gcd a b : Int) ∣ b := Int.gcd_dvd_right a b
  refine w_fn (fn := Ev.Q.f_fraction) Has.out rfl ?_
  show WQ (evSL _ _ Ev.Q.b_fraction [some (.int a), some (.int b), none] _) _ _
  unfold Ev.Q.b_fraction
  walk_at "ev"
  refine w_divisor_of Has.out a b ?_
  walk_at "ev"
  · rw [← fr_rd h] at q
    unfold rdN rdD sgn at q
    rw [if_neg (by omega)] at q
    rw [fdiv_exN ga (by omega), fdiv_exN gb (by omega)]
    rw [show (-1 : Int) * a = -a by omega, show (-1 : Int) * b = -b by omega] at q
    exact q
  · rw [← fr_rd h] at q
    unfold rdN rdD sgn at q
    rw [if_pos (by omega), Int.one_mul, Int.one_mul] at q
    exact q

theorem w_fraction0 [H_fraction P] {a : Int} (q : X ⟨"ZeroDenominator", ["tag"], [.str "ZeroDenominator"]⟩ μ) : WP (call P (n + 1) "fraction" [.int a, .int 0]) μ Q X := by
  refine w_fn (fn := Ev.Q.f_fraction) Has.out rfl ?_
  show WQ (evSL _ _ Ev.Q.b_fraction [some (.int a), some (.int 0), none] _) _ _
  unfold Ev.Q.b_fraction
  walk_at "ev"
  exact ⟨rfl, q⟩
theorem w_fraction1 [H_fraction P] [H_divisor_of P] {a : Int} (ba : Bd 8900 a) (q : Q (fr (a : Rat)) μ) : WP (call P (n + 2) "fraction" [.int a]) μ Q X := by
  have h : (1 : Int) ≠ 0 := by decide
  have := w_fraction (P := P) (n := n) (μ := μ) (Q := Q) (X := X) h ba (Bd.of (by decide)) (by rw [divInt_one]; exact q)
  unfold WP at *
  rw [call_fn (fn := Ev.Q.f_fraction) Has.out rfl] at *
  exact this
section
variable {x y : Rat}
theorem w_add' [H_add P] [H_fraction P] [H_divisor_of P] (bx : BR 4400 x) (b : BR 4400 y) (q : Q (fr (x + y)) μ) : WP (call P (n + 3) "add" [fr x, fr y]) μ Q X := by
  have h := Int.mul_ne_zero (dne x) (dne y)
  have b1 := bx.n
  have b2 := bx.d
  have b3 := b.n
  have b4 := b.d
  refine w_fn (fn := Ev.Q.f_add) Has.out rfl ?_
  show WQ (evSL _ _ Ev.Q.b_add [some (fr x), some (fr y)] _) _ _
  unfold Ev.Q.b_add fr
  walk_at "ev"
  refine w_fraction h (((b1.mul b4).add (b3.mul b2)).mono (by decide)) ((b2.mul b4).mono (by decide)) ?_
  rw [add_eq]
  walk_at "ev"
  exact q
theorem w_subtract [H_subtract P] [H_fraction P] [H_divisor_of P] (bx : BR 4400 x) (b : BR 4400 y) (q : Q (fr (x - y)) μ) : WP (call P (n + 3) "subtract" [fr x, fr y]) μ Q X := by
  have h := Int.mul_ne_zero (dne x) (dne y)
  have b1 := bx.n
  have b2 := bx.d
  have b3 := b.n
  have b4 := b.d
  refine w_fn (fn := Ev.Q.f_subtract) Has.out rfl ?_
  show WQ (evSL _ _ Ev.Q.b_subtract [some (fr x), some (fr y)] _) _ _
  unfold Ev.Q.b_subtract fr
  walk_at "ev"
  refine w_fraction h (((b1.mul b4).sub (b3.mul b2)).mono (by decide)) ((b2.mul b4).mono (by decide)) ?_
  rw [sub_eq]
  walk_at "ev"
  exact q
theorem w_multiply [H_multiply P] [H_fraction P] [H_divisor_of P] (bx : BR 4400 x) (b : BR 4400 y) (q : Q (fr (x * y)) μ) : WP (call P (n + 3) "multiply" [fr x, fr y]) μ Q X := by
  have h := Int.mul_ne_zero (dne x) (dne y)
  have b1 := bx.n
  have b2 := bx.d
  have b3 := b.n
  have b4 := b.d
  refine w_fn (fn := Ev.Q.f_multiply) Has.out rfl ?_
  show WQ (evSL _ _ Ev.Q.b_multiply [some (fr x), some (fr y)] _) _ _
  unfold Ev.Q.b_multiply fr
  walk_at "ev"
  refine w_fraction h ((b1.mul b3).mono (by decide)) ((b2.mul b4).mono (by decide)) ?_
  rw [mul_eq]
  walk_at "ev"
  exact q
theorem w_divide [H_divide P] [H_fraction P] [H_divisor_of P] (bx : BR 4400 x) (b : BR 4400 y) (ny : y ≠ 0) (q : Q (fr (x / y)) μ) : WP (call P (n + 3) "divide" [fr x, fr y]) μ Q X := by
  have h := Int.mul_ne_zero (dne x) (num_ne ny)
  have b1 := bx.n
  have b2 := bx.d
  have b3 := b.n
  have b4 := b.d
  refine w_fn (fn := Ev.Q.f_divide) Has.out rfl ?_
  show WQ (evSL _ _ Ev.Q.b_divide [some (fr x), some (fr y)] _) _ _
  unfold Ev.Q.b_divide fr
  walk_at "ev"
  refine w_fraction h ((b1.mul b4).mono (by decide)) ((b2.mul b3).mono (by decide)) ?_
  rw [div_eq]
  walk_at "ev"
  exact q
theorem w_divide0 [H_divide P] [H_fraction P] (bx : BR 4400 x) (q : X ⟨"ZeroDenominator", ["tag"], [.str "ZeroDenominator"]⟩ μ) : WP (call P (n + 2) "divide" [fr x, fr 0]) μ Q X := by
  have b1 := bx.n
  have b2 := bx.d
  refine w_fn (fn := Ev.Q.f_divide) Has.out rfl ?_
  show WQ (evSL _ _ Ev.Q.b_divide [some (fr x), some (fr 0)] _) _ _
  unfold Ev.Q.b_divide fr
  have b3 : Bd 1 (0 : Rat).num := Bd.of (by decide)
  have b4 : Bd 1 ((0 : Rat).den : Int) := Bd.of (by decide)
  walk_at "ev"
  rw [show (x.den : Int) * (0 : Rat).num = 0 from Int.mul_zero _]
  exact w_fraction0 q
theorem lt_iff (x y : Rat) : x.num * y.den < y.num * x.den ↔ x < y := by
  rw [Rat.lt_iff]
theorem w_less [H_is_less P] (bx : BR 4400 x) (b : BR 4400 y) (q : Q (.bl (decide (x < y))) μ) : WP (call P (n + 1) "is_less" [fr x, fr y]) μ Q X := by
  have b1 := bx.n
  have b2 := bx.d
  have b3 := b.n
  have b4 := b.d
  refine w_fn (fn := Ev.Q.f_is_less) Has.out rfl ?_
  show WQ (evSL _ _ Ev.Q.b_is_less [some (fr x), some (fr y)] _) _ _
  unfold Ev.Q.b_is_less fr
  walk_at "ev"
  rw [decide_eq_decide.mpr (lt_iff x y)]
  exact q
theorem w_floor_of [H_floor_of P] (bx : BR 4400 x) (q : Q (.int x.floor) μ) : WP (call P (n + 1) "floor_of" [fr x]) μ Q X := by
  have b2 := bx.d
  have d := Bd.div (dne x) b2 (by decide)
  refine w_fn (fn := Ev.Q.f_floor_of) Has.out rfl ?_
  show WQ (evSL _ _ Ev.Q.b_floor_of [some (fr x)] _) _ _
  unfold Ev.Q.b_floor_of fr
  walk_at "ev"
  rw [floor_fdiv]
  exact q
theorem w_ceiling_of [H_ceiling_of P] (bx : BR 4400 x) (q : Q (.int x.ceil) μ) : WP (call P (n + 1) "ceiling_of" [fr x]) μ Q X := by
  have b2 := bx.d
  have d := Bd.div (dne x) b2 (by decide)
  refine w_fn (fn := Ev.Q.f_ceiling_of) Has.out rfl ?_
  show WQ (evSL _ _ Ev.Q.b_ceiling_of [some (fr x)] _) _ _
  unfold Ev.Q.b_ceiling_of fr
  walk_at "ev"
  rw [show -x.num = (-x).num from rfl, show (x.den : Int) = ((-x).den : Int) from rfl, floor_fdiv, ← Rat.ceil_eq_neg_floor_neg]
  exact q
theorem w_times [H_times P] [H_fraction P] [H_divisor_of P] {k : Int} (bk : Bd 4400 k) (b : BR 4400 x) (q : Q (fr (k * x)) μ) : WP (call P (n + 3) "times" [.int k, fr x]) μ Q X := by
  have b3 := b.n
  have b4 := b.d
  refine w_fn (fn := Ev.Q.f_times) Has.out rfl ?_
  show WQ (evSL _ _ Ev.Q.b_times [some (.int k), some (fr x)] _) _ _
  unfold Ev.Q.b_times fr
  walk_at "ev"
  refine w_fraction (dne x) ((bk.mul b3).mono (by decide)) (b4.mono (by decide)) ?_
  rw [tim_eq]
  walk_at "ev"
  exact q
/-- what is left of x when y is taken as often as it fits -/
def rmd (x y : Rat) : Rat := x - (x / y).floor * y
theorem BR.rmd {i j : Nat} (h : BR i x) (g : BR j y) (ny : y ≠ 0) : BR (2 * i + 2 * j + 1) (rmd x y) :=
  (h.sub (BR.tim (h.div g ny).floor g)).mono (by omega)
theorem w_remainder [H_remainder P] [H_subtract P] [H_times P] [H_floor_of P] [H_divide P] [H_fraction P] [H_divisor_of P] (bx : BR 1400 x) (b : BR 1400 y) (ny : y ≠ 0) (q : Q (fr (rmd x y)) μ) : WP (call P (n + 4) "remainder" [fr x, fr y]) μ Q X := by
  refine w_fn (fn := Ev.Q.f_remainder) Has.out rfl ?_
  show WQ (evSL _ _ Ev.Q.b_remainder [some (fr x), some (fr y)] _) _ _
  unfold Ev.Q.b_remainder
  walk_at "ev"
  refine w_divide (bx.mono (by decide)) (b.mono (by decide)) ny ?_
  walk_at "ev"
  refine w_floor_of ((bx.div b ny).mono (by decide)) ?_
  walk_at "ev"
  refine w_times ((bx.div b ny).floor.mono (by decide)) (b.mono (by decide)) ?_
  walk_at "ev"
  refine w_subtract (bx.mono (by decide)) ((BR.tim (bx.div b ny).floor b).mono (by decide)) ?_
  walk_at "ev"
  exact q
theorem w_remainder0 [H_remainder P] [H_divide P] [H_fraction P] (bx : BR 1400 x) (q : X ⟨"ZeroDenominator", ["tag"], [.str "ZeroDenominator"]⟩ μ) : WP (call P (n + 3) "remainder" [fr x, fr 0]) μ Q X := by
  refine w_fn (fn := Ev.Q.f_remainder) Has.out rfl ?_
  show WQ (evSL _ _ Ev.Q.b_remainder [some (fr x), some (fr 0)] _) _ _
  unfold Ev.Q.b_remainder
  walk_at "ev"
  exact w_divide0 (bx.mono (by decide)) q
/-! the law's own -/
theorem l_add [H__law_add P] [H__law_reduce P] [H__law_divisor P] (bx : BR 4400 x) (b : BR 4400 y) (q : Q (fr (x + y)) μ) : WP (call P (n + 3) "_law_add" [fr x, fr y]) μ Q X := by
  have h := Int.mul_ne_zero (dne x) (dne y)
  have b1 := bx.n
  have b2 := bx.d
  have b3 := b.n
  have b4 := b.d
  refine w_fn (fn := Ev.Q.f__law_add) Has.out rfl ?_
  show WQ (evSL _ _ Ev.Q.b__law_add [some (fr x), some (fr y)] _) _ _
  unfold Ev.Q.b__law_add fr
  walk_at "ev"
  refine w_redR h (((b1.mul b4).add (b3.mul b2)).mono (by decide)) ((b2.mul b4).mono (by decide)) ?_
  rw [add_eq]
  walk_at "ev"
  exact q
theorem l_subtract [H__law_subtract P] [H__law_reduce P] [H__law_divisor P] (bx : BR 4400 x) (b : BR 4400 y) (q : Q (fr (x - y)) μ) : WP (call P (n + 3) "_law_subtract" [fr x, fr y]) μ Q X := by
  have h := Int.mul_ne_zero (dne x) (dne y)
  have b1 := bx.n
  have b2 := bx.d
  have b3 := b.n
  have b4 := b.d
  refine w_fn (fn := Ev.Q.f__law_subtract) Has.out rfl ?_
  show WQ (evSL _ _ Ev.Q.b__law_subtract [some (fr x), some (fr y)] _) _ _
  unfold Ev.Q.b__law_subtract fr
  walk_at "ev"
  refine w_redR h (((b1.mul b4).sub (b3.mul b2)).mono (by decide)) ((b2.mul b4).mono (by decide)) ?_
  rw [sub_eq]
  walk_at "ev"
  exact q
theorem l_multiply [H__law_multiply P] [H__law_reduce P] [H__law_divisor P] (bx : BR 4400 x) (b : BR 4400 y) (q : Q (fr (x * y)) μ) : WP (call P (n + 3) "_law_multiply" [fr x, fr y]) μ Q X := by
  have h := Int.mul_ne_zero (dne x) (dne y)
  have b1 := bx.n
  have b2 := bx.d
  have b3 := b.n
  have b4 := b.d
  refine w_fn (fn := Ev.Q.f__law_multiply) Has.out rfl ?_
  show WQ (evSL _ _ Ev.Q.b__law_multiply [some (fr x), some (fr y)] _) _ _
  unfold Ev.Q.b__law_multiply fr
  walk_at "ev"
  refine w_redR h ((b1.mul b3).mono (by decide)) ((b2.mul b4).mono (by decide)) ?_
  rw [mul_eq]
  walk_at "ev"
  exact q
theorem l_divide [H__law_divide P] [H__law_reduce P] [H__law_divisor P] (bx : BR 4400 x) (b : BR 4400 y) (ny : y ≠ 0) (q : Q (fr (x / y)) μ) : WP (call P (n + 3) "_law_divide" [fr x, fr y]) μ Q X := by
  have h := Int.mul_ne_zero (dne x) (num_ne ny)
  have b1 := bx.n
  have b2 := bx.d
  have b3 := b.n
  have b4 := b.d
  refine w_fn (fn := Ev.Q.f__law_divide) Has.out rfl ?_
  show WQ (evSL _ _ Ev.Q.b__law_divide [some (fr x), some (fr y)] _) _ _
  unfold Ev.Q.b__law_divide fr
  walk_at "ev"
  refine w_redR h ((b1.mul b4).mono (by decide)) ((b2.mul b3).mono (by decide)) ?_
  rw [div_eq]
  walk_at "ev"
  exact q
theorem l_less [H__law_less P] (bx : BR 4400 x) (b : BR 4400 y) (q : Q (.bl (decide (x < y))) μ) : WP (call P (n + 1) "_law_less" [fr x, fr y]) μ Q X := by
  have b1 := bx.n
  have b2 := bx.d
  have b3 := b.n
  have b4 := b.d
  refine w_fn (fn := Ev.Q.f__law_less) Has.out rfl ?_
  show WQ (evSL _ _ Ev.Q.b__law_less [some (fr x), some (fr y)] _) _ _
  unfold Ev.Q.b__law_less fr
  walk_at "ev"
  rw [decide_eq_decide.mpr (lt_iff x y)]
  exact q
theorem l_floor [H__law_floor P] (bx : BR 4400 x) (q : Q (.int x.floor) μ) : WP (call P (n + 1) "_law_floor" [fr x]) μ Q X := by
  have b2 := bx.d
  have d := Bd.div (dne x) b2 (by decide)
  refine w_fn (fn := Ev.Q.f__law_floor) Has.out rfl ?_
  show WQ (evSL _ _ Ev.Q.b__law_floor [some (fr x)] _) _ _
  unfold Ev.Q.b__law_floor fr
  walk_at "ev"
  rw [floor_fdiv]
  exact q
theorem l_times [H__law_times P] [H__law_reduce P] [H__law_divisor P] {k : Int} (bk : Bd 4400 k) (b : BR 4400 x) (q : Q (fr (k * x)) μ) : WP (call P (n + 3) "_law_times" [.int k, fr x]) μ Q X := by
  have b3 := b.n
  have b4 := b.d
  refine w_fn (fn := Ev.Q.f__law_times) Has.out rfl ?_
  show WQ (evSL _ _ Ev.Q.b__law_times [some (.int k), some (fr x)] _) _ _
  unfold Ev.Q.b__law_times fr
  walk_at "ev"
  refine w_redR (dne x) ((bk.mul b3).mono (by decide)) (b4.mono (by decide)) ?_
  rw [tim_eq]
  walk_at "ev"
  exact q
theorem l_rest [H__law_rest P] [H__law_subtract P] [H__law_times P] [H__law_floor P] [H__law_divide P] [H__law_reduce P] [H__law_divisor P] (bx : BR 1400 x) (b : BR 1400 y) (ny : y ≠ 0) (q : Q (fr (rmd x y)) μ) : WP (call P (n + 4) "_law_rest" [fr x, fr y]) μ Q X := by
  refine w_fn (fn := Ev.Q.f__law_rest) Has.out rfl ?_
  show WQ (evSL _ _ Ev.Q.b__law_rest [some (fr x), some (fr y)] _) _ _
  unfold Ev.Q.b__law_rest
  walk_at "ev"
  refine l_divide (bx.mono (by decide)) (b.mono (by decide)) ny ?_
  walk_at "ev"
  refine l_floor ((bx.div b ny).mono (by decide)) ?_
  walk_at "ev"
  refine l_times ((bx.div b ny).floor.mono (by decide)) (b.mono (by decide)) ?_
  walk_at "ev"
  refine l_subtract (bx.mono (by decide)) ((BR.tim (bx.div b ny).floor b).mono (by decide)) ?_
  walk_at "ev"
  exact q
end
section
variable {ns : List Int} {c : C} {μs : Mu} {Q : D → Mu → Prop}
theorem w_small [H__law_small P] [H__law_choice P] [H__law_draw P] [H__law_reduce P] [H__law_divisor P] (hr : RngOk ns c) (q : ∀ x c', BR 5 x → RngOk ns c' → Q (fr x) (c' :: μs)) : WP (call P (n + 3) "_law_small" [.ptr 0]) (c :: μs) Q X := by
  refine w_fn (fn := Ev.Q.f__law_small) Has.out rfl ?_
  show WQ (evSL _ _ Ev.Q.b__law_small [some (.ptr 0)] _) _ _
  unfold Ev.Q.b__law_small
  walk_at "ev"
  refine w_draw Has.out (by decide) ⟨by decide, by decide +kernel⟩ hr fun u c1 u0 u1 hr1 => ?_
  walk_at "ev"
  refine w_choice Has.out Has.out (by simp) (by simp) hr1 fun y c2 hy hr2 => ?_
  obtain ⟨d, rfl, hd⟩ : ∃ d : Int, y = .int d ∧ 0 < d ∧ d < 5 := by
    simp only [List.mem_cons, List.not_mem_nil, or_false] at hy
    rcases hy with h | h | h | h | h <;> exact ⟨_, h, by decide, by decide⟩
  have b1 : Bd 5 (u - 12) := Bd.of (by omega)
  have b2 : Bd 5 d := Bd.of (by omega)
  walk_at "ev"
  refine w_redR (by omega) (b1.mono (by decide)) (b2.mono (by decide)) ?_
  walk_at "ev"
  exact q _ _ (BR.of (by omega) b1 b2) hr2
theorem w_wide [H__law_wide P] [H__law_small P] [H__law_choice P] [H__law_draw P] [H__law_reduce P] [H__law_divisor P] (hr : RngOk ns c) (q : ∀ x c', BR 41 x → RngOk ns c' → Q (fr x) (c' :: μs)) : WP (call P (n + 4) "_law_wide" [.ptr 0]) (c :: μs) Q X := by
  refine w_fn (fn := Ev.Q.f__law_wide) Has.out rfl ?_
  show WQ (evSL _ _ Ev.Q.b__law_wide [some (.ptr 0), none] _) _ _
  unfold Ev.Q.b__law_wide
  walk_at "ev"
  refine w_draw Has.out (by decide) ⟨by decide, by decide +kernel⟩ hr fun u c1 u0 u1 hr1 => ?_
  walk_at "ev"
  refine w_draw Has.out (by decide) ⟨by decide, by decide +kernel⟩ hr1 fun v c2 v0 v1 hr2 => ?_
  have e12 : (10 : Int) ^ Int.toNat 12 = 1000000000000 := by decide
  rw [e12] at u1 v1
  have b1 : Bd 41 (u - 10 ^ Int.toNat 12 + 1) := Bd.of (by rw [e12]; omega)
  have b2 : Bd 41 (1 + v) := Bd.of (by omega)
  walk_at "ev"
  refine w_redR (by omega) (b1.mono (by decide)) (b2.mono (by decide)) ?_
  walk_at "ev"
  refine w_small hr2 fun x1 c3 h1 hr3 => ?_
  walk_at "ev"
  refine w_small hr3 fun x2 c4 h2 hr4 => ?_
  walk_at "ev"
  refine w_choice Has.out Has.out (by simp) (by simp) hr4 fun y c5 hy hr5 => ?_
  walk_at "ev"
  simp only [List.mem_cons, List.not_mem_nil, or_false] at hy
  rcases hy with h | h | h | h | h | h
  · rw [h]; exact q _ _ (BR.of (by omega) b1 b2) hr5
  · rw [h]; exact q _ _ (h1.mono (by decide)) hr5
  · rw [h]; exact q _ _ (h2.mono (by decide)) hr5
  · rw [h]; exact q 0 _ ⟨Bd.of (by decide), Bd.of (by decide)⟩ hr5
  · rw [h]; exact q 1 _ ⟨Bd.of (by decide), Bd.of (by decide)⟩ hr5
  · rw [h, e12]; exact q 999999999999 _ ⟨Bd.of (by decide +kernel), Bd.of (by decide +kernel)⟩ hr5
end
end
end Ev

namespace Ev
open Ev.Q PySem
/-! ## Equal data told apart from nothing; rows of fractions -/
theorem plain_atom {k : Nat} {p : PyData} (h : p.depth = 0) : p.depth ≤ k := by omega
theorem plain_py : ∀ (k : Nat) (d : D), plainD k d = true → ∃ p, toPy d = some p ∧ p.canLay0 = true ∧ p.depth ≤ k
  | k, .non, _ => ⟨.none, rfl, rfl, Nat.zero_le _⟩
  | k, .bl b, _ => ⟨.bool b, rfl, rfl, Nat.zero_le _⟩
  | k, .int i, _ => ⟨.int i, rfl, rfl, Nat.zero_le _⟩
  | k, .str x, h => ⟨.str x, rfl, SeqAt.canLay_of_shaped (by cases k <;> exact h), Nat.zero_le _⟩
  | k + 1, .tup ds, h => by
    have h' : (Nat.ble ds.length 100000 && ds.all (plainD k)) = true := h
    rw [Bool.and_eq_true] at h'
    obtain ⟨ps, e, l, d⟩ := go k ds fun x m => plain_py k x (List.all_eq_true.mp h'.2 x m)
    refine ⟨.tuple ps, by show (toPyL ds).map _ = _; rw [e]; rfl, l, ?_⟩
    show PyData.depthAll ps + 1 ≤ _
    omega
  | k + 1, .lst ds, h => by
    have h' : (Nat.ble ds.length 100000 && ds.all (plainD k)) = true := h
    rw [Bool.and_eq_true] at h'
    obtain ⟨ps, e, l, d⟩ := go k ds fun x m => plain_py k x (List.all_eq_true.mp h'.2 x m)
    refine ⟨.list ps, by show (toPyL ds).map _ = _; rw [e]; rfl, l, ?_⟩
    show PyData.depthAll ps + 1 ≤ _
    omega
  | 0, .tup _, h | 0, .lst _, h => by cases h
  | k, .ptr _, h | k, .ty _, h | k, .exn _ _ _, h | k, .clo _ _, h | k, .obj _ _ _, h | k, .dic _ _, h => by cases k <;> cases h
where
  go (k : Nat) : ∀ ds : List D, (∀ x ∈ ds, ∃ p, toPy x = some p ∧ p.canLay0 = true ∧ p.depth ≤ k) → ∃ ps, toPyL ds = some ps ∧ PyData.canLayAll0 ps = true ∧ PyData.depthAll ps ≤ k
  | [], _ => ⟨[], rfl, rfl, Nat.zero_le _⟩
  | x :: xs, h => by
    obtain ⟨p, e, l, d⟩ := h x (List.mem_cons_self ..)
    obtain ⟨ps, e2, l2, d2⟩ := go k xs fun y m => h y (List.mem_cons_of_mem _ m)
    refine ⟨p :: ps, by rw [toPyL, e, e2], by rw [PyData.canLayAll0, l, l2]; rfl, ?_⟩
    rw [PyData.depthAll]
    omega
theorem eqO_self {d : D} (h : plainD 60 d = true) (neg : Bool) : eqO neg d d = some (!neg) := by
  obtain ⟨p, e, l, dp⟩ := plain_py 60 d h
  have s : SeqAt.shaped p = true := by
    unfold SeqAt.shaped
    rw [l, decide_eq_true (by omega)]
    rfl
  unfold eqO
  rw [e]
  show (if (SeqAt.shaped p && SeqAt.shaped p) = true then some (if neg then !PyData.eqv p p else PyData.eqv p p) else none) = _
  rw [if_pos (by rw [s]; rfl), SeqAt.eqv_refl p l]
  cases neg <;> rfl
theorem plainD_mono : ∀ {i j : Nat} {d : D}, plainD i d = true → i ≤ j → plainD j d = true
  | _, _, .non, _, _ => by unfold plainD; rfl
  | _, _, .bl _, _, _ => by unfold plainD; rfl
  | _, _, .int _, _, _ => by unfold plainD; rfl
  | i, j, .str x, h, _ => by cases i <;> cases j <;> exact h
  | i + 1, j + 1, .tup ds, h, l => by
    have h' : (Nat.ble ds.length 100000 && ds.all (plainD i)) = true := h
    rw [Bool.and_eq_true] at h'
    show (Nat.ble ds.length 100000 && ds.all (plainD j)) = true
    rw [h'.1, Bool.true_and]
    exact List.all_eq_true.mpr fun x m => plainD_mono (List.all_eq_true.mp h'.2 x m) (by omega)
  | i + 1, j + 1, .lst ds, h, l => by
    have h' : (Nat.ble ds.length 100000 && ds.all (plainD i)) = true := h
    rw [Bool.and_eq_true] at h'
    show (Nat.ble ds.length 100000 && ds.all (plainD j)) = true
    rw [h'.1, Bool.true_and]
    exact List.all_eq_true.mpr fun x m => plainD_mono (List.all_eq_true.mp h'.2 x m) (by omega)
  | 0, _, .tup _, h, _ | 0, _, .lst _, h, _ => by cases h
  | _ + 1, 0, _, _, l => by omega
  | k, _, .ptr _, h, _ | k, _, .ty _, h, _ | k, _, .exn _ _ _, h, _ | k, _, .clo _ _, h, _ | k, _, .obj _ _ _, h, _ | k, _, .dic _ _, h, _ => by cases k <;> cases h
theorem fr_plain (x : Rat) : plainD 1 (fr x) = true := by kernel_rfl
theorem plain_lst {k : Nat} {ds : List D} (hl : ds.length ≤ 100000) (h : ∀ x ∈ ds, plainD k x = true) : plainD (k + 1) (.lst ds) = true := by
  show (Nat.ble ds.length 100000 && ds.all (plainD k)) = true
  rw [Nat.ble_eq_true_of_le hl, Bool.true_and]
  exact List.all_eq_true.mpr h
theorem plain_tup {k : Nat} {ds : List D} (hl : ds.length ≤ 100000) (h : ∀ x ∈ ds, plainD k x = true) : plainD (k + 1) (.tup ds) = true := by
  show (Nat.ble ds.length 100000 && ds.all (plainD k)) = true
  rw [Nat.ble_eq_true_of_le hl, Bool.true_and]
  exact List.all_eq_true.mpr h
theorem frs_plain {xs : List Rat} (hl : xs.length ≤ 100000) : plainD 2 (.lst (xs.map fr)) = true :=
  plain_lst (by rw [List.length_map]; exact hl) fun d h => by
    obtain ⟨x, _, rfl⟩ := List.mem_map.mp h
    exact fr_plain x
/-- the sum of a row, from the left -/
def sumQ (s : Rat) (xs : List Rat) : Rat := xs.foldl (· + ·) s
theorem sumQ_add (s t : Rat) : ∀ xs : List Rat, sumQ (s + t) xs = s + sumQ t xs
  | [] => rfl
  | x :: xs => by
    show sumQ (s + t + x) xs = s + sumQ (t + x) xs
    rw [← sumQ_add s (t + x) xs, Rat.add_assoc]
theorem sumQ_zero (s : Rat) (xs : List Rat) : sumQ s xs = s + sumQ 0 xs := by
  have := sumQ_add s 0 xs
  rwa [Rat.add_zero] at this
theorem sumQ_take {s : Rat} {xs : List Rat} {i : Nat} {x : Rat} (h : xs[i]? = some x) : sumQ s (xs.take (i + 1)) = sumQ s (xs.take i) + x := by
  obtain ⟨hi, e⟩ := List.getElem?_eq_some_iff.mp h
  unfold sumQ
  rw [List.take_succ, h, List.foldl_append]
  rfl
theorem BR.sumQ {k : Nat} {s : Rat} (hs : BR k s) : ∀ xs : List Rat, (∀ x ∈ xs, BR k x) → BR (k + (k + 1) * xs.length) (Ev.sumQ s xs) := by
  have go : ∀ (xs : List Rat) (j : Nat) (s : Rat), BR j s → (∀ x ∈ xs, BR k x) → BR (j + (k + 1) * xs.length) (Ev.sumQ s xs) := by
    intro xs
    induction xs with
    | nil => exact fun j s h _ => h
    | cons x xs ih =>
      intro j s h hx
      refine (ih (j + k + 1) (s + x) (h.add (hx x (List.mem_cons_self ..))) fun y m => hx y (List.mem_cons_of_mem _ m)).mono ?_
      rw [List.length_cons, Nat.mul_add]
      omega
  exact fun xs h => go xs k s hs h
theorem b_tuple {μ : Mu} {Q : D → Mu → Prop} {X : Exn → Mu → Prop} {x : D} {ds : List D} (h : seqOf (view μ x) = some ds) (q : Q (.tup ds) μ) : WP (biOp .tuple [x]) μ Q X :=
  wp_rd ⟨_, by rw [h]; rfl, q⟩
end Ev

namespace Ev
namespace Gate
variable {g : Gate}
theorem floor_iff {x T : Rat} (hT : 0 < T) {q : Int} : (x / T).floor = q ↔ q * T ≤ x ∧ x < (q + 1) * T := by
  have e1 : ∀ {z : Int}, (z : Rat) ≤ x / T ↔ z * T ≤ x := fun {z} => by
    rw [← Rat.not_lt, ← Rat.not_lt, Rat.div_lt_iff hT]
  have e2 : ∀ {z : Int}, x / T < (z : Rat) ↔ x < z * T := fun {z} => by
    rw [Rat.div_lt_iff hT]
  constructor
  · rintro rfl
    have h1 := e1.mp (Rat.floor_le (x / T))
    have h2 := e2.mp (Rat.lt_floor_add_one (x / T))
    rw [Rat.intCast_add] at h2
    exact ⟨h1, by simpa using h2⟩
  · rintro ⟨h1, h2⟩
    have h1' := e1.mpr h1
    have h2' : x / T < ((q + 1 : Int) : Rat) := e2.mpr (by rw [Rat.intCast_add]; simpa using h2)
    have a1 : q ≤ (x / T).floor := Rat.le_floor_iff.mpr h1'
    have a2 : (x / T).floor < q + 1 := Rat.floor_lt_iff.mpr h2'
    omega
theorem rmd_eq {x T : Rat} (hT : 0 < T) {q : Int} (h1 : 0 ≤ x - q * T) (h2 : x - q * T < T) : rmd x T = x - q * T := by
  unfold rmd
  rw [(floor_iff hT (q := q)).mpr ⟨by grind, by grind⟩]
theorem rmd_bd {x T : Rat} (hT : 0 < T) : 0 ≤ rmd x T ∧ rmd x T < T := by
  have := (floor_iff hT (x := x) (q := (x / T).floor)).mp rfl
  unfold rmd
  grind
/-- the first opening to look at -/
theorem first_en (o : Ok g) (h : 0 < g.n) (m : Rat) : g.en (g.n * ((m - g.en 0) / g.T).floor) ≤ m ∧ m < g.en (g.n * ((m - g.en 0) / g.T).floor + g.n) := by
  generalize e : ((m - g.en 0) / g.T).floor = f
  have hf := (floor_iff o.T0).mp e
  have e1 := en_turn (g := g) h 0 f
  have e2 := en_turn (g := g) h 0 (f + 1)
  rw [show (0 : Int) + f * g.n = g.n * f by rw [Int.mul_comm]; omega] at e1
  rw [show (0 : Int) + (f + 1) * g.n = g.n * f + g.n by rw [Int.add_mul, Int.mul_comm]; omega, Rat.intCast_add] at e2
  rw [e1, e2]
  grind
/-- span i shuts at m -/
def Cond (g : Gate) (m : Rat) (i : Nat) : Prop := 0 < rmd (m - (g.at' i).1) g.T ∧ rmd (m - (g.at' i).1) g.T < (g.at' i).2
instance {m : Rat} {i : Nat} : Decidable (Cond g m i) := by unfold Cond; infer_instance
theorem cond_k (o : Ok g) {m : Rat} {i : Nat} (hi : i < g.n) (c : Cond g m i) : ∃ k, g.bg k < m ∧ m < g.en k ∧ m - g.bg k = rmd (m - (g.at' i).1) g.T ∧ g.ln k = (g.at' i).2 ∧ ∃ q : Int, k = i + q * g.n := by
  have h : 0 < g.n := by omega
  have e := bg_at h hi ((m - (g.at' i).1) / g.T).floor
  refine ⟨_, ?_, ?_, ?_, e.2, _, rfl⟩
  · unfold Cond rmd at c
    rw [e.1]
    grind
  · unfold Cond rmd at c
    unfold en
    rw [e.1, e.2]
    grind
  · unfold rmd
    rw [e.1]
    grind
theorem k_cond (o : Ok g) (h : 0 < g.n) {m : Rat} {k : Int} (h1 : g.bg k < m) (h2 : m < g.en k) : ∃ i, i < g.n ∧ Cond g m i := by
  obtain ⟨i, q, hi, rfl, e1, e2⟩ := split h k
  refine ⟨i, hi, ?_⟩
  unfold en at h2
  rw [e1] at h1 h2
  rw [e2] at h2
  have := o.sp0 i hi
  have er : rmd (m - (g.at' i).1) g.T = m - (g.at' i).1 - q * g.T := rmd_eq o.T0 (by grind) (by grind)
  unfold Cond
  rw [er]
  grind
theorem open_cond (o : Ok g) {m : Rat} : g.Open m ↔ ∀ i, i < g.n → ¬ Cond g m i := by
  constructor
  · intro ho i hi c
    obtain ⟨k, h1, h2, _⟩ := cond_k o hi c
    exact ho (by omega) k ⟨h1, h2⟩
  · intro hc h k hk
    obtain ⟨i, hi, c⟩ := k_cond o h hk.1 hk.2
    exact hc i hi c
/-! ### normal forms -/
/-- after p spans and shift s all comes again -/
def Rep (g : Gate) (p : Nat) (s : Rat) : Prop := ∀ i, i < g.n → g.bg (i + p) = g.bg i + s ∧ g.ln (i + p) = g.ln i
instance {p : Nat} {s : Rat} : Decidable (Rep g p s) := by unfold Rep; infer_instance
def sh (g : Gate) (p : Nat) : Rat := (p : Int) * g.T / (g.n : Int)
def Rp (g : Gate) (p : Nat) : Prop := g.n % p = 0 ∧ Rep g p (g.sh p)
instance {p : Nat} : Decidable (Rp g p) := by unfold Rp; infer_instance
theorem rep_all {p : Nat} {s : Rat} (h : 0 < g.n) (r : Rep g p s) (k : Int) : g.bg (k + p) = g.bg k + s ∧ g.ln (k + p) = g.ln k := by
  obtain ⟨i, q, hi, rfl, e1, e2⟩ := split h k
  have := r i hi
  rw [show ((i : Int) + q * g.n + p) = (i + p) + q * g.n by omega, bg_turn h, ln_turn h, bg_turn h, ln_turn h, this.1, this.2]
  exact ⟨by grind, rfl⟩
theorem rep_many {p : Nat} {s : Rat} (h : 0 < g.n) (r : Rep g p s) (k : Int) : ∀ d : Nat, g.bg (k + d * p) = g.bg k + (d : Int) * s ∧ g.ln (k + d * p) = g.ln k
  | 0 => by
    rw [show k + ((0 : Nat) : Int) * p = k by simp]
    exact ⟨by simp; grind, rfl⟩
  | d + 1 => by
    have ih := rep_many h r k d
    have := rep_all h r (k + d * p)
    rw [show k + ((d + 1 : Nat) : Int) * p = k + d * p + p by rw [show ((d + 1 : Nat) : Int) = d + 1 from rfl, Int.add_mul]; omega, this.1, this.2, ih.1, ih.2]
    refine ⟨?_, rfl⟩
    have : (((d + 1 : Nat) : Int) : Rat) = ((d : Int) : Rat) + 1 := by
      rw [show ((d + 1 : Nat) : Int) = d + 1 from rfl, Rat.intCast_add]
      rfl
    rw [this]
    grind
theorem rep_int {p : Nat} {s : Rat} (h : 0 < g.n) (r : Rep g p s) (k q : Int) : g.bg (k + q * p) = g.bg k + q * s ∧ g.ln (k + q * p) = g.ln k := by
  rcases Int.le_total 0 q with hq | hq
  · obtain ⟨d, rfl⟩ := Int.eq_ofNat_of_zero_le hq
    exact rep_many h r k d
  · obtain ⟨d, hd⟩ := Int.eq_ofNat_of_zero_le (show 0 ≤ -q by omega)
    have := rep_many h r (k + q * p) d
    rw [show k + q * p + (d : Int) * p = k by rw [← hd, Int.neg_mul]; omega, ← hd, Rat.intCast_neg] at this
    exact ⟨by rw [this.1]; grind, this.2.symm⟩
/-- the law's test: the spans, later by s, are the spans -/
def Lat (g : Gate) (s : Rat) : Prop := ∀ i, i < g.n → ∃ j, j < g.n ∧ (g.at' i).1 = rmd ((g.at' j).1 + s) g.T ∧ (g.at' i).2 = (g.at' j).2
theorem at_bg (h : 0 < g.n) {i : Nat} (hi : i < g.n) : g.bg i = (g.at' i).1 ∧ g.ln i = (g.at' i).2 := by
  have := bg_at h hi 0
  rw [show (i : Int) + 0 * g.n = i by omega] at this
  exact ⟨by rw [this.1]; simp; grind, this.2⟩
theorem rep_lat {p : Nat} {s : Rat} (o : Ok g) (h : 0 < g.n) (r : Rep g p s) : Lat g s := by
  intro i hi
  obtain ⟨j, q, hj, e, e1, e2⟩ := split h ((i : Int) - p)
  have hr := rep_all h r ((i : Int) - p)
  rw [show (i : Int) - p + p = i by omega, (at_bg h hi).1, (at_bg h hi).2, e1, e2] at hr
  refine ⟨j, hj, ?_, hr.2⟩
  have b := o.sp0 i hi
  rw [rmd_eq o.T0 (q := -q) (by rw [Rat.intCast_neg]; grind) (by rw [Rat.intCast_neg]; grind), Rat.intCast_neg]
  grind
theorem inc_far {f : Int → Int} (hf : ∀ k, f k + 1 ≤ f (k + 1)) (k : Int) : ∀ d : Nat, f k + d ≤ f (k + d)
  | 0 => by
    rw [show k + ((0 : Nat) : Int) = k by omega]
    omega
  | d + 1 => by
    have h1 := inc_far hf k d
    have h2 := hf (k + d)
    rw [show k + ((d + 1 : Nat) : Int) = k + d + 1 by omega]
    omega
theorem inc_one {f : Int → Int} {n : Nat} (hn : 0 < n) (hf : ∀ k, f k + 1 ≤ f (k + 1)) (ht : ∀ k, f (k + n) = f k + n) (k : Int) : f (k + 1) = f k + 1 := by
  have h1 := inc_far hf (k + 1) (n - 1)
  rw [show k + 1 + ((n - 1 : Nat) : Int) = k + n by omega, ht k] at h1
  have := hf k
  omega
theorem inc_all {f : Int → Int} (hf : ∀ k, f (k + 1) = f k + 1) : ∀ d : Nat, f d = f 0 + d ∧ f (-(d : Int)) = f 0 - d
  | 0 => by simp
  | d + 1 => by
    have h := inc_all hf d
    have h1 := hf d
    have h2 := hf (-((d + 1 : Nat) : Int))
    rw [show -((d + 1 : Nat) : Int) + 1 = -(d : Int) by omega] at h2
    rw [show ((d + 1 : Nat) : Int) = (d : Int) + 1 from rfl] at *
    omega
theorem inc_eq {f : Int → Int} (hf : ∀ k, f (k + 1) = f k + 1) (k : Int) : f k = f 0 + k := by
  rcases Int.le_total 0 k with hk | hk
  · obtain ⟨d, rfl⟩ := Int.eq_ofNat_of_zero_le hk
    exact (inc_all hf d).1
  · obtain ⟨d, hd⟩ := Int.eq_ofNat_of_zero_le (show 0 ≤ -k by omega)
    have := (inc_all hf d).2
    rw [show -(d : Int) = k by omega] at this
    omega
theorem lat_rep {p : Nat} (o : Ok g) (h : 0 < g.n) (hp : 0 < p) (hd : g.n % p = 0) (l : Lat g (g.sh p)) : Rep g p (g.sh p) := by
  obtain ⟨d, hd⟩ : ∃ d, g.n = p * d := ⟨g.n / p, (Nat.mul_div_cancel' (Nat.dvd_of_mod_eq_zero hd)).symm⟩
  have hpr : ∀ k : Int, ∃ j, g.bg k = g.bg j + g.sh p ∧ g.ln k = g.ln j := fun k => by
    obtain ⟨i, q, hi, rfl, e1, e2⟩ := split h k
    obtain ⟨j, hj, e3, e4⟩ := l i hi
    have b := bg_at h hj (q - (((g.at' j).1 + g.sh p) / g.T).floor)
    refine ⟨j + (q - (((g.at' j).1 + g.sh p) / g.T).floor) * g.n, ?_, by rw [e2, e4, b.2]⟩
    rw [e1, b.1, e3, Rat.intCast_sub]
    unfold rmd
    grind
  let f : Int → Int := fun k => (hpr k).choose
  have hf : ∀ k, g.bg k = g.bg (f k) + g.sh p ∧ g.ln k = g.ln (f k) := fun k => (hpr k).choose_spec
  have hs : ∀ k, f k + 1 ≤ f (k + 1) := fun k => by
    have h1 := bg_lt_succ o h k
    rw [(hf k).1, (hf (k + 1)).1] at h1
    by_cases h2 : f k < f (k + 1)
    · omega
    · have := bg_le o h (show f (k + 1) ≤ f k by omega)
      grind
  have ht : ∀ k, f (k + g.n) = f k + g.n := fun k => by
    have h1 := (hf (k + g.n)).1
    have h2 := bg_turn h k 1
    have h3 := bg_turn h (f k) 1
    rw [Int.one_mul] at h2 h3
    rw [h2, (hf k).1] at h1
    exact bg_inj o h (by rw [h3]; grind)
  have hc := inc_eq (inc_one h hs ht)
  have many : ∀ e : Nat, g.bg 0 = g.bg (e * f 0) + (e : Int) * g.sh p := fun e => by
    induction e with
    | zero =>
      rw [show ((0 : Nat) : Int) * f 0 = 0 by simp]
      simp
      grind
    | succ e ih =>
      have h1 := (hf (e * f 0)).1
      rw [hc (e * f 0)] at h1
      rw [show ((e + 1 : Nat) : Int) * f 0 = f 0 + e * f 0 by rw [show ((e + 1 : Nat) : Int) = e + 1 from rfl, Int.add_mul]; omega, ih, h1, show ((e + 1 : Nat) : Int) = e + 1 from rfl, Rat.intCast_add]
      grind
  have hm := many d
  have hT : ((d : Int) : Rat) * g.sh p = g.T := by
    unfold sh
    have e : ((g.n : Int) : Rat) = ((p : Int) : Rat) * ((d : Int) : Rat) := by
      rw [hd, ← Rat.intCast_mul]
      rfl
    have n0 : ((g.n : Int) : Rat) ≠ 0 := by
      intro z
      have := Rat.intCast_eq_zero_iff.mp z
      omega
    rw [e] at n0 ⊢
    grind
  have hb := bg_turn h (d * f 0) 1
  rw [hT] at hm
  have e0 : (d : Int) * f 0 + 1 * g.n = 0 := bg_inj o h (by rw [hb, hm]; simp)
  have c : f 0 = -(p : Int) := by
    rw [hd] at e0
    have d0 : (d : Int) ≠ 0 := by
      intro z
      have : d = 0 := by omega
      rw [this] at hd
      omega
    have e1 : (d : Int) * (f 0 + p) = 0 := by
      have : ((p * d : Nat) : Int) = p * d := by simp
      rw [this] at e0
      grind
    rcases Int.mul_eq_zero.mp e1 with z | z
    · exact (d0 z).elim
    · omega
  intro i hi
  have h1 := hf (i + p)
  rw [hc (i + p), c, show -(p : Int) + (i + p) = i by omega] at h1
  exact h1
end Gate
end Ev

namespace Ev
namespace Gate
variable {g : Gate}
theorem sh_full (h : 0 < g.n) : g.sh g.n = g.T := by
  unfold sh
  have n0 : ((g.n : Int) : Rat) ≠ 0 := by
    intro z
    have := Rat.intCast_eq_zero_iff.mp z
    omega
  grind
theorem rp_full (h : 0 < g.n) : Rp g g.n := by
  refine ⟨Nat.mod_self _, fun i hi => ?_⟩
  have h1 := bg_turn h i 1
  have h2 := ln_turn h i 1
  rw [Int.one_mul] at h1 h2
  rw [sh_full h, h1, h2]
  exact ⟨by simp, rfl⟩
def fp (g : Gate) : Option Nat := (List.range' 1 (g.n - 1)).find? fun p => decide (Rp g p)
def per (g : Gate) : Nat := g.fp.getD g.n
def nrm (g : Gate) : Gate := if g.n = 0 then ⟨g.pl, 1, []⟩ else ⟨g.pl, g.sh g.per, g.sp.take g.per⟩
theorem fp_some {p : Nat} (e : g.fp = some p) : 1 ≤ p ∧ p < g.n ∧ Rp g p ∧ ∀ r, 1 ≤ r → r < p → ¬ Rp g r := by
  have h1 := List.find?_some e
  have h2 := List.mem_of_find?_eq_some e
  rw [List.mem_range'_1] at h2
  refine ⟨h2.1, by omega, of_decide_eq_true h1, fun r r1 r2 c => ?_⟩
  unfold fp at e
  rw [List.find?_range'_eq_some] at e
  have := e.2.2 r r1 r2
  simp [c] at this
theorem fp_none (e : g.fp = none) : ∀ r, 1 ≤ r → r < g.n → ¬ Rp g r := by
  intro r r1 r2 c
  unfold fp at e
  rw [List.find?_eq_none] at e
  have := e r (by rw [List.mem_range'_1]; omega)
  simp [c] at this
theorem per_ok (h : 0 < g.n) : 1 ≤ g.per ∧ g.per ≤ g.n ∧ Rp g g.per ∧ ∀ r, 1 ≤ r → r < g.per → ¬ Rp g r := by
  unfold per
  cases e : g.fp with
  | none => exact ⟨h, Nat.le_refl _, rp_full h, fp_none e⟩
  | some p =>
    have := fp_some e
    exact ⟨this.1, by show p ≤ _; omega, this.2.2.1, this.2.2.2⟩
theorem nrm_n (h : 0 < g.n) : g.nrm.n = g.per := by
  have := per_ok h
  unfold nrm n at *
  rw [if_neg (by omega)]
  show (g.sp.take g.per).length = _
  rw [List.length_take]
  omega
theorem nrm_at (h : 0 < g.n) {i : Nat} (hi : i < g.per) : g.nrm.at' i = g.at' i := by
  unfold nrm at'
  rw [if_neg (by omega)]
  show (g.sp.take g.per).getD i (0, 0) = _
  rw [List.getD_eq_getElem?_getD, List.getD_eq_getElem?_getD, List.getElem?_take, if_pos hi]
theorem nrm_T (h : 0 < g.n) : g.nrm.T = g.sh g.per := by
  unfold nrm
  rw [if_neg (by omega)]
theorem nrm_bg (h : 0 < g.n) (k : Int) : g.nrm.bg k = g.bg k ∧ g.nrm.ln k = g.ln k := by
  have hp := per_ok h
  have h' : 0 < g.nrm.n := by rw [nrm_n h]; omega
  obtain ⟨i, q, hi, rfl, e1, e2⟩ := split h' k
  rw [e1, e2]
  rw [nrm_n h] at hi ⊢
  have r := rep_int h hp.2.2.1.2 i q
  have a := at_bg h (show i < g.n by omega)
  rw [r.1, r.2, a.1, a.2, nrm_at h hi, nrm_T h]
  exact ⟨rfl, rfl⟩
theorem nrm_en (h : 0 < g.n) (k : Int) : g.nrm.en k = g.en k := by
  unfold en
  rw [(nrm_bg h k).1, (nrm_bg h k).2]
theorem sh_pos (o : Ok g) (h : 0 < g.n) {p : Nat} (hp : 0 < p) : 0 < g.sh p := by
  unfold sh
  have a : (0 : Rat) < ((p : Int) : Rat) := Rat.intCast_pos.mpr (by omega)
  have b : (0 : Rat) < ((g.n : Int) : Rat) := Rat.intCast_pos.mpr (by omega)
  rw [Rat.lt_div_iff b]
  have := Rat.mul_pos a o.T0
  grind
theorem nrm_ok0 (h : g.n = 0) : Ok g.nrm ∧ g.nrm.n = 0 := by
  have e : g.nrm = ⟨g.pl, 1, []⟩ := if_pos h
  rw [e]
  exact ⟨⟨by show (0 : Rat) < 1; decide, Nat.zero_le _, fun i hi => absurd hi (Nat.not_lt_zero _), fun i hi => absurd hi (Nat.not_lt_zero _), fun hi => absurd hi (Nat.not_lt_zero _)⟩, rfl⟩
theorem nrm_ok (o : Ok g) : Ok g.nrm := by
  by_cases h : g.n = 0
  · exact (nrm_ok0 h).1
  have h : 0 < g.n := by omega
  have hp := per_ok h
  have hT := nrm_T h
  have hn := nrm_n h
  have rep := hp.2.2.1.2
  obtain ⟨d, hd⟩ : ∃ d, g.n = g.per * d := ⟨g.n / g.per, (Nat.mul_div_cancel' (Nat.dvd_of_mod_eq_zero hp.2.2.1.1)).symm⟩
  have d1 : 1 ≤ d := by
    rcases Nat.eq_zero_or_pos d with z | z
    · rw [z] at hd; omega
    · exact z
  have last : ∀ i : Nat, i < g.per → g.bg i < g.sh g.per := fun i hi => by
    have r := rep_many h rep i (d - 1)
    have hlt : i + (d - 1) * g.per < g.n := by
      have : (d - 1) * g.per + g.per = g.n := by
        rw [hd, Nat.mul_comm g.per d, Nat.sub_mul, Nat.one_mul]
        have : g.per ≤ d * g.per := Nat.le_mul_of_pos_left _ d1
        omega
      omega
    have a := (at_bg h hlt).1
    have b := (o.sp0 _ hlt).2.1
    rw [show ((i + (d - 1) * g.per : Nat) : Int) = (i : Int) + ((d - 1 : Nat) : Int) * g.per by simp] at a
    rw [← a, r.1] at b
    have full := rep_many h rep i d
    have turn := bg_turn h i 1
    rw [show ((d : Nat) : Int) * (g.per : Int) = 1 * g.n by rw [hd, Int.one_mul, Int.mul_comm]; simp, turn] at full
    have e : ((d : Int) : Rat) = (((d - 1 : Nat) : Int) : Rat) + 1 := by
      rw [show (d : Int) = ((d - 1 : Nat) : Int) + 1 by omega, Rat.intCast_add]
      simp
    have f1 := full.1
    rw [e] at f1
    have : ((1 : Int) : Rat) = 1 := rfl
    rw [this] at f1
    grind
  refine ⟨?_, ?_, ?_, ?_, ?_⟩
  · rw [hT]; exact sh_pos o h (by omega)
  · have := o.len; omega
  · intro i hi
    rw [hn] at hi
    rw [nrm_at h hi, hT]
    have a := at_bg h (show i < g.n by omega)
    have b := o.sp0 i (by omega)
    refine ⟨b.1, by rw [← a.1]; exact last i hi, b.2.2.1, ?_⟩
    have s := en_le_bg o h (show (i : Int) < i + g.per by omega)
    rw [(rep i (by omega)).1] at s
    unfold en at s
    rw [a.2] at s
    grind
  · intro i hi
    rw [hn] at hi
    rw [nrm_at h (by omega), nrm_at h (by omega)]
    exact o.nxt i (by omega)
  · intro _
    rw [hn, nrm_at h (show g.per - 1 < g.per by omega), nrm_at h (show 0 < g.per by omega), hT]
    have a := at_bg h (show g.per - 1 < g.n by omega)
    have a0 := at_bg h h
    have s := step o h ((g.per - 1 : Nat) : Int)
    have r := (rep 0 h).1
    rw [show ((g.per - 1 : Nat) : Int) + 1 = ((0 : Nat) : Int) + g.per by omega, r, a0.1] at s
    unfold en at s
    rw [a.1, a.2] at s
    exact s
theorem nrm_open {m : Rat} : g.nrm.Open m ↔ g.Open m := by
  by_cases h : g.n = 0
  · have := (nrm_ok0 h).2
    unfold Open
    constructor
    · intro _ z; omega
    · intro _ z; omega
  have h : 0 < g.n := by omega
  have hp := per_ok h
  unfold Open
  rw [nrm_n h]
  constructor
  · intro ho _ k
    rw [← (nrm_bg h k).1, ← nrm_en h k]
    exact ho (by omega) k
  · intro ho _ k
    rw [(nrm_bg h k).1, nrm_en h k]
    exact ho h k
theorem nrm_nrm : g.nrm.nrm = g.nrm := by
  by_cases h : g.n = 0
  · have e : g.nrm = ⟨g.pl, 1, []⟩ := if_pos h
    rw [e]
    rfl
  have h : 0 < g.n := by omega
  have hp := per_ok h
  have hn := nrm_n h
  have hT := nrm_T h
  have h' : 0 < g.nrm.n := by omega
  have shs : ∀ r : Nat, g.nrm.sh r = g.sh r := fun r => by
    unfold sh
    rw [hn, hT]
    unfold sh
    have a : ((g.per : Int) : Rat) ≠ 0 := by
      intro z
      have := Rat.intCast_eq_zero_iff.mp z
      omega
    have b : ((g.n : Int) : Rat) ≠ 0 := by
      intro z
      have := Rat.intCast_eq_zero_iff.mp z
      omega
    grind
  have pe : g.nrm.per = g.per := by
    have hq := per_ok h'
    rw [hn] at hq
    rcases Nat.lt_or_ge g.nrm.per g.per with c | c
    · refine (hp.2.2.2 _ hq.1 c ⟨?_, ?_⟩).elim
      · have d1 := Nat.dvd_of_mod_eq_zero hq.2.2.1.1
        rw [hn] at d1
        exact Nat.mod_eq_zero_of_dvd (Nat.dvd_trans d1 (Nat.dvd_of_mod_eq_zero hp.2.2.1.1))
      · intro i _
        have := rep_all h' hq.2.2.1.2 i
        rw [(nrm_bg h _).1, (nrm_bg h _).1, (nrm_bg h _).2, (nrm_bg h _).2, shs] at this
        exact this
    · omega
  have e : g.nrm.nrm = ⟨g.nrm.pl, g.nrm.sh g.nrm.per, g.nrm.sp.take g.nrm.per⟩ := if_neg (by omega)
  have e2 : g.nrm = ⟨g.pl, g.sh g.per, g.sp.take g.per⟩ := if_neg (by omega)
  rw [e, pe, shs, e2]
  show Gate.mk g.pl _ ((g.sp.take g.per).take g.per) = _
  rw [List.take_take, Nat.min_self]
end Gate
end Ev

namespace Ev
open Ev.Q PySem
/-! ## The program's gates -/
def spD (s : Rat × Rat) : D := .tup [fr s.1, fr s.2]
def gtD (g : Gate) : D := .tup [fr g.pl, fr g.T, .tup (g.sp.map spD)]
structure GB (k : Nat) (g : Gate) : Prop where
  pl : BR k g.pl
  T : BR k g.T
  sp : ∀ s ∈ g.sp, BR k s.1 ∧ BR k s.2
theorem GB.mono {i j : Nat} {g : Gate} (h : GB i g) (k : i ≤ j) : GB j g := ⟨h.pl.mono k, h.T.mono k, fun s m => ⟨(h.sp s m).1.mono k, (h.sp s m).2.mono k⟩⟩
theorem at_some {g : Gate} {i : Nat} (h : i < g.n) : g.sp[i]? = some (g.at' i) := by
  have h' : i < g.sp.length := h
  rw [List.getElem?_eq_getElem h']
  unfold Gate.at'
  rw [List.getD_eq_getElem?_getD, List.getElem?_eq_getElem h']
  rfl
theorem GB.at {k : Nat} {g : Gate} (b : GB k g) {i : Nat} (h : i < g.n) : BR k (g.at' i).1 ∧ BR k (g.at' i).2 := b.sp _ (List.mem_of_getElem? (at_some h))
theorem atD {g : Gate} {i : Nat} (h : i < g.n) : (g.sp.map spD)[i]? = some (spD (g.at' i)) := by
  rw [List.getElem?_map, at_some h]
  rfl
theorem ixD {g : Gate} {i : Int} (h0 : 0 ≤ i) (h : i < g.n) : ixOp (.tup (g.sp.map spD)) (.int i) = some (spD (g.at' i.toNat)) := atI_int h0 (atD (by omega))
theorem lenD {g : Gate} : (g.sp.map spD).length = g.n := by rw [List.length_map]; rfl
theorem fr_toPy (x : Rat) : toPy (fr x) = some (.tuple [.int x.num, .int x.den]) := rfl
theorem fr_shaped (x : Rat) : SeqAt.shaped (.tuple [.int x.num, .int x.den]) = true := by kernel_rfl
theorem eqv_int (i j : Int) : PyData.eqv (.int i) (.int j) = decide (i = j) := by
  by_cases h : i = j
  · subst h
    rw [decide_eq_true rfl]
    show (i == i) = true
    exact beq_self_eq_true i
  · rw [decide_eq_false h]
    show (i == j) = false
    exact beq_eq_false_iff_ne.mpr h
theorem eqv_fr (x y : Rat) : PyData.eqv (.tuple [.int x.num, .int x.den]) (.tuple [.int y.num, .int y.den]) = decide (x = y) := by
  have e : PyData.eqv (.tuple [.int x.num, .int x.den]) (.tuple [.int y.num, .int y.den]) = (PyData.eqv (.int x.num) (.int y.num) && (PyData.eqv (.int x.den) (.int y.den) && true)) := by
    simp only [PyData.eqv, PyData.eqvAll]
  rw [e, eqv_int, eqv_int, Bool.and_true, ← Bool.decide_and]
  refine decide_eq_decide.mpr ⟨fun h => ?_, fun h => by subst h; exact ⟨rfl, rfl⟩⟩
  exact Rat.ext h.1 (by omega)
theorem eqO_fr (neg : Bool) (x y : Rat) : eqO neg (fr x) (fr y) = some (if neg then !decide (x = y) else decide (x = y)) := by
  unfold eqO
  rw [fr_toPy, fr_toPy]
  show (if (SeqAt.shaped (.tuple [.int x.num, .int x.den]) && SeqAt.shaped (.tuple [.int y.num, .int y.den])) = true then some (if neg then !PyData.eqv _ _ else PyData.eqv _ _) else none) = _
  rw [if_pos (by rw [fr_shaped, fr_shaped]; rfl), eqv_fr]
theorem num_lt_zero {x : Rat} : x.num < 0 ↔ x < 0 := by
  rw [← Rat.not_le, ← Rat.num_nonneg]
  omega
theorem num_pos {x : Rat} : 0 < x.num ↔ 0 < x := by
  have h1 := num_lt_zero (x := x)
  have h2 := Rat.num_eq_zero (q := x)
  constructor
  · intro h
    by_cases c : x < 0
    · have := h1.mpr c; omega
    · by_cases c2 : x = 0
      · have := h2.mpr c2; omega
      · grind
  · intro h
    have a : ¬ x.num < 0 := fun c => by have := h1.mp c; grind
    have b : x.num ≠ 0 := fun c => by have := h2.mp c; grind
    omega
namespace Gate
def nx (g : Gate) (i : Nat) : Rat := if i + 1 = g.n then (g.at' 0).1 + g.T else (g.at' (i + 1)).1
def Fit (g : Gate) (i : Nat) : Prop := 0 ≤ (g.at' i).1 ∧ (g.at' i).1 < g.T ∧ 0 < (g.at' i).2 ∧ (g.at' i).2 ≤ g.T ∧ (g.at' i).1 + (g.at' i).2 ≤ g.nx i
instance {g : Gate} {i : Nat} : Decidable (Fit g i) := by unfold Fit; infer_instance
def Fits (g : Gate) : Prop := ∀ i, i < g.n → Fit g i
instance {g : Gate} : Decidable (Fits g) := by unfold Fits; infer_instance
def Good (g : Gate) : Prop := 0 < g.T ∧ g.n ≤ 6 ∧ g.Fits
instance {g : Gate} : Decidable (Good g) := by unfold Good; infer_instance
theorem good_ok {g : Gate} : g.Good ↔ g.Ok := by
  constructor
  · rintro ⟨h1, h2, h3⟩
    refine ⟨h1, h2, fun i hi => ?_, fun i hi => ?_, fun hn => ?_⟩
    · have := h3 i hi
      unfold Fit at this
      grind
    · have := (h3 i (by omega)).2.2.2.2
      unfold nx at this
      rw [if_neg (by omega)] at this
      exact this
    · have := (h3 (g.n - 1) (by omega)).2.2.2.2
      unfold nx at this
      rw [if_pos (by omega)] at this
      exact this
  · intro o
    refine ⟨o.T0, o.len, fun i hi => ?_⟩
    have := o.sp0 i hi
    refine ⟨this.1, this.2.1, this.2.2.1, this.2.2.2, ?_⟩
    unfold nx
    split
    · have := o.cyc (by omega)
      rwa [show g.n - 1 = i by omega] at this
    · exact o.nxt i (by omega)
end Gate
theorem wi_enum {cf : Str → List D → M D} {gc : Str → Option D} {δ : Ev.Env} {μ : Mu} {X : Exn → Mu → Prop} {a : E} {Q : Iv → Mu → Prop} (h : WP (evE cf gc a δ) μ (fun x μ1 => ∃ iv, ckEnum x μ1 = some iv ∧ Q iv μ1) X) : WP (evI cf gc (.enum a) δ) μ Q X := wp_bnd (wp_imp h fun x μ1 h => wp_rd h)
theorem stat_enumT (ds : List D) : Stat (.enum (.tup ds)) (ds.mapIdx fun i x => .tup [.int i, x]) := ⟨fun μ i => by
  show some ((ds[i]?).map fun x => D.tup [.int i, x]) = _
  rw [List.getElem?_mapIdx], fun μ => by rw [List.length_mapIdx]; exact Nat.le_refl _⟩
section
variable {P : Pg} {n : Nat} {μ : Mu} {Q : D → Mu → Prop} {X : Exn → Mu → Prop} {g : Gate}
theorem w_spans_fit [H_spans_fit P] [H_is_less P] [H_add P] [H_fraction P] [H_divisor_of P] (b : GB 900 g) (q : Q (.bl (decide g.Fits)) μ) : WP (call P (n + 4) "spans_fit" [fr g.T, .tup (g.sp.map spD)]) μ Q X := by
  refine w_fn (fn := Ev.Q.f_spans_fit) Has.out rfl ?_
  show WQ (evSL _ _ Ev.Q.b_spans_fit [some (fr g.T), some (.tup (g.sp.map spD)), none, none, none, none] _) _ _
  unfold Ev.Q.b_spans_fit
  refine q_cons (q_for (wi_enum (w_var rfl ⟨_, rfl, _, stat_enumT _, fun i δ μ' => (∀ j, j < i → j < g.n → g.Fit j) ∧ μ' = μ ∧ ∃ x2 x3 x4 x5, δ = [some (fr g.T), some (.tup (g.sp.map spD)), x2, x3, x4, x5], ⟨fun j h => by omega, rfl, _, _, _, _, rfl⟩, ?_, ?_⟩)))
  · rintro i x δ μ' hx ⟨hf, rfl, x2, x3, x4, x5, rfl⟩
    rw [List.getElem?_mapIdx] at hx
    obtain ⟨y, hy, rfl⟩ := Option.map_eq_some_iff.mp hx
    have hi : i < g.n := by
      have := (List.getElem?_eq_some_iff.mp hy).1
      rwa [lenD] at this
    rw [atD hi] at hy
    cases hy
    have bi := b.at hi
    have bl := BR.add bi.1 bi.2
    have b0 := b.at (show 0 < g.n by omega)
    refine ⟨_, rfl, ?_⟩
    clear hx
    have no : ¬ g.Fit i → Q (.bl false) μ' := fun h => by
      rw [decide_eq_false (fun c => h (c i hi))] at q
      exact q
    have nr := num_lt_zero (x := (g.at' i).1)
    have np := num_pos (x := (g.at' i).2)
    have k1 : BR 4400 (g.at' i).1 := bi.1.mono (by decide)
    have k2 : BR 4400 (g.at' i).2 := bi.2.mono (by decide)
    have k3 : BR 4400 g.T := b.T.mono (by decide)
    have k4 : BR 4400 (g.at' 0).1 := b0.1.mono (by decide)
    have ll : g.sp.length = g.n := rfl
    have i0 := ixD (g := g) (i := 0) (by omega) (by omega)
    walk_at "ev"
    · rename_i h1
      refine w_less k1 k3 ?_
      walk_at "ev"
      · rename_i h2
        refine w_less k3 k2 ?_
        walk_at "ev"
        · rename_i h3
          refine no fun c => ?_
          have := c.2.2.2.1
          grind
        · rename_i h3 h4
          have en : i + 1 = g.n := by omega
          refine w_add' k4 k3 ?_
          walk_at "ev"
          refine w_add' k1 k2 ?_
          walk_at "ev"
          refine w_less ((b0.1.add b.T).mono (by decide)) (bl.mono (by decide)) ?_
          walk_at "ev"
          · rename_i h5
            refine no fun c => ?_
            have := c.2.2.2.2
            unfold Gate.nx at this
            rw [if_pos en] at this
            grind
          · rename_i h5
            refine ⟨fun j hj hjn => ?_, rfl, _, _, _, _, rfl⟩
            rcases Nat.lt_or_ge j i with h6 | h6
            · exact hf j h6 hjn
            · have e : j = i := by omega
              subst e
              refine ⟨?_, ‹_›, ?_, ?_, ?_⟩
              · grind
              · have := np.mp (by omega)
                exact this
              · grind
              · unfold Gate.nx
                rw [if_pos en]
                grind
        · rename_i h3 h4
          have en : i + 1 < g.n := by omega
          have i1 := ixD (g := g) (i := i + 1) (by omega) (by omega)
          have b1 := (b.at en).1
          have e1 : ((i : Int) + 1).toNat = i + 1 := by omega
          rw [e1] at i1
          walk_at "ev"
          refine w_add' k1 k2 ?_
          walk_at "ev"
          refine w_less (b1.mono (by decide)) (bl.mono (by decide)) ?_
          walk_at "ev"
          · rename_i h5
            refine no fun c => ?_
            have := c.2.2.2.2
            unfold Gate.nx at this
            rw [if_neg (by omega)] at this
            grind
          · rename_i h5
            refine ⟨fun j hj hjn => ?_, rfl, _, _, _, _, rfl⟩
            rcases Nat.lt_or_ge j i with h6 | h6
            · exact hf j h6 hjn
            · have e : j = i := by omega
              subst e
              refine ⟨?_, ‹_›, ?_, ?_, ?_⟩
              · grind
              · have := np.mp (by omega)
                exact this
              · grind
              · unfold Gate.nx
                rw [if_neg (by omega)]
                grind
      · rename_i h2
        refine no fun c => ?_
        have := np.mpr c.2.2.1
        omega
      · rename_i h2
        refine no fun c => ?_
        have := c.2.1
        grind
    · rename_i h1
      refine no fun c => ?_
      have := c.1
      grind
  · rintro δ μ' ⟨hf, rfl, x2, x3, x4, x5, rfl⟩
    rw [List.length_mapIdx, lenD] at hf
    walk_at "ev"
    rw [decide_eq_true (show g.Fits from fun i hi => hf i hi hi)] at q
    exact q
end
end Ev

namespace Ev
open Ev.Q PySem
class HasC (P : Pg) (x : Str) (d : D) : Prop where
  out : P.gc x = some d
theorem spD_plain (s : Rat × Rat) : plainD 2 (spD s) = true := plain_tup (by simp) (by simp [fr_plain])
theorem sps_plain {xs : List (Rat × Rat)} (hl : xs.length ≤ 1000) : plainD 3 (.tup (xs.map spD)) = true ∧ plainD 3 (.lst (xs.map spD)) = true := by
  have h : ∀ d ∈ xs.map spD, plainD 2 d = true := fun d h => by
    obtain ⟨x, _, rfl⟩ := List.mem_map.mp h
    exact spD_plain x
  have l : (xs.map spD).length ≤ 100000 := by rw [List.length_map]; omega
  exact ⟨plain_tup l h, plain_lst l h⟩
theorem gtD_plain {g : Gate} (hl : g.n ≤ 1000) : plainD 4 (gtD g) = true := by
  refine plain_tup (by simp) fun d h => ?_
  simp only [List.mem_cons, List.not_mem_nil, or_false] at h
  rcases h with rfl | rfl | rfl
  · exact plainD_mono (fr_plain _) (by decide)
  · exact plainD_mono (fr_plain _) (by decide)
  · exact (sps_plain hl).1
def spP (s : Rat × Rat) : PyData := .tuple [.tuple [.int s.1.num, .int s.1.den], .tuple [.int s.2.num, .int s.2.den]]
theorem spD_toPy (s : Rat × Rat) : toPy (spD s) = some (spP s) := rfl
theorem sps_toPy : ∀ xs : List (Rat × Rat), toPyL (xs.map spD) = some (xs.map spP)
  | [] => rfl
  | x :: xs => by
    show (match toPy (spD x), toPyL (xs.map spD) with
      | some x, some xs => some (x :: xs)
      | _, _ => none) = _
    rw [sps_toPy xs, spD_toPy]
    rfl
theorem plain_shaped {k : Nat} {d : D} {p : PyData} (h : plainD k d = true) (hk : k ≤ 60) (e : toPy d = some p) : SeqAt.shaped p = true := by
  obtain ⟨p', e', l, dp⟩ := plain_py k d h
  rw [e] at e'
  cases e'
  unfold SeqAt.shaped
  rw [l, decide_eq_true (by omega)]
  rfl
theorem eqv_sp (s t : Rat × Rat) : PyData.eqv (spP s) (spP t) = decide (s = t) := by
  have e : PyData.eqv (spP s) (spP t) = (PyData.eqv (.tuple [.int s.1.num, .int s.1.den]) (.tuple [.int t.1.num, .int t.1.den]) && (PyData.eqv (.tuple [.int s.2.num, .int s.2.den]) (.tuple [.int t.2.num, .int t.2.den]) && true)) := by
    unfold spP
    simp only [PyData.eqv, PyData.eqvAll]
  rw [e, eqv_fr, eqv_fr, Bool.and_true, ← Bool.decide_and]
  exact decide_eq_decide.mpr ⟨fun h => Prod.ext h.1 h.2, fun h => by subst h; exact ⟨rfl, rfl⟩⟩
theorem inO_sp {s : Rat × Rat} {ts : List (Rat × Rat)} (hl : ts.length ≤ 1000) : inO false (spD s) (ts.map spD) = some (decide (s ∈ ts)) := by
  have h1 := plain_shaped (spD_plain s) (by decide) (spD_toPy s)
  have h2 : SeqAt.shaped (.list (ts.map spP)) = true := plain_shaped (sps_plain hl).2 (by decide) (by show (toPyL _).map _ = _; rw [sps_toPy]; rfl)
  unfold inO
  rw [if_neg (show ¬ (flat (spD s) && (ts.map spD).all flat) = true from fun h => by cases h), spD_toPy, sps_toPy]
  show (if (SeqAt.shaped (spP s) && SeqAt.shaped (.list (ts.map spP))) = true then some (if false = true then !(ts.map spP).any fun y => PyData.eqv y (spP s) else (ts.map spP).any fun y => PyData.eqv y (spP s)) else none) = _
  rw [if_pos (by rw [h1, h2]; rfl), if_neg (by decide), List.any_map]
  congr 1
  rw [Bool.eq_iff_iff, List.any_eq_true, decide_eq_true_iff]
  constructor
  · rintro ⟨x, hx, e⟩
    rw [Function.comp_apply, eqv_sp, decide_eq_true_iff] at e
    rw [← e]
    exact hx
  · intro h
    exact ⟨s, h, by rw [Function.comp_apply, eqv_sp, decide_eq_true_iff]⟩
theorem eqO_nil {g : Gate} (hl : g.n ≤ 1000) : cop .eq (.tup (g.sp.map spD)) (.tup []) = some (decide (g.n = 0)) := by
  have h2 : SeqAt.shaped (.tuple (g.sp.map spP)) = true := plain_shaped (sps_plain hl).1 (by decide) (by show (toPyL _).map _ = _; rw [sps_toPy]; rfl)
  show eqO false _ _ = _
  unfold eqO
  rw [show toPy (.tup (g.sp.map spD)) = some (.tuple (g.sp.map spP)) by show (toPyL _).map _ = _; rw [sps_toPy]; rfl, show toPy (.tup []) = some (.tuple []) from rfl]
  show (if (SeqAt.shaped (.tuple (g.sp.map spP)) && SeqAt.shaped (.tuple [])) = true then some (if false = true then !PyData.eqv _ _ else PyData.eqv _ _) else none) = _
  rw [if_pos (by rw [h2]; decide +kernel), if_neg (by decide)]
  congr 1
  have : g.n = g.sp.length := rfl
  rw [this]
  cases g.sp with
  | nil => simp [PyData.eqv, PyData.eqvAll]
  | cons x xs => simp [PyData.eqv, PyData.eqvAll]
theorem big_lt {k : Nat} (h : k ≤ 1000) : k < sizeLine := Nat.lt_of_le_of_lt h (by decide)
section
variable {P : Pg} {n : Nat} {μ : Mu} {Q : D → Mu → Prop} {X : Exn → Mu → Prop} {g : Gate}
theorem w_is_gate [H_is_gate P] [HasC P "MAX_SPANS" (.int 6)] [H_spans_fit P] [H_is_less P] [H_add P] [H_fraction P] [H_divisor_of P] (b : GB 900 g) (q : Q (.bl (decide g.Good)) μ) : WP (call P (n + 5) "is_gate" [gtD g]) μ Q X := by
  refine w_fn (fn := Ev.Q.f_is_gate) Has.out rfl ?_
  show WQ (evSL _ _ Ev.Q.b_is_gate [some (gtD g), none, none, none] _) _ _
  unfold Ev.Q.b_is_gate
  have np := num_pos (x := g.T)
  have ll : g.sp.length = g.n := rfl
  have no : ¬ g.Good → Q (.bl false) μ := fun h => by
    rw [decide_eq_false h] at q
    exact q
  walk_at "ev"
  · rename_i h1
    refine w_con (d := .int 6) HasC.out ?_
    walk_at "ev"
    · rename_i h2
      refine w_spans_fit b ?_
      walk_at "ev"
      rw [show decide g.Fits = decide g.Good from decide_eq_decide.mpr ⟨fun h => ⟨np.mp h1, by omega, h⟩, fun h => h.2.2⟩]
      exact q
    · rename_i h2
      exact no fun c => by have := c.2.1; omega
  · rename_i h1
    exact no fun c => by have := np.mpr c.1; omega
theorem copy_all {ds : List D} {i : Nat} {d : D} (h : ds[i]? = some d) : ds.take (i + 1) = ds.take i ++ [d] := by
  rw [List.take_succ, h]
  rfl
theorem w_copied0 [H_copied P] [H_is_gate P] [HasC P "MAX_SPANS" (.int 6)] [H_spans_fit P] [H_is_less P] [H_add P] [H_fraction P] [H_divisor_of P] (b : GB 900 g) (hl : g.n ≤ 1000)
    (q : g.Good → Q (gtD g) μ) (x : ¬ g.Good → X ⟨"InvalidGate", ["position", "tag"], [.int 0, .str "InvalidGate"]⟩ μ) : WP (call P (n + 6) "copied" [gtD g]) μ Q X := by
  refine w_fn (fn := Ev.Q.f_copied) Has.out rfl ?_
  show WQ (evSL _ _ Ev.Q.b_copied [some (gtD g), none, none, none, none, none, none] _) _ _
  unfold Ev.Q.b_copied
  have st := stat_tup (g.sp.map spD)
  have ll : g.sp.length = g.n := rfl
  walk_at "ev"
  refine ⟨fun i acc μ' => i ≤ g.n ∧ μ' = μ ∧ acc = (g.sp.map spD).take i, ⟨Nat.zero_le _, rfl, rfl⟩, ?_, ?_⟩
  · rintro i y acc μ' hy ⟨hi, rfl, rfl⟩
    have hi' : i < g.n := by
      have := (List.getElem?_eq_some_iff.mp hy).1
      rwa [lenD] at this
    have hy2 := hy
    rw [atD hi'] at hy2
    cases hy2
    refine ⟨_, rfl, ?_⟩
    refine w_lit ⟨true, rfl, fun _ => ?_, fun h => by cases h⟩
    have tk := copy_all hy
    clear hy
    walk_at "ev"
    refine ⟨big_lt (by rw [List.length_take, lenD]; omega), hi', rfl, ?_⟩
    rw [tk]
    rfl
  · rintro acc μ' ⟨hi, rfl, rfl⟩
    rw [List.take_length]
    refine ⟨Nat.le_of_lt (big_lt (by rw [lenD]; exact hl)), ?_⟩
    walk_at "ev"
    refine b_tuple rfl ?_
    walk_at "ev"
    refine w_is_gate (g := g) b ?_
    walk_at "ev"
    · rename_i h
      refine ⟨rfl, x ?_⟩
      simpa using h
    · rename_i h
      refine q ?_
      simpa using h
theorem w_copied [H_copied P] [H_is_gate P] [HasC P "MAX_SPANS" (.int 6)] [H_spans_fit P] [H_is_less P] [H_add P] [H_fraction P] [H_divisor_of P] (b : GB 900 g) (o : g.Ok) (q : Q (gtD g) μ) : WP (call P (n + 6) "copied" [gtD g]) μ Q X :=
  w_copied0 b (by have := o.len; omega) (fun _ => q) fun h => (h (Gate.good_ok.mpr o)).elim
/-! turns and openings -/
theorem spans_ix {k : Int} (h : 0 < g.n) : ixOp (.tup (g.sp.map spD)) (.int (k.fmod g.n)) = some (.tup [fr (g.at' (k.fmod g.n).toNat).1, fr (g.at' (k.fmod g.n).toNat).2]) := by
  have := Gate.im (g := g) (k := k) h
  exact ixD this.2 (by omega)
theorem Bd.between {i : Nat} {x y k : Int} (h : Bd i x) (g : Bd i y) (h1 : x ≤ k) (h2 : k ≤ y) : Bd i k := by
  unfold Bd at *
  omega
theorem bd6 (h : g.n ≤ 6) : Bd 4 (g.n : Int) := Bd.of (by omega)
theorem BR.en {k : Int} {e_b : Nat} (b : GB e_b g) (h : 0 < g.n) (bk : Bd 2900 k) (he_b : e_b ≤ 300 := by decide) : BR 3900 (g.en k) := by
  replace b := b.mono he_b
  have hi := Gate.im (g := g) (k := k) h
  have bi := b.at hi.1
  have bq : Bd 2900 (k.fdiv g.n) := Bd.fdiv (by omega) bk
  exact (((bi.1.add (BR.tim bq b.T)).add bi.2)).mono (by decide)
theorem BR.bg {k : Int} {e_b : Nat} (b : GB e_b g) (h : 0 < g.n) (bk : Bd 2900 k) (he_b : e_b ≤ 300 := by decide) : BR 3900 (g.bg k) := by
  replace b := b.mono he_b
  have hi := Gate.im (g := g) (k := k) h
  have bi := b.at hi.1
  have bq : Bd 2900 (k.fdiv g.n) := Bd.fdiv (by omega) bk
  exact (bi.1.add (BR.tim bq b.T)).mono (by decide)
theorem w_opens [H_opens P] [H_times P] [H_add P] [H_fraction P] [H_divisor_of P] {k : Int} {e_b : Nat} (b : GB e_b g) (h : 0 < g.n) (hl : g.n ≤ 6) (bk : Bd 2900 k) (q : Q (fr (g.en k)) μ) (he_b : e_b ≤ 300 := by decide) : WP (call P (n + 4) "opens" [gtD g, .int k]) μ Q X := by
  replace b := b.mono he_b
  have ll : g.sp.length = g.n := rfl
  have ii := spans_ix (g := g) (k := k) h
  have hi := Gate.im (g := g) (k := k) h
  have bi := b.at hi.1
  have bT := b.T
  have dn : DivOk (g.n : Int) := Bd.div (by omega) (bd6 hl) (by decide)
  have bq : Bd 2900 (k.fdiv g.n) := Bd.fdiv (by omega) bk
  refine w_fn (fn := Ev.Q.f_opens) Has.out rfl ?_
  show WQ (evSL _ _ Ev.Q.b_opens [some (gtD g), some (.int k), none, none, none, none, none] _) _ _
  unfold Ev.Q.b_opens gtD
  walk_at "ev"
  rw [lenD]
  walk_at "ev"
  refine w_add' (bi.1.mono (by decide)) (bi.2.mono (by decide)) ?_
  walk_at "ev"
  rw [lenD]
  walk_at "ev"
  refine w_times (bq.mono (by decide)) (bT.mono (by decide)) ?_
  walk_at "ev"
  refine w_add' ((bi.1.add bi.2).mono (by decide)) ((BR.tim bq bT).mono (by decide)) ?_
  walk_at "ev"
  rw [show ∀ x y z : Rat, x + y + z = x + z + y from fun x y z => by grind]
  exact q
theorem w_closes [H_closes P] [H_times P] [H_add P] [H_fraction P] [H_divisor_of P] {k : Int} {e_b : Nat} (b : GB e_b g) (h : 0 < g.n) (hl : g.n ≤ 6) (bk : Bd 2899 k) (q : Q (fr (g.bg (k + 1))) μ) (he_b : e_b ≤ 300 := by decide) : WP (call P (n + 4) "closes" [gtD g, .int k]) μ Q X := by
  replace b := b.mono he_b
  have ll : g.sp.length = g.n := rfl
  have ii := spans_ix (g := g) (k := k + 1) h
  have hi := Gate.im (g := g) (k := k + 1) h
  have bi := b.at hi.1
  have bT := b.T
  have bk1 : Bd 2900 (k + 1) := (bk.add (Bd.of (k := 1) (x := 1) (by decide))).mono (by decide)
  have dn : DivOk (g.n : Int) := Bd.div (by omega) (bd6 hl) (by decide)
  have bq : Bd 2900 ((k + 1).fdiv g.n) := Bd.fdiv (by omega) bk1
  refine w_fn (fn := Ev.Q.f_closes) Has.out rfl ?_
  show WQ (evSL _ _ Ev.Q.b_closes [some (gtD g), some (.int k), none, none, none, none] _) _ _
  unfold Ev.Q.b_closes gtD
  walk_at "ev"
  rw [lenD]
  walk_at "ev"
  rw [lenD]
  walk_at "ev"
  refine w_times (bq.mono (by decide)) (bT.mono (by decide)) ?_
  walk_at "ev"
  refine w_add' (bi.1.mono (by decide)) ((BR.tim bq bT).mono (by decide)) ?_
  walk_at "ev"
  exact q
theorem w_turns_since [H_turns_since P] [H_subtract P] [H_floor_of P] [H_divide P] [H_fraction P] [H_divisor_of P] {x y T : Rat} (bx : BR 1600 x) (b : BR 905 y) (bT : BR 300 T) (nT : T ≠ 0) (q : Q (.int ((x - y) / T).floor) μ) : WP (call P (n + 4) "turns_since" [fr x, fr y, fr T]) μ Q X := by
  refine w_fn (fn := Ev.Q.f_turns_since) Has.out rfl ?_
  show WQ (evSL _ _ Ev.Q.b_turns_since [some (fr x), some (fr y), some (fr T)] _) _ _
  unfold Ev.Q.b_turns_since
  walk_at "ev"
  refine w_subtract (bx.mono (by decide)) (b.mono (by decide)) ?_
  walk_at "ev"
  refine w_divide ((bx.sub b).mono (by decide)) (bT.mono (by decide)) nT ?_
  walk_at "ev"
  refine w_floor_of (((bx.sub b).div bT nT).mono (by decide)) ?_
  walk_at "ev"
  exact q
theorem w_last_opening [H_last_opening P] [H_turns_since P] [H_opens P] [H_is_less P] [H_times P] [H_add P] [H_subtract P] [H_floor_of P] [H_divide P] [H_fraction P] [H_divisor_of P] {m : Rat} {e_b : Nat} (b : GB e_b g) (o : g.Ok) (h : 0 < g.n) (bm : BR 1600 m)
    (q : ∀ k : Int, Bd 2830 k → g.en k ≤ m → m < g.en (k + 1) → Q (.int k) μ) (he_b : e_b ≤ 300 := by decide) : WP (call P (n + 5) "last_opening" [gtD g, fr m]) μ Q X := by
  replace b := b.mono he_b
  have ll : g.sp.length = g.n := rfl
  have nT : g.T ≠ 0 := by have := o.T0; grind
  have bT := b.T
  have b6 := bd6 o.len
  have fe := Gate.first_en o h m
  have b0 : BR 905 (g.en 0) := by
    have bi := b.at (Gate.im (g := g) (k := 0) h).1
    have bq : Bd 1 ((0 : Int).fdiv g.n) := Bd.fdiv (by omega) (Bd.of (by decide))
    exact ((bi.1.add (BR.tim bq b.T)).add bi.2).mono (by decide)
  have bf : Bd 2816 ((m - g.en 0) / g.T).floor := (((bm.sub b0).div b.T nT).mono (by decide)).floor
  refine w_fn (fn := Ev.Q.f_last_opening) Has.out rfl ?_
  show WQ (evSL _ _ Ev.Q.b_last_opening [some (gtD g), some (fr m), none, none, none, none] _) _ _
  unfold Ev.Q.b_last_opening
  walk_at "ev"
  refine w_opens b h o.len (Bd.of (by decide)) ?_
  walk_at "ev"
  refine w_turns_since (bm.mono (by decide)) (b0.mono (by decide)) (bT.mono (by decide)) nT ?_
  generalize ((m - g.en 0) / g.T).floor = f at *
  have bk : Bd 2824 (g.n * f) := (b6.mul bf).mono (by decide)
  rw [lenD]
  walk_at "ev"
  refine ⟨fun j δ μ' => ∃ (k : Int) (x3 x4 x5 : Option D), j = (g.n * f + g.n - k).toNat ∧ g.n * f ≤ k ∧ g.en k ≤ m ∧ μ' = μ ∧ δ = [some (gtD g), some (fr m), some (.int k), x3, x4, x5], _, ⟨g.n * f, _, _, _, rfl, Int.le_refl _, fe.1, rfl, rfl⟩, ?_⟩
  rintro j δ μ' ⟨k, x3, x4, x5, rfl, hk, hm, rfl, rfl⟩
  have hk2 : k < g.n * f + g.n := by
    rcases Int.lt_or_le k (g.n * f + g.n) with c | c
    · exact c
    · have := Gate.en_le o h c
      have := fe.2
      grind
  have bkk : Bd 2829 k := Bd.between (bk.mono (by decide)) ((bk.add b6).mono (by decide)) hk (Int.le_of_lt hk2)
  have bk1 : Bd 2830 (k + 1) := (bkk.add (Bd.of (k := 1) (x := 1) (by decide))).mono (by decide)
  walk_at "ev"
  refine w_opens b h o.len (bk1.mono (by decide)) ?_
  walk_at "ev"
  refine w_less (bm.mono (by decide)) ((BR.en b h (bk1.mono (by decide))).mono (by decide)) ?_
  walk_at "ev"
  · refine ⟨(g.n * f + g.n - (k + 1)).toNat, by omega, k + 1, _, _, _, rfl, by omega, by grind, rfl, rfl⟩
  · exact q k (bkk.mono (by decide)) hm (by assumption)
theorem w_number_at [H_number_at P] [H_closes P] [H_last_opening P] [H_turns_since P] [H_opens P] [H_is_less P] [H_times P] [H_add P] [H_subtract P] [H_floor_of P] [H_divide P] [H_fraction P] [H_divisor_of P] {m : Rat} {e_b : Nat} (b : GB e_b g) (o : g.Ok) (h : 0 < g.n) (bm : BR 1600 m)
    (q : ∀ k : Int, Bd 2830 k → g.en k ≤ m → m < g.en (k + 1) → (g.Open m → Q (.int k) μ) ∧ (¬ g.Open m → Q .non μ)) (he_b : e_b ≤ 300 := by decide) : WP (call P (n + 6) "number_at" [gtD g, fr m]) μ Q X := by
  replace b := b.mono he_b
  refine w_fn (fn := Ev.Q.f_number_at) Has.out rfl ?_
  show WQ (evSL _ _ Ev.Q.b_number_at [some (gtD g), some (fr m), none] _) _ _
  unfold Ev.Q.b_number_at
  walk_at "ev"
  refine w_last_opening b o h bm fun k bk h1 h2 => ?_
  have io := Gate.open_iff o h h1 h2
  have bk1 : Bd 2900 (k + 1) := (bk.add (Bd.of (k := 1) (x := 1) (by decide))).mono (by decide)
  walk_at "ev"
  refine w_closes b h o.len (bk.mono (by decide)) ?_
  walk_at "ev"
  refine w_less ((BR.bg b h bk1).mono (by decide)) (bm.mono (by decide)) ?_
  have qq := q k bk h1 h2
  walk_at "ev"
  · rename_i h3
    exact qq.2 fun c => io.mp c h3
  · rename_i h3
    exact qq.1 (io.mpr h3)
theorem w_lets [H_lets P] [H_number_at P] [H_closes P] [H_last_opening P] [H_turns_since P] [H_opens P] [H_is_less P] [H_times P] [H_add P] [H_subtract P] [H_floor_of P] [H_divide P] [H_fraction P] [H_divisor_of P] {m : Rat} {r : Bool} {e_b : Nat} (b : GB e_b g) (o : g.Ok) (bm : BR 1600 m)
    (hr : r = true ↔ g.Open m) (q : Q (.bl r) μ) (he_b : e_b ≤ 300 := by decide) : WP (call P (n + 7) "lets" [gtD g, fr m]) μ Q X := by
  replace b := b.mono he_b
  have ll : g.sp.length = g.n := rfl
  have bT := b.T
  refine w_fn (fn := Ev.Q.f_lets) Has.out rfl ?_
  show WQ (evSL _ _ Ev.Q.b_lets [some (gtD g), some (fr m)] _) _ _
  unfold Ev.Q.b_lets
  have ce := eqO_nil (g := g) (by have := o.len; omega)
  repeat' (first | (with_reducible refine Ev.w_cmp ?_) | walk_at "ev1")
  · rename_i h0
    refine w_number_at b o (by omega) bm fun k bk h1 h2 => ⟨fun ho => ?_, fun ho => ?_⟩
    · have e : r = true := hr.mpr ho
      rw [e] at q
      repeat' (first | (with_reducible refine Ev.w_cmp ?_) | walk_at "ev1")
      exact q
    · have e : r = false := by
        cases r with
        | false => rfl
        | true => exact (ho (hr.mp rfl)).elim
      rw [e] at q
      repeat' (first | (with_reducible refine Ev.w_cmp ?_) | walk_at "ev1")
      exact q
  · rename_i h0
    have e : r = true := hr.mpr fun h => by omega
    rw [e] at q
    exact q
end
end Ev

namespace Ev
open Ev.Q PySem
theorem wi_rng2 {cf : Str → List D → M D} {gc : Str → Option D} {δ : Ev.Env} {μ : Mu} {X : Exn → Mu → Prop} {a b : E} {Q : Iv → Mu → Prop} (h : WP (evE cf gc a δ) μ (fun x μ1 => WP (evE cf gc b δ) μ1 (fun y μ2 => ∃ iv, rng2Of x y = some iv ∧ Q iv μ2) X) X) : WP (evI cf gc (.rng2 a b) δ) μ Q X :=
  wp_bnd (wp_imp h fun x μ1 h => wp_bnd (wp_imp h fun y μ2 h => wp_lft h))
theorem cut_take {α : Type} {xs : List α} {k : Nat} (h : k ≤ xs.length) : cut xs none (some (k : Int)) = xs.take k := by
  unfold cut
  have e1 : HT.sIx xs.length 0 none = 0 := rfl
  have e2 : HT.sIx xs.length xs.length (some (k : Int)) = k := by
    rw [HT.sIx_nat]
    omega
  rw [e1, e2]
  rfl
theorem slc_take {ds : List D} {k : Nat} (h : k < ds.length) : slcOp (.tup ds) .non (.int k) = some (.tup (ds.take k)) := by
  show (if HT.sIx ds.length 0 none = 0 ∧ HT.sIx ds.length ds.length (some (k : Int)) = ds.length then none else some (D.tup (cut ds none (some (k : Int))))) = _
  rw [HT.sIx_nat, if_neg (by omega), cut_take (by omega)]
namespace Gate
theorem fp_eq {g : Gate} {p : Nat} (h1 : 1 ≤ p) (h2 : p < g.n) (r : Rp g p) (hn : ∀ r, 1 ≤ r → r < p → ¬ Rp g r) : g.fp = some p := by
  unfold fp
  rw [List.find?_range'_eq_some]
  refine ⟨by simp [r], by rw [List.mem_range'_1]; omega, fun j j1 j2 => ?_⟩
  simp [hn j j1 j2]
theorem fp_no {g : Gate} (hn : ∀ r, 1 ≤ r → r < g.n → ¬ Rp g r) : g.fp = none := by
  unfold fp
  rw [List.find?_eq_none]
  intro r hr
  rw [List.mem_range'_1] at hr
  simp [hn r hr.1 (by omega)]
theorem nrm_some {g : Gate} {p : Nat} (h : 0 < g.n) (e : g.fp = some p) : g.nrm = ⟨g.pl, g.sh p, g.sp.take p⟩ := by
  have : g.per = p := by unfold per; rw [e]; rfl
  unfold nrm
  rw [if_neg (by omega), this]
theorem nrm_none {g : Gate} (h : 0 < g.n) (e : g.fp = none) : g.nrm = g := by
  have : g.per = g.n := by unfold per; rw [e]; rfl
  unfold nrm
  rw [if_neg (by omega), this, sh_full h]
  show Gate.mk g.pl g.T (g.sp.take g.sp.length) = g
  rw [List.take_length]
theorem sh_divInt {g : Gate} (h : 0 < g.n) (p : Nat) : Rat.divInt (g.T.num * p) (g.T.den * g.n) = g.sh p := by
  have n0 : ((g.n : Int) : Rat) ≠ 0 := by
    intro z
    have := Rat.intCast_eq_zero_iff.mp z
    omega
  rw [← Rat.divInt_mul_divInt, Rat.num_divInt_den]
  have e : Rat.divInt (p : Int) (g.n : Int) = ((p : Int) : Rat) / ((g.n : Int) : Rat) := Rat.divInt_eq_div ..
  rw [e]
  unfold sh
  grind
end Gate
section
variable {P : Pg} {n : Nat} {μ : Mu} {Q : D → Mu → Prop} {X : Exn → Mu → Prop} {g : Gate}
theorem w_repeats [H_repeats P] [H_subtract P] [H_add P] [H_fraction P] [H_divisor_of P] {p : Nat} {s : Rat} {e_b : Nat} (b : GB e_b g) (bs : BR 500 s) (hl : g.n ≤ 6) (h1 : 1 ≤ p) (h2 : p < g.n) (q : Q (.bl (decide (Gate.Rep g p s))) μ) (he_b : e_b ≤ 400 := by decide) : WP (call P (n + 4) "repeats" [fr g.T, .tup (g.sp.map spD), .int p, fr s]) μ Q X := by
  replace b := b.mono he_b
  refine w_fn (fn := Ev.Q.f_repeats) Has.out rfl ?_
  show WQ (evSL _ _ Ev.Q.b_repeats [some (fr g.T), some (.tup (g.sp.map spD)), some (.int p), some (fr s), none, none, none, none, none, none] _) _ _
  unfold Ev.Q.b_repeats
  have ll : g.sp.length = g.n := rfl
  walk_at "ev"
  rw [lenD]
  refine wi_enum (w_var rfl ⟨_, rfl, _, stat_enumT _, fun i δ μ' => (∀ j, j < i → j < g.n → g.bg (j + p) = g.bg j + s ∧ g.ln (j + p) = g.ln j) ∧ μ' = μ ∧ ∃ x5 x6 x7 x8 x9, δ = [some (fr g.T), some (.tup (g.sp.map spD)), some (.int p), some (fr s), some (.int g.n), x5, x6, x7, x8, x9], ⟨fun j h => by omega, rfl, _, _, _, _, _, rfl⟩, ?_, ?_⟩)
  · rintro i x δ μ' hx ⟨hf, rfl, x5, x6, x7, x8, x9, rfl⟩
    rw [List.getElem?_mapIdx] at hx
    obtain ⟨y, hy, rfl⟩ := Option.map_eq_some_iff.mp hx
    have hi : i < g.n := by
      have := (List.getElem?_eq_some_iff.mp hy).1
      rwa [lenD] at this
    rw [atD hi] at hy
    cases hy
    clear hx
    have bi := b.at hi
    have gi := Gate.at_bg (show 0 < g.n by omega) hi
    have no : ¬ (g.bg (i + p) = g.bg i + s ∧ g.ln (i + p) = g.ln i) → Q (.bl false) μ' := fun h => by
      rw [decide_eq_false (fun c => h (c i hi))] at q
      exact q
    have ii := spans_ix (g := g) (k := (i : Int) + p) (by omega)
    have hj := Gate.im (g := g) (k := (i : Int) + p) (by omega)
    have bj := b.at hj.1
    have bT := b.T
    have eb : g.bg (i + p) = (g.at' (((i : Int) + p).fmod g.n).toNat).1 + (if (g.n : Int) ≤ (i : Int) + p then g.T else 0) := by
      unfold Gate.bg
      congr 1
      split
      · have := (Gate.fsmall (n := g.n) (r := (i : Int) + p - g.n) (q := 1) (by omega) (by omega)).2
        rw [show (i : Int) + p - g.n + 1 * g.n = i + p by omega] at this
        rw [this]
        simp
      · have := (Gate.fsmall (n := g.n) (r := (i : Int) + p) (q := 0) (by omega) (by omega)).2
        rw [show (i : Int) + p + 0 * g.n = i + p by omega] at this
        rw [this]
        simp
    have el : g.ln (i + p) = (g.at' (((i : Int) + p).fmod g.n).toNat).2 := rfl
    have done : ∀ {x5 x6 x7 x8 x9 : Option D}, (g.bg (i + p) = g.bg i + s ∧ g.ln (i + p) = g.ln i) → (∀ j, j < i + 1 → j < g.n → g.bg (j + p) = g.bg j + s ∧ g.ln (j + p) = g.ln j) := fun hh j hj hjn => by
      rcases Nat.lt_or_ge j i with h6 | h6
      · exact hf j h6 hjn
      · have e : j = i := by omega
        subst e
        exact hh
    refine ⟨_, rfl, ?_⟩
    generalize g.at' (((i : Int) + p).fmod g.n).toNat = u at *
    generalize g.at' i = v at *
    rw [gi.1, gi.2] at no done
    have c1 : cop .ne (fr u.2) (fr v.2) = some (!decide (u.2 = v.2)) := eqO_fr true _ _
    have fin : ∀ {w : Rat} {x5 x6 x7 x8 x9 : Option D}, g.bg (i + p) = w → BR 900 w → WQ (evSL (call P (n + 3)) P.gc (.cons (.ife (.or (.cmp .ne (.ix (.var 6) (.lit (.int 1))) (.var 9)) (.cmp .ne (.call "subtract" (.cons (.var 7) (.cons (.var 8) .nil))) (.var 3))) (.cons (.ret (.lit (.bl false))) .nil) .nil) .nil) [some (fr g.T), some (.tup (g.sp.map spD)), some (.int p), some (fr s), some (.int g.n), x5, some (.tup [fr u.1, fr u.2]), some (fr w), some (fr v.1), some (fr v.2)] μ')
        (loopQ (thenQ (call P (n + 3)) P.gc (.cons (.ret (.lit (.bl true))) .nil) (fnQ Q) fun x x_1 μ' => X x μ') ((fun i δ μ'_1 => (∀ j : Nat, j < i → j < g.n → g.bg (j + p) = g.bg j + s ∧ g.ln (j + p) = g.ln j) ∧ μ'_1 = μ' ∧ ∃ x5 x6 x7 x8 x9, δ = [some (fr g.T), some (.tup (g.sp.map spD)), some (.int p), some (fr s), some (.int g.n), x5, x6, x7, x8, x9]) (i + 1))) fun x x_1 μ' => X x μ' := by
      intro w x5 x6 x7 x8 x9 ew bw
      have c2 : cop .ne (fr (w - v.1)) (fr s) = some (!decide (w - v.1 = s)) := eqO_fr true _ _
      walk_at "evc"
      · rename_i h3
        refine w_subtract (bw.mono (by decide)) (bi.1.mono (by decide)) ?_
        walk_at "evc"
        · rename_i h4
          exact no fun c => h4 (by rw [← ew, c.1]; grind)
        · rename_i h4
          exact ⟨done (x5 := none) (x6 := none) (x7 := none) (x8 := none) (x9 := none) ⟨by rw [ew]; grind, by rw [el, h3]⟩, rfl, _, _, _, _, _, rfl⟩
      · exact no fun c => absurd (show u.2 = v.2 by rw [← el, c.2]) ‹_›
    walk_at "evn"
    refine t_nx ?_
    walk_at "evn"
    · rename_i h3
      rw [if_pos h3] at eb
      refine w_add' (bj.1.mono (by decide)) (bT.mono (by decide)) ?_
      walk_at "evn"
      refine t_nx ?_
      exact fin (x6 := none) (x7 := none) (x8 := none) (x9 := none) eb ((bj.1.add bT).mono (by decide))
    · rename_i h3
      rw [if_neg (by omega)] at eb
      refine t_nx ?_
      exact fin (w := u.1) (x6 := none) (x7 := none) (x8 := none) (x9 := none) (by rw [eb]; grind) (bj.1.mono (by decide))
  · rintro δ μ' ⟨hf, rfl, x5, x6, x7, x8, x9, rfl⟩
    rw [List.length_mapIdx, lenD] at hf
    walk_at "ev"
    rw [decide_eq_true (show Gate.Rep g p s from fun i hi => hf i hi hi)] at q
    exact q
theorem w_normalized [H_normalized P] [HasC P "ONE" (.tup [.int 1, .int 1])] [H_repeats P] [H_subtract P] [H_add P] [H_fraction P] [H_divisor_of P] {e_b : Nat} (b : GB e_b g) (hl : g.n ≤ 6) (q : Q (gtD g.nrm) μ) (he_b : e_b ≤ 400 := by decide) : WP (call P (n + 5) "normalized" [gtD g]) μ Q X := by
  replace b := b.mono he_b
  refine w_fn (fn := Ev.Q.f_normalized) Has.out rfl ?_
  show WQ (evSL _ _ Ev.Q.b_normalized [some (gtD g), none, none, none, none, none, none, none] _) _ _
  unfold Ev.Q.b_normalized
  have ll : g.sp.length = g.n := rfl
  have bT := b.T
  have b1 := bT.n
  have b2 := bT.d
  have b6 := bd6 hl
  walk_at "evn"
  refine t_nx ?_
  walk_at "evn"
  refine t_nx ?_
  rw [lenD]
  walk_at "evn"
  · rename_i h0
    have h0 : g.n = 0 := by omega
    refine w_con (d := .tup [.int 1, .int 1]) HasC.out ?_
    walk_at "evn"
    have e : g.nrm = ⟨g.pl, 1, []⟩ := if_pos h0
    rw [e] at q
    exact q
  · rename_i h0
    have h0 : 0 < g.n := by omega
    refine t_nx ?_
    have hr2 : rng2Of (.int 1) (.int g.n) = some (.rng 1 (g.n - 1)) := by
      unfold rng2Of
      show (if _ then some (Iv.rng 1 ((g.n : Int) - 1).toNat) else none) = _
      rw [if_pos ⟨by decide, by decide, by omega, by omega⟩, show ((g.n : Int) - 1).toNat = g.n - 1 by omega]
    refine q_cons (q_for (wi_rng2 (w_lit (w_var rfl ⟨_, hr2, _, stat_rng 1 (g.n - 1), fun i δ μ' => (∀ r, 1 ≤ r → r < 1 + i → ¬ Gate.Rp g r) ∧ i ≤ g.n - 1 ∧ μ' = μ ∧ ∃ x2 x6 x7, δ = [some (gtD g), some (.int g.n), x2, some (fr g.pl), some (fr g.T), some (.tup (g.sp.map spD)), x6, x7], ⟨fun r h1 h2 => by omega, Nat.zero_le _, rfl, _, _, _, rfl⟩, ?_, ?_⟩))))
    · rintro i x δ μ' hx ⟨hf, hi, rfl, x2, x6, x7, rfl⟩
      have hi' := (List.getElem?_eq_some_iff.mp hx).1
      rw [List.length_map, List.length_range] at hi'
      rw [List.getElem?_map, List.getElem?_range hi'] at hx
      have hx' : x = .int ((1 + i : Nat) : Int) := by
        rw [← Option.some.inj hx]
        show D.int (1 + (i : Int)) = _
        congr 1
      subst hx'
      refine ⟨_, rfl, ?_⟩
      clear hx hr2
      have hp1 : 1 ≤ 1 + i := by omega
      have hp2 : 1 + i < g.n := by omega
      generalize hpi : 1 + i = p at *
      have bp : Bd 4 (p : Int) := Bd.of (by omega)
      have hT := dne g.T
      have nn : (g.T.den : Int) * (g.n : Int) ≠ 0 := Int.mul_ne_zero hT (by omega)
      have bs : BR 410 (g.sh p) := by
        rw [← Gate.sh_divInt h0]
        exact BR.of nn ((b1.mul bp).mono (by decide)) ((b2.mul b6).mono (by decide))
      have sl := slc_take (ds := g.sp.map spD) (k := p) (by rw [lenD]; omega)
      rw [← List.map_take] at sl
      walk_at "evn"
      refine w_fraction nn ((b1.mul bp).mono (by decide)) ((b2.mul b6).mono (by decide)) ?_
      rw [Gate.sh_divInt h0]
      walk_at "evn"
      refine t_nx ?_
      walk_at "evn"
      · refine w_repeats b (bs.mono (by decide)) hl hp1 hp2 ?_
        walk_at "evn"
        · rename_i h3 h4
          have rp : Gate.Rp g p := ⟨by
            have := h3
            rw [Int.fmod_eq_emod_of_nonneg _ (by omega)] at this
            omega, h4⟩
          rw [Gate.nrm_some h0 (Gate.fp_eq hp1 hp2 rp hf)] at q
          refine b_tuple rfl ?_
          walk_at "evn"
          exact q
        · rename_i h3 h4
          refine ⟨fun r r1 r2 c => ?_, by omega, rfl, _, _, _, rfl⟩
          by_cases hr : r < p
          · exact hf r r1 hr c
          · have : r = p := by omega
            subst this
            exact h4 c.2
      · rename_i h3
        refine ⟨fun r r1 r2 c => ?_, by omega, rfl, _, _, _, rfl⟩
        by_cases hr : r < p
        · exact hf r r1 hr c
        · have : r = p := by omega
          subst this
          have hm : (g.n : Int).fmod r = 0 := by
            rw [Int.fmod_eq_emod_of_nonneg _ (by omega)]
            have := c.1
            omega
          exact absurd hm ‹_›
    · rintro δ μ' ⟨hf, hi, rfl, x2, x6, x7, rfl⟩
      rw [List.length_map, List.length_range] at hf
      have no : g.fp = none := Gate.fp_no fun r r1 r2 => hf r r1 (by omega)
      rw [Gate.nrm_none h0 no] at q
      clear hf hr2
      have st := stat_tup (g.sp.map spD)
      refine t_nx ?_
      walk_at "evn"
      refine ⟨fun i acc μ'' => i ≤ g.n ∧ μ'' = μ' ∧ acc = (g.sp.map spD).take i, ⟨Nat.zero_le _, rfl, rfl⟩, ?_, ?_⟩
      · rintro i y acc μ'' hy ⟨hi, rfl, rfl⟩
        have hi' : i < g.n := by
          have := (List.getElem?_eq_some_iff.mp hy).1
          rwa [lenD] at this
        have hy2 := hy
        rw [atD hi'] at hy2
        cases hy2
        refine ⟨_, rfl, ?_⟩
        refine w_lit ⟨true, rfl, fun _ => ?_, fun h => by cases h⟩
        have tk := copy_all hy
        clear hy
        walk_at "evn"
        refine b_tuple rfl ?_
        refine ⟨big_lt (by rw [List.length_take, lenD]; omega), hi', rfl, ?_⟩
        rw [tk]
        rfl
      · rintro acc μ'' ⟨hi, rfl, rfl⟩
        rw [List.take_length]
        refine ⟨Nat.le_of_lt (big_lt (by rw [lenD]; omega)), ?_⟩
        walk_at "evn"
        refine b_tuple rfl ?_
        walk_at "evn"
        exact q
end
end Ev

namespace Ev
open Ev.Q PySem
section
variable {P : Pg} {n : Nat} {μ : Mu} {Q : D → Mu → Prop} {X : Exn → Mu → Prop} {g : Gate} {m : Rat}
theorem BR.sh {p : Nat} (b : BR 50 g.T) (h : 0 < g.n) (hl : g.n ≤ 6) (hp : p ≤ 6) : BR 64 (g.sh p) := by
  rw [← Gate.sh_divInt h]
  have hT := dne g.T
  have nn : (g.T.den : Int) * (g.n : Int) ≠ 0 := Int.mul_ne_zero hT (by omega)
  exact BR.of nn ((b.n.mul (Bd.of (k := 4) (x := p) (by omega))).mono (by decide)) ((b.d.mul (bd6 hl)).mono (by decide))
theorem GB.nrm (b : GB 50 g) (o : g.Ok) : GB 64 g.nrm := by
  by_cases h : g.n = 0
  · have e : g.nrm = ⟨g.pl, 1, []⟩ := if_pos h
    rw [e]
    exact ⟨b.pl.mono (by decide), ⟨show Bd 64 (1 : Rat).num from Bd.of (by decide), show Bd 64 ((1 : Rat).den : Int) from Bd.of (by decide)⟩, fun s hs => by cases hs⟩
  · have e : g.nrm = ⟨g.pl, g.sh g.per, g.sp.take g.per⟩ := if_neg h
    have hp := Gate.per_ok (g := g) (by omega)
    have hl := o.len
    rw [e]
    exact ⟨b.pl.mono (by decide), BR.sh b.T (by omega) o.len (by omega), fun s hs => ⟨(b.sp s (List.mem_of_mem_take hs)).1.mono (by decide), (b.sp s (List.mem_of_mem_take hs)).2.mono (by decide)⟩⟩
theorem w_normal_gate [H_normal_gate P] [H_copied P] [H_is_gate P] [HasC P "MAX_SPANS" (.int 6)] [H_spans_fit P] [H_is_less P] [H_normalized P] [HasC P "ONE" (.tup [.int 1, .int 1])] [H_repeats P] [H_subtract P] [H_add P] [H_fraction P] [H_divisor_of P] {e_b : Nat} (b : GB e_b g) (o : g.Ok) (q : Q (gtD g.nrm) μ) (he_b : e_b ≤ 400 := by decide) : WP (call P (n + 7) "normal_gate" [gtD g]) μ Q X := by
  replace b := b.mono he_b
  refine w_fn (fn := Ev.Q.f_normal_gate) Has.out rfl ?_
  show WQ (evSL _ _ Ev.Q.b_normal_gate [some (gtD g)] _) _ _
  unfold Ev.Q.b_normal_gate
  walk_at "ev"
  refine w_copied (b.mono (by decide)) o ?_
  walk_at "ev"
  refine w_normalized b o.len ?_
  walk_at "ev"
  exact q
theorem w_is_open [H_is_open P] [H_lets P] [H_number_at P] [H_closes P] [H_last_opening P] [H_turns_since P] [H_opens P] [H_times P] [H_floor_of P] [H_divide P] [H_normal_gate P] [H_copied P] [H_is_gate P] [HasC P "MAX_SPANS" (.int 6)] [H_spans_fit P] [H_is_less P] [H_normalized P] [HasC P "ONE" (.tup [.int 1, .int 1])] [H_repeats P] [H_subtract P] [H_add P] [H_fraction P] [H_divisor_of P] {r : Bool} {e_b : Nat} (b : GB e_b g) {e_bn : Nat} (bn : GB e_bn g.nrm) (o : g.Ok) (bm : BR 1600 m) (hr : r = true ↔ g.Open m) (q : Q (.bl r) μ) (he_b : e_b ≤ 400 := by decide) (he_bn : e_bn ≤ 300 := by decide) : WP (call P (n + 8) "is_open" [gtD g, fr m]) μ Q X := by
  replace b := b.mono he_b
  replace bn := bn.mono he_bn
  refine w_fn (fn := Ev.Q.f_is_open) Has.out rfl ?_
  show WQ (evSL _ _ Ev.Q.b_is_open [some (gtD g), some (fr m)] _) _ _
  unfold Ev.Q.b_is_open
  walk_at "ev"
  refine w_normal_gate b o ?_
  walk_at "ev"
  refine w_lets bn (Gate.nrm_ok o) bm (hr.trans Gate.nrm_open.symm) ?_
  walk_at "ev"
  exact q
/-! the law's own -/
def shutF (g : Gate) (m : Rat) : Option Nat := (List.range g.n).find? fun i => decide (Gate.Cond g m i)
def optD : Option Nat → D
  | some i => .int i
  | none => .non
theorem rng1_n {M : Nat} (h : M ≤ 1000) : rng1Of (.int (M : Int)) = some (.rng 0 M) := by
  have h2 : -(2 ^ 62) ≤ (M : Int) ∧ (M : Int) < 2 ^ 62 := ⟨by omega, by omega⟩
  unfold rng1Of
  simp only [if_pos h2, Int.toNat_natCast]
theorem shutF_none (o : g.Ok) : shutF g m = none ↔ g.Open m := by
  rw [Gate.open_cond o]
  unfold shutF
  rw [List.find?_eq_none]
  simp
theorem shutF_some {i : Nat} (h : i < g.n) (c : Gate.Cond g m i) (hn : ∀ j, j < i → ¬ Gate.Cond g m j) : shutF g m = some i := by
  unfold shutF
  rw [List.find?_range_eq_some]
  refine ⟨by simp [c], by simpa using h, fun j hj => ?_⟩
  simp [hn j hj]
theorem l_shut_by [H__law_shut_by P] [H__law_rest P] [H__law_subtract P] [H__law_times P] [H__law_floor P] [H__law_divide P] [H__law_less P] [H__law_reduce P] [H__law_divisor P] (b : GB 64 g) (o : g.Ok) (bm : BR 1300 m) (q : Q (optD (shutF g m)) μ) : WP (call P (n + 5) "_law_shut_by" [gtD g, fr m]) μ Q X := by
  refine w_fn (fn := Ev.Q.f__law_shut_by) Has.out rfl ?_
  show WQ (evSL _ _ Ev.Q.b__law_shut_by [some (gtD g), some (fr m), none, none, none, none, none, none, none] _) _ _
  unfold Ev.Q.b__law_shut_by
  have ll : g.sp.length = g.n := rfl
  have hl := o.len
  have bT := b.T
  have nT : g.T ≠ 0 := by have := o.T0; grind
  have hr1 : rng1Of (.int g.n) = some (.rng 0 g.n) := rng1_n (by omega)
  walk_at "evn"
  refine t_nx ?_
  refine q_cons (q_for (wi_rng1 (w_bi (wl_cons (w_var rfl (wl_nil (b_len rfl (fun _ h => nomatch h) ?_)))))))
  rw [lenD]
  refine ⟨_, hr1, _, stat_rng 0 g.n, fun i δ μ' => (∀ j, j < i → ¬ Gate.Cond g m j) ∧ i ≤ g.n ∧ μ' = μ ∧ ∃ x2 x6 x7 x8, δ = [some (gtD g), some (fr m), x2, some (fr g.pl), some (fr g.T), some (.tup (g.sp.map spD)), x6, x7, x8], ⟨fun j h => by omega, Nat.zero_le _, rfl, _, _, _, _, rfl⟩, ?_, ?_⟩
  · rintro i x δ μ' hx ⟨hf, hi, rfl, x2, x6, x7, x8, rfl⟩
    have hi' := (List.getElem?_eq_some_iff.mp hx).1
    rw [List.length_map, List.length_range] at hi'
    rw [List.getElem?_map, List.getElem?_range hi'] at hx
    have hx' : x = .int (i : Int) := by
      rw [← Option.some.inj hx]
      show D.int (0 + (i : Int)) = _
      rw [Int.zero_add]
    subst hx'
    clear hx hr1
    refine ⟨_, rfl, ?_⟩
    have ix : ixOp (.tup (g.sp.map spD)) (.int i) = some (.tup [fr (g.at' i).1, fr (g.at' i).2]) := ixD (by omega) (by omega)
    have bi := b.at hi'
    have bd : BR 1390 (m - (g.at' i).1) := (bm.sub bi.1).mono (by decide)
    have br : BR 2950 (rmd (m - (g.at' i).1) g.T) := (bd.rmd bT nT).mono (by decide)
    have np := num_pos (x := rmd (m - (g.at' i).1) g.T)
    walk_at "evn"
    refine t_nx ?_
    walk_at "evn"
    refine l_subtract (bm.mono (by decide)) (bi.1.mono (by decide)) ?_
    walk_at "evn"
    refine l_rest (bd.mono (by decide)) (bT.mono (by decide)) nT ?_
    walk_at "evn"
    refine t_nx ?_
    have no : ¬ Gate.Cond g m i → ∀ j, j < i + 1 → ¬ Gate.Cond g m j := fun h j hj => by
      by_cases e : j = i
      · subst e; exact h
      · exact hf j (by omega)
    walk_at "evn"
    · rename_i h3
      refine l_less (br.mono (by decide)) (bi.2.mono (by decide)) ?_
      walk_at "evn"
      · rename_i h4
        rw [shutF_some hi' ⟨np.mp h3, h4⟩ hf] at q
        exact q
      · rename_i h4
        exact ⟨no fun c => h4 c.2, hi', rfl, _, _, _, _, rfl⟩
    · rename_i h3
      exact ⟨no fun c => by have := np.mpr c.1; omega, hi', rfl, _, _, _, _, rfl⟩
  · rintro δ μ' ⟨hf, hi, rfl, x2, x6, x7, x8, rfl⟩
    rw [List.length_map, List.length_range] at hf
    have e : shutF g m = none := by
      unfold shutF
      rw [List.find?_eq_none]
      simpa using hf
    rw [e] at q
    walk_at "ev"
    exact q
theorem l_is_open [H__law_is_open P] [H__law_shut_by P] [H__law_rest P] [H__law_subtract P] [H__law_times P] [H__law_floor P] [H__law_divide P] [H__law_less P] [H__law_reduce P] [H__law_divisor P] {r : Bool} (b : GB 64 g) (o : g.Ok) (bm : BR 1300 m) (hr : r = true ↔ g.Open m) (q : Q (.bl r) μ) : WP (call P (n + 6) "_law_is_open" [gtD g, fr m]) μ Q X := by
  refine w_fn (fn := Ev.Q.f__law_is_open) Has.out rfl ?_
  show WQ (evSL _ _ Ev.Q.b__law_is_open [some (gtD g), some (fr m)] _) _ _
  unfold Ev.Q.b__law_is_open
  walk_at "evc"
  refine l_shut_by b o bm ?_
  have ho := shutF_none (m := m) o
  cases e : shutF g m with
  | none =>
    have : r = true := hr.mpr (ho.mp e)
    rw [this] at q
    walk_at "evc"
    exact q
  | some i =>
    have : r = false := by
      cases r with
      | false => rfl
      | true => rw [ho.mpr (hr.mp rfl)] at e; cases e
    rw [this] at q
    walk_at "evc"
    exact q
/-! the law's normal form -/
theorem later_at {s : Rat} {x : Rat × Rat} (h : 0 < g.n) : x ∈ g.sp.map (fun u => (rmd (u.1 + s) g.T, u.2)) ↔ ∃ j, j < g.n ∧ x.1 = rmd ((g.at' j).1 + s) g.T ∧ x.2 = (g.at' j).2 := by
  rw [List.mem_map]
  constructor
  · rintro ⟨u, hu, rfl⟩
    obtain ⟨j, hj, e⟩ := List.getElem_of_mem hu
    have h1 := at_some (g := g) (i := j) hj
    rw [List.getElem?_eq_getElem hj, e] at h1
    cases h1
    exact ⟨j, hj, rfl, rfl⟩
  · rintro ⟨j, hj, e1, e2⟩
    exact ⟨g.at' j, List.mem_of_getElem? (at_some hj), Prod.ext e1.symm e2.symm⟩
theorem lat_iff {s : Rat} (h : 0 < g.n) : Gate.Lat g s ↔ ∀ x ∈ g.sp, x ∈ g.sp.map (fun u => (rmd (u.1 + s) g.T, u.2)) := by
  constructor
  · intro l x hx
    obtain ⟨i, hi, e⟩ := List.getElem_of_mem hx
    have h1 := at_some (g := g) (i := i) hi
    rw [List.getElem?_eq_getElem hi, e] at h1
    cases h1
    exact (later_at h).mpr (l i hi)
  · intro l i hi
    exact (later_at h).mp (l _ (List.mem_of_getElem? (at_some hi)))
theorem bools_map {α : Type} {f : α → Bool} : ∀ xs : List α, bools (xs.map fun x => D.bl (f x)) = some (xs.map f)
  | [] => rfl
  | x :: xs => by
    show (bools (xs.map fun x => D.bl (f x))).map (f x :: ·) = _
    rw [bools_map xs]
    rfl
def latB (g : Gate) (s : Rat) : Bool := (g.sp.map fun x => decide (x ∈ g.sp.map (fun u => (rmd (u.1 + s) g.T, u.2)))).all id
theorem latB_iff {s : Rat} (h : 0 < g.n) : latB g s = true ↔ Gate.Lat g s := by
  rw [lat_iff h]
  unfold latB
  rw [List.all_map, List.all_eq_true]
  simp only [Function.comp_apply, id, decide_eq_true_eq]
theorem rp_lat {p : Nat} (o : g.Ok) (h : 0 < g.n) (hp : 0 < p) : Gate.Rp g p ↔ g.n % p = 0 ∧ Gate.Lat g (g.sh p) := by
  constructor
  · intro r
    exact ⟨r.1, Gate.rep_lat o h r.2⟩
  · intro r
    exact ⟨r.1, Gate.lat_rep o h hp r.1 r.2⟩
def frI (k : Nat) : fr (((k : Int) : Int) : Rat) = .tup [.int k, .int 1] := rfl
theorem l_normal [H__law_normal P] [H__law_rest P] [H__law_add P] [H__law_subtract P] [H__law_times P] [H__law_floor P] [H__law_divide P] [H__law_reduce P] [H__law_divisor P] (b : GB 50 g) (o : g.Ok) (q : Q (gtD g.nrm) μ) : WP (call P (n + 5) "_law_normal" [gtD g]) μ Q X := by
  refine w_fn (fn := Ev.Q.f__law_normal) Has.out rfl ?_
  show WQ (evSL _ _ Ev.Q.b__law_normal [some (gtD g), none, none, none, none, none, none, none, none, none] _) _ _
  unfold Ev.Q.b__law_normal
  have ll : g.sp.length = g.n := rfl
  have hl := o.len
  have bT := b.T
  have nT : g.T ≠ 0 := by have := o.T0; grind
  walk_at "evn"
  refine t_nx ?_
  refine q_cons (q_ife (w_eqI (w_bi (wl_cons (w_var rfl (wl_nil (b_len rfl (fun _ h => nomatch h) ?_)))))))
  rw [lenD]
  walk_at "evn"
  · rename_i h0
    have h0 : g.n = 0 := by omega
    have e : g.nrm = ⟨g.pl, 1, []⟩ := if_pos h0
    rw [e] at q
    exact q
  · rename_i h0
    have h0 : 0 < g.n := by omega
    refine t_nx ?_
    have hr2 : rng2Of (.int 1) (.int g.n) = some (.rng 1 (g.n - 1)) := by
      unfold rng2Of
      show (if _ then some (Iv.rng 1 ((g.n : Int) - 1).toNat) else none) = _
      rw [if_pos ⟨by decide, by decide, by omega, by omega⟩, show ((g.n : Int) - 1).toNat = g.n - 1 by omega]
    refine q_cons (q_for (wi_rng2 (w_lit (w_bi (wl_cons (w_var rfl (wl_nil (b_len rfl (fun _ h => nomatch h) ?_))))))))
    rw [lenD]
    refine ⟨_, hr2, _, stat_rng 1 (g.n - 1), fun i δ μ' => (∀ r, 1 ≤ r → r < 1 + i → ¬ Gate.Rp g r) ∧ i ≤ g.n - 1 ∧ μ' = μ ∧ ∃ x1 x5 x6 x7 x8 x9, δ = [some (gtD g), x1, some (fr g.pl), some (fr g.T), some (.tup (g.sp.map spD)), x5, x6, x7, x8, x9], ⟨fun r h1 h2 => by omega, Nat.zero_le _, rfl, _, _, _, _, _, _, rfl⟩, ?_, ?_⟩
    · rintro i x δ μ' hx ⟨hf, hi, rfl, x1, x5, x6, x7, x8, x9, rfl⟩
      have hi' := (List.getElem?_eq_some_iff.mp hx).1
      rw [List.length_map, List.length_range] at hi'
      rw [List.getElem?_map, List.getElem?_range hi'] at hx
      have hx' : x = .int ((1 + i : Nat) : Int) := by
        rw [← Option.some.inj hx]
        show D.int (1 + (i : Int)) = _
        congr 1
      subst hx'
      refine ⟨_, rfl, ?_⟩
      clear hx hr2
      have hp1 : 1 ≤ 1 + i := by omega
      have hp2 : 1 + i < g.n := by omega
      generalize hpi : 1 + i = p at *
      have bp : Bd 4 (p : Int) := Bd.of (by omega)
      have bn : BR 5 (((g.n : Nat) : Int) : Rat) := BR.int ((bd6 hl).mono (by decide))
      have nn : (((g.n : Nat) : Int) : Rat) ≠ 0 := by
        intro z
        have := Rat.intCast_eq_zero_iff.mp z
        omega
      have bs : BR 64 (g.sh p) := BR.sh b.T h0 hl (by omega)
      have sl := slc_take (ds := g.sp.map spD) (k := p) (by rw [lenD]; omega)
      rw [← List.map_take] at sl
      walk_at "evn"
      refine l_times (bp.mono (by decide)) (bT.mono (by decide)) ?_
      walk_at "evn"
      rw [lenD]
      walk_at "evn"
      rw [← frI]
      refine l_divide ((BR.tim bp bT).mono (by decide)) (bn.mono (by decide)) nn ?_
      rw [show ((p : Int) : Rat) * g.T / ((g.n : Int) : Rat) = g.sh p from rfl]
      walk_at "evn"
      refine t_nx ?_
      have st := stat_tup (g.sp.map spD)
      have lt : ∀ {α : Type} {f : Rat × Rat → α} {i : Nat}, i ≤ g.n → ((g.sp.map f).take i).length < sizeLine := fun h => big_lt (by rw [List.length_take, List.length_map]; omega)
      have le : ∀ {α : Type} {f : Rat × Rat → α}, (g.sp.map f).length ≤ sizeLine := Nat.le_of_lt (big_lt (by rw [List.length_map]; omega))
      have rp := rp_lat (p := p) o h0 (by omega)
      have lb := latB_iff (g := g) (s := g.sh p) h0
      have inn : ∀ x : Rat × Rat, cop .inn (spD x) (.lst ((g.sp.map fun u => (rmd (u.1 + g.sh p) g.T, u.2)).map spD)) = some (decide (x ∈ g.sp.map (fun u => (rmd (u.1 + g.sh p) g.T, u.2)))) := fun x => inO_sp (by rw [List.length_map]; omega)
      generalize hF : (fun u : Rat × Rat => (rmd (u.1 + g.sh p) g.T, u.2)) = F at *
      generalize hG : (fun x => decide (x ∈ g.sp.map F)) = G at *
      walk_at "evn"
      refine ⟨fun i acc μ'' => i ≤ g.n ∧ μ'' = μ' ∧ acc = ((g.sp.map F).map spD).take i, ⟨Nat.zero_le _, rfl, rfl⟩, ?_, ?_⟩
      · rintro j y acc μ'' hy ⟨hj, rfl, rfl⟩
        have hj' : j < g.n := by
          have := (List.getElem?_eq_some_iff.mp hy).1
          rwa [lenD] at this
        rw [atD hj'] at hy
        cases hy
        refine ⟨_, rfl, ?_⟩
        refine w_lit ⟨true, rfl, fun _ => ?_, fun h => by cases h⟩
        have bj := b.at hj'
        have at2 : ((g.sp.map F).map spD)[j]? = some (spD (F (g.at' j))) := by
          rw [List.getElem?_map, List.getElem?_map, at_some hj']
          rfl
        have tk := copy_all at2
        clear at2
        have ba : BR 150 ((g.at' j).1 + g.sh p) := (bj.1.add bs).mono (by decide)
        walk_at "evn"
        refine l_add (bj.1.mono (by decide)) (bs.mono (by decide)) ?_
        walk_at "evn"
        refine l_rest (ba.mono (by decide)) (bT.mono (by decide)) nT ?_
        walk_at "evn"
        refine ⟨by rw [← List.map_take]; exact big_lt (by rw [List.length_map, List.length_take, List.length_map]; omega), hj', rfl, ?_⟩
        rw [tk, ← hF]
        rfl
      · rintro acc μ'' ⟨hj, rfl, rfl⟩
        rw [lenD, show ((g.sp.map F).map spD).take g.n = (g.sp.map F).map spD from List.take_of_length_le (by rw [List.length_map, List.length_map]; exact Nat.le_refl _)]
        refine ⟨Nat.le_of_lt (big_lt (by rw [List.length_map, List.length_map]; omega)), ?_⟩
        walk_at "evn"
        refine t_nx ?_
        refine q_cons (q_ife (w_and (w_eqI ?_)))
        refine w_mod (w_bi (wl_cons (w_var rfl (wl_nil (b_len rfl (fun _ h => nomatch h) ?_)))))
        rw [lenD]
        walk_at "evn"
        · rename_i h3
          refine ⟨fun i acc ν => i ≤ g.n ∧ ν = μ'' ∧ acc = (g.sp.map fun x => D.bl (G x)).take i, ⟨Nat.zero_le _, rfl, rfl⟩, ?_, ?_⟩
          · rintro j y acc ν hy ⟨hj, rfl, rfl⟩
            have hj' : j < g.n := by
              have := (List.getElem?_eq_some_iff.mp hy).1
              rwa [lenD] at this
            rw [atD hj'] at hy
            cases hy
            refine ⟨_, rfl, ?_⟩
            refine w_lit ⟨true, rfl, fun _ => ?_, fun h => by cases h⟩
            have at2 : (g.sp.map fun x => D.bl (G x))[j]? = some (D.bl (G (g.at' j))) := by
              rw [List.getElem?_map, at_some hj']
              rfl
            have tk := copy_all at2
            clear at2
            have inx := inn (g.at' j)
            clear inn sl
            walk_at "evc"
            refine ⟨lt hj, hj', rfl, ?_⟩
            rw [tk, ← hG]
          · rintro acc ν ⟨hj, rfl, rfl⟩
            rw [lenD, show (g.sp.map fun x => D.bl (G x)).take g.n = g.sp.map (fun x => D.bl (G x)) from List.take_of_length_le (by rw [List.length_map]; exact Nat.le_refl _)]
            refine ⟨le, ?_⟩
            walk_at "evn"
            refine b_all (bools_map (f := G) g.sp) ?_
            have lbe : latB g (g.sh p) = (g.sp.map G).all id := by
              unfold latB
              rw [hF, hG]
            rw [← lbe]
            clear inn
            walk_at "evn"
            · rename_i h4
              have r : Gate.Rp g p := rp.mpr ⟨by
                rw [Int.fmod_eq_emod_of_nonneg _ (by omega)] at h3
                omega, lb.mp h4⟩
              rw [Gate.nrm_some h0 (Gate.fp_eq hp1 hp2 r hf)] at q
              refine b_tuple rfl ?_
              walk_at "evn"
              exact q
            · rename_i h4
              refine ⟨fun r r1 r2 c => ?_, by omega, rfl, _, _, _, _, _, _, rfl⟩
              by_cases hr : r < p
              · exact hf r r1 hr c
              · have : r = p := by omega
                subst this
                have := lb.mpr (rp.mp c).2
                rw [this] at h4
                cases h4
        · refine ⟨fun r r1 r2 c => ?_, by omega, rfl, _, _, _, _, _, _, rfl⟩
          by_cases hr : r < p
          · exact hf r r1 hr c
          · have : r = p := by omega
            subst this
            have hm : (g.n : Int).fmod r = 0 := by
              rw [Int.fmod_eq_emod_of_nonneg _ (by omega)]
              have := c.1
              omega
            exact absurd hm ‹_›
    · rintro δ μ' ⟨hf, hi, rfl, x1, x5, x6, x7, x8, x9, rfl⟩
      rw [List.length_map, List.length_range] at hf
      have no : g.fp = none := Gate.fp_no fun r r1 r2 => hf r r1 (by omega)
      rw [Gate.nrm_none h0 no] at q
      clear hf hr2
      walk_at "ev"
      refine b_tuple rfl ?_
      walk_at "ev"
      exact q
end
end Ev

namespace Ev
open Ev.Q PySem
namespace Gate
variable {g h : Gate}
/-! ## A gate that is later -/
/-- the first row that is not below zero -/
theorem first_row (o : Ok g) (h : 0 < g.n) (d : Rat) : ∃ s : Int, g.bg (s - 1) + d < 0 ∧ 0 ≤ g.bg s + d := by
  -- some row is not below zero, another is
  have h0 := (floor_iff (x := -(g.bg 0 + d)) o.T0 (q := (-(g.bg 0 + d) / g.T).floor)).mp rfl
  generalize (-(g.bg 0 + d) / g.T).floor = q at h0
  have t1 := bg_turn h 0 q
  have t2 := bg_turn h 0 (q + 1)
  rw [Rat.intCast_add] at t2
  have lo : g.bg (0 + q * g.n) + d ≤ 0 := by rw [t1]; grind
  have hi : 0 < g.bg (0 + (q + 1) * g.n) + d := by rw [t2]; grind
  have lo' : g.bg (q * g.n - 1) + d < 0 := by
    have := bg_lt o h (show q * g.n - 1 < 0 + q * g.n by omega)
    grind
  -- count up
  have go : ∀ m : Nat, 0 ≤ g.bg (q * g.n + m) + d → ∃ s : Int, g.bg (s - 1) + d < 0 ∧ 0 ≤ g.bg s + d := fun m => by
    induction m with
    | zero => exact fun z => ⟨q * g.n, lo', by simpa using z⟩
    | succ m ih =>
      intro z
      by_cases c : 0 ≤ g.bg (q * g.n + m) + d
      · exact ih c
      · refine ⟨q * g.n + (m + 1 : Nat), ?_, z⟩
        rw [show q * (g.n : Int) + ((m + 1 : Nat) : Int) - 1 = q * g.n + m by omega]
        grind
  refine go g.n ?_
  rw [show q * (g.n : Int) + (g.n : Int) = 0 + (q + 1) * g.n by rw [Int.add_mul]; omega]
  grind
theorem first_uniq (o : Ok g) (h : 0 < g.n) {d : Rat} {s t : Int} (s1 : g.bg (s - 1) + d < 0) (s2 : 0 ≤ g.bg s + d) (t1 : g.bg (t - 1) + d < 0) (t2 : 0 ≤ g.bg t + d) : s = t := by
  rcases Int.lt_trichotomy s t with c | c | c
  · have := bg_le o h (show s ≤ t - 1 by omega); grind
  · exact c
  · have := bg_le o h (show t ≤ s - 1 by omega); grind
open Classical in
noncomputable def fst (g : Gate) (d : Rat) : Int := if c : ∃ s : Int, g.bg (s - 1) + d < 0 ∧ 0 ≤ g.bg s + d then Classical.choose c else 0
theorem fst_ok (o : Ok g) (h : 0 < g.n) (d : Rat) : g.bg (g.fst d - 1) + d < 0 ∧ 0 ≤ g.bg (g.fst d) + d := by
  have c := first_row o h d
  unfold fst
  rw [dif_pos c]
  exact Classical.choose_spec c
noncomputable def dly (g : Gate) (d : Rat) : Gate := ⟨g.pl, g.T, (List.range g.n).map fun (i : Nat) => (g.bg (g.fst d + i) + d, g.ln (g.fst d + i))⟩
theorem dly_n (d : Rat) : (g.dly d).n = g.n := by
  show (List.map _ _).length = _
  rw [List.length_map, List.length_range]
theorem dly_at {d : Rat} {i : Nat} (hi : i < g.n) : (g.dly d).at' i = (g.bg (g.fst d + i) + d, g.ln (g.fst d + i)) := by
  unfold at' dly
  rw [List.getD_eq_getElem?_getD, List.getElem?_map, List.getElem?_range hi]
  rfl
theorem dly_bg (h : 0 < g.n) (d : Rat) (k : Int) : (g.dly d).bg k = g.bg (g.fst d + k) + d ∧ (g.dly d).ln k = g.ln (g.fst d + k) := by
  have hn : 0 < (g.dly d).n := by rw [dly_n]; exact h
  obtain ⟨i, q, hi, rfl, e1, e2⟩ := split hn k
  rw [e1, e2]
  rw [dly_n] at hi ⊢
  rw [dly_at hi]
  have t1 := bg_turn h (g.fst d + i) q
  have t2 := ln_turn h (g.fst d + i) q
  rw [show g.fst d + ((i : Int) + q * g.n) = g.fst d + i + q * g.n by omega, t1, t2]
  refine ⟨?_, rfl⟩
  show g.bg (g.fst d + i) + d + q * g.T = _
  grind
theorem dly_en (h : 0 < g.n) (d : Rat) (k : Int) : (g.dly d).en k = g.en (g.fst d + k) + d := by
  unfold en
  rw [(dly_bg h d k).1, (dly_bg h d k).2]
  grind
theorem dly_ok (o : Ok g) (d : Rat) : Ok (g.dly d) := by
  by_cases h : 0 < g.n
  · have f := fst_ok o h d
    have top : ∀ i : Nat, i < g.n → g.bg (g.fst d + i) + d < g.T := fun i hi => by
      have t := bg_turn h (g.fst d - 1) 1
      have l := bg_le o h (show g.fst d + i ≤ g.fst d - 1 + 1 * g.n by omega)
      have : ((1 : Int) : Rat) = 1 := rfl
      rw [this] at t
      grind
    refine ⟨o.T0, by rw [dly_n]; exact o.len, fun i hi => ?_, fun i hi => ?_, fun hn => ?_⟩
    · rw [dly_n] at hi
      rw [dly_at hi]
      have l := ln_pos o h (g.fst d + i)
      have b := bg_le o h (show g.fst d ≤ g.fst d + i by omega)
      refine ⟨?_, top i hi, l.1, l.2⟩
      show 0 ≤ g.bg (g.fst d + i) + d
      grind
    · rw [dly_n] at hi
      rw [dly_at hi, dly_at (show i < g.n by omega)]
      have := step o h (g.fst d + i)
      unfold en at this
      rw [show g.fst d + (i : Int) + 1 = g.fst d + ((i + 1 : Nat) : Int) by omega] at this
      show g.bg (g.fst d + i) + d + g.ln (g.fst d + i) ≤ g.bg (g.fst d + ((i + 1 : Nat) : Int)) + d
      grind
    · rw [dly_n] at hn ⊢
      rw [dly_at (show g.n - 1 < g.n by omega), dly_at hn]
      have := step o h (g.fst d + (g.n - 1 : Nat))
      unfold en at this
      have t := bg_turn h (g.fst d) 1
      have e1 : ((1 : Int) : Rat) = 1 := rfl
      rw [e1] at t
      rw [show g.fst d + ((g.n - 1 : Nat) : Int) + 1 = g.fst d + 1 * g.n by omega, t] at this
      show g.bg (g.fst d + ((g.n - 1 : Nat) : Int)) + d + g.ln (g.fst d + ((g.n - 1 : Nat) : Int)) ≤ g.bg (g.fst d + ((0 : Nat) : Int)) + d + g.T
      rw [show g.fst d + ((0 : Nat) : Int) = g.fst d by omega]
      grind
  · have hn : g.n = 0 := by omega
    exact ⟨o.T0, by rw [dly_n]; exact o.len, fun i hi => by rw [dly_n] at hi; omega, fun i hi => by rw [dly_n] at hi; omega, fun hn => by rw [dly_n] at hn; omega⟩
theorem sp_nil (h : g.n = 0) : g.sp = [] := List.length_eq_zero_iff.mp h
/-- gates by their rows -/
theorem ext_at {g h : Gate} (p : g.pl = h.pl) (t : g.T = h.T) (n : g.n = h.n) (a : ∀ i, i < g.n → g.at' i = h.at' i) : g = h := by
  have e : g.sp = h.sp := by
    refine List.ext_getElem n fun i h1 h2 => ?_
    have := a i h1
    unfold at' at this
    rw [List.getD_eq_getElem?_getD, List.getD_eq_getElem?_getD, List.getElem?_eq_getElem h1, List.getElem?_eq_getElem h2] at this
    exact this
  cases g
  cases h
  cases p
  cases t
  cases e
  rfl
theorem dly0 (h : g.n = 0) (d : Rat) : g.dly d = g := ext_at rfl rfl (dly_n d) fun i hi => by rw [dly_n] at hi; omega
theorem fst_is (o : Ok g) (h : 0 < g.n) {d : Rat} {s : Int} (s1 : g.bg (s - 1) + d < 0) (s2 : 0 ≤ g.bg s + d) : g.fst d = s := first_uniq o h (fst_ok o h d).1 (fst_ok o h d).2 s1 s2
/-- two delays add up -/
theorem dly_dly (o : Ok g) (d e : Rat) : (g.dly d).dly e = g.dly (d + e) := by
  by_cases h : 0 < g.n
  · have hn : 0 < (g.dly d).n := by rw [dly_n]; exact h
    have f := fst_ok (dly_ok o d) hn e
    rw [(dly_bg h d _).1, (dly_bg h d _).1] at f
    have q := fst_is o h (d := d + e) (s := g.fst d + (g.dly d).fst e) (by rw [show g.fst d + (g.dly d).fst e - 1 = g.fst d + ((g.dly d).fst e - 1) by omega]; grind) (by grind)
    refine ext_at rfl rfl (by rw [dly_n, dly_n, dly_n]) fun i hi => ?_
    rw [dly_n, dly_n] at hi
    rw [dly_at (by rw [dly_n]; exact hi), dly_at hi, (dly_bg h d _).1, (dly_bg h d _).2, q]
    rw [show g.fst d + ((g.dly d).fst e + i) = g.fst d + (g.dly d).fst e + i by omega]
    refine Prod.ext ?_ rfl
    show _ + d + e = _ + (d + e)
    grind
  · have z : g.n = 0 := by omega
    rw [dly0 z, dly0 z, dly0 z]
/-- whole turns do not count -/
theorem dly_turn (o : Ok g) (d : Rat) (z : Int) : g.dly (d + z * g.T) = g.dly d := by
  by_cases h : 0 < g.n
  · have f := fst_ok o h d
    have t1 := bg_turn h (g.fst d - 1) (-z)
    have t2 := bg_turn h (g.fst d) (-z)
    rw [Rat.intCast_neg] at t1 t2
    have q := fst_is o h (d := d + z * g.T) (s := g.fst d + (-z) * g.n) (by rw [show g.fst d + (-z) * g.n - 1 = g.fst d - 1 + (-z) * g.n by omega, t1]; grind) (by rw [t2]; grind)
    refine ext_at rfl rfl (by rw [dly_n, dly_n]) fun i hi => ?_
    rw [dly_n] at hi
    rw [dly_at hi, dly_at hi, q]
    have t3 := bg_turn h (g.fst d + i) (-z)
    have t4 := ln_turn h (g.fst d + i) (-z)
    rw [Rat.intCast_neg] at t3
    rw [show g.fst d + (-z) * g.n + (i : Int) = g.fst d + i + (-z) * g.n by omega, t3, t4]
    refine Prod.ext ?_ rfl
    show _ + -(z : Rat) * g.T + (d + z * g.T) = _ + d
    grind
  · have z : g.n = 0 := by omega
    rw [dly0 z, dly0 z]
theorem dly_open (o : Ok g) {d m : Rat} : (g.dly d).Open (m + d) ↔ g.Open m := by
  unfold Open
  rw [dly_n]
  constructor
  · intro H h k hk
    refine H h (k - g.fst d) ?_
    rw [(dly_bg h d _).1, dly_en h]
    rw [show g.fst d + (k - g.fst d) = k by omega]
    grind
  · intro H h k hk
    rw [(dly_bg h d _).1, dly_en h] at hk
    exact H h (g.fst d + k) (by grind)
/-! normal forms -/
theorem rp_dly (h : 0 < g.n) (d : Rat) (p : Nat) : Rp (g.dly d) p ↔ Rp g p := by
  have hn : 0 < (g.dly d).n := by rw [dly_n]; exact h
  have es : (g.dly d).sh p = g.sh p := by
    unfold sh
    rw [dly_n]
    rfl
  unfold Rp
  rw [es, dly_n]
  refine and_congr_right fun _ => ⟨fun r i hi => ?_, fun r i hi => ?_⟩
  · have q := rep_all hn r (i - g.fst d)
    rw [(dly_bg h d _).1, (dly_bg h d _).1, (dly_bg h d _).2, (dly_bg h d _).2] at q
    rw [show g.fst d + ((i : Int) - g.fst d + p) = i + p by omega, show g.fst d + ((i : Int) - g.fst d) = i by omega] at q
    exact ⟨by grind, q.2⟩
  · have q := rep_all h r (g.fst d + i)
    rw [(dly_bg h d _).1, (dly_bg h d _).1, (dly_bg h d _).2, (dly_bg h d _).2]
    rw [show g.fst d + ((i : Int) + p) = g.fst d + i + p by omega]
    exact ⟨by grind, q.2⟩
theorem per_dly (h : 0 < g.n) (d : Rat) : (g.dly d).per = g.per := by
  have e : (g.dly d).fp = g.fp := by
    unfold fp
    rw [dly_n]
    congr 1
    funext p
    exact decide_eq_decide.mpr (rp_dly h d p)
  unfold per
  rw [e, dly_n]
theorem nrm_self (h : 0 < g.n) (e : g.per = g.n) : g.nrm = g := by
  unfold nrm
  rw [if_neg (by omega), e, sh_full h, show g.sp.take g.n = g.sp from List.take_of_length_le (Nat.le_refl g.sp.length)]
theorem nrm_dly (hn : g.nrm = g) (d : Rat) : (g.dly d).nrm = g.dly d := by
  by_cases h : 0 < g.n
  · refine nrm_self (by rw [dly_n]; exact h) ?_
    rw [per_dly h, dly_n]
    have := nrm_n h
    rw [hn] at this
    exact this.symm
  · have z : g.n = 0 := by omega
    rw [dly0 z, hn]
/-- the period holds the normal form's period some times -/
theorem T_nrm (o : Ok g) (h : 0 < g.n) : ∃ m : Int, g.T = m * g.nrm.T := by
  obtain ⟨h1, h2, h3, _⟩ := per_ok h
  refine ⟨(g.n / g.per : Nat), ?_⟩
  rw [nrm_T h]
  have hd := h3.1
  have e : g.n = g.n / g.per * g.per := (Nat.div_mul_cancel (Nat.dvd_of_mod_eq_zero hd)).symm
  unfold sh
  have n0 : ((g.n : Int) : Rat) ≠ 0 := by
    intro z
    have := Rat.intCast_eq_zero_iff.mp z
    omega
  have e2 : ((g.n : Int) : Rat) = ((g.n / g.per : Nat) : Int) * ((g.per : Int) : Rat) := by
    rw [← Rat.intCast_mul]
    congr 1
    exact_mod_cast e
  generalize ((g.n / g.per : Nat) : Int) = m at *
  generalize ((g.n : Int) : Rat) = N at *
  have : (m : Rat) * (((g.per : Int) : Rat) * g.T / N) = ((m : Rat) * ((g.per : Int) : Rat)) * g.T / N := by grind
  rw [this, ← e2]
  grind
theorem dly_nrm_turn (o : Ok g) (d : Rat) (z : Int) : g.nrm.dly (d + z * g.T) = g.nrm.dly d := by
  by_cases h : 0 < g.n
  · obtain ⟨m, e⟩ := T_nrm o h
    rw [e, show (z : Rat) * ((m : Rat) * g.nrm.T) = ((z * m : Int) : Rat) * g.nrm.T by rw [Rat.intCast_mul]; grind]
    exact dly_turn (nrm_ok o) d _
  · have z' := (nrm_ok0 (g := g) (by omega)).2
    rw [dly0 z', dly0 z']
/-! what the program and the law make of the rows -/
theorem rmd_row (o : Ok g) (h : 0 < g.n) (d : Rat) {i : Nat} (hi : i < g.n) : ∃ q : Int, rmd ((g.at' i).1 + d) g.T = g.bg (i + q * g.n) + d ∧ (g.at' i).2 = g.ln (i + q * g.n) ∧ 0 ≤ g.bg (i + q * g.n) + d ∧ g.bg (i + q * g.n) + d < g.T := by
  have hb := rmd_bd (x := (g.at' i).1 + d) o.T0
  refine ⟨-(((g.at' i).1 + d) / g.T).floor, ?_⟩
  have e := bg_at h hi (-(((g.at' i).1 + d) / g.T).floor)
  rw [Rat.intCast_neg] at e
  have e3 : rmd ((g.at' i).1 + d) g.T = g.bg (i + (-(((g.at' i).1 + d) / g.T).floor) * g.n) + d := by
    rw [e.1]
    unfold rmd
    grind
  rw [← e3]
  exact ⟨rfl, e.2.symm, hb.1, hb.2⟩
def row (g : Gate) (d : Rat) (i : Nat) : Rat × Rat := (rmd ((g.at' i).1 + d) g.T, (g.at' i).2)
theorem one_turn (o : Ok g) (h : 0 < g.n) {d : Rat} {k q r : Int} (a0 : 0 ≤ g.bg (k + q * g.n) + d) (a1 : g.bg (k + q * g.n) + d < g.T) (b0 : 0 ≤ g.bg (k + r * g.n) + d) (b1 : g.bg (k + r * g.n) + d < g.T) : q = r := by
  have key : ∀ {q r : Int}, q < r → g.bg (k + q * g.n) + g.T ≤ g.bg (k + r * g.n) := fun {q r} c => by
    have t := bg_turn h (k + q * g.n) 1
    have e1 : ((1 : Int) : Rat) = 1 := rfl
    rw [e1] at t
    have l : k + q * (g.n : Int) + 1 * g.n ≤ k + r * g.n := by
      have := Int.mul_le_mul_of_nonneg_right (show q + 1 ≤ r by omega) (show (0 : Int) ≤ g.n by omega)
      rw [Int.add_mul] at this
      omega
    have := bg_le o h l
    grind
  rcases Int.lt_trichotomy q r with c | c | c
  · have := key c; grind
  · exact c
  · have := key c; grind
theorem turn_rows (o : Ok g) (h : 0 < g.n) (d : Rat) : ∃ a, a < g.n ∧ (∀ i, a ≤ i → i < g.n → g.row d i = (g.dly d).at' (i - a)) ∧ ∀ i, i < a → g.row d i = (g.dly d).at' (i + (g.n - a)) := by
  have hF := im (g := g) (k := g.fst d) h
  have eF : g.fst d = (g.fst d).fmod g.n + (g.fst d).fdiv g.n * g.n := by
    have := Int.mul_fdiv_add_fmod (g.fst d) g.n
    rw [Int.mul_comm] at this
    omega
  have key : ∀ i j : Nat, ∀ b : Int, i < g.n → j < g.n → g.fst d + j = i + b * g.n → g.row d i = (g.dly d).at' j := fun i j b hi hj e => by
    obtain ⟨q, r1, r2, r3, r4⟩ := rmd_row o h d hi
    have s := (dly_ok o d).sp0 j (by rw [dly_n]; exact hj)
    rw [dly_at hj, e] at s
    have := one_turn o h r3 r4 s.1 s.2.1
    subst this
    rw [dly_at hj, e]
    exact Prod.ext r1 r2
  refine ⟨((g.fst d).fmod g.n).toNat, hF.1, fun i hi hn => key i _ ((g.fst d).fdiv g.n) hn (by omega) (by omega), fun i hi => key i _ ((g.fst d).fdiv g.n + 1) (by omega) (by omega) ?_⟩
  rw [Int.add_mul]
  omega
theorem dly_asc (o : Ok g) (d : Rat) {i j : Nat} (hij : i < j) (hj : j < g.n) : ((g.dly d).at' i).1 < ((g.dly d).at' j).1 := by
  have hn : 0 < (g.dly d).n := by rw [dly_n]; omega
  have b := bg_lt (dly_ok o d) hn (show (i : Int) < j by omega)
  rw [(at_bg hn (show i < (g.dly d).n by rw [dly_n]; omega)).1, (at_bg hn (show j < (g.dly d).n by rw [dly_n]; omega)).1] at b
  exact b
noncomputable def rows (g : Gate) (d : Rat) : List (Rat × Rat) := (List.range g.n).map (g.row d)
theorem rows_len (d : Rat) : (g.rows d).length = g.n := by
  unfold rows
  rw [List.length_map, List.length_range]
theorem rows_at {d : Rat} {i : Nat} (hi : i < g.n) : (g.rows d)[i]? = some (g.row d i) := by
  unfold rows
  rw [List.getElem?_map, List.getElem?_range hi]
  rfl
/-- where the rows fall -/
theorem split_at (o : Ok g) (h : 0 < g.n) (d : Rat) : ∃ a, a < g.n ∧ (∀ i, 0 < i → i < g.n → ((g.row d i).1 < (g.row d (i - 1)).1 ↔ i = a)) ∧ (g.rows d).drop a ++ (g.rows d).take a = (g.dly d).sp := by
  obtain ⟨a, ha, h1, h2⟩ := turn_rows o h d
  refine ⟨a, ha, fun i i0 hi => ?_, ?_⟩
  · rcases Nat.lt_trichotomy i a with c | c | c
    · rw [h2 i c, h2 (i - 1) (by omega)]
      have := dly_asc o d (i := i - 1 + (g.n - a)) (j := i + (g.n - a)) (by omega) (by omega)
      exact ⟨fun z => by grind, fun z => by omega⟩
    · subst c
      rw [h1 i (Nat.le_refl _) hi, h2 (i - 1) (by omega)]
      have := dly_asc o d (i := i - i) (j := i - 1 + (g.n - i)) (by omega) (by omega)
      exact ⟨fun _ => rfl, fun _ => this⟩
    · rw [h1 i (by omega) hi, h1 (i - 1) (by omega) (by omega)]
      have := dly_asc o d (i := i - 1 - a) (j := i - a) (by omega) (by omega)
      exact ⟨fun z => by grind, fun z => by omega⟩
  · refine List.ext_getElem? fun i => ?_
    by_cases hi : i < g.n
    · have e : (g.dly d).sp[i]? = some ((g.dly d).at' i) := at_some (by rw [dly_n]; exact hi)
      rw [e]
      by_cases c : i < g.n - a
      · rw [List.getElem?_append_left (by rw [List.length_drop, rows_len]; exact c), List.getElem?_drop, rows_at (by omega), h1 (a + i) (by omega) (by omega)]
        rw [show a + i - a = i by omega]
      · rw [List.getElem?_append_right (by rw [List.length_drop, rows_len]; omega), List.length_drop, rows_len, List.getElem?_take, if_pos (by omega), rows_at (by omega), h2 _ (by omega)]
        rw [show i - (g.n - a) + (g.n - a) = i by omega]
    · have l : (g.dly d).sp.length = g.n := dly_n d
      rw [List.getElem?_eq_none (by rw [List.length_append, List.length_drop, List.length_take, rows_len]; omega), List.getElem?_eq_none (by omega)]
/-- the rows are those of the later gate -/
theorem rows_perm (o : Ok g) (d : Rat) : (g.dly d).sp.Perm (g.rows d) := by
  by_cases h : 0 < g.n
  · obtain ⟨a, _, _, e⟩ := split_at o h d
    rw [← e]
    exact List.perm_append_comm.trans (by rw [List.take_append_drop])
  · have z : g.n = 0 := by omega
    have e1 : g.rows d = [] := List.length_eq_zero_iff.mp (by rw [rows_len]; exact z)
    have e2 : (g.dly d).sp = [] := sp_nil (by rw [dly_n]; exact z)
    rw [e1, e2]
theorem dly_pair (o : Ok g) (d : Rat) : (g.dly d).sp.Pairwise (fun a b => a.1 < b.1) := by
  rw [List.pairwise_iff_getElem]
  intro i j hi hj hij
  have l : (g.dly d).sp.length = g.n := dly_n d
  have := dly_asc o d hij (by omega)
  have e1 := at_some (g := g.dly d) (i := i) hi
  have e2 := at_some (g := g.dly d) (i := j) hj
  rw [List.getElem?_eq_getElem hi] at e1
  rw [List.getElem?_eq_getElem hj] at e2
  rw [Option.some.inj e1, Option.some.inj e2]
  exact this
end Gate
/-! putting in by size -/
def putIn (x : Rat) (R : List Rat) : List Rat := R.take (R.filter fun y => decide (y < x)).length ++ [x] ++ R.drop (R.filter fun y => decide (y < x)).length
theorem putIn_perm (x : Rat) (R : List Rat) : (putIn x R).Perm (x :: R) := by
  unfold putIn
  generalize (R.filter fun y => decide (y < x)).length = k
  rw [List.append_assoc]
  show (R.take k ++ x :: R.drop k).Perm (x :: R)
  refine List.perm_middle.trans ?_
  rw [List.take_append_drop]
theorem mem_putIn {x y : Rat} {R : List Rat} (h : y ∈ putIn x R) : y = x ∨ y ∈ R := by
  simpa using (putIn_perm x R).mem_iff.mp h
theorem putIn_asc (x : Rat) : ∀ R : List Rat, R.Pairwise (· ≤ ·) → (putIn x R).Pairwise (· ≤ ·)
  | [], _ => by simp [putIn]
  | y :: ys, h => by
    obtain ⟨h1, h2⟩ := List.pairwise_cons.mp h
    by_cases c : y < x
    · have e : putIn x (y :: ys) = y :: putIn x ys := by
        unfold putIn
        rw [List.filter_cons_of_pos (by simpa using c)]
        rfl
      rw [e]
      refine List.pairwise_cons.mpr ⟨fun z hz => ?_, putIn_asc x ys h2⟩
      rcases mem_putIn hz with rfl | hz
      · exact Rat.le_of_lt c
      · exact h1 z hz
    · have e0 : ((y :: ys).filter fun y => decide (y < x)) = [] := by
        rw [List.filter_eq_nil_iff]
        intro z hz
        have : y ≤ z := by
          rcases List.mem_cons.mp hz with rfl | hz
          · exact Rat.le_refl
          · exact h1 z hz
        simp only [decide_eq_true_eq]
        grind
      have e : putIn x (y :: ys) = x :: y :: ys := by
        unfold putIn
        rw [e0]
        rfl
      rw [e]
      refine List.pairwise_cons.mpr ⟨fun z hz => ?_, h⟩
      rcases List.mem_cons.mp hz with rfl | hz
      · grind
      · have := h1 z hz
        grind
theorem asc_eq {L R : List Rat} (p : L.Perm R) (h1 : L.Pairwise (· ≤ ·)) (h2 : R.Pairwise (· < ·)) : L = R :=
  List.Perm.eq_of_pairwise (le := fun a b => a ≤ b) (fun a b _ _ h1 h2 => Rat.le_antisymm h1 h2) h1 (h2.imp fun h => Rat.le_of_lt h) p
end Ev

namespace Ev
/-! ## A row of whole spans, turned and sorted -/
def iat (ss : List (Int × Int)) (j : Nat) : Int × Int := ss.getD j (0, 0)
/-- spans one after the other, up to e -/
structure SpI (ss : List (Int × Int)) (e : Int) : Prop where
  pos : ∀ j, j < ss.length → 0 ≤ (iat ss j).1 ∧ 1 ≤ (iat ss j).2
  nxt : ∀ j, j + 1 < ss.length → (iat ss j).1 + (iat ss j).2 ≤ (iat ss (j + 1)).1
  last : ∀ j, j < ss.length → (iat ss j).1 + (iat ss j).2 ≤ e
theorem iat_app {ss : List (Int × Int)} {x : Int × Int} {j : Nat} : iat (ss ++ [x]) j = if j < ss.length then iat ss j else if j = ss.length then x else (0, 0) := by
  unfold iat
  rw [List.getD_eq_getElem?_getD, List.getD_eq_getElem?_getD, List.getElem?_append]
  split
  · rfl
  · split
    · rename_i h
      subst h
      simp
    · rw [List.getElem?_eq_none (by simp; omega)]
      rfl
theorem SpI.snoc {ss : List (Int × Int)} {e b l : Int} (h : SpI ss e) (e0 : 0 ≤ e) (hb : e ≤ b) (hl : 1 ≤ l) : SpI (ss ++ [(b, l)]) (b + l) := by
  have len : (ss ++ [(b, l)]).length = ss.length + 1 := by simp
  refine ⟨fun j hj => ?_, fun j hj => ?_, fun j hj => ?_⟩
  · rw [iat_app]
    split
    · exact h.pos j (by assumption)
    · rw [if_pos (by omega)]
      exact ⟨by show 0 ≤ b; omega, hl⟩
  · rw [len] at hj
    rw [iat_app, if_pos (by omega), iat_app]
    split
    · exact h.nxt j (by assumption)
    · rw [if_pos (by omega)]
      have := h.last j (by omega)
      show _ ≤ b
      omega
  · rw [iat_app]
    split
    · have := h.last j (by assumption)
      omega
    · rw [if_pos (by omega)]
      exact Int.le_refl _
/-- the gate of a row of whole spans -/
def gI (pl : Rat) (per : Int) (ss : List (Int × Int)) : Gate := ⟨pl, per, ss.map fun s => ((s.1 : Rat), (s.2 : Rat))⟩
theorem gI_n {pl : Rat} {per : Int} {ss : List (Int × Int)} : (gI pl per ss).n = ss.length := List.length_map ..
theorem gI_at {pl : Rat} {per : Int} {ss : List (Int × Int)} {j : Nat} : (gI pl per ss).at' j = (((iat ss j).1 : Rat), ((iat ss j).2 : Rat)) := by
  unfold Gate.at' iat gI
  rw [List.getD_eq_getElem?_getD, List.getD_eq_getElem?_getD, List.getElem?_map]
  cases ss[j]? <;> rfl
theorem gI_ok {pl : Rat} {per e : Int} {ss : List (Int × Int)} (h : SpI ss e) (he : e ≤ per) (hp : 0 < per) (hl : ss.length ≤ 6) : (gI pl per ss).Ok := by
  have le : ∀ {a b : Int}, a ≤ b → (a : Rat) ≤ (b : Rat) := fun h => Rat.intCast_le_intCast.mpr h
  have lt : ∀ {a b : Int}, a < b → (a : Rat) < (b : Rat) := fun h => Rat.intCast_lt_intCast.mpr h
  refine ⟨lt hp, by rw [gI_n]; exact hl, fun i hi => ?_, fun i hi => ?_, fun hn => ?_⟩
  · rw [gI_n] at hi
    rw [gI_at]
    have a := h.pos i hi
    have b := h.last i hi
    exact ⟨le a.1, lt (show (iat ss i).1 < per by omega), lt (show 0 < (iat ss i).2 by omega), le (show (iat ss i).2 ≤ per by omega)⟩
  · rw [gI_n] at hi
    rw [gI_at, gI_at]
    have := le (h.nxt i hi)
    rw [Rat.intCast_add] at this
    exact this
  · rw [gI_n] at hn
    rw [gI_at, gI_at, gI_n]
    have a := h.last (ss.length - 1) (by omega)
    have b := h.pos 0 hn
    have := le (show (iat ss (ss.length - 1)).1 + (iat ss (ss.length - 1)).2 ≤ (iat ss 0).1 + per by omega)
    rw [Rat.intCast_add, Rat.intCast_add] at this
    exact this
/-- the place of the first span that a delay carries over the end -/
theorem wraps (P : Nat → Prop) [DecidablePred P] : ∀ m : Nat, ∃ t, t ≤ m ∧ (∀ i, i < t → P i) ∧ (t < m → ¬ P t)
  | 0 => ⟨0, Nat.le_refl _, fun i h => absurd h (Nat.not_lt_zero _), fun h => absurd h (Nat.not_lt_zero _)⟩
  | m + 1 => by
    obtain ⟨t, h1, h2, h3⟩ := wraps P m
    by_cases e : t = m
    · subst e
      by_cases p : P t
      · exact ⟨t + 1, Nat.le_refl _, fun i hi => by
          by_cases c : i = t
          · subst c; exact p
          · exact h2 i (by omega), fun h => absurd h (by omega)⟩
      · exact ⟨t, by omega, h2, fun _ => p⟩
    · exact ⟨t, by omega, h2, fun _ => h3 (by omega)⟩
def turnI (per d : Int) (s : Int × Int) : Int × Int := ((s.1 + d).fmod per, s.2)
theorem SpI.mono {ss : List (Int × Int)} {e : Int} (h : SpI ss e) : ∀ (d i : Nat), i + d < ss.length → (iat ss i).1 ≤ (iat ss (i + d)).1
  | 0, i, _ => Int.le_refl _
  | d + 1, i, hi => by
    have h1 := h.mono d i (by omega)
    have h2 := h.nxt (i + d) (by omega)
    have h3 := h.pos (i + d) (by omega)
    rw [show i + (d + 1) = i + d + 1 by omega]
    omega
theorem turned_spans {pl : Rat} {per e d : Int} {ss : List (Int × Int)} (h : SpI ss e) (he : e ≤ per) (hp : 0 < per) (hl : ss.length ≤ 6) : ∃ R : List (Int × Int), R.Perm (ss.map (turnI per d)) ∧ (∀ i j, i < j → j < R.length → (iat R i).1 < (iat R j).1) ∧ (gI pl per R).Ok ∧ ∀ s ∈ R, 0 ≤ s.1 ∧ s.1 < per ∧ 0 < s.2 ∧ s.2 ≤ per := by
  have o := gI_ok (pl := pl) h he hp hl
  generalize hd' : d.fmod per = d'
  have dm : 0 ≤ d' ∧ d' < per := by
    rw [← hd']
    exact ⟨Int.fmod_nonneg_of_pos _ hp, Int.fmod_lt_of_pos _ hp⟩
  obtain ⟨t, t1, t2, t3⟩ := wraps (fun i => (iat ss i).1 + d' < per) ss.length
  have t4 : ∀ i, t ≤ i → i < ss.length → per ≤ (iat ss i).1 + d' := fun i hi hi2 => by
    have := h.mono (i - t) t (by omega)
    rw [show t + (i - t) = i by omega] at this
    have := t3 (by omega)
    omega
  have val : ∀ i, i < ss.length → (turnI per d (iat ss i)).1 = if i < t then (iat ss i).1 + d' else (iat ss i).1 + d' - per := fun i hi => by
    have a := h.pos i hi
    have b := h.last i hi
    show ((iat ss i).1 + d).fmod per = _
    have e1 : d = d' + per * d.fdiv per := by
      have := Int.mul_fdiv_add_fmod d per
      omega
    rw [e1, ← Int.add_assoc, Int.add_mul_fmod_self_left]
    split
    · exact Int.fmod_eq_of_lt (by omega) (t2 i (by assumption))
    · have := t4 i (by omega) hi
      have e2 := Int.add_mul_fmod_self_left ((iat ss i).1 + d' - per) per 1
      rw [show (iat ss i).1 + d' - per + per * 1 = (iat ss i).1 + d' by omega] at e2
      rw [e2]
      exact Int.fmod_eq_of_lt (by omega) (by omega)
  refine ⟨(ss.drop t ++ ss.take t).map (turnI per d), ?_, ?_⟩
  · refine List.Perm.map _ ?_
    refine List.perm_append_comm.trans ?_
    rw [List.take_append_drop]
  generalize hR : (ss.drop t ++ ss.take t).map (turnI per d) = R
  have lenR : R.length = ss.length := by
    rw [← hR]
    simp
    omega
  have atR : ∀ j, j < ss.length → iat R j = turnI per d (iat ss (if t + j < ss.length then t + j else t + j - ss.length)) := fun j hj => by
    rw [← hR]
    unfold iat
    rw [List.getD_eq_getElem?_getD, List.getD_eq_getElem?_getD, List.getElem?_map, List.getElem?_append]
    split
    · rename_i c
      rw [List.length_drop] at c
      rw [if_pos (by omega), List.getElem?_drop, List.getElem?_eq_getElem (by omega)]
      rfl
    · rename_i c
      rw [List.length_drop] at c ⊢
      rw [if_neg (by omega), List.getElem?_take, if_pos (by omega), show j - (ss.length - t) = t + j - ss.length by omega, List.getElem?_eq_getElem (by omega)]
      rfl
  have key : ∀ j : Nat, j < ss.length → ((iat R j).1 : Rat) = (gI pl per ss).bg ((t + j : Nat) : Int) + ((d' - per : Int) : Rat) ∧ ((iat R j).2 : Rat) = (gI pl per ss).ln ((t + j : Nat) : Int) := fun j hj => by
    rw [atR j hj]
    by_cases c : t + j < ss.length
    · rw [if_pos c]
      have a := Gate.at_bg (g := gI pl per ss) (by rw [gI_n]; omega) (i := t + j) (by rw [gI_n]; omega)
      rw [a.1, a.2, gI_at, val _ c, if_neg (by omega)]
      refine ⟨?_, rfl⟩
      rw [Rat.intCast_sub, Rat.intCast_add, Rat.intCast_sub]
      grind
    · rw [if_neg c]
      have a := Gate.bg_at (g := gI pl per ss) (by rw [gI_n]; omega) (i := t + j - ss.length) (by rw [gI_n]; omega) 1
      rw [gI_n, show ((t + j - ss.length : Nat) : Int) + 1 * (ss.length : Int) = ((t + j : Nat) : Int) by omega] at a
      rw [a.1, a.2, gI_at, val _ (by omega), if_pos (by omega)]
      refine ⟨?_, rfl⟩
      show _ = ((iat ss (t + j - ss.length)).1 : Rat) + ((1 : Int) : Rat) * (per : Rat) + _
      have one : ((1 : Int) : Rat) = 1 := rfl
      rw [Rat.intCast_add, Rat.intCast_sub, one]
      grind
  have bnds : ∀ j, j < ss.length → 0 ≤ (iat R j).1 ∧ (iat R j).1 < per ∧ 0 < (iat R j).2 ∧ (iat R j).2 ≤ per := fun j hj => by
    rw [atR j hj]
    have hi : (if t + j < ss.length then t + j else t + j - ss.length) < ss.length := by split <;> omega
    generalize (if t + j < ss.length then t + j else t + j - ss.length) = i at hi
    have a := h.pos i hi
    have b := h.last i hi
    exact ⟨Int.fmod_nonneg_of_pos _ hp, Int.fmod_lt_of_pos _ hp, by show 0 < (iat ss i).2; omega, by show (iat ss i).2 ≤ per; omega⟩
  have lt : ∀ {a b : Int}, a < b → (a : Rat) < (b : Rat) := fun h => Rat.intCast_lt_intCast.mpr h
  have le : ∀ {a b : Int}, a ≤ b → (a : Rat) ≤ (b : Rat) := fun h => Rat.intCast_le_intCast.mpr h
  refine ⟨fun i j hij hj => ?_, ⟨lt hp, by rw [gI_n, lenR]; exact hl, fun i hi => ?_, fun i hi => ?_, fun hn => ?_⟩, fun s hs => ?_⟩
  · rw [lenR] at hj
    have := Gate.bg_lt o (by rw [gI_n]; omega) (show ((t + i : Nat) : Int) < ((t + j : Nat) : Int) by omega)
    have k1 := (key i (by omega)).1
    have k2 := (key j hj).1
    refine Rat.intCast_lt_intCast.mp ?_
    rw [k1, k2]
    grind
  · rw [gI_n, lenR] at hi
    rw [gI_at]
    have := bnds i hi
    exact ⟨le this.1, lt this.2.1, lt this.2.2.1, le this.2.2.2⟩
  · rw [gI_n, lenR] at hi
    rw [gI_at, gI_at]
    have s := Gate.step o (by rw [gI_n]; omega) ((t + i : Nat) : Int)
    have k1 := key i (by omega)
    have k2 := key (i + 1) hi
    show ((iat R i).1 : Rat) + ((iat R i).2 : Rat) ≤ ((iat R (i + 1)).1 : Rat)
    rw [k1.1, k1.2, k2.1]
    rw [show ((t + i : Nat) : Int) + 1 = ((t + (i + 1) : Nat) : Int) by omega] at s
    unfold Gate.en at s
    grind
  · rw [gI_n, lenR] at hn
    rw [gI_at, gI_at, gI_n, lenR]
    have hn' : 0 < (gI pl per ss).n := by rw [gI_n]; exact hn
    have s := Gate.step o hn' ((t + (ss.length - 1) : Nat) : Int)
    have k1 := key (ss.length - 1) (by omega)
    have k2 := key 0 hn
    show ((iat R (ss.length - 1)).1 : Rat) + ((iat R (ss.length - 1)).2 : Rat) ≤ ((iat R 0).1 : Rat) + (per : Rat)
    rw [k1.1, k1.2, k2.1]
    have tn := Gate.bg_turn hn' ((t + 0 : Nat) : Int) 1
    rw [gI_n] at tn
    rw [show ((t + (ss.length - 1) : Nat) : Int) + 1 = ((t + 0 : Nat) : Int) + 1 * ss.length by omega, tn] at s
    unfold Gate.en at s
    have one : ((1 : Int) : Rat) = 1 := rfl
    have eT : (gI pl per ss).T = (per : Rat) := rfl
    rw [one, eT] at s
    grind
  · obtain ⟨j, hj, rfl⟩ := List.getElem_of_mem hs
    have := bnds j (by omega)
    have e : iat R j = R[j] := by
      unfold iat
      rw [List.getD_eq_getElem?_getD, List.getElem?_eq_getElem hj]
      rfl
    rw [e] at this
    exact this
end Ev

namespace Ev
namespace Gate
variable {g : Gate}
theorem open_bg (o : Ok g) (k : Int) : g.Open (g.bg k) := fun h j hj => by
  by_cases c : j < k
  · have := en_le_bg o h c
    grind
  · have := bg_le o h (show k ≤ j by omega)
    grind
theorem open_en (o : Ok g) (k : Int) : g.Open (g.en k) := fun h j hj => by
  by_cases c : j ≤ k
  · have := en_le o h c
    grind
  · have := en_le_bg o h (show k < j by omega)
    grind
theorem shut_mid (o : Ok g) (h : 0 < g.n) (k : Int) : ¬ g.Open (g.bg k + g.ln k * (1 / 2)) := fun c => by
  have := ln_pos o h k
  refine c h k ⟨?_, ?_⟩
  · grind
  · unfold en
    grind
end Gate
end Ev

namespace Ev
open Ev.Q PySem
section
variable {cf : Str → List D → M D} {gc : Str → Option D} {δ : Ev.Env} {μ : Mu} {Q : D → Mu → Prop} {X : Exn → Mu → Prop}
theorem w_compT {tg : Tg} {it : IT} {own : List Nat} {c a : E} (h : WP (evI cf gc it δ) μ (fun iv μ1 => ∃ L, Stat iv L ∧ ∃ I : Nat → List D → Mu → Prop, I 0 [] μ1 ∧
    (∀ i x acc μ, L[i]? = some x → I i acc μ → ∃ δ', store tg x (wipe δ own) = some δ' ∧ WP (evE cf gc c δ') μ (fun c μ2 => ∃ r, c = .bl r ∧ (r = true → WP (evE cf gc a δ') μ2 (fun y μ3 => acc.length < sizeLine ∧ I (i + 1) (acc ++ [y]) μ3) (fun _ _ => False)) ∧ (r = false → I (i + 1) acc μ2)) (fun _ _ => False)) ∧
    (∀ acc μ, I L.length acc μ → acc.length ≤ sizeLine ∧ Q (.ptr μ.length) (μ ++ [.lst acc]))) X) : WP (evE cf gc (.comp true it tg own c a) δ) μ Q X :=
  wp_bnd (wp_imp h fun iv μ1 h => by
    obtain ⟨L, st, I, h0, hs, he⟩ := h
    refine wp_bnd (wp_imp (comp_go (Q := fun acc μ => acc.length ≤ sizeLine ∧ Q (.ptr μ.length) (μ ++ [.lst acc])) st I hs he _ 0 [] μ1 (Nat.zero_le _) (by have := st.fuel μ1; omega) h0) fun ds μ2 h => ?_)
    unfold WP newList
    rw [if_pos h.1]
    exact h.2)
end
section
variable {P : Pg} {n : Nat} {μ : Mu} {Q : D → Mu → Prop} {X : Exn → Mu → Prop} {g : Gate} {ns : List Int} {c : C} {μs : Mu}
theorem bd_choice {y : D} {u : Int} (h : y ∈ [D.int 0, D.int 1, D.int (-2), D.int (u - 4)]) (u0 : 0 ≤ u) (u1 : u < 9) : ∃ k : Int, y = .int k ∧ Bd 4 k := by
  simp only [List.mem_cons, List.not_mem_nil, or_false] at h
  rcases h with h | h | h | h
  · exact ⟨_, h, Bd.of (by decide)⟩
  · exact ⟨_, h, Bd.of (by decide)⟩
  · exact ⟨_, h, Bd.of (by decide)⟩
  · exact ⟨_, h, Bd.of (by omega)⟩
theorem ten_five : (10 : Int) ^ Int.toNat 5 = 100000 := by decide
theorem brc (x : Rat) (h1 : Bd 8 x.num) (h2 : Bd 8 (x.den : Int)) : BR 8 x := ⟨h1, h2⟩
theorem l_near [H__law_near_moment P] [H__law_small P] [H__law_choice P] [H__law_draw P] [H__law_add P] [H__law_subtract P] [H__law_multiply P] [H__law_times P] [H__law_reduce P] [H__law_divisor P] (b : GB 50 g) (hl : g.n ≤ 6) (hr : RngOk ns c) (q : ∀ x c', BR 200 x → RngOk ns c' → Q (fr x) (c' :: μs)) : WP (call P (n + 4) "_law_near_moment" [.ptr 0, gtD g]) (c :: μs) Q X := by
  refine w_fn (fn := Ev.Q.f__law_near_moment) Has.out rfl ?_
  show WQ (evSL _ _ Ev.Q.b__law_near_moment [some (.ptr 0), some (gtD g), none, none, none, none] _) _ _
  unfold Ev.Q.b__law_near_moment
  have ll : g.sp.length = g.n := rfl
  have lz : (g.sp.map spD).length ≤ sizeLine := Nat.le_of_lt (big_lt (by rw [lenD]; omega))
  have bT := b.T
  walk_at "evn"
  refine w_draw Has.out (by decide) ⟨by decide, by decide +kernel⟩ hr fun u c1 u0 u1 hr1 => ?_
  walk_at "evn"
  refine w_choice Has.out Has.out (by simp) (by simp) hr1 fun y c2 hy hr2 => ?_
  obtain ⟨k, rfl, bk⟩ := bd_choice hy u0 u1
  clear hy
  walk_at "evn"
  refine l_times (bk.mono (by decide)) (bT.mono (by decide)) ?_
  walk_at "evn"
  refine t_nx ?_
  have b1 : BR 54 (k * g.T) := (BR.tim bk bT).mono (by decide)
  generalize (k * g.T : Rat) = sh at *
  walk_at "evn"
  · refine w_small hr2 fun x c3 b2 hr3 => ?_
    walk_at "evn"
    refine l_add (b1.mono (by decide)) (b2.mono (by decide)) ?_
    walk_at "evn"
    exact q _ _ ((b1.add b2).mono (by decide)) hr3
  · rename_i h0
    have hn : 0 < g.n := by
      have : (g.sp.length : Int) ≠ 0 := h0
      omega
    refine t_nx ?_
    walk_at "evn"
    refine w_choice Has.out Has.out (by intro e; have h1 := congrArg List.length e; rw [lenD] at h1; have h2 : g.n = 0 := h1; omega) (by rw [lenD]; omega) hr2 fun y c3 hy hr3 => ?_
    obtain ⟨s, hs, rfl⟩ := List.mem_map.mp hy
    have bs := b.sp s hs
    clear hy
    have b8 : BR 8 (1 / 8 : Rat) := ⟨Bd.of (by decide +kernel), Bd.of (by decide +kernel)⟩
    have b4 : BR 8 (1 / 4 : Rat) := ⟨Bd.of (by decide +kernel), Bd.of (by decide +kernel)⟩
    have b2 : BR 8 (1 / 2 : Rat) := ⟨Bd.of (by decide +kernel), Bd.of (by decide +kernel)⟩
    have e2 : D.tup [.int 1, .int 2] = fr (1 / 2) := by kernel_rfl
    have e4 : D.tup [.int 1, .int 4] = fr (1 / 4) := by kernel_rfl
    have e8 : D.tup [.int 1, .int 8] = fr (1 / 8) := by kernel_rfl
    have bl : BR 110 (s.1 + s.2) := (bs.1.add bs.2).mono (by decide)
    walk_at "evn"
    refine t_nx ?_
    walk_at "evn"
    refine l_add (bs.1.mono (by decide)) (bs.2.mono (by decide)) ?_
    walk_at "evn"
    rw [e2]
    refine l_multiply (bs.2.mono (by decide)) (b2.mono (by decide)) ?_
    walk_at "evn"
    refine l_add (bs.1.mono (by decide)) ((bs.2.mul b2).mono (by decide)) ?_
    walk_at "evn"
    rw [e4]
    refine l_subtract (bs.1.mono (by decide)) (b4.mono (by decide)) ?_
    walk_at "evn"
    refine l_add (bs.1.mono (by decide)) (bs.2.mono (by decide)) ?_
    walk_at "evn"
    rw [e8]
    refine l_add (bl.mono (by decide)) (b8.mono (by decide)) ?_
    walk_at "evn"
    refine w_choice Has.out Has.out (by simp) (by simp) hr3 fun y c4 hy hr4 => ?_
    obtain ⟨x, rfl, bx⟩ : ∃ x, y = fr x ∧ BR 130 x := by
      simp only [List.mem_cons, List.not_mem_nil, or_false] at hy
      rcases hy with h | h | h | h | h
      · exact ⟨_, h, bs.1.mono (by decide)⟩
      · exact ⟨_, h, bl.mono (by decide)⟩
      · exact ⟨_, h, (bs.1.add (bs.2.mul b2)).mono (by decide)⟩
      · exact ⟨_, h, (bs.1.sub b4).mono (by decide)⟩
      · exact ⟨_, h, (bl.add b8).mono (by decide)⟩
    clear hy
    walk_at "evn"
    refine t_nx ?_
    walk_at "evn"
    refine l_add (bx.mono (by decide)) (b1.mono (by decide)) ?_
    walk_at "evn"
    exact q _ _ ((bx.add b1).mono (by decide)) hr4
/-- c turns of a gate as one turn -/
def cp (g : Gate) (c : Nat) : Gate := ⟨g.pl, (c : Int) * g.T, (List.range (c * g.n)).map fun j : Nat => (g.bg (j : Int), g.ln (j : Int))⟩
theorem cp_n (c : Nat) : (cp g c).n = c * g.n := by
  show ((List.range (c * g.n)).map _).length = _
  rw [List.length_map, List.length_range]
theorem cp_at {c i : Nat} (h : i < c * g.n) : (cp g c).at' i = (g.bg i, g.ln i) := by
  unfold Gate.at'
  show ((List.range (c * g.n)).map _).getD i (0, 0) = _
  rw [List.getD_eq_getElem?_getD, List.getElem?_map, List.getElem?_range h]
  rfl
theorem cp_ok {c : Nat} (o : g.Ok) (hc : 0 < c) (hl : c * g.n ≤ 6) : (cp g c).Ok := by
  have cT : (0 : Rat) < ((c : Int) : Rat) := Rat.intCast_pos.mpr (by omega)
  refine ⟨Rat.mul_pos cT o.T0, by rw [cp_n]; exact hl, fun i hi => ?_, fun i hi => ?_, fun hn => ?_⟩
  · rw [cp_n] at hi
    rw [cp_at hi]
    have hn : 0 < g.n := by
      rcases Nat.eq_zero_or_pos g.n with z | z
      · rw [z] at hi; omega
      · exact z
    have h0 := Gate.bg_le o hn (show (0 : Int) ≤ i by omega)
    have b0 := Gate.at_bg hn hn
    have s0 := o.sp0 0 hn
    have h1 := Gate.bg_le o hn (show (i : Int) ≤ ((g.n - 1 : Nat) : Int) + ((c : Int) - 1) * g.n by
      have : ((c * g.n : Nat) : Int) = c * g.n := by simp
      rw [Int.sub_mul]
      omega)
    rw [Gate.bg_turn hn, Rat.intCast_sub, (Gate.at_bg hn (show g.n - 1 < g.n by omega)).1] at h1
    have s1 := o.sp0 (g.n - 1) (by omega)
    have l1 := Gate.ln_pos o hn i
    have e0 : g.bg ((0 : Nat) : Int) = g.bg 0 := rfl
    rw [← e0, b0.1] at h0
    have one : ((1 : Int) : Rat) = 1 := rfl
    rw [one] at h1
    refine ⟨by grind, ?_, l1.1, ?_⟩
    · show g.bg i < (c : Int) * g.T
      grind
    · show g.ln i ≤ (c : Int) * g.T
      have c1 : (1 : Rat) ≤ ((c : Int) : Rat) := by
        have : ((1 : Int) : Rat) ≤ ((c : Int) : Rat) := Rat.intCast_le_intCast.mpr (by omega)
        exact this
      have := Rat.mul_le_mul_of_nonneg_right c1 (Rat.le_of_lt o.T0)
      grind
  · rw [cp_n] at hi
    rw [cp_at hi, cp_at (by omega)]
    have hn : 0 < g.n := by
      rcases Nat.eq_zero_or_pos g.n with z | z
      · rw [z] at hi; omega
      · exact z
    exact Gate.step o hn i
  · rw [cp_n] at hn ⊢
    have hn' : 0 < g.n := by
      rcases Nat.eq_zero_or_pos g.n with z | z
      · rw [z] at hn; omega
      · exact z
    rw [cp_at (by omega), cp_at hn]
    have s := Gate.step o hn' ((c * g.n - 1 : Nat) : Int)
    have t := Gate.bg_turn hn' 0 c
    rw [show ((c * g.n - 1 : Nat) : Int) + 1 = 0 + (c : Int) * g.n by
      have : ((c * g.n : Nat) : Int) = c * g.n := by simp
      omega, t] at s
    exact s
end
end Ev

namespace Ev
open Ev.Q PySem
section
variable {P : Pg} {n : Nat} {μ : Mu} {Q : D → Mu → Prop} {X : Exn → Mu → Prop} {g : Gate} {ns : List Int} {c : C} {μs : Mu}
theorem cell_at {m0 tail : Mu} {x : C} : (m0 ++ x :: tail)[m0.length]? = some x := by
  rw [List.getElem?_append_right (Nat.le_refl _), Nat.sub_self]
  rfl
theorem cell_set {m0 tail : Mu} {x y : C} : (m0 ++ x :: tail).set m0.length y = m0 ++ y :: tail := by
  rw [List.set_append, if_neg (by omega), Nat.sub_self]
  rfl
theorem p_ext2 {m0 tail : Mu} {ds es : List D} (hl : ds.length + es.length ≤ sizeLine) (z : Q .non (m0 ++ .lst (ds ++ es) :: (tail ++ [.lst es]))) : WP (extOp (.ptr m0.length) (.ptr (m0 ++ .lst ds :: tail).length)) ((m0 ++ .lst ds :: tail) ++ [.lst es]) Q X := by
  have e : (m0 ++ C.lst ds :: tail) ++ [C.lst es] = m0 ++ C.lst ds :: (tail ++ [C.lst es]) := by simp
  refine p_ext (ds := ds) (es := es) ?_ cell_at ?_ hl ?_
  · rw [e]
    exact cell_at
  · simp
  · rw [e, cell_set]
    exact z
theorem isCell_at {m0 tail : Mu} {ds : List D} : isCell (.ptr m0.length) (m0 ++ .lst ds :: tail) = some () := by
  unfold isCell
  simp only [cell_at]
theorem view_at {m0 tail : Mu} {ds : List D} : view (m0 ++ .lst ds :: tail) (.ptr m0.length) = .lst ds := by
  show (match (m0 ++ .lst ds :: tail)[m0.length]? with
    | some (.lst ds) => D.lst ds
    | _ => .ptr m0.length) = _
  rw [cell_at]
def cpD (g : Gate) (j : Nat) : D := spD (g.bg (j : Int), g.ln (j : Int))
theorem cp_rows (g : Gate) (c : Nat) : (List.range (c * g.n)).map (cpD g) = (cp g c).sp.map spD := by
  show _ = ((List.range (c * g.n)).map _).map spD
  rw [List.map_map]
  rfl
theorem GB.cp {k : Nat} (b : GB 22 g) (hl : g.n ≤ 6) (hk : k ≤ 3) : GB 50 (cp g k) := by
  have bk : Bd 2 (k : Int) := Bd.of (by omega)
  refine ⟨b.pl.mono (by decide), (BR.tim bk b.T).mono (by decide), fun s hs => ?_⟩
  obtain ⟨j, hj, rfl⟩ := List.mem_map.mp hs
  rw [List.mem_range] at hj
  have hn : 0 < g.n := by
    rcases Nat.eq_zero_or_pos g.n with z | z
    · rw [z] at hj; omega
    · exact z
  have hi := Gate.im (g := g) (k := (j : Int)) hn
  have bi := b.at hi.1
  have bj : Bd 5 (j : Int) := Bd.of (by
    have : k * g.n ≤ 3 * 6 := Nat.mul_le_mul hk hl
    omega)
  exact ⟨(bi.1.add (BR.tim (Bd.fdiv (by omega) bj) b.T)).mono (by decide), bi.2.mono (by decide)⟩
theorem l_copied [H__law_copied_gate P] [H__law_choice P] [H__law_draw P] [H__law_add P] [H__law_times P] [H__law_reduce P] [H__law_divisor P] (b : GB 22 g) (o : g.Ok) (hr : RngOk ns c)
    (q : ∀ g' c' μs', g'.Ok → GB 50 g' → RngOk ns c' → Q (gtD g') (c' :: μs')) : WP (call P (n + 4) "_law_copied_gate" [.ptr 0, gtD g]) (c :: μs) Q X := by
  refine w_fn (fn := Ev.Q.f__law_copied_gate) Has.out rfl ?_
  show WQ (evSL _ _ Ev.Q.b__law_copied_gate [some (.ptr 0), some (gtD g), none, none, none, none, none, none, none, none] _) _ _
  unfold Ev.Q.b__law_copied_gate
  have ll : g.sp.length = g.n := rfl
  have hl := o.len
  have bT := b.T
  walk_at "evn"
  refine w_choice Has.out Has.out (by simp) (by simp) hr fun y c1 hy hr1 => ?_
  obtain ⟨k, rfl, k1, k3⟩ : ∃ k : Nat, y = .int k ∧ 1 ≤ k ∧ k ≤ 3 := by
    simp only [List.mem_cons, List.not_mem_nil, or_false] at hy
    rcases hy with h | h | h | h
    · exact ⟨1, h, by decide, by decide⟩
    · exact ⟨1, h, by decide, by decide⟩
    · exact ⟨2, h, by decide, by decide⟩
    · exact ⟨3, h, by decide, by decide⟩
  clear hy
  have bk : Bd 2 (k : Int) := Bd.of (by omega)
  have b6 := bd6 hl
  walk_at "evn"
  refine t_nx ?_
  walk_at "evn"
  refine t_nx ?_
  refine q_cons (q_ife (w_gt ?_))
  refine w_mul (w_var rfl ⟨_, rfl, w_bi (wl_cons (w_var rfl (wl_nil (b_len rfl (fun _ h => nomatch h) ?_))))⟩)
  rw [lenD]
  refine ⟨_, rfl, Bd.ok bk b6 (by decide), _, rfl, w_lit ⟨_, rfl, _, rfl, fun h => ?_, fun h => ?_⟩⟩
  · walk_at "evn"
    exact q g c1 μs o (b.mono (by decide)) hr1
  · have hkn : k * g.n ≤ 6 := by
      have h' := of_decide_eq_false h
      have : ((k * g.n : Nat) : Int) = k * g.n := by simp
      omega
    clear h
    refine q_nil (t_nx ?_)
    walk_at "evn"
    refine t_nx ?_
    have hr1 : rng1Of (.int k) = some (.rng 0 k) := rng1_n (by omega)
    refine q_cons (q_for (wi_rng1 (w_var rfl ⟨_, hr1, _, stat_rng 0 k, fun i δ μ' => i ≤ k ∧ ∃ tail x4 x8 x9, μ' = (c1 :: μs) ++ .lst ((List.range (i * g.n)).map (cpD g)) :: tail ∧ δ = [some (.ptr 0), some (gtD g), some (.int k), some (.ptr (c1 :: μs).length), x4, some (fr g.pl), some (fr g.T), some (.tup (g.sp.map spD)), x8, x9], ⟨Nat.zero_le _, [], _, _, _, by rw [Nat.zero_mul]; rfl, rfl⟩, ?_, ?_⟩)))
    · rintro i x δ μ' hx ⟨hi, tail, x4, x8, x9, rfl, rfl⟩
      have hi' := (List.getElem?_eq_some_iff.mp hx).1
      rw [List.length_map, List.length_range] at hi'
      rw [List.getElem?_map, List.getElem?_range hi'] at hx
      have hx' : x = .int (i : Int) := by
        rw [← Option.some.inj hx]
        show D.int (0 + (i : Int)) = _
        rw [Int.zero_add]
      subst hx'
      clear hx hr1
      refine ⟨_, rfl, ?_⟩
      have st := stat_tup (g.sp.map spD)
      have bi : Bd 2 (i : Int) := Bd.of (by omega)
      refine q_cons (q_expr (w_ext (w_var rfl ⟨(), isCell_at, ?_⟩)))
      refine w_compT (wi_seq (w_var rfl ⟨_, rfl, _, st, fun j acc μ'' => j ≤ g.n ∧ μ'' = (c1 :: μs) ++ .lst ((List.range (i * g.n)).map (cpD g)) :: tail ∧ acc = (List.range j).map (fun t => cpD g (i * g.n + t)), ⟨Nat.zero_le _, rfl, rfl⟩, ?_, ?_⟩))
      · rintro j y acc μ'' hy ⟨hj, rfl, rfl⟩
        have hj' : j < g.n := by
          have := (List.getElem?_eq_some_iff.mp hy).1
          rwa [lenD] at this
        rw [atD hj'] at hy
        cases hy
        refine ⟨_, rfl, ?_⟩
        refine w_lit ⟨true, rfl, fun _ => ?_, fun h => by cases h⟩
        have bj := b.at hj'
        have hb := Gate.bg_at (g := g) (show 0 < g.n by omega) hj' i
        walk_at "evn"
        refine l_times (bi.mono (by decide)) (bT.mono (by decide)) ?_
        walk_at "evn"
        refine l_add (bj.1.mono (by decide)) ((BR.tim bi bT).mono (by decide)) ?_
        walk_at "evn"
        refine ⟨big_lt (by rw [List.length_map, List.length_range]; omega), hj', rfl, ?_⟩
        rw [List.range_succ, List.map_append]
        congr 1
        show [_] = [cpD g (i * g.n + j)]
        unfold cpD spD
        rw [show ((i * g.n + j : Nat) : Int) = j + i * g.n by simp; omega, hb.1, hb.2]
      · rintro acc μ'' ⟨hj, rfl, rfl⟩
        rw [lenD]
        refine ⟨Nat.le_of_lt (big_lt (by rw [List.length_map, List.length_range]; omega)), ?_⟩
        have e1 : i * g.n + g.n ≤ 6 := by
          have : (i + 1) * g.n ≤ k * g.n := Nat.mul_le_mul_right _ hi'
          rw [Nat.add_mul, Nat.one_mul] at this
          omega
        refine p_ext2 (m0 := c1 :: μs) (Nat.le_of_lt (big_lt (by rw [List.length_map, List.length_range, List.length_map, List.length_range]; omega))) ?_
        · refine t_nx ?_
          refine q_nil (l_nx ⟨hi', tail ++ [C.lst ((List.range g.n).map (fun t => cpD g (i * g.n + t)))], _, _, _, ?_, rfl⟩)
          rw [show (i + 1) * g.n = i * g.n + g.n by rw [Nat.add_mul, Nat.one_mul], List.range_add, List.map_append, List.map_map]
          rfl
    · rintro δ μ' ⟨hi, tail, x4, x8, x9, rfl, rfl⟩
      rw [List.length_map, List.length_range]
      refine t_nx ?_
      clear hr1
      walk_at "evn"
      refine l_times (bk.mono (by decide)) (bT.mono (by decide)) ?_
      walk_at "evn"
      refine b_tuple (ds := (List.range (k * g.n)).map (cpD g)) (by rw [view_at]; rfl) ?_
      rw [cp_rows]
      walk_at "evn"
      exact q (cp g k) c1 _ (cp_ok o k1 hkn) (b.cp hl k3) ‹_›
end
end Ev

namespace Ev
open Ev.Q PySem
theorem sort_eq {L R : List (Int × Int)} (p : R.Perm L) (h : ∀ i j, i < j → j < R.length → (iat R i).1 < (iat R j).1) : L.mergeSort lexLe = R := by
  have tr : ∀ a b c : Int × Int, lexLe a b = true → lexLe b c = true → lexLe a c = true := fun a b c h1 h2 => by
    unfold lexLe at *
    simp only [Bool.or_eq_true, Bool.and_eq_true, decide_eq_true_eq] at *
    omega
  have to : ∀ a b : Int × Int, (lexLe a b || lexLe b a) = true := fun a b => by
    unfold lexLe
    simp only [Bool.or_eq_true, Bool.and_eq_true, decide_eq_true_eq]
    omega
  refine List.Perm.eq_of_pairwise (le := fun a b => lexLe a b = true) ?_ (List.pairwise_mergeSort tr to L) ?_ ((List.mergeSort_perm L lexLe).trans p.symm)
  · intro a b _ _ h1 h2
    unfold lexLe at h1 h2
    simp only [Bool.or_eq_true, Bool.and_eq_true, decide_eq_true_eq] at h1 h2
    exact Prod.ext (by omega) (by omega)
  · rw [List.pairwise_iff_getElem]
    intro i j hi hj hij
    have := h i j hij hj
    unfold iat at this
    rw [List.getD_eq_getElem?_getD, List.getD_eq_getElem?_getD, List.getElem?_eq_getElem hi, List.getElem?_eq_getElem hj] at this
    unfold lexLe
    simp only [Bool.or_eq_true, decide_eq_true_eq]
    exact .inl this
theorem pairs_map (L : List (Int × Int)) : pairsOf (L.map pairD) = some L := by
  induction L with
  | nil => rfl
  | cons x xs ih =>
    show (pairsOf (xs.map pairD)).map _ = _
    rw [ih]
    rfl
/-- a row of whole spans over c -/
def gC (pl : Rat) (per c : Int) (R : List (Int × Int)) : Gate := ⟨pl, Rat.divInt per c, R.map fun s => (Rat.divInt s.1 c, Rat.divInt s.2 c)⟩
theorem gC_ok {pl : Rat} {per c : Int} {R : List (Int × Int)} (hc : 0 < c) (o : (gI pl per R).Ok) : (gC pl per c R).Ok := by
  have c0 : (0 : Rat) < (c : Rat) := Rat.intCast_pos.mpr hc
  have ci : (0 : Rat) < (c : Rat)⁻¹ := Rat.inv_pos.mpr c0
  have sc : ∀ a : Int, Rat.divInt a c = (a : Rat) * (c : Rat)⁻¹ := fun a => by
    rw [Rat.divInt_eq_div, Rat.div_def]
  have nn : (gC pl per c R).n = (gI pl per R).n := by
    show (R.map _).length = (R.map _).length
    rw [List.length_map, List.length_map]
  have at2 : ∀ i, i < (gI pl per R).n → (gC pl per c R).at' i = (((gI pl per R).at' i).1 * (c : Rat)⁻¹, ((gI pl per R).at' i).2 * (c : Rat)⁻¹) := fun i hi => by
    rw [gI_n] at hi
    rw [gI_at]
    unfold Gate.at' gC iat
    rw [List.getD_eq_getElem?_getD, List.getD_eq_getElem?_getD, List.getElem?_map, List.getElem?_eq_getElem hi]
    show (Rat.divInt _ c, Rat.divInt _ c) = _
    rw [sc, sc]
    rfl
  have eT : (gC pl per c R).T = (gI pl per R).T * (c : Rat)⁻¹ := sc per
  have mle : ∀ {x y : Rat}, x ≤ y → x * (c : Rat)⁻¹ ≤ y * (c : Rat)⁻¹ := fun h => Rat.mul_le_mul_of_nonneg_right h (Rat.le_of_lt ci)
  have mlt : ∀ {x y : Rat}, x < y → x * (c : Rat)⁻¹ < y * (c : Rat)⁻¹ := fun h => Rat.mul_lt_mul_of_pos_right h ci
  have z : (0 : Rat) * (c : Rat)⁻¹ = 0 := by grind
  refine ⟨?_, by rw [nn]; exact o.len, fun i hi => ?_, fun i hi => ?_, fun hn => ?_⟩
  · rw [eT, ← z]; exact mlt o.T0
  · rw [nn] at hi
    rw [at2 i hi, eT]
    have s := o.sp0 i hi
    have h1 := mle s.1
    have h2 := mlt s.2.1
    have h3 := mlt s.2.2.1
    have h4 := mle s.2.2.2
    rw [z] at h1 h3
    exact ⟨h1, h2, h3, h4⟩
  · rw [nn] at hi
    rw [at2 i (by omega), at2 (i + 1) hi]
    have := mle (o.nxt i hi)
    grind
  · rw [nn] at hn ⊢
    rw [at2 _ (by omega), at2 0 hn, eT]
    have := mle (o.cyc hn)
    grind
section
variable {P : Pg} {n : Nat} {μ : Mu} {Q : D → Mu → Prop} {X : Exn → Mu → Prop} {ns : List Int} {c : C} {μs : Mu}
theorem l_parts [H__law_parts P] [H__law_choice P] [H__law_draw P] {low great : Int} (h0 : 0 < great) (h1 : great ≤ 100000) (hr : RngOk ns c)
    (q : ∀ v c', low ≤ v → v ≤ low + 100000 → RngOk ns c' → Q (.int v) (c' :: μs)) : WP (call P (n + 3) "_law_parts" [.ptr 0, .int low, .int great]) (c :: μs) Q X := by
  refine w_fn (fn := Ev.Q.f__law_parts) Has.out rfl ?_
  show WQ (evSL _ _ Ev.Q.b__law_parts [some (.ptr 0), some (.int low), some (.int great)] _) _ _
  unfold Ev.Q.b__law_parts
  walk_at "evn"
  refine w_draw Has.out h0 (Bd.div (j := 20) (by omega) (Bd.of (by omega)) (by decide)) hr fun u c1 u0 u1 hr1 => ?_
  walk_at "evn"
  refine w_choice Has.out Has.out (by simp) (by simp) hr1 fun y c2 hy hr2 => ?_
  obtain ⟨v, rfl, v0, v1⟩ : ∃ v : Int, y = .int v ∧ 0 ≤ v ∧ v ≤ 100000 := by
    simp only [List.mem_cons, List.not_mem_nil, or_false] at hy
    rcases hy with h | h | h | h | h
    · exact ⟨_, h, by decide, by decide⟩
    · exact ⟨_, h, by decide, by decide⟩
    · exact ⟨_, h, by decide, by decide⟩
    · exact ⟨_, h, by decide, by decide⟩
    · exact ⟨_, h, u0, by omega⟩
  clear hy
  walk_at "evn"
  exact q _ c2 (by omega) (by omega) hr2
end
end Ev

namespace Ev
open Ev.Q PySem
section
variable {cf : Str → List D → M D} {gc : Str → Option D} {δ : Ev.Env} {μ : Mu} {Q : D → Mu → Prop} {X : Exn → Mu → Prop}
theorem comp_goP {iv : Iv} {L : List D} {tg : Tg} {own : List Nat} {c a : E} (I : Nat → List D → Mu → Prop) (st : ∀ i acc μ, I i acc μ → itemAt iv μ i = some L[i]?) {Q : List D → Mu → Prop}
    (hs : ∀ i x acc μ, L[i]? = some x → I i acc μ → ∃ δ', store tg x (wipe δ own) = some δ' ∧ WP (evE cf gc c δ') μ (fun c μ2 => ∃ r, c = .bl r ∧ (r = true → WP (evE cf gc a δ') μ2 (fun y μ3 => acc.length < sizeLine ∧ I (i + 1) (acc ++ [y]) μ3) (fun _ _ => False)) ∧ (r = false → I (i + 1) acc μ2)) (fun _ _ => False))
    (he : ∀ acc μ, I L.length acc μ → Q acc μ) : ∀ (k i : Nat) (acc : List D) (μ : Mu), i ≤ L.length → L.length ≤ i + k → I i acc μ → WP (compM iv (fun x => match store tg x (wipe δ own) with
      | none => fun _ => none
      | some δ' => bnd (evE cf gc c δ') fun c => bnd (lft (asBool c)) fun r => if r then bnd (evE cf gc a δ') fun y => ret (some y) else ret none) k i acc) μ Q X := by
  intro k
  induction k with
  | zero =>
    intro i acc μ h1 h2 hI
    have : i = L.length := by omega
    subst this
    unfold WP compM
    simp only [st _ _ _ hI, List.getElem?_eq_none (Nat.le_refl L.length)]
    exact he _ _ hI
  | succ k ih =>
    intro i acc μ h1 h2 hI
    unfold WP compM
    simp only [st _ _ _ hI]
    cases e : L[i]? with
    | none =>
      have := List.getElem?_eq_none_iff.mp e
      have : i = L.length := by omega
      subst this
      exact he _ _ hI
    | some x =>
      have hi := (List.getElem?_eq_some_iff.mp e).1
      obtain ⟨δ', es, h⟩ := hs i x acc μ e hI
      simp only [es]
      unfold WP at h
      simp only [bnd]
      cases ec : evE cf gc c δ' μ with
      | none => rw [ec] at h; exact h.elim
      | some q =>
        obtain ⟨r, μ1⟩ := q
        rw [ec] at h
        cases r with
        | ex x => exact h.elim
        | ok cd =>
          obtain ⟨r, rfl, h1', h2'⟩ := h
          simp only [asBool, lft]
          cases r with
          | false =>
            simp only [Bool.false_eq_true, if_false, ret]
            exact ih (i + 1) acc μ1 (by omega) (by omega) (h2' rfl)
          | true =>
            have h := h1' rfl
            unfold WP at h
            simp only [if_true, bnd]
            cases ea : evE cf gc a δ' μ1 with
            | none => rw [ea] at h; exact h.elim
            | some q =>
              obtain ⟨r, μ2⟩ := q
              rw [ea] at h
              cases r with
              | ex x => exact h.elim
              | ok y =>
                simp only [ret, if_pos h.1]
                exact ih (i + 1) _ μ2 (by omega) (by omega) h.2
theorem w_compP {tg : Tg} {it : IT} {own : List Nat} {c a : E} (h : WP (evI cf gc it δ) μ (fun iv μ1 => ∃ (L : List D) (I : Nat → List D → Mu → Prop), (∀ i acc μ, I i acc μ → itemAt iv μ i = some L[i]?) ∧ L.length ≤ fuelOf iv μ1 ∧ I 0 [] μ1 ∧
    (∀ i x acc μ, L[i]? = some x → I i acc μ → ∃ δ', store tg x (wipe δ own) = some δ' ∧ WP (evE cf gc c δ') μ (fun c μ2 => ∃ r, c = .bl r ∧ (r = true → WP (evE cf gc a δ') μ2 (fun y μ3 => acc.length < sizeLine ∧ I (i + 1) (acc ++ [y]) μ3) (fun _ _ => False)) ∧ (r = false → I (i + 1) acc μ2)) (fun _ _ => False)) ∧
    (∀ acc μ, I L.length acc μ → acc.length ≤ sizeLine ∧ Q (.lst acc) μ)) X) : WP (evE cf gc (.comp false it tg own c a) δ) μ Q X :=
  wp_bnd (wp_imp h fun iv μ1 h => by
    obtain ⟨L, I, st, fl, h0, hs, he⟩ := h
    refine wp_bnd (wp_imp (comp_goP (Q := fun acc μ => acc.length ≤ sizeLine ∧ Q (.lst acc) μ) I st hs he _ 0 [] μ1 (Nat.zero_le _) (by omega) h0) fun ds μ2 h => ?_)
    unfold WP newList
    rw [if_pos h.1]
    exact h.2)
end
section
variable {P : Pg} {n : Nat} {μ : Mu} {Q : D → Mu → Prop} {X : Exn → Mu → Prop} {ns : List Int} {c : C} {μs : Mu}
theorem cellS {c : C} {ds : List D} : (c :: (μs ++ [C.lst ds]))[μs.length + 1]? = some (.lst ds) := by
  rw [List.getElem?_cons_succ, List.getElem?_append_right (Nat.le_refl _), Nat.sub_self]
  rfl
theorem setS {c : C} {x y : C} : (c :: (μs ++ [x])).set (μs.length + 1) y = c :: (μs ++ [y]) := by
  rw [List.set_cons_succ, List.set_append, if_neg (by omega), Nat.sub_self]
  rfl
theorem isCellS {c : C} {ds : List D} : isCell (.ptr (μs.length + 1)) (c :: (μs ++ [C.lst ds])) = some () := by
  unfold isCell
  simp only [cellS]
theorem viewS {c : C} {ds : List D} : view (c :: (μs ++ [C.lst ds])) (.ptr (μs.length + 1)) = .lst ds := by
  show (match (c :: (μs ++ [C.lst ds]))[μs.length + 1]? with
    | some (.lst ds) => D.lst ds
    | _ => .ptr (μs.length + 1)) = _
  rw [cellS]
theorem b_intB {b : Bool} (q : Q (.int (if b then 1 else 0)) μ) : WP (biOp .int [.bl b]) μ Q X := q
theorem l_gateK [H__law_gate P] [H__law_parts P] [H__law_choice P] [H__law_draw P] [H__law_reduce P] [H__law_divisor P] {pl : Rat} {most kp : Nat} (hm : most ≤ 6) (bp : BR kp pl) (hkp : 22 ≤ kp) (hr : RngOk ns c)
    (q : ∀ g c' μs', g.pl = pl → g.Ok → GB kp g → RngOk ns c' → Q (gtD g) (c' :: μs')) : WP (call P (n + 4) "_law_gate" [.ptr 0, fr pl, .int most]) (c :: μs) Q X := by
  refine w_fn (fn := Ev.Q.f__law_gate) Has.out rfl ?_
  show WQ (evSL _ _ Ev.Q.b__law_gate [some (.ptr 0), some (fr pl), some (.int most), none, none, none, none, none, none, none, none, none, none] _) _ _
  unfold Ev.Q.b__law_gate
  walk_at "evn"
  refine w_draw Has.out (by omega) (Bd.div (j := 4) (by omega) (Bd.of (by omega)) (by decide)) hr fun m c1 m0 m1 hr1 => ?_
  obtain ⟨m, rfl⟩ := Int.eq_ofNat_of_zero_le m0
  walk_at "evn"
  refine t_nx ?_
  walk_at "evn"
  refine w_draw Has.out (by decide) ⟨by decide, by decide +kernel⟩ hr1 fun u c2 u0 u1 hr2 => ?_
  rw [ten_five] at u1
  walk_at "evn"
  refine w_choice Has.out Has.out (by simp) (by simp) hr2 fun y c3 hy hr3 => ?_
  obtain ⟨dv, rfl, d0, d1⟩ : ∃ v : Int, y = .int v ∧ 0 < v ∧ v ≤ 100000 := by
    simp only [List.mem_cons, List.not_mem_nil, or_false] at hy
    rcases hy with h | h | h | h | h
    · exact ⟨_, h, by decide, by decide⟩
    · exact ⟨_, h, by decide, by decide⟩
    · exact ⟨_, h, by decide, by decide⟩
    · exact ⟨_, h, by decide, by decide⟩
    · exact ⟨_, h, by omega, by omega⟩
  clear hy
  walk_at "evn"
  refine t_nx ?_
  walk_at "evn"
  refine t_nx ?_
  have hr1 : rng1Of (.int m) = some (.rng 0 m) := rng1_n (by omega)
  refine q_cons (q_for (wi_rng1 (w_var rfl ⟨_, hr1, _, stat_rng 0 m, fun i δ μ' => i ≤ m ∧ ∃ c ss spot x5 x11, μ' = c :: (μs ++ [C.lst (ss.map pairD)]) ∧ RngOk ns c ∧ ss.length = i ∧ SpI ss spot ∧ 0 ≤ spot ∧ spot ≤ 300000 * (i : Int) ∧ δ = [some (.ptr 0), some (fr pl), some (.int most), some (.int m), some (.int dv), x5, none, none, none, some (.int spot), some (.ptr (μs.length + 1)), x11, none], ⟨Nat.zero_le _, c3, [], 0, _, _, rfl, hr3, rfl, ⟨fun j h => absurd h (Nat.not_lt_zero _), fun j h => absurd h (Nat.not_lt_zero _), fun j h => absurd h (Nat.not_lt_zero _)⟩, Int.le_refl _, by omega, rfl⟩, ?_, ?_⟩)))
  · rintro i x δ μ' hx ⟨hi, c4, ss, spot, x5, x11, rfl, hr4, hlen, sp, s0, s1, rfl⟩
    have hi' := (List.getElem?_eq_some_iff.mp hx).1
    rw [List.length_map, List.length_range] at hi'
    clear hx hr1
    refine ⟨_, rfl, ?_⟩
    walk_at "evn"
    refine l_parts (by decide) (by decide) hr4 fun v c5 v0 v1 hr5 => ?_
    walk_at "evn"
    refine t_nx ?_
    walk_at "evn"
    refine l_parts (by decide) (by decide) hr5 fun w c6 w0 w1 hr6 => ?_
    walk_at "evn"
    refine t_nx ?_
    refine q_cons (q_expr (w_app (w_var rfl ⟨(), isCellS, ?_⟩)))
    walk_at "evn"
    refine p_app (ds := ss.map pairD) cellS (big_lt (by rw [List.length_map]; omega)) ?_
    rw [setS]
    refine t_nx ?_
    walk_at "evn"
    refine ⟨hi', c6, ss ++ [(spot + v, w)], spot + v + w, _, _, by rw [List.map_append]; rfl, hr6, by simp [hlen], sp.snoc s0 (by omega) w0, by omega, by omega, rfl⟩
  · rintro δ μ' ⟨hi, c4, ss, spot, x5, x11, rfl, hr4, hlen, sp, s0, s1, rfl⟩
    rw [List.length_map, List.length_range] at hlen hi s1
    refine t_nx ?_
    clear hr1
    have hlen6 : ss.length ≤ 6 := by omega
    walk_at "evn"
    refine b_intB ?_
    walk_at "evn"
    refine l_parts (by decide) (by decide) hr4 fun v c5 v0 v1 hr5 => ?_
    walk_at "evn"
    refine t_nx ?_
    have hper : 0 < spot + v := by
      by_cases e : spot = 0
      · rw [decide_eq_true e] at v0
        have : (1 : Int) ≤ v := v0
        omega
      · rw [decide_eq_false e] at v0
        have : (0 : Int) ≤ v := v0
        omega
    have hle : spot ≤ spot + v := by
      by_cases e : spot = 0
      · omega
      · rw [decide_eq_false e] at v0
        have : (0 : Int) ≤ v := v0
        omega
    have hv : v ≤ 100001 := by
      by_cases e : spot = 0
      · rw [decide_eq_true e] at v1
        have : v ≤ 1 + 100000 := v1
        omega
      · rw [decide_eq_false e] at v1
        have : v ≤ 0 + 100000 := v1
        omega
    have hpb : spot + v < 2000000 := by omega
    generalize spot + v = per at *
    have bper : Bd 22 per := Bd.of (by omega)
    walk_at "evn"
    refine w_draw Has.out hper (Bd.div (by omega) bper (by decide)) hr5 fun w c6 w0 w1 hr6 => ?_
    walk_at "evn"
    refine w_choice Has.out Has.out (by simp) (by simp) hr6 fun y c7 hy hr7 => ?_
    obtain ⟨dl, rfl⟩ : ∃ v : Int, y = .int v := by
      simp only [List.mem_cons, List.not_mem_nil, or_false] at hy
      rcases hy with h | h | h
      · exact ⟨_, h⟩
      · exact ⟨_, h⟩
      · exact ⟨_, h⟩
    clear hy
    walk_at "evn"
    refine t_nx ?_
    obtain ⟨R, pR, hR, oR, bR⟩ := turned_spans (pl := pl) (d := dl) sp hle hper hlen6
    have sR := sort_eq pR hR
    have lR : R.length = ss.length := by rw [pR.length_eq, List.length_map]
    clear pR hR
    refine q_cons (q_asg (w_bi (wl_cons ?_)))
    have se : seqOf (view (c7 :: (μs ++ [C.lst (ss.map pairD)])) (.ptr (μs.length + 1))) = some (ss.map pairD) := by rw [viewS]; rfl
    refine w_compP (wi_seq (w_var rfl ⟨.seq (.ptr (μs.length + 1)), by unfold ckSeq; rw [se]; rfl, ss.map pairD, fun i acc μ' => i ≤ ss.length ∧ μ' = c7 :: (μs ++ [C.lst (ss.map pairD)]) ∧ acc = ((ss.map (turnI per dl)).map pairD).take i, ?_, ?_, ⟨Nat.zero_le _, rfl, rfl⟩, ?_, ?_⟩))
    · rintro i acc μ' ⟨hi, rfl, rfl⟩
      show (seqOf _).map _ = _
      rw [se]
      rfl
    · show _ ≤ ((seqOf _).map List.length).getD 0
      rw [se]
      exact Nat.le_refl _
    · rintro i y acc μ' hy ⟨hi, rfl, rfl⟩
      rw [List.getElem?_map] at hy
      obtain ⟨s, hs, rfl⟩ := Option.map_eq_some_iff.mp hy
      have hi' := (List.getElem?_eq_some_iff.mp hs).1
      have at2 : ((ss.map (turnI per dl)).map pairD)[i]? = some (pairD (turnI per dl s)) := by
        rw [List.getElem?_map, List.getElem?_map, hs]
        rfl
      have tk := copy_all at2
      clear at2 hy hs se
      refine ⟨_, rfl, ?_⟩
      refine w_lit ⟨true, rfl, fun _ => ?_, fun h => by cases h⟩
      have np : per ≠ 0 := by omega
      walk_at "evn"
      refine ⟨big_lt (by rw [List.length_take, List.length_map, List.length_map]; omega), hi', rfl, ?_⟩
      rw [tk]
      rfl
    rintro acc μ' ⟨hi, rfl, rfl⟩
    rw [List.length_map, List.take_of_length_le (by rw [List.length_map, List.length_map]; exact Nat.le_refl _)]
    refine ⟨Nat.le_of_lt (big_lt (by rw [List.length_map, List.length_map]; omega)), ?_⟩
    walk_at "evn"
    refine b_sorted rfl (pairs_map _) ?_
    rw [sR]
    clear se
    walk_at "evn"
    refine t_nx ?_
    have st := stat_lst (R.map pairD)
    have dn : dv ≠ 0 := by omega
    have bdv : Bd 22 dv := Bd.of (by omega)
    have bs : ∀ s ∈ R, Bd 22 s.1 ∧ Bd 22 s.2 := fun s hs => by
      have := bR s hs
      exact ⟨Bd.of (by omega), Bd.of (by omega)⟩
    walk_at "evn"
    refine ⟨fun i acc μ' => i ≤ R.length ∧ μ' = c7 :: (μs ++ [C.lst (ss.map pairD)]) ∧ acc = ((gC pl per dv R).sp.map spD).take i, ⟨Nat.zero_le _, rfl, rfl⟩, ?_, ?_⟩
    · rintro i y acc μ' hy ⟨hi, rfl, rfl⟩
      rw [List.getElem?_map] at hy
      obtain ⟨s, hs, rfl⟩ := Option.map_eq_some_iff.mp hy
      have hi' := (List.getElem?_eq_some_iff.mp hs).1
      have b := bs s (List.mem_of_getElem? hs)
      have at2 : ((gC pl per dv R).sp.map spD)[i]? = some (spD (Rat.divInt s.1 dv, Rat.divInt s.2 dv)) := by
        show ((R.map _).map spD)[i]? = _
        rw [List.getElem?_map, List.getElem?_map, hs]
        rfl
      have tk := copy_all at2
      have ln : ((gC pl per dv R).sp.map spD).length = R.length := by
        show ((R.map _).map spD).length = _
        rw [List.length_map, List.length_map]
      clear at2 hy hs
      refine ⟨_, rfl, ?_⟩
      refine w_lit ⟨true, rfl, fun _ => ?_, fun h => by cases h⟩
      walk_at "evn"
      refine w_redR dn (b.1.mono (by decide)) (bdv.mono (by decide)) ?_
      walk_at "evn"
      refine w_redR dn (b.2.mono (by decide)) (bdv.mono (by decide)) ?_
      walk_at "evn"
      refine ⟨big_lt (by rw [List.length_take, ln]; omega), hi', rfl, ?_⟩
      rw [tk]
      rfl
    rintro acc μ' ⟨hi, rfl, rfl⟩
    have ln : ((gC pl per dv R).sp.map spD).length = R.length := by
      show ((R.map _).map spD).length = _
      rw [List.length_map, List.length_map]
    rw [List.length_map, List.take_of_length_le (by rw [ln]; exact Nat.le_refl _)]
    refine ⟨Nat.le_of_lt (big_lt (by rw [ln]; omega)), ?_⟩
    walk_at "evn"
    refine t_nx ?_
    walk_at "evn"
    refine w_redR dn (bper.mono (by decide)) (bdv.mono (by decide)) ?_
    walk_at "evn"
    refine b_tuple rfl ?_
    walk_at "evn"
    exact q (gC pl per dv R) c7 _ rfl (gC_ok d0 oR) ⟨bp, (BR.of dn bper bdv).mono hkp, fun s hs => by
      obtain ⟨x, hx, rfl⟩ := List.mem_map.mp hs
      have b := bs x hx
      exact ⟨(BR.of dn b.1 bdv).mono hkp, (BR.of dn b.2 bdv).mono hkp⟩⟩ hr7
theorem l_gate [H__law_gate P] [H__law_parts P] [H__law_choice P] [H__law_draw P] [H__law_reduce P] [H__law_divisor P] {pl : Rat} {most : Nat} (hm : most ≤ 6) (bp : BR 22 pl) (hr : RngOk ns c)
    (q : ∀ g c' μs', g.Ok → GB 22 g → RngOk ns c' → Q (gtD g) (c' :: μs')) : WP (call P (n + 4) "_law_gate" [.ptr 0, fr pl, .int most]) (c :: μs) Q X :=
  l_gateK hm bp (Nat.le_refl _) hr fun g c' μs' _ => q g c' μs'
end
end Ev

namespace Ev
open Ev.Q PySem
theorem Gate.truth (m : Rat) (g : Gate) : ∃ r : Bool, r = true ↔ g.Open m := by
  by_cases h : g.Open m
  · exact ⟨true, by simp [h]⟩
  · exact ⟨false, by simp [h]⟩
theorem bl_plain (r : Bool) : plainD 1 (.bl r) = true := by cases r <;> kernel_rfl
section
variable {P : Pg} {n : Nat} {μ : Mu} {Q : D → Mu → Prop} {X : Exn → Mu → Prop} {g : Gate} {m : Rat}
theorem w_next_open [H_next_open P] [H_lets P] [H_number_at P] [H_closes P] [H_last_opening P] [H_turns_since P] [H_opens P] [H_times P] [H_floor_of P] [H_divide P] [H_normal_gate P] [H_copied P] [H_is_gate P] [HasC P "MAX_SPANS" (.int 6)] [H_spans_fit P] [H_is_less P] [H_normalized P] [HasC P "ONE" (.tup [.int 1, .int 1])] [H_repeats P] [H_subtract P] [H_add P] [H_fraction P] [H_divisor_of P] {e_b : Nat} (b : GB e_b g) {e_bn : Nat} (bn : GB e_bn g.nrm) (o : g.Ok) (bm : BR 1600 m) (q1 : g.Open m → Q (fr m) μ) (q2 : ∀ k, 0 < g.n → g.bg k < m → m < g.en k → Q (fr (g.en k)) μ) (he_b : e_b ≤ 400 := by decide) (he_bn : e_bn ≤ 300 := by decide) : WP (call P (n + 8) "next_open" [gtD g, fr m]) μ Q X := by
  replace b := b.mono he_b
  replace bn := bn.mono he_bn
  refine w_fn (fn := Ev.Q.f_next_open) Has.out rfl ?_
  show WQ (evSL _ _ Ev.Q.b_next_open [some (gtD g), some (fr m), none] _) _ _
  unfold Ev.Q.b_next_open
  obtain ⟨r, hr⟩ := Gate.truth m g
  have on := Gate.nrm_ok o
  walk_at "evn"
  refine w_normal_gate b o ?_
  walk_at "evn"
  refine t_nx ?_
  walk_at "evn"
  refine w_lets bn on bm (hr.trans Gate.nrm_open.symm) ?_
  walk_at "evn"
  · rename_i h
    exact q1 (hr.mp h)
  · rename_i h
    have ns : ¬ g.Open m := fun c => by rw [hr.mpr c] at h; cases h
    have h0 : 0 < g.n := by
      rcases Nat.eq_zero_or_pos g.n with z | z
      · exact (ns fun c => by omega).elim
      · exact z
    have hn : 0 < g.nrm.n := by
      rw [Gate.nrm_n h0]
      have := (Gate.per_ok h0).1
      omega
    refine t_nx ?_
    walk_at "evn"
    refine w_last_opening bn on hn bm fun k bk h1 h2 => ?_
    walk_at "evn"
    have io := Gate.open_iff on hn h1 h2
    refine w_opens bn hn on.len ((bk.add (Bd.of (k := 1) (x := 1) (by decide))).mono (by decide)) ?_
    walk_at "evn"
    rw [Gate.nrm_en h0] at h2 ⊢
    rw [Gate.nrm_open, (Gate.nrm_bg h0 (k + 1)).1] at io
    exact q2 (k + 1) h0 (Classical.byContradiction fun c => ns (io.mpr c)) h2
theorem w_next_due [H_next_open P] [H_lets P] [H_number_at P] [H_closes P] [H_last_opening P] [H_turns_since P] [H_opens P] [H_times P] [H_floor_of P] [H_divide P] [H_normal_gate P] [H_copied P] [H_is_gate P] [HasC P "MAX_SPANS" (.int 6)] [H_spans_fit P] [H_is_less P] [H_normalized P] [HasC P "ONE" (.tup [.int 1, .int 1])] [H_repeats P] [H_subtract P] [H_add P] [H_fraction P] [H_divisor_of P] {due : Rat} (b : GB 100 g) (bn : GB 64 g.nrm) (o : g.Ok) (bm : BR 1600 m) (d1 : g.Open m → m = due) (d2 : ∀ k, 0 < g.n → g.bg k < m → m < g.en k → g.en k = due) (q : Q (fr due) μ) : WP (call P (n + 8) "next_open" [gtD g, fr m]) μ Q X :=
  w_next_open b bn o bm (fun h => by rw [d1 h]; exact q) fun k h0 k1 k2 => by rw [d2 k h0 k1 k2]; exact q
end
end Ev
namespace Ev
open PySem
section
variable {cf : Str → List D → M D} {gc : Str → Option D} {δ : Ev.Env} {μ : Mu} {R : Out → Ev.Env → Mu → Prop} {Y : Exn → Ev.Env → Mu → Prop} {s : S} {r : SL}
/-- a word between -/
theorem q_mid (I : Ev.Env → Mu → Prop) (h : WQ (evS cf gc s δ μ) (fun o δ' μ' => o = .nx ∧ I δ' μ') Y) (h2 : ∀ δ' μ', I δ' μ' → WQ (evSL cf gc r δ' μ') R Y) : WQ (evSL cf gc (.cons s r) δ μ) R Y := by
  refine q_cons ?_
  unfold WQ at h ⊢
  split at h
  · exact h
  · obtain ⟨rfl, hi⟩ := h
    exact h2 _ _ hi
  · exact h
end
end Ev

namespace Ev
open Ev.Q PySem
namespace Gate
variable {g : Gate}
theorem nxt_bg (h : 0 < g.n) (k : Int) : (k.fmod g.n + 1 < g.n → g.bg (k + 1) = (g.at' (k.fmod g.n + 1).toNat).1 + (k.fdiv g.n : Int) * g.T) ∧ (¬ k.fmod g.n + 1 < g.n → g.bg (k + 1) = (g.at' 0).1 + g.T + (k.fdiv g.n : Int) * g.T) := by
  have hi := im (g := g) (k := k) h
  have hk : k.fmod g.n + k.fdiv g.n * g.n = k := by
    have := Int.mul_fdiv_add_fmod k g.n
    rw [Int.mul_comm] at this
    omega
  generalize k.fmod g.n = r at *
  generalize k.fdiv g.n = q at *
  subst hk
  constructor
  · intro hl
    have := (bg_at h (show (r + 1).toNat < g.n by omega) q).1
    rw [show (((r + 1).toNat : Nat) : Int) = r + 1 by omega] at this
    rw [show r + q * g.n + 1 = r + 1 + q * g.n by omega, this]
  · intro hl
    have := (bg_at h h (q + 1)).1
    rw [show r + q * g.n + 1 = ((0 : Nat) : Int) + (q + 1) * g.n by rw [Int.add_mul]; omega, this, Rat.intCast_add]
    grind
theorem en_lt (o : Ok g) (h : 0 < g.n) {j k : Int} (hjk : j < k) : g.en j < g.en k := by
  have h1 := en_le_bg o h hjk
  have h2 := (ln_pos o h k).1
  unfold en at *
  grind
theorem en_one (o : Ok g) (h : 0 < g.n) {m : Rat} {j k : Int} (j1 : g.en j ≤ m) (j2 : m < g.en (j + 1)) (k1 : g.en k ≤ m) (k2 : m < g.en (k + 1)) : j = k := by
  rcases Int.lt_trichotomy j k with c | c | c
  · have := en_le o h (show j + 1 ≤ k by omega)
    grind
  · exact c
  · have := en_le o h (show k + 1 ≤ j by omega)
    grind
end Gate
section
variable {P : Pg} {n : Nat} {μ : Mu} {Q : D → Mu → Prop} {X : Exn → Mu → Prop} {g : Gate} {m : Rat}
theorem w_barring_gate0 [H_barring_gate P] [H_normal_gate P] [H_copied P] [H_is_gate P] [HasC P "MAX_SPANS" (.int 6)] [H_spans_fit P] [H_is_less P] [H_normalized P] [HasC P "ONE" (.tup [.int 1, .int 1])] [H_repeats P] [H_subtract P] [H_add P] [H_fraction P] [H_divisor_of P] {e_b : Nat} (b : GB e_b g) (o : g.Ok) (q : 0 < g.n → Q (gtD g.nrm) μ) (x : g.n = 0 → X ⟨"NotBarring", ["place", "tag"], [fr g.pl, .str "NotBarring"]⟩ μ) (he_b : e_b ≤ 400 := by decide) : WP (call P (n + 8) "barring_gate" [gtD g]) μ Q X := by
  replace b := b.mono he_b
  refine w_fn (fn := Ev.Q.f_barring_gate) Has.out rfl ?_
  show WQ (evSL _ _ Ev.Q.b_barring_gate [some (gtD g), none] _) _ _
  unfold Ev.Q.b_barring_gate
  have on := Gate.nrm_ok o
  have ce := eqO_nil (g := g.nrm) (by have := on.len; omega)
  have hp : g.nrm.pl = g.pl := by unfold Gate.nrm; split <;> rfl
  walk_at "evn"
  refine w_normal_gate b o ?_
  walk_at "evn"
  refine t_nx ?_
  walk_at "evc"
  · rename_i h0
    have h0 : g.n = 0 := by
      rcases Nat.eq_zero_or_pos g.n with z | z
      · exact z
      · have := Gate.nrm_n z
        have := (Gate.per_ok z).1
        omega
    rw [hp]
    exact ⟨rfl, x h0⟩
  · rename_i h0
    refine q ?_
    rcases Nat.eq_zero_or_pos g.n with z | z
    · exact (h0 (Gate.nrm_ok0 z).2).elim
    · exact z
theorem w_barring_gate [H_barring_gate P] [H_normal_gate P] [H_copied P] [H_is_gate P] [HasC P "MAX_SPANS" (.int 6)] [H_spans_fit P] [H_is_less P] [H_normalized P] [HasC P "ONE" (.tup [.int 1, .int 1])] [H_repeats P] [H_subtract P] [H_add P] [H_fraction P] [H_divisor_of P] {e_b : Nat} (b : GB e_b g) (o : g.Ok) (h : 0 < g.n) (q : Q (gtD g.nrm) μ) (he_b : e_b ≤ 400 := by decide) : WP (call P (n + 8) "barring_gate" [gtD g]) μ Q X :=
  w_barring_gate0 b o (fun _ => q) (fun z => by omega) he_b
theorem w_window [H_window P] [H_barring_gate P] [H_closes P] [H_opens P] [H_times P] [H_normal_gate P] [H_copied P] [H_is_gate P] [HasC P "MAX_SPANS" (.int 6)] [H_spans_fit P] [H_is_less P] [H_normalized P] [HasC P "ONE" (.tup [.int 1, .int 1])] [H_repeats P] [H_subtract P] [H_add P] [H_fraction P] [H_divisor_of P] {k : Int} {e_b : Nat} (b : GB e_b g) {e_bn : Nat} (bn : GB e_bn g.nrm) (o : g.Ok) (h : 0 < g.n) (bk : Bd 2830 k) (q : Q (.tup [fr (g.en k), fr (g.bg (k + 1))]) μ) (he_b : e_b ≤ 400 := by decide) (he_bn : e_bn ≤ 300 := by decide) : WP (call P (n + 9) "window" [gtD g, .int k]) μ Q X := by
  replace b := b.mono he_b
  replace bn := bn.mono he_bn
  refine w_fn (fn := Ev.Q.f_window) Has.out rfl ?_
  show WQ (evSL _ _ Ev.Q.b_window [some (gtD g), some (.int k), none] _) _ _
  unfold Ev.Q.b_window
  have on := Gate.nrm_ok o
  have hn : 0 < g.nrm.n := by
    rw [Gate.nrm_n h]
    have := (Gate.per_ok h).1
    omega
  walk_at "evn"
  refine w_barring_gate b o h ?_
  walk_at "evn"
  refine t_nx ?_
  walk_at "evn"
  refine w_opens bn hn on.len (bk.mono (by decide)) ?_
  walk_at "evn"
  refine w_closes bn hn on.len (bk.mono (by decide)) ?_
  walk_at "evn"
  rw [Gate.nrm_en h, (Gate.nrm_bg h _).1]
  exact q
theorem w_window_at [H_window_at P] [H_barring_gate P] [H_number_at P] [H_closes P] [H_last_opening P] [H_turns_since P] [H_opens P] [H_times P] [H_floor_of P] [H_divide P] [H_normal_gate P] [H_copied P] [H_is_gate P] [HasC P "MAX_SPANS" (.int 6)] [H_spans_fit P] [H_is_less P] [H_normalized P] [HasC P "ONE" (.tup [.int 1, .int 1])] [H_repeats P] [H_subtract P] [H_add P] [H_fraction P] [H_divisor_of P] {e_b : Nat} (b : GB e_b g) {e_bn : Nat} (bn : GB e_bn g.nrm) (o : g.Ok) (h : 0 < g.n) (bm : BR 1600 m) (q : ∀ k : Int, Bd 2830 k → g.en k ≤ m → m < g.en (k + 1) → (g.Open m → Q (.int k) μ) ∧ (¬ g.Open m → Q .non μ)) (he_b : e_b ≤ 400 := by decide) (he_bn : e_bn ≤ 300 := by decide) : WP (call P (n + 9) "window_at" [gtD g, fr m]) μ Q X := by
  replace b := b.mono he_b
  replace bn := bn.mono he_bn
  refine w_fn (fn := Ev.Q.f_window_at) Has.out rfl ?_
  show WQ (evSL _ _ Ev.Q.b_window_at [some (gtD g), some (fr m)] _) _ _
  unfold Ev.Q.b_window_at
  have on := Gate.nrm_ok o
  have hn : 0 < g.nrm.n := by
    rw [Gate.nrm_n h]
    have := (Gate.per_ok h).1
    omega
  walk_at "evn"
  refine w_barring_gate b o h ?_
  walk_at "evn"
  refine w_number_at bn on hn bm fun k bk h1 h2 => ?_
  rw [Gate.nrm_en h] at h1 h2
  rw [Gate.nrm_open]
  have := q k bk h1 h2
  refine ⟨fun c => ?_, fun c => ?_⟩
  · walk_at "evn"
    exact this.1 c
  · walk_at "evn"
    exact this.2 c
theorem w_window_in [H_window_at P] [H_barring_gate P] [H_number_at P] [H_closes P] [H_last_opening P] [H_turns_since P] [H_opens P] [H_times P] [H_floor_of P] [H_divide P] [H_normal_gate P] [H_copied P] [H_is_gate P] [HasC P "MAX_SPANS" (.int 6)] [H_spans_fit P] [H_is_less P] [H_normalized P] [HasC P "ONE" (.tup [.int 1, .int 1])] [H_repeats P] [H_subtract P] [H_add P] [H_fraction P] [H_divisor_of P] (k : Int) {e_b : Nat} (b : GB e_b g) {e_bn : Nat} (bn : GB e_bn g.nrm) (o : g.Ok) (h : 0 < g.n) (bm : BR 1600 m) (h1 : g.en k ≤ m) (h2 : m ≤ g.bg (k + 1)) (q : Q (.int k) μ) (he_b : e_b ≤ 400 := by decide) (he_bn : e_bn ≤ 300 := by decide) : WP (call P (n + 9) "window_at" [gtD g, fr m]) μ Q X := by
  replace b := b.mono he_b
  replace bn := bn.mono he_bn
  have h3 : m < g.en (k + 1) := by
    have := (Gate.ln_pos o h (k + 1)).1
    unfold Gate.en
    grind
  refine w_window_at b bn o h bm fun j bj j1 j2 => ?_
  obtain rfl := Gate.en_one o h j1 j2 h1 h3
  have io := Gate.open_iff o h j1 j2
  exact ⟨fun _ => q, fun c => (c (io.mpr (by grind))).elim⟩
theorem w_window_no [H_window_at P] [H_barring_gate P] [H_number_at P] [H_closes P] [H_last_opening P] [H_turns_since P] [H_opens P] [H_times P] [H_floor_of P] [H_divide P] [H_normal_gate P] [H_copied P] [H_is_gate P] [HasC P "MAX_SPANS" (.int 6)] [H_spans_fit P] [H_is_less P] [H_normalized P] [HasC P "ONE" (.tup [.int 1, .int 1])] [H_repeats P] [H_subtract P] [H_add P] [H_fraction P] [H_divisor_of P] (k : Int) {e_b : Nat} (b : GB e_b g) {e_bn : Nat} (bn : GB e_bn g.nrm) (o : g.Ok) (h : 0 < g.n) (bm : BR 1600 m) (h1 : g.bg (k + 1) < m) (h2 : m < g.en (k + 1)) (q : Q .non μ) (he_b : e_b ≤ 400 := by decide) (he_bn : e_bn ≤ 300 := by decide) : WP (call P (n + 9) "window_at" [gtD g, fr m]) μ Q X := by
  replace b := b.mono he_b
  replace bn := bn.mono he_bn
  have h3 : g.en k ≤ m := by
    have := Gate.step o h k
    grind
  refine w_window_at b bn o h bm fun j bj j1 j2 => ?_
  obtain rfl := Gate.en_one o h j1 j2 h3 h2
  have io := Gate.open_iff o h j1 j2
  exact ⟨fun c => (io.mp c h1).elim, fun _ => q⟩
theorem l_window [H__law_window P] [H__law_times P] [H__law_add P] [H__law_reduce P] [H__law_divisor P] {k : Int} (b : GB 64 g) (h : 0 < g.n) (hl : g.n ≤ 6) (bk : Bd 2900 k) (q : Q (.tup [fr (g.en k), fr (g.bg (k + 1))]) μ) : WP (call P (n + 4) "_law_window" [gtD g, .int k]) μ Q X := by
  have ll : g.sp.length = g.n := rfl
  have ii := spans_ix (g := g) (k := k) h
  have hi := Gate.im (g := g) (k := k) h
  have bi := b.at hi.1
  have bT := b.T
  have b0 := b.at h
  have dn : DivOk (g.n : Int) := Bd.div (by omega) (bd6 hl) (by decide)
  have bq : Bd 2900 (k.fdiv g.n) := Bd.fdiv (by omega) bk
  have hb := Gate.nxt_bg h k
  have i0 : ixOp (.tup (g.sp.map spD)) (.int 0) = some (.tup [fr (g.at' 0).1, fr (g.at' 0).2]) := ixD (by omega) (by omega)
  have bs : BR 2970 ((k.fdiv g.n : Int) * g.T) := (BR.tim bq bT).mono (by decide)
  have be : BR 130 ((g.at' (k.fmod g.n).toNat).1 + (g.at' (k.fmod g.n).toNat).2) := (bi.1.add bi.2).mono (by decide)
  have ee : (g.at' (k.fmod g.n).toNat).1 + (g.at' (k.fmod g.n).toNat).2 + (k.fdiv g.n : Int) * g.T = g.en k := by
    show _ = g.bg k + g.ln k
    show _ = (g.at' (k.fmod g.n).toNat).1 + (k.fdiv g.n : Int) * g.T + (g.at' (k.fmod g.n).toNat).2
    grind
  refine w_fn (fn := Ev.Q.f__law_window) Has.out rfl ?_
  show WQ (evSL _ _ Ev.Q.b__law_window [some (gtD g), some (.int k), none, none, none, none, none, none, none] _) _ _
  unfold Ev.Q.b__law_window gtD
  have fin : ∀ {e : Rat}, BR 130 e → e + (k.fdiv g.n : Int) * g.T = g.bg (k + 1) → Q (.tup [fr ((g.at' (k.fmod g.n).toNat).1 + (g.at' (k.fmod g.n).toNat).2 + (k.fdiv g.n : Int) * g.T), fr (e + (k.fdiv g.n : Int) * g.T)]) μ := fun _ h => by
    rw [ee, h]
    exact q
  walk_at "evn"
  refine t_nx ?_
  walk_at "evn"
  rw [lenD]
  walk_at "evn"
  rw [lenD]
  walk_at "evn"
  refine t_nx ?_
  walk_at "evn"
  · rename_i h3
    have i1 : ixOp (.tup (g.sp.map spD)) (.int (k.fmod g.n + 1)) = some (.tup [fr (g.at' (k.fmod g.n + 1).toNat).1, fr (g.at' (k.fmod g.n + 1).toNat).2]) := ixD (by omega) (by omega)
    have b1 := b.at (i := (k.fmod g.n + 1).toNat) (by omega)
    walk_at "evn"
    refine t_nx ?_
    walk_at "evn"
    refine l_times (bq.mono (by decide)) (bT.mono (by decide)) ?_
    walk_at "evn"
    refine t_nx ?_
    walk_at "evn"
    refine l_add (bi.1.mono (by decide)) (bi.2.mono (by decide)) ?_
    walk_at "evn"
    refine l_add (be.mono (by decide)) (bs.mono (by decide)) ?_
    walk_at "evn"
    refine l_add (b1.1.mono (by decide)) (bs.mono (by decide)) ?_
    walk_at "evn"
    exact fin (b1.1.mono (by decide)) (hb.1 (by omega)).symm
  · rename_i h3
    refine l_add (b0.1.mono (by decide)) (bT.mono (by decide)) ?_
    walk_at "evn"
    refine t_nx ?_
    walk_at "evn"
    refine l_times (bq.mono (by decide)) (bT.mono (by decide)) ?_
    walk_at "evn"
    refine t_nx ?_
    walk_at "evn"
    refine l_add (bi.1.mono (by decide)) (bi.2.mono (by decide)) ?_
    walk_at "evn"
    refine l_add (be.mono (by decide)) (bs.mono (by decide)) ?_
    walk_at "evn"
    refine l_add ((b0.1.add bT).mono (by decide)) (bs.mono (by decide)) ?_
    walk_at "evn"
    exact fin ((b0.1.add bT).mono (by decide)) (hb.2 (by omega)).symm
end
end Ev

namespace Ev
open Ev.Q PySem
section
variable {cf : Str → List D → M D} {gc : Str → Option D} {δ : Ev.Env} {μ : Mu} {Q : D → Mu → Prop} {X : Exn → Mu → Prop}
/-- what is walked, at these cells -/
structure Wk (iv : Iv) (μ : Mu) (L : List D) : Prop where
  at_ : ∀ i, itemAt iv μ i = some (L[i]?)
  fuel : L.length ≤ fuelOf iv μ
theorem Stat.wk {iv : Iv} {L : List D} (h : Stat iv L) (μ : Mu) : Wk iv μ L := ⟨h.at_ μ, h.fuel μ⟩
theorem wk_view {x : D} {ds : List D} (h : view μ x = .lst ds) : Wk (.seq x) μ ds := ⟨fun i => by
  show (seqOf (view μ x)).map _ = _
  rw [h]
  rfl, by
  show _ ≤ ((seqOf (view μ x)).map List.length).getD 0
  rw [h]
  exact Nat.le_refl _⟩
/-- a comprehension whose turns change nothing -/
theorem w_compG {α : Type} {tg : Tg} {it : IT} {own : List Nat} {c a : E} (xs : List α) (f : α → D) (p : α → Bool) (k : α → D)
    (h : WP (evI cf gc it δ) μ (fun iv μ1 => Wk iv μ1 (xs.map f) ∧ xs.length < sizeLine ∧ (∀ x ∈ xs, ∃ δ', store tg (f x) (wipe δ own) = some δ' ∧ (∀ Q' : D → Mu → Prop, Q' (.bl (p x)) μ1 → WP (evE cf gc c δ') μ1 Q' (fun _ _ => False)) ∧ (p x = true → ∀ Q' : D → Mu → Prop, Q' (k x) μ1 → WP (evE cf gc a δ') μ1 Q' (fun _ _ => False))) ∧ Q (.lst ((xs.filter p).map k)) μ1) X) :
    WP (evE cf gc (.comp false it tg own c a) δ) μ Q X :=
  w_compP (wp_imp h fun iv μ1 h => by
    obtain ⟨wk, hl, hs, q⟩ := h
    have len : ∀ i, ((xs.take i).filter p).length < sizeLine := fun i => Nat.lt_of_le_of_lt (List.length_filter_le _ _) (Nat.lt_of_le_of_lt (by rw [List.length_take]; exact Nat.min_le_right _ _) hl)
    refine ⟨xs.map f, fun i acc μ => μ = μ1 ∧ acc = ((xs.take i).filter p).map k, fun i acc μ hI => by rw [hI.1]; exact wk.at_ i, wk.fuel, ⟨rfl, rfl⟩, ?_, ?_⟩
    · rintro i x acc μ hx ⟨rfl, rfl⟩
      rw [List.getElem?_map] at hx
      obtain ⟨y, hy, rfl⟩ := Option.map_eq_some_iff.mp hx
      obtain ⟨δ', e, hc, ha⟩ := hs y (List.mem_of_getElem? hy)
      have tk : xs.take (i + 1) = xs.take i ++ [y] := by rw [List.take_add_one, hy]; rfl
      refine ⟨δ', e, hc _ ⟨p y, rfl, fun hp => ha hp _ ⟨by rw [List.length_map]; exact len i, rfl, ?_⟩, fun hp => ⟨rfl, ?_⟩⟩⟩
      · rw [tk, List.filter_append, List.map_append, List.filter_cons_of_pos hp]
        rfl
      · rw [tk, List.filter_append, List.filter_cons_of_neg (by rw [hp]; decide)]
        simp
    · rintro acc μ ⟨rfl, rfl⟩
      rw [show (xs.map f).length = xs.length from List.length_map .., List.take_of_length_le (Nat.le_refl _)]
      refine ⟨?_, q⟩
      have := len xs.length
      rw [List.take_of_length_le (Nat.le_refl _)] at this
      rw [List.length_map]
      exact Nat.le_of_lt this)
/-- .. without a condition -/
theorem w_compM {α : Type} {tg : Tg} {it : IT} {own : List Nat} {a : E} (xs : List α) (f k : α → D)
    (h : WP (evI cf gc it δ) μ (fun iv μ1 => Wk iv μ1 (xs.map f) ∧ xs.length < sizeLine ∧ (∀ x ∈ xs, ∃ δ', store tg (f x) (wipe δ own) = some δ' ∧ ∀ Q' : D → Mu → Prop, Q' (k x) μ1 → WP (evE cf gc a δ') μ1 Q' (fun _ _ => False)) ∧ Q (.lst (xs.map k)) μ1) X) :
    WP (evE cf gc (.comp false it tg own (.lit (.bl true)) a) δ) μ Q X :=
  w_compG xs f (fun _ => true) k (wp_imp h fun iv μ1 h => by
    obtain ⟨wk, hl, hs, q⟩ := h
    refine ⟨wk, hl, fun x hx => ?_, by rw [List.filter_eq_self.mpr (by simp)]; exact q⟩
    obtain ⟨δ', e, ha⟩ := hs x hx
    exact ⟨δ', e, fun Q' q => w_lit q, fun _ => ha⟩)
theorem w_addL {a b : E} (h : WP (evE cf gc a δ) μ (fun x μ1 => WP (evE cf gc b δ) μ1 (fun y μ2 => ∃ xs ys, view μ2 x = .lst xs ∧ view μ2 y = .lst ys ∧ xs.length + ys.length ≤ sizeLine ∧ Q (.lst (xs ++ ys)) μ2) X) X) : WP (evE cf gc (.bin .add a b) δ) μ Q X :=
  w_bin (wp_imp h fun x μ1 h => wp_imp h fun y μ2 h => by
    obtain ⟨xs, ys, e1, e2, hl, q⟩ := h
    refine ⟨.lst (xs ++ ys), ?_, q⟩
    rw [e1, e2]
    exact if_pos hl)
theorem p_ins {p : Nat} {k : Int} {x : D} {ds : List D} (h : μ[p]? = some (.lst ds)) (hl : ds.length < 1000) (k0 : 0 ≤ k) (k1 : k < 1000) (q : Q .non (μ.set p (.lst (ds.take k.toNat ++ [x] ++ ds.drop k.toNat)))) : WP (insOp (.ptr p) (.int k) x) μ Q X := by
  unfold WP insOp
  simp only [h]
  rw [if_pos ⟨Nat.lt_of_lt_of_le hl (by decide), k0, by omega⟩]
  exact q
end
theorem cut_drop {α : Type} {xs : List α} {k : Nat} (h : k ≤ xs.length) : cut xs (some (k : Int)) none = xs.drop k := by
  unfold cut
  have e1 : HT.sIx xs.length 0 (some (k : Int)) = k := by
    show (if (k : Int) < 0 then ((k : Int) + xs.length).toNat else min (k : Int).toNat xs.length) = k
    rw [if_neg (by omega)]
    omega
  have e2 : HT.sIx xs.length xs.length none = xs.length := rfl
  rw [e1, e2, List.take_of_length_le]
  rw [List.length_drop]
  exact Nat.le_refl _
/-! ## A sharper bound of what is left -/
theorem brRmd2 {i j : Nat} {x y : Rat} (h : BR i x) (g : BR j y) (hy : 0 < y) : BR (i + j) (rmd x y) := by
  have hb := Gate.rmd_bd (x := x) hy
  have dx : ((x.den : Int) : Rat) ≠ 0 := fun z => dne x (Rat.intCast_eq_zero_iff.mp z)
  have dy : ((y.den : Int) : Rat) ≠ 0 := fun z => dne y (Rat.intCast_eq_zero_iff.mp z)
  have ex : x = (x.num : Rat) / ((x.den : Int) : Rat) := by rw [← Rat.divInt_eq_div, Rat.num_divInt_den]
  have ey : y = (y.num : Rat) / ((y.den : Int) : Rat) := by rw [← Rat.divInt_eq_div, Rat.num_divInt_den]
  have px : (0 : Rat) < ((x.den : Int) : Rat) := Rat.intCast_pos.mpr (by have := x.den_pos; omega)
  have py : (0 : Rat) < ((y.den : Int) : Rat) := Rat.intCast_pos.mpr (by have := y.den_pos; omega)
  have e : rmd x y = Rat.divInt (x.num * y.den - (x / y).floor * (y.num * x.den)) (x.den * y.den) := by
    rw [Rat.divInt_eq_div]
    unfold rmd
    generalize (x / y).floor = q
    rw [Rat.intCast_sub, Rat.intCast_mul, Rat.intCast_mul, Rat.intCast_mul, Rat.intCast_mul]
    have ex' : x * ((x.den : Int) : Rat) = x.num := by grind
    have ey' : y * ((y.den : Int) : Rat) = y.num := by grind
    rw [← ex', ← ey']
    grind
  have nzd : ((x.den : Int) * (y.den : Int)) ≠ 0 := Int.mul_ne_zero (dne x) (dne y)
  rw [e]
  refine BR.of nzd ?_ (h.d.mul g.d)
  -- the numerator lies between
  rw [e, Rat.divInt_eq_div, Rat.intCast_mul] at hb
  generalize x.num * (y.den : Int) - (x / y).floor * (y.num * (x.den : Int)) = a at hb
  have pd : (0 : Rat) < ((x.den : Int) : Rat) * ((y.den : Int) : Rat) := Rat.mul_pos px py
  have a0 : 0 ≤ a := by
    have : (0 : Rat) ≤ (a : Rat) := by
      have := Rat.mul_nonneg hb.1 (Rat.le_of_lt pd)
      rwa [Rat.div_mul_cancel (by grind)] at this
    exact Rat.intCast_nonneg.mp this
  have a1 : a < y.num * x.den := by
    have h2 : (a : Rat) < y * (((x.den : Int) : Rat) * ((y.den : Int) : Rat)) := by
      have := Rat.mul_lt_mul_of_pos_right hb.2 pd
      rwa [Rat.div_mul_cancel (by grind)] at this
    have h3 : y * (((x.den : Int) : Rat) * ((y.den : Int) : Rat)) = ((y.num * x.den : Int) : Rat) := by
      rw [Rat.intCast_mul]
      have ey' : y * ((y.den : Int) : Rat) = y.num := by grind
      rw [← ey']
      grind
    rw [h3] at h2
    exact Rat.intCast_lt_intCast.mp h2
  have b2 := ((g.n.mul h.d).mono (show j + i ≤ i + j by omega))
  exact Bd.between (x := 0) (by
    unfold Bd
    exact Nat.two_pow_pos _) b2 a0 (Int.le_of_lt a1)
theorem rows_map (g : Gate) (d : Rat) : g.rows d = g.sp.map fun u => (rmd (u.1 + d) g.T, u.2) := by
  refine List.ext_getElem? fun i => ?_
  rw [List.getElem?_map]
  by_cases hi : i < g.n
  · rw [Gate.rows_at hi, at_some hi]
    rfl
  · have l : g.sp.length = g.n := rfl
    rw [List.getElem?_eq_none (by rw [Gate.rows_len]; omega), List.getElem?_eq_none (by omega)]
    rfl
theorem mem_at {g : Gate} {s : Rat × Rat} (h : s ∈ g.sp) : ∃ i, i < g.n ∧ g.at' i = s := by
  obtain ⟨i, hi, rfl⟩ := List.getElem_of_mem h
  refine ⟨i, hi, ?_⟩
  have := at_some (g := g) (i := i) hi
  rw [List.getElem?_eq_getElem hi] at this
  exact (Option.some.inj this).symm
section
variable {P : Pg} {n : Nat} {μ : Mu} {Q : D → Mu → Prop} {X : Exn → Mu → Prop} {g : Gate} {d : Rat}
theorem GB.dly {e k : Nat} (b : GB e g) (bd : BR k d) (o : g.Ok) : GB (2 * e + k + 1) (g.dly d) := by
  refine ⟨b.pl.mono (by omega), b.T.mono (by omega), fun s hs => ?_⟩
  have hm := (Gate.rows_perm o d).mem_iff.mp hs
  rw [rows_map] at hm
  obtain ⟨u, hu, rfl⟩ := List.mem_map.mp hm
  have bu := b.sp u hu
  exact ⟨(brRmd2 (bu.1.add bd) b.T o.T0).mono (show e + k + 1 + e ≤ 2 * e + k + 1 by omega), bu.2.mono (by omega)⟩
theorem split_all (o : g.Ok) (d : Rat) : ∃ a, a ≤ g.n ∧ (a = g.n → g.n = 0) ∧ (∀ i, 0 < i → i < g.n → ((g.row d i).1 < (g.row d (i - 1)).1 ↔ i = a)) ∧ (g.rows d).drop a ++ (g.rows d).take a = (g.dly d).sp := by
  by_cases h : 0 < g.n
  · obtain ⟨a, h1, h2, h3⟩ := Gate.split_at o h d
    exact ⟨a, by omega, fun e => by omega, h2, h3⟩
  · have z : g.n = 0 := by omega
    have e1 : g.rows d = [] := List.length_eq_zero_iff.mp (by rw [Gate.rows_len]; exact z)
    have e2 : (g.dly d).sp = [] := Gate.sp_nil (by rw [Gate.dly_n]; exact z)
    exact ⟨0, by omega, fun _ => z, fun i i0 hi => by omega, by rw [e1, e2]; rfl⟩
theorem w_turned [H_turned P] [H_remainder P] [H_subtract P] [H_times P] [H_floor_of P] [H_divide P] [H_is_less P] [H_add P] [H_fraction P] [H_divisor_of P] {e k : Nat} (b : GB e g) (bd : BR k d) (o : g.Ok) (q : Q (gtD (g.dly d)) μ) (he : e ≤ 300 := by decide) (hk : k ≤ 600 := by decide) :
    WP (call P (n + 5) "turned" [fr g.pl, fr g.T, .tup (g.sp.map spD), fr d]) μ Q X := by
  replace b := b.mono he
  replace bd := bd.mono hk
  have bT := b.T
  have nT : g.T ≠ 0 := by have := o.T0; grind
  have l6 := o.len
  obtain ⟨a, ha, haz, hr, hs⟩ := split_all o d
  have lr : ((g.rows d).map spD).length = g.n := by rw [List.length_map, Gate.rows_len]
  refine w_fn (fn := Ev.Q.f_turned) Has.out rfl ?_
  show WQ (evSL _ _ Ev.Q.b_turned [some (fr g.pl), some (fr g.T), some (.tup (g.sp.map spD)), some (fr d), none, none, none, none, none] _) _ _
  unfold Ev.Q.b_turned
  refine q_cons (q_asg (w_compM g.sp spD (fun u => spD (rmd (u.1 + d) g.T, u.2)) (wi_seq (w_var rfl ⟨_, rfl, (stat_tup _).wk _, big_lt (by show g.n ≤ 1000; omega), fun u hu => ⟨_, rfl, fun Q' q' => ?_⟩, _, rfl, ?_⟩))))
  · have bu := b.sp u hu
    walk_at "ev"
    refine w_add' (bu.1.mono (by decide)) (bd.mono (by decide)) ?_
    walk_at "ev"
    refine w_remainder ((bu.1.add bd).mono (by decide)) (bT.mono (by decide)) nT ?_
    walk_at "ev"
    exact q'
  · rw [show (g.sp.map fun u => spD (rmd (u.1 + d) g.T, u.2)) = (g.rows d).map spD by rw [rows_map, List.map_map]; rfl]
    have hr2 : rng2Of (.int 1) (.int g.n) = some (.rng 1 (g.n - 1)) := by
      unfold rng2Of
      show (if _ then some (Iv.rng 1 ((g.n : Int) - 1).toNat) else none) = _
      rw [if_pos ⟨by decide, by decide, by omega, by omega⟩, show ((g.n : Int) - 1).toNat = g.n - 1 by omega]
    have ix : ∀ i : Nat, i < g.n → ixOp (.lst ((g.rows d).map spD)) (.int i) = some (spD (g.row d i)) := fun i hi => atI_int (by omega) (by
      rw [List.getElem?_map, Int.toNat_natCast, Gate.rows_at hi]
      rfl)
    have br : ∀ i : Nat, i < g.n → BR 1300 (g.row d i).1 := fun i hi => (brRmd2 ((b.at hi).1.add bd) bT o.T0).mono (show 300 + 600 + 1 + 300 ≤ 1300 by decide)
    refine t_nx ?_
    walk_at "evn"
    refine t_nx ?_
    refine q_cons (q_for (wi_rng2 (w_lit (w_bi (wl_cons (w_var rfl (wl_nil (b_len rfl (fun _ h => nomatch h) ?_))))))))
    rw [lr]
    refine ⟨_, hr2, _, stat_rng 1 (g.n - 1), fun i δ μ' => i ≤ g.n - 1 ∧ μ' = μ ∧ ∃ x6, δ = [some (fr g.pl), some (fr g.T), some (.tup (g.sp.map spD)), some (fr d), some (.lst ((g.rows d).map spD)), some (.int ((if 1 ≤ a ∧ a ≤ i then a else 0 : Nat) : Int)), x6, none, none], ⟨Nat.zero_le _, rfl, none, by rw [if_neg (by omega)]; rfl⟩, ?_, ?_⟩
    · rintro i x δ μ' hx ⟨hi, rfl, x6, rfl⟩
      have hi' := (List.getElem?_eq_some_iff.mp hx).1
      rw [List.length_map, List.length_range] at hi'
      rw [List.getElem?_map, List.getElem?_range hi'] at hx
      have hx' : x = .int ((1 + i : Nat) : Int) := by
        rw [← Option.some.inj hx]
        show D.int (1 + (i : Int)) = _
        congr 1
      subst hx'
      refine ⟨_, rfl, ?_⟩
      clear hx hr2
      have r1 := hr (1 + i) (by omega) (by omega)
      have i1 := ix (1 + i) (by omega)
      have i2 := ix i (by omega)
      have b1 := br (1 + i) (by omega)
      have b2 := br i (by omega)
      have e0 : (((1 + i : Nat) : Int) - 1) = ((i : Nat) : Int) := by omega
      rw [show 1 + i - 1 = i by omega] at r1
      walk_at "evn"
      rw [e0]
      walk_at "evn"
      refine w_less (b1.mono (by decide)) (b2.mono (by decide)) ?_
      walk_at "evn"
      · rename_i h3
        have := r1.mp h3
        refine ⟨by omega, rfl, some (.int ((1 + i : Nat) : Int)), ?_⟩
        rw [show (if 1 ≤ a ∧ a ≤ i + 1 then a else 0 : Nat) = 1 + i by rw [if_pos (by omega)]; omega]
        rfl
      · rename_i h3
        have : ¬ 1 + i = a := fun c => h3 (r1.mpr c)
        refine ⟨by omega, rfl, some (.int ((1 + i : Nat) : Int)), ?_⟩
        rw [show (if 1 ≤ a ∧ a ≤ i + 1 then a else 0 : Nat) = (if 1 ≤ a ∧ a ≤ i then a else 0 : Nat) by split <;> split <;> omega]
        rfl
    · rintro δ μ' ⟨hi, rfl, x6, rfl⟩
      rw [show (if 1 ≤ a ∧ a ≤ ((List.range (g.n - 1)).map fun i : Nat => D.int (1 + (i : Int))).length then a else 0 : Nat) = a by
        rw [List.length_map, List.length_range]
        split <;> omega]
      have s1 : slcOp (.lst ((g.rows d).map spD)) (.int (a : Int)) .non = some (.lst (((g.rows d).map spD).drop a)) := by
        show some (D.lst (cut _ _ _)) = _
        rw [cut_drop (by rw [lr]; exact ha)]
      have s2 : slcOp (.lst ((g.rows d).map spD)) .non (.int (a : Int)) = some (.lst (((g.rows d).map spD).take a)) := by
        show some (D.lst (cut _ _ _)) = _
        rw [cut_take (by rw [lr]; exact ha)]
      refine t_nx ?_
      refine q_cons (q_ret (w_tup (wl_cons (w_var rfl (wl_cons (w_var rfl (wl_cons (w_bi (wl_cons ?_)))))))))
      refine w_addL (w_slc (w_var rfl (wo_yes (w_var rfl ⟨_, rfl, wo_no ⟨_, s1, w_slc (w_var rfl (wo_no (wo_yes (w_var rfl ⟨_, rfl, _, s2, _, _, rfl, rfl, ?_, ?_⟩))))⟩⟩))))
      · rw [List.length_drop, List.length_take, lr]
        exact Nat.le_of_lt (big_lt (by omega))
      · rw [← List.map_drop, ← List.map_take, ← List.map_append, hs]
        refine wl_nil (b_tuple rfl ?_)
        walk_at "evn"
        exact q
theorem w_delayed [H_delayed P] [H_turned P] [H_remainder P] [H_subtract P] [H_times P] [H_floor_of P] [H_divide P] [H_is_less P] [H_add P] [H_fraction P] [H_divisor_of P] {e k : Nat} (b : GB e g) (bd : BR k d) (o : g.Ok) (q : Q (gtD (g.dly d)) μ) (he : e ≤ 300 := by decide) (hk : k ≤ 600 := by decide) :
    WP (call P (n + 6) "delayed" [gtD g, fr d]) μ Q X := by
  refine w_fn (fn := Ev.Q.f_delayed) Has.out rfl ?_
  show WQ (evSL _ _ Ev.Q.b_delayed [some (gtD g), some (fr d), none, none, none] _) _ _
  unfold Ev.Q.b_delayed
  walk_at "evn"
  refine t_nx ?_
  walk_at "evn"
  refine w_turned b bd o ?_ he hk
  walk_at "evn"
  exact q
theorem w_delayed_gate [H_delayed_gate P] [H_delayed P] [H_turned P] [H_remainder P] [H_times P] [H_floor_of P] [H_divide P] [H_normal_gate P] [H_copied P] [H_is_gate P] [HasC P "MAX_SPANS" (.int 6)] [H_spans_fit P] [H_is_less P] [H_normalized P] [HasC P "ONE" (.tup [.int 1, .int 1])] [H_repeats P] [H_subtract P] [H_add P] [H_fraction P] [H_divisor_of P] {e e' k : Nat} (b : GB e g) (bn : GB e' g.nrm) (bd : BR k d) (o : g.Ok) (q : Q (gtD (g.nrm.dly d)) μ) (he : e ≤ 400 := by decide) (he' : e' ≤ 300 := by decide) (hk : k ≤ 600 := by decide) :
    WP (call P (n + 8) "delayed_gate" [gtD g, fr d]) μ Q X := by
  refine w_fn (fn := Ev.Q.f_delayed_gate) Has.out rfl ?_
  show WQ (evSL _ _ Ev.Q.b_delayed_gate [some (gtD g), some (fr d)] _) _ _
  unfold Ev.Q.b_delayed_gate
  walk_at "evn"
  refine w_normal_gate b o ?_ he
  walk_at "evn"
  refine w_delayed bn bd (Gate.nrm_ok o) ?_ he' hk
  walk_at "evn"
  exact q
/-! the law's own -/
theorem wk_cell {m0 : Mu} {ds : List D} : Wk (.seq (.ptr m0.length)) (m0 ++ [.lst ds]) ds := wk_view (view_at (tail := []))
theorem l_ascending [H__law_ascending P] [H__law_less P] (xs : List Rat) (hb : ∀ x ∈ xs, BR 1900 x) (hl : xs.length ≤ 900) (q : ∀ R : List Rat, R.Perm xs → R.Pairwise (· ≤ ·) → Q (.lst (R.map fr)) (μ ++ [.dead])) : WP (call P (n + 2) "_law_ascending" [.lst (xs.map fr)]) μ Q X := by
  refine w_fn (fn := Ev.Q.f__law_ascending) Has.out rfl ?_
  show WQ (evSL _ _ Ev.Q.b__law_ascending [some (.lst (xs.map fr)), none, none, none, none] _) _ _
  unfold Ev.Q.b__law_ascending
  walk_at "evn"
  refine t_nx ?_
  refine q_cons (q_for (wi_seq (w_var rfl ⟨_, rfl, _, stat_lst _, fun i δ μ' => ∃ (R : List Rat) (x2 x3 : Option D), R.Perm (xs.take i) ∧ R.Pairwise (· ≤ ·) ∧ μ' = μ ++ [.lst (R.map fr)] ∧ δ = [some (.lst (xs.map fr)), some (.ptr μ.length), x2, x3, none], ⟨[], none, none, .nil, .nil, rfl, rfl⟩, ?_, ?_⟩)))
  · rintro i x δ μ' hx ⟨R, x2, x3, hp, ha, rfl, rfl⟩
    rw [List.getElem?_map] at hx
    obtain ⟨y, hy, rfl⟩ := Option.map_eq_some_iff.mp hx
    clear hx
    have hR : ∀ z ∈ R, z ∈ xs := fun z hz => List.mem_of_mem_take (hp.mem_iff.mp hz)
    have lR : R.length ≤ 900 := by
      rw [hp.length_eq, List.length_take]
      omega
    have by_ := hb y (List.mem_of_getElem? hy)
    have tk : xs.take (i + 1) = xs.take i ++ [y] := by rw [List.take_add_one, hy]; rfl
    refine ⟨_, rfl, ?_⟩
    refine q_cons (q_asg (w_bi (wl_cons (w_compG R fr (fun z => decide (z < y)) fr (wi_seq (w_var rfl ⟨_, by
      unfold ckSeq
      rw [view_at (tail := [])]
      rfl, wk_cell, big_lt (by omega), fun z hz => ⟨_, rfl, fun Q' q' => ?_, fun _ Q' q' => w_var rfl q'⟩, ?_⟩))))))
    · walk_at "evn"
      refine l_less ((hb z (hR z hz)).mono (by decide)) (by_.mono (by decide)) ?_
      exact q'
    · refine wl_nil (b_len rfl (fun _ h => nomatch h) ?_)
      refine ⟨_, rfl, ?_⟩
      refine t_nx ?_
      refine q_cons (q_expr (w_ins (w_var rfl ⟨(), isCell_at (tail := []), w_var rfl (w_var rfl (p_ins (ds := R.map fr) (cell_at (tail := [])) (by rw [List.length_map]; omega) (by omega) ?_ ?_))⟩)))
      · have := List.length_filter_le (fun z => decide (z < y)) R
        rw [List.length_map]
        omega
      · rw [cell_set (tail := [])]
        refine t_nx (q_nil ⟨putIn y R, _, _, (putIn_perm y R).trans ?_, putIn_asc y R ha, ?_, rfl⟩)
        · rw [tk]
          exact (hp.cons y).trans (List.perm_append_singleton y _).symm
        · unfold putIn
          rw [List.length_map, Int.toNat_natCast, List.map_append, List.map_append, List.map_take, List.map_drop]
          rfl
  · rintro δ μ' ⟨R, x2, x3, hp, ha, rfl, rfl⟩
    rw [List.length_map, List.take_of_length_le (Nat.le_refl _)] at hp
    refine t_nx (q_cons (q_ret (w_frz (w_var rfl ?_))))
    unfold WP frzOp
    simp only [cell_at (tail := [])]
    rw [cell_set (tail := [])]
    exact q R hp ha
theorem row_one (o : g.Ok) (d : Rat) {s : Rat × Rat} (hs : s ∈ (g.dly d).sp) : (g.rows d).find? (fun u => decide (u.1 = s.1)) = some s := by
  have hm := (Gate.rows_perm o d).mem_iff.mp hs
  cases e : (g.rows d).find? (fun u => decide (u.1 = s.1)) with
  | none =>
    rw [List.find?_eq_none] at e
    exact (e s hm (by simp)).elim
  | some u =>
    have h1 : u.1 = s.1 := by simpa using List.find?_some e
    have h2 := (Gate.rows_perm o d).mem_iff.mpr (List.mem_of_find?_eq_some e)
    obtain ⟨i, hi, ei⟩ := mem_at h2
    obtain ⟨j, hj, ej⟩ := mem_at hs
    rw [Gate.dly_n] at hi hj
    rcases Nat.lt_trichotomy i j with c | c | c
    · have := Gate.dly_asc o d c hj
      rw [ei, ej, h1] at this
      grind
    · subst c
      rw [← ei, ej]
    · have := Gate.dly_asc o d c hi
      rw [ei, ej, h1] at this
      grind
theorem l_delayed [H__law_delayed P] [H__law_ascending P] [H__law_less P] [H__law_normal P] [H__law_rest P] [H__law_add P] [H__law_subtract P] [H__law_times P] [H__law_floor P] [H__law_divide P] [H__law_reduce P] [H__law_divisor P] {e : Nat} (b : GB 50 g) (bn : GB e g.nrm) (bd : BR 600 d) (o : g.Ok) (q : Q (gtD (g.nrm.dly d)) (μ ++ [.dead])) (he : e ≤ 300 := by decide) :
    WP (call P (n + 6) "_law_delayed" [gtD g, fr d]) μ Q X := by
  replace bn := bn.mono he
  refine w_fn (fn := Ev.Q.f__law_delayed) Has.out rfl ?_
  show WQ (evSL _ _ Ev.Q.b__law_delayed [some (gtD g), some (fr d), none, none, none, none, none, none, none, none] _) _ _
  unfold Ev.Q.b__law_delayed
  have on := Gate.nrm_ok o
  walk_at "evn"
  refine l_normal b o ?_
  generalize g.nrm = h at *
  have bT := bn.T
  have nT : h.T ≠ 0 := by have := on.T0; grind
  have l6 := on.len
  have lr : (h.rows d).length ≤ 900 := by rw [Gate.rows_len]; omega
  have br : ∀ u ∈ h.rows d, BR 1300 u.1 := fun u hu => by
    rw [rows_map] at hu
    obtain ⟨w, hw, rfl⟩ := List.mem_map.mp hu
    exact (brRmd2 ((bn.sp w hw).1.add bd) bT on.T0).mono (show 300 + 600 + 1 + 300 ≤ 1300 by decide)
  walk_at "evn"
  refine t_nx ?_
  refine q_cons (q_asg (w_compM h.sp spD (fun u => spD (rmd (u.1 + d) h.T, u.2)) (wi_seq (w_var rfl ⟨_, rfl, (stat_tup _).wk _, big_lt (by show h.n ≤ 1000; omega), fun u hu => ⟨_, rfl, fun Q' q' => ?_⟩, _, rfl, ?_⟩))))
  · have bu := bn.sp u hu
    walk_at "ev"
    refine l_add (bu.1.mono (by decide)) (bd.mono (by decide)) ?_
    walk_at "ev"
    refine l_rest ((bu.1.add bd).mono (by decide)) (bT.mono (by decide)) nT ?_
    walk_at "ev"
    exact q'
  · rw [show (h.sp.map fun u => spD (rmd (u.1 + d) h.T, u.2)) = (h.rows d).map spD by rw [rows_map, List.map_map]; rfl]
    refine t_nx (q_cons (q_asg (w_call (wl_cons (w_compM (h.rows d) spD (fun u => fr u.1) (wi_seq (w_var rfl ⟨_, rfl, (stat_lst _).wk _, big_lt (by omega), fun u hu => ⟨_, rfl, fun Q' q' => w_var rfl q'⟩, ?_⟩)))))))
    refine wl_nil ?_
    rw [show ((h.rows d).map fun u => fr u.1) = ((h.rows d).map Prod.fst).map fr by rw [List.map_map]; rfl]
    refine l_ascending _ (fun x hx => ?_) (by rw [List.length_map]; exact lr) fun R hp ha => ?_
    · obtain ⟨u, hu, rfl⟩ := List.mem_map.mp hx
      exact (br u hu).mono (by decide)
    · have eR : R = (h.dly d).sp.map Prod.fst := by
        refine asc_eq (hp.trans ((Gate.rows_perm on d).map Prod.fst).symm) ha ?_
        rw [List.pairwise_map]
        exact Gate.dly_pair on d
      subst eR
      refine ⟨_, rfl, t_nx (q_cons (q_ret (w_tup (wl_cons (w_var rfl (wl_cons (w_var rfl (wl_cons (w_bi (wl_cons ?_))))))))))⟩
      refine w_compM (h.dly d).sp (fun s => fr s.1) spD (wi_seq (w_var rfl ⟨_, rfl, ?_, big_lt (by have := Gate.dly_n (g := h) d; show (h.dly d).n ≤ 1000; omega), fun s hs => ⟨_, rfl, fun Q' q' => ?_⟩, ?_⟩))
      · rw [show ((h.dly d).sp.map fun s => fr s.1) = ((h.dly d).sp.map Prod.fst).map fr by rw [List.map_map]; rfl]
        exact (stat_lst _).wk _
      · have one := row_one on d hs
        refine w_ix (w_compG (h.rows d) spD (fun u => decide (u.1 = s.1)) spD (wi_seq (w_var rfl ⟨_, rfl, (stat_lst _).wk _, big_lt (by omega), fun u hu => ⟨_, rfl, fun Q2 q2 => ?_, fun _ Q2 q2 => w_var rfl q2⟩, ?_⟩)))
        · have ce : cop .eq (fr u.1) (fr s.1) = some (decide (u.1 = s.1)) := eqO_fr false _ _
          walk_at "evc"
          exact q2
        · refine w_lit ⟨spD s, ?_, q'⟩
          rw [← List.head?_filter] at one
          cases ef : (h.rows d).filter (fun u => decide (u.1 = s.1)) with
          | nil => rw [ef] at one; cases one
          | cons u us =>
            rw [ef] at one
            cases one
            show L2.atI (spD s :: us.map spD) 0 = some (spD s)
            exact atI_int (by decide) rfl
      · refine wl_nil (b_tuple rfl ?_)
        refine wl_nil ?_
        refine ⟨Nat.le_of_ble_eq_true rfl, ?_⟩
        refine t_ret ?_
        exact q
end
theorem ten6 : (10 : Int) ^ Int.toNat 6 = 1000000 := by decide
theorem ten9 : (10 : Int) ^ Int.toNat 9 = 1000000000 := by decide
section
variable {P : Pg} {n : Nat} {Q : D → Mu → Prop} {X : Exn → Mu → Prop} {μs : Mu} {ns : List Int} {c : C}
theorem l_positive [H__law_positive P] [H__law_choice P] [H__law_draw P] [H__law_reduce P] [H__law_divisor P] (hr : RngOk ns c) (q : ∀ x c', BR 21 x → 0 < x → RngOk ns c' → Q (fr x) (c' :: μs)) : WP (call P (n + 3) "_law_positive" [.ptr 0]) (c :: μs) Q X := by
  refine w_fn (fn := Ev.Q.f__law_positive) Has.out rfl ?_
  show WQ (evSL _ _ Ev.Q.b__law_positive [some (.ptr 0)] _) _ _
  unfold Ev.Q.b__law_positive
  walk_at "evn"
  refine w_draw Has.out (by decide) ⟨by decide, by decide +kernel⟩ hr fun u c1 u0 u1 hr1 => ?_
  walk_at "evn"
  refine w_draw Has.out (by decide) ⟨by decide, by decide +kernel⟩ hr1 fun v c2 v0 v1 hr2 => ?_
  rw [ten6] at v1
  walk_at "evn"
  refine w_choice Has.out Has.out (by simp) (by simp) hr2 fun y c3 hy hr3 => ?_
  obtain ⟨a, rfl, a0, a1⟩ : ∃ a : Int, y = .int a ∧ 0 ≤ a ∧ a < 1000000 := by
    simp only [List.mem_cons, List.not_mem_nil, or_false] at hy
    rcases hy with h | h
    · exact ⟨_, h, u0, by omega⟩
    · exact ⟨_, h, v0, v1⟩
  clear hy
  walk_at "evn"
  refine w_draw Has.out (by decide) ⟨by decide, by decide +kernel⟩ hr3 fun w c4 w0 w1 hr4 => ?_
  rw [ten6] at w1
  walk_at "evn"
  refine w_choice Has.out Has.out (by simp) (by simp) hr4 fun y c5 hy hr5 => ?_
  obtain ⟨b, rfl, b0, b1⟩ : ∃ b : Int, y = .int b ∧ 0 < b ∧ b < 1000002 := by
    simp only [List.mem_cons, List.not_mem_nil, or_false] at hy
    rcases hy with h | h | h | h
    · exact ⟨_, h, by decide, by decide⟩
    · exact ⟨_, h, by decide, by decide⟩
    · exact ⟨_, h, by decide, by decide⟩
    · exact ⟨_, h, by omega, by omega⟩
  clear hy
  have ba : Bd 21 (1 + a) := Bd.of (by omega)
  have bb : Bd 21 b := Bd.of (by omega)
  walk_at "evn"
  refine w_redR (by omega) (ba.mono (by decide)) (bb.mono (by decide)) ?_
  walk_at "evn"
  refine q _ _ (BR.of (by omega) ba bb) ?_ hr5
  rw [Rat.divInt_eq_div, Rat.div_def]
  exact Rat.mul_pos (Rat.intCast_pos.mpr (by omega)) (Rat.inv_pos.mpr (Rat.intCast_pos.mpr b0))
end
theorem ix_last {α : Type} {xs : List α} (h : 0 < xs.length) {a : α} (e : xs[xs.length - 1]? = some a) : L2.atI xs (-1) = some a := by
  unfold L2.atI L2.ixN
  rw [if_neg (by omega), if_pos (by omega)]
  show xs[((-1 : Int) + xs.length).toNat]? = _
  rw [show ((-1 : Int) + xs.length).toNat = xs.length - 1 by omega]
  exact e
end Ev

namespace K13
open Ev.Q Ev PySem
instance c_max : HasC P "MAX_SPANS" (.int 6) := ⟨by kernel_rfl⟩
instance c_one : HasC P "ONE" (.tup [.int 1, .int 1]) := ⟨by kernel_rfl⟩
theorem gtD_plain6 {g : Gate} (o : g.Ok) : plainD 4 (gtD g) = true := gtD_plain (by have := o.len; omega)
theorem law_true (ns : List Int) (hl : ns.length ≤ 63) : WP (call P 40 "law" [.lst (ns.map D.int)]) [] (fun d _ => d = .bl true) (fun _ _ => False) := by
  refine w_fn s_law rfl ?_
  show WQ (evSL _ _ b_law [some (.lst (ns.map D.int)), none, none, none, none, none, none, none, none, none, none, none] _) _ _
  unfold b_law
  have r5 : rng1Of (.int 5) = some (.rng 0 5) := rng1_n (M := 5) (by decide)
  have r3 : rng1Of (.int 3) = some (.rng 0 3) := rng1_n (M := 3) (by decide)
  walk_at "ev"
  refine w_source s__law_source hl fun c hr => ?_
  walk_at "ev"
  refine ⟨_, stat_rng 0 5, fun i δ μ => ∃ c μs x2 x3 x4 x5 x6 x7 x8 x9 x10 x11, μ = c :: μs ∧ RngOk ns c ∧ δ = [some (.lst (ns.map D.int)), some (.ptr 0), x2, x3, x4, x5, x6, x7, x8, x9, x10, x11], ⟨c, [], none, none, none, none, none, none, none, none, none, none, rfl, hr, rfl⟩, ?_, ?_⟩
  · rintro i xo δ μ hx ⟨c, μs, x2, x3, x4, x5, x6, x7, x8, x9, x10, x11, rfl, hr, rfl⟩
    clear hx
    refine ⟨_, rfl, ?_⟩
    walk_at "evn"
    refine w_small hr fun pl c1 bp hr1 => ?_
    walk_at "evn"
    refine l_gate (most := 6) (by decide) (bp.mono (by decide)) hr1 fun g0 c2 μs2 o0 b0 hr2 => ?_
    walk_at "evn"
    refine l_copied b0 o0 hr2 fun g c3 μs3 o b hr3 => ?_
    have bn := b.nrm o
    have bT := b.T
    have b64 : GB 64 g := b.mono (by decide)
    have on := Gate.nrm_ok o
    have nT : g.T ≠ 0 := by have := o.T0; grind
    have ll : g.sp.length = g.n := rfl
    have l6 := o.len
    walk_at "evn"
    refine t_nx ?_
    walk_at "evn"
    refine w_small hr3 fun x1 c4 bx1 hr4 => ?_
    walk_at "evn"
    have b3 : Bd 3 (0 - 3) := Bd.of (by decide)
    refine l_times (b3.mono (by decide)) (bT.mono (by decide)) ?_
    walk_at "evn"
    refine l_positive hr4 fun x4 c5 bx4 _ hr5 => ?_
    walk_at "evn"
    refine t_nx ?_
    refine q_cons (q_asg (w_addL (w_var rfl ?_)))
    refine w_compM g.sp spD (fun s => fr ((g.at' (g.n - 1)).1 - s.1)) (wi_seq (w_ix (w_var rfl (w_lit ⟨_, rfl, _, rfl, (stat_tup _).wk _, big_lt (by show g.n ≤ 1000; omega), fun s hs => ⟨_, rfl, fun Q' q' => ?_⟩, ?_⟩))))
    · have bs := b.sp s hs
      have hn : 0 < g.n := List.length_pos_of_mem hs
      have bl := b.at (show g.n - 1 < g.n by omega)
      have il : ixOp (.tup (g.sp.map spD)) (.int (-1)) = some (.tup [fr (g.at' (g.n - 1)).1, fr (g.at' (g.n - 1)).2]) := ix_last (by rw [lenD]; omega) (by rw [lenD]; exact atD (by omega))
      walk_at "evn"
      refine l_subtract (bl.1.mono (by decide)) (bs.1.mono (by decide)) ?_
      walk_at "evn"
      exact q'
    · refine ⟨_, _, rfl, rfl, ?_, _, rfl, ?_⟩
      · rw [List.length_map]
        exact Nat.le_of_lt (big_lt (by show 4 + g.n ≤ 1000; omega))
      · have some_ : ∀ y, y ∈ [fr x1, fr g.T, fr (((0 - 3 : Int) : Rat) * g.T), fr x4] ++ g.sp.map (fun s => fr ((g.at' (g.n - 1)).1 - s.1)) → ∃ z, y = fr z ∧ BR 110 z := fun y hy => by
          rcases List.mem_append.mp hy with h | h
          · simp only [List.mem_cons, List.not_mem_nil, or_false] at h
            rcases h with h | h | h | h
            · exact ⟨_, h, bx1.mono (by decide)⟩
            · exact ⟨_, h, bT.mono (by decide)⟩
            · exact ⟨_, h, (BR.tim b3 bT).mono (by decide)⟩
            · exact ⟨_, h, bx4.mono (by decide)⟩
          · obtain ⟨s, hs, rfl⟩ := List.mem_map.mp h
            have hn : 0 < g.n := List.length_pos_of_mem hs
            exact ⟨_, rfl, ((b.at (show g.n - 1 < g.n by omega)).1.sub (b.sp s hs).1).mono (by decide)⟩
        have sl : ([fr x1, fr g.T, fr (((0 - 3 : Int) : Rat) * g.T), fr x4] ++ g.sp.map (fun s => fr ((g.at' (g.n - 1)).1 - s.1))).length < 1000 := by
          rw [List.length_append, List.length_map]
          show 4 + g.n < 1000
          omega
        have sn : [fr x1, fr g.T, fr (((0 - 3 : Int) : Rat) * g.T), fr x4] ++ g.sp.map (fun s => fr ((g.at' (g.n - 1)).1 - s.1)) ≠ [] := by simp
        generalize [fr x1, fr g.T, fr (((0 - 3 : Int) : Rat) * g.T), fr x4] ++ g.sp.map (fun s => fr ((g.at' (g.n - 1)).1 - s.1)) = sm at *
        refine t_nx ?_
        walk_at "evn"
        refine w_choice Has.out Has.out sn sl hr5 fun y c6 hy hr6 => ?_
        obtain ⟨one, rfl, b1⟩ := some_ y hy
        walk_at "evn"
        refine w_choice Has.out Has.out sn sl hr6 fun y c7 hy2 hr7 => ?_
        obtain ⟨two, rfl, b2⟩ := some_ y hy2
        clear hy hy2 some_ sl sn
        walk_at "evn"
        refine t_nx ?_
        walk_at "evn"
        refine w_delayed_gate b bn b1 o ?_
        have bl := GB.dly bn b1 on
        have ol := Gate.dly_ok on one
        have nl := Gate.nrm_dly (g := g.nrm) Gate.nrm_nrm one
        walk_at "evn"
        refine t_nx ?_
        walk_at "evn"
        refine l_delayed b bn (b1.mono (by decide)) o ?_
        walk_at "evn"
        refine w_equal s__law_equal 4 _ (gtD_plain6 ol) _ (by decide) ?_
        walk_at "evn"
        refine t_nx ?_
        walk_at "evn"
        refine w_draw Has.out (by decide) ⟨by decide, by decide +kernel⟩ hr7 fun u c8 u0 u1 hr8 => ?_
        rw [ten9] at u1
        have bu : Bd 31 (u - (10 : Int) ^ Int.toNat 9) := by
          rw [ten9]
          exact Bd.of (by omega)
        have bK : Bd 110 ((10 : Int) ^ Int.toNat 30) := Bd.of (by decide +kernel)
        walk_at "evn"
        refine t_nx ?_
        have bW : Bd 260 ((u - (10 : Int) ^ Int.toNat 9) * (10 : Int) ^ Int.toNat 30 * (10 : Int) ^ Int.toNat 30) := ((bu.mul bK).mul bK).mono (by decide)
        generalize (u - (10 : Int) ^ Int.toNat 9) * (10 : Int) ^ Int.toNat 30 * (10 : Int) ^ Int.toNat 30 = W at *
        have bWT : BR 320 ((W : Rat) * g.T) := (BR.tim bW bT).mono (by decide)
        walk_at "evn"
        refine l_times (bW.mono (by decide)) (bT.mono (by decide)) ?_
        walk_at "evn"
        refine l_add (b1.mono (by decide)) (bWT.mono (by decide)) ?_
        walk_at "evn"
        refine w_delayed_gate b bn ((b1.add bWT).mono (show 110 + 320 + 1 ≤ 500 by decide)) o ?_
        rw [Gate.dly_nrm_turn o]
        walk_at "evn"
        refine w_equal s__law_equal 4 _ (gtD_plain6 ol) _ (by decide) ?_
        walk_at "evn"
        refine t_nx ?_
        walk_at "evn"
        refine w_delayed_gate (g := g.nrm.dly one) bl (by rw [nl]; exact bl) b2 ol ?_
        rw [nl, Gate.dly_dly on]
        walk_at "evn"
        refine l_add (b1.mono (by decide)) (b2.mono (by decide)) ?_
        walk_at "evn"
        refine w_delayed_gate b bn (b1.add b2) o ?_
        walk_at "evn"
        refine w_equal s__law_equal 4 _ (gtD_plain6 (Gate.dly_ok on _)) _ (by decide) ?_
        walk_at "evn"
        refine t_nx ?_
        refine q_cons (q_for (wi_rng1 (w_lit ⟨_, r3, _, stat_rng 0 3, fun j δ μ => ∃ c μs x6 x7 x10 x11, μ = c :: μs ∧ RngOk ns c ∧ δ = [some (.lst (ns.map D.int)), some (.ptr 0), some xo, some (gtD g), some (.lst sm), some (gtD (g.nrm.dly one)), x6, x7, some (fr one), some (fr two), x10, x11], ⟨c8, _, _, _, _, _, rfl, hr8, rfl⟩, ?_, ?_⟩)))
        · rintro j xi δ μ hx ⟨c, μs, x6, x7, x10, x11, rfl, hr, rfl⟩
          clear hx
          refine ⟨_, rfl, ?_⟩
          walk_at "evn"
          refine l_near b o.len hr fun m c5 bm hr5 => ?_
          obtain ⟨r, hr'⟩ := Gate.truth m g
          have hro : r = true ↔ (g.nrm.dly one).Open (m + one) := (hr'.trans Gate.nrm_open.symm).trans (Gate.dly_open on).symm
          walk_at "evn"
          refine t_nx ?_
          walk_at "evn"
          refine l_add (bm.mono (by decide)) (b1.mono (by decide)) ?_
          walk_at "evn"
          refine w_is_open (g := g.nrm.dly one) bl (by rw [nl]; exact bl) ol ((bm.add b1).mono (by decide)) hro ?_
          walk_at "evn"
          refine l_is_open b64 o (bm.mono (by decide)) hr' ?_
          walk_at "evn"
          refine w_equal s__law_equal 1 _ (bl_plain r) _ (by decide) ?_
          walk_at "evn"
          exact ⟨c5, _, _, _, _, _, rfl, hr5, rfl⟩
        · rintro δ μ ⟨c, μs, x6, x7, x10, x11, rfl, hr, rfl⟩
          walk_at "evn"
          exact ⟨c, μs, _, _, _, _, _, _, _, _, _, _, rfl, hr, rfl⟩
  · rintro δ μ ⟨c, μs, x2, x3, x4, x5, x6, x7, x8, x9, x10, x11, rfl, hr, rfl⟩
    walk_at "ev"
    rfl
end K13
theorem K13.holds : PySem.Challenge.rw_evenpace_k13_delayed_gates.Holds := K13.holds_of fun ns hl _ => by
  obtain ⟨d, μ, h, rfl⟩ := Ev.wp_get (K13.law_true ns hl)
  exact ⟨μ, h⟩

theorem PySem.Challenge.cw_evenpace_k13_delayed_gates_holds : PySem.Challenge.rw_evenpace_k13_delayed_gates.Holds := by
  exact K13.holds
