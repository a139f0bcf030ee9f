import PyProof.Rows.All
import Wide.All
import OpenK.AllK
import Wide.FinOn
import PyProof.EqAt
import PyProof.EqKinds
import PyProof.TupleCall
import KE.KExcSuper
import HandS.ForMost
import HandS.ForExc
import HandS.ExcField
import PySem.Challenge.RW_copylots_k32_whole_texts
import KE.GoesEnum
import HandS.Walk
import PyProof.InstNe
import KE.KStar
import KE.DataMinMax
import HandS.IsInst
import HandS.FStr
import HandS.Zip
import HandS.Lambda
import HandS.EndTab
import HandS.ReplaceLit
import HandS.ReplaceList
set_option Elab.async false
set_option linter.all false
set_option maxRecDepth 100000
set_option maxHeartbeats 4000000
/-! BadText(line): an own exception over ValueError whose __init__ says super().__init__('..') and keeps one field. -/
namespace BtX
open PySem PySem.W PySem.Calls PyProof.Rows PySem.HandSPX
/-- BadText's __init__, by its place in the text -/
def iD : Stmt := L2.inClass (PySem.Challenge.pw_copylots_k32_whole_texts.main.body.getD 9 (.Pass ⟨0, 0, 0, 0⟩)) 0
def iA : Arguments := L2.defArgs iD
def sUp : Stmt := (L2.defBody iD).getD 0 (.Pass ⟨0, 0, 0, 0⟩)
def sSt : Stmt := (L2.defBody iD).getD 1 (.Pass ⟨0, 0, 0, 0⟩)
def iS : Scope := L2.defScope iD
/-- what the written part says of BadText at C, of its __init__ at fI -/
structure BtTxt (prog : Program) (K : Frag) (mg : Str → Option Value) (C fI : Addr) : Prop where
  gC : mg "BadText" = some (.ref C)
  gS : mg "super" = none
  cls : ∃ nm q N bs bm sn sub ab col dd k0 k1 k2 k3 k5, K.lookup C = some (excClassObj nm q C N bs bm true sn sub ab col dd k0 k1 k2 k3 k5 "ValueError.__new__") ∧ refsVE bm = true
  xi : excInitIn K C [.type "ValueError", .type "Exception", .type "BaseException", .type "object"] "ValueError.__new__" = true
  sa : findIn K (.ref C) "__setattr__" = some (some (.builtin "object.__setattr__"))
  noL : findIn K (.ref C) "line" = some none
  iC : findIn K (.ref C) "__init__" = some (some (.ref fI))
  tC : typeIn K (.ref fI) = some (.type "function")
  kC : keepIn K (.ref C) = true
  exC : subIn K (.ref C) (.type "BaseException") = some true
  veC : subIn K (.ref C) (.type "ValueError") = some true
  tyC : typeIn K (.ref C) = some (.type "type")
  seC : mroIn K C (.ref C) = some true
  sup : ks_superIn K C C "__init__" = some (some (.builtin "ValueError.__init__"))
  opq : nsIn K cStatics "thirdparty.any" = some none
  file : ∃ (s : Str), ((prog.main.file : Str) == s) = true ∧ (prog.main.scope.names.lookup ("super" : Str)).isSome = false ∧
    ∃ (oc : Value) (od : Option Addr) (doc pm : Value) (an : Option Addr) (cda : Addr) (ct : Value) (osl : Array (Option Value)) (cc : Addr) (cl : Value) (cld : Option Addr) (csl : Array (Option Value)) (ccl : Value) (cdd : Option Addr) (vs : Array Value) (ccs : Array (Option Value)) (tf : Tok),
      K.lookup fI = some ⟨oc, od, .func (ksFn "__init__" "BadText.__init__" iA [sUp, sSt] iS .none .none doc pm an (.ref cda) ct cc), osl⟩ ∧ codeIn K (.ref cda) "BadText.__init__" = true ∧
      K.lookup cc = some ⟨cl, cld, .cell (some (.ref C)), csl⟩ ∧ K.lookup cda = some ⟨ccl, cdd, .fields vs, ccs⟩ ∧ vs[2]? = some (.str s tf)
/-- what __init__ leaves of a fresh exception at x -/
structure Left (h h' : Heap) (x C dx t1 : Addr) (v : Value) : Prop where
  keep : ∀ b o, b ≠ x → h.get? b = some o → h'.get? b = some o
  obj : h'.get? x = some { cls := .ref C, dict := some dx, data := .fields #[.ref t1, .none, .none, .none, .bool false, .none] }
  dbig : h.objs.size ≤ dx
  dne : dx ≠ x
  ns : h'.Ns1 dx (fun y => if y = "line" then some v else none)
section
variable {prog : Program} {w : World} {A : Around} {R : Result → Shared → Prop} {s : Shared} {K : Frag} {mg mb : Str → Option Value} {C fI : Addr}
theorem left_init (T : BtTxt prog K mg C fI) {x t0 : Addr} {v : Value} (X : K.In s.heap) (G : s.heap.Ns mainGlobals mg) (Bn : s.heap.Ns builtinsNs mb) (hbs : mb "super" = some (.type "super")) (hlim : s.heap.NoLimit)
    (hx : s.heap.get? x = some (excO C t0)) (hnx : K.lookup x = none) (hroom : A.depth < recursionLimit)
    (hq : ∀ h' tk dx t1, Left s.heap h' x C dx t1 v → R (.ok (.ret .none)) { s with heap := h', toks := tk }) :
    codeAny (model prog w) A (.call (.ref fI) ⟨[.ref x, v], []⟩) R s := by
  obtain ⟨file, hfile, htop, oc, od, doc, pm, an, cda, ct, osl, cc, cl, cld, csl, ccl, cdd, vs, ccs, tf, ho, hcd, hcell, hcda, hvs⟩ := T.file
  obtain ⟨nm, q, N, bs, bm, sn, sub, ab, col, dd, k0, k1, k2, k3, k5, hC, hbm⟩ := T.cls
  have hcl : clsIn K C = some { name := nm, bases := bs, mro := .ref C :: bm, ns := N, qualname := q, hasDict := true, slotNames := sn, subclasses := sub, abstract := ab, collection := col, hasDel := false } := by unfold clsIn; rw [hC] <;> rfl
  have hCo := X _ _ hC
  obtain ⟨hp, g, d, tk, os⟩ := s
  refine ks_codeAny_call_defAt (fd := ksFn "__init__" "BadText.__init__" iA [sUp, sSt] iS .none .none doc pm an (.ref cda) ct cc) (body := [sUp, sSt]) (binds := [("self", .ref x), ("line", v)])
    hroom (X _ _ ho) rfl hlim (codeRec_of X hcd) rfl (BindsTo.of_eq (by first | rfl | with_unfolding_all rfl)) (show ∀ y ∈ iS.names, y.2 ≠ .cell by decide) (locs rfl) (fun h₁ hns hk₁ => ?_) rfl rfl rfl
  have X₁ : K.In h₁ := X.keeps hk₁
  have hx₁ := hk₁ _ _ hx
  have xL : hp.objs.size ≠ x := Nat.ne_of_gt (Heap.lt_size hx)
  show _root_.PySem.wpAt _ _ (.func [sUp, sSt] (ksEnv "BadText.__init__" iS hp.objs.size fI (.ref cda) cc)) (execs [sUp, sSt] (ksEnv "BadText.__init__" iS hp.objs.size fI (.ref cda) cc)) _ _ _
  refine ks_wpAt_execs_cons (ks_wpAt_Expr_any (ks_wpAt_MethodCall ?_))
  refine ks_wpAt_super_base (of := ⟨oc, od, .func (ksFn "__init__" "BadText.__init__" iA [sUp, sSt] iS .none .none doc pm an (.ref cda) ct cc), osl⟩)
    rfl rfl rfl rfl (X₁ _ _ ho) rfl rfl rfl (X₁ _ _ hcda) rfl hvs hfile htop ?_
  refine ks_loadName_global rfl rfl (loadGlobal_builtin (G.keeps hk₁) T.gS (Bn.keeps hk₁) hbs ⟨rfl, ?_⟩)
  refine wpAny_loadName_free rfl rfl rfl ⟨_, X₁ _ _ hcell, rfl⟩ ?_
  refine wpAny_loadName_local rfl rfl hns (v := .ref x) (by first | rfl | with_unfolding_all rfl | kernel_rfl) ?_
  refine ks_wpAny_isType_cls (X₁ _ _ hC) rfl ⟨rfl, ?_⟩
  refine ks_wpAny_call_super (X₁ _ _ hC) rfl hx₁ rfl (fun c z => nomatch z) (looks_mroIn X₁ T.seC) fun h₂ hso k₂ => ?_
  -- the ledger: the exception and the super object
  have kk : ∀ b o, hp.get? b = some o → h₂.get? b = some o := fun b o z => k₂ _ _ (hk₁ _ _ z)
  have hns₂ : h₂.Ns hp.objs.size fun y => ([("self", Value.ref x), ("line", v)] : List (Str × Value)).reverse.lookup y := by
    obtain ⟨oL, es, ep, hL, r⟩ := hns
    exact ⟨oL, es, ep, k₂ _ _ hL, r⟩
  have lt1 : hp.objs.size < h₁.objs.size := hns.lt
  have Fa : Fr (hideAll hp [x]) hp.objs.size h₂ fun y => ([("self", Value.ref x), ("line", v)] : List (Str × Value)).reverse.lookup y :=
    ⟨hns₂, fun b o z => kk b o (of_hideAll _ z), Nat.le_of_eq (hideAll_size _ _)⟩
  have K₀ : K.In (hideAll hp [x]) := fun b o z => hideAll_get _ (X b o z) (fun m => by
    have e : b = x := by simpa using m
    rw [e, hnx] at z
    cases z)
  have Nw : News (hideAll hp [x]) hp.objs.size h₂ [(h₁.objs.size, ks_superObj C x C), (x, excObj C t0 none .none)] := fun p hpm => by
    rcases List.mem_cons.mp hpm with e | hpm
    · subst e
      refine ⟨hso, Nat.ne_of_gt lt1, ?_⟩
      cases z : (hideAll hp [x]).get? h₁.objs.size with
      | none => rfl
      | some o =>
        have y := Heap.lt_size (of_hideAll _ z)
        exact absurd (Nat.lt_trans y lt1) (Nat.lt_irrefl _)
    · have e : p = (x, excObj C t0 none .none) := by simpa using hpm
      subst e
      exact ⟨k₂ _ _ hx₁, xL.symm, hideAll_none _ (by simp)⟩
  have I₂ : InstAt h₂ x (excObj C t0 none .none) C none := ⟨k₂ _ _ hx₁, rfl, rfl, trivial⟩
  refine kxs_method (s := ⟨h₂, g, d, _, os⟩) kxs_ValueError Fa K₀ Nw (so := h₁.objs.size) (by simp) I₂ T.opq T.sup T.veC rfl fun u h₃ F₃ N₃ l₃ => ?_
  refine kxs_callWith1 (s := ⟨h₃, g, d, _, os⟩) (x := x) (i := "ValueError.__init__") N₃ (by simp) ?_
  refine Calls.spliced_cons ?_
  refine Calls.Constant_str (pos := ⟨0, 0, 0, 0⟩) (k := 0) ?_
  refine Calls.spliced_nil ⟨kxs_at N₃ (by simp), ?_⟩
  have xso : x ≠ h₁.objs.size := Nat.ne_of_lt (Heap.lt_size hx₁)
  have xu : x ≠ u := Nat.ne_of_lt (l₃ _ (by simp : (x, excObj C t0 none .none) ∈ _))
  refine kxs_call (s := ⟨h₃, g, d, _, os⟩) (x := x) F₃ K₀ N₃ PySem.F.excBase_ValueError T.xi (by simp) (.tail xu.symm (.tail xso.symm (.head (by simp)))) (by show 1 ≤ sizeLine; rw [sizeLine_eq]; omega) fun t' h₄ F₄ N₄ _ => ?_
  show _root_.PySem.wpAt _ _ _ (execs [sSt] (ksEnv "BadText.__init__" iS hp.objs.size fI (.ref cda) cc)) _ _ _
  have hx₄ : h₄.get? x = some (excObj C t' none .none) := (N₄ _ (by simp : (x, excObj C t' none .none) ∈ _)).1
  have k₄ : ∀ b o, b ≠ x → hp.get? b = some o → h₄.get? b = some o := fun b o hb z => F₄.keep b o (hideAll_get _ z (by simpa using hb))
  have X₄ : K.In h₄ := K₀.keeps F₄.keep
  refine ks_wpAt_execs_cons (ks_wpAt_Assign_Attr (_root_.PySem.wpAt_of_wpAny ?_))
  refine wpAny_Name (wpAny_loadName_local rfl rfl F₄.ns (v := v) (by first | rfl | with_unfolding_all rfl | kernel_rfl) ?_) (by decide)
  refine wpAny_Name (wpAny_loadName_local rfl rfl F₄.ns (v := .ref x) (by first | rfl | with_unfolding_all rfl | kernel_rfl) ?_) (by decide)
  refine set_plain X₄ (ox := excObj C t' none .none) (od := none) ⟨hx₄, rfl, rfl, trivial⟩ T.sa ?_
  refine exc_osa X₄ hx₄ hcl (show refsVE (.ref C :: bm) = true from hbm) rfl T.noL fun h₅ tk₅ dx k₅ dn dne hx₅ hn₅ => ?_
  show _root_.PySem.wpAt _ _ _ (execs [] (ksEnv "BadText.__init__" iS hp.objs.size fI (.ref cda) cc)) _ _ _
  exact _root_.PySem.wpAt_of_wpAny (wpAny_execs_nil (hq h₅ tk₅ dx t' ⟨fun b o hb z => k₅ b o hb (k₄ b o hb z), hx₅, Nat.le_trans (Nat.le_of_lt F₄.ns.lt) dn, dne, hn₅⟩))
/-- a made BadText: at e, its dict at d -/
structure Made (h h' : Heap) (e C d : Addr) (v : Value) : Prop where
  keep : ∀ b o, h.get? b = some o → h'.get? b = some o
  new : h.objs.size ≤ e
  obj : ∃ oe vs, h'.get? e = some oe ∧ oe.cls = .ref C ∧ oe.dict = some d ∧ oe.data = .fields vs ∧ vs[1]? = some .none
  dbig : h.objs.size ≤ d
  dne : d ≠ e
  ns : h'.Ns1 d (fun y => if y = "line" then some v else none)
theorem made (T : BtTxt prog K mg C fI) {v : Value} (X : K.In s.heap) (G : s.heap.Ns mainGlobals mg) (Bn : s.heap.Ns builtinsNs mb) (hbs : mb "super" = some (.type "super")) (hlim : s.heap.NoLimit) (hroom : A.depth + 1 < recursionLimit)
    (hq : ∀ h' tk e d, Made s.heap h' e C d v → R (.ok (.ret (.ref e))) { s with heap := h', toks := tk }) :
    codeAny (model prog w) A (.call (.ref C) ⟨[v], []⟩) R s := by
  obtain ⟨nm, q, N, bs, bm, sn, sub, ab, col, dd, k0, k1, k2, k3, k5, hC, hbm⟩ := T.cls
  obtain ⟨hp, g, dr, tk, os⟩ := s
  have k : ∀ b o, hp.get? b = some o → ((hp.push (kdv_tup [v])).push (excO C hp.objs.size)).get? b = some o := fun b o z => Heap.get?_push_of_some _ (Heap.get?_push_of_some _ z)
  have hat : ((hp.push (kdv_tup [v])).push (excO C hp.objs.size)).get? (hp.objs.size + 1) = some (excO C hp.objs.size) := by heap_get
  have hnx : K.lookup (hp.objs.size + 1) = none := by
    cases z : K.lookup (hp.objs.size + 1) with
    | none => rfl
    | some o => exact absurd (Nat.lt_of_succ_lt (Heap.lt_size (show hp.get? (hp.objs.size + 1) = some o from X _ _ z))) (Nat.lt_irrefl _)
  have one : [v].length ≤ sizeLine := by
    rw [sizeLine_eq]
    exact (by decide : 1 ≤ 16777216)
  refine call_own PySem.F.excBase_ValueError (fun Y => refsVE_contains Y bm hbm) (X _ _ hC) (looks_findIn X T.iC) (fun self => bind_fn X self T.tC) one ?_
  refine left_init (s := ⟨(hp.push (kdv_tup [v])).push (excO C hp.objs.size), g, dr, tk, os⟩) T (X.keeps k) (G.keeps k) (Bn.keeps k) hbs (hlim.keeps k) hat hnx ?_ fun h' tk' dx t1 ⟨k', hx, dn, dne, hns⟩ => ?_
  · show A.depth + 1 < recursionLimit
    exact hroom
  · have z : hp.objs.size + 1 + 1 ≤ dx := by
      have y := dn
      first | (rw [Heap.size_push, Heap.size_push] at y; exact y) | exact y
    exact ⟨rfl, hq h' tk' (hp.objs.size + 1) dx ⟨fun b o y => k' b o (Nat.ne_of_lt (Nat.lt_succ_of_lt (Heap.lt_size y))) (k b o y), Nat.le_succ _, ⟨_, _, hx, rfl, rfl, rfl, rfl⟩, Nat.le_trans (Nat.le_trans (Nat.le_succ _) (Nat.le_succ _)) z, dne, hns⟩⟩
end
end BtX
namespace L2
open PySem PySem.Spec PyProof.Rows
section
variable {X : Cx} {C fI : Addr}
/-- BadText(e): the error's own dict d is new and holds the line -/
def tBad (C : Addr) (ta : TA) : St → Hp → XK → Prop := fun σ H Q => ta σ H fun vs H1 => ∃ v, vs = [v] ∧ ∀ d, H1 d = none → Q (.ref C) (some d) (upd H1 d (.xd [(("line" : Str), v)]))
theorem relO_line {v : V} {v' : Value} (r : RelV v v') (f : Str) : RelO (List.lookup f [(("line" : Str), v)]) (if f = "line" then some v' else none) := by
  by_cases hw : f = "line"
  · subst hw
    rw [if_pos rfl]
    have q : List.lookup ("line" : Str) [(("line" : Str), v)] = some v := by simp [List.lookup]
    rw [q]
    exact r
  · rw [if_neg hw]
    have q : (f == ("line" : Str)) = false := by simpa using hw
    have q2 : List.lookup f [(("line" : Str), v)] = none := by simp [List.lookup, q]
    rw [q2]
    trivial
theorem pmk_bad {a : Expr} {ta : TA} {p pos : Pos} {k : Nat} (T : BtX.BtTxt X.prog X.K X.mg C fI) (hr : Room k X.A) (ha : PA X [a] ta) (hg : Gl X "BadText" := by rfl)
    (he : starEach (a :: []) X.env = (false, eval a X.env) :: starEach [] X.env := by rfl) (hpl : (backTo pos (starEach [] X.env)).any (·.1) = false := by rfl) :
    PMk X (.Call (.Name "BadText" p) [a] [] pos) (tBad C ta) := by
  intro pins s σ H Q I h
  refine wpAny_Call_Name_kw (ld_glob I hg T.gC ?_)
  refine PySem.W.callWith_K (h₀ := X.base) I.ok.mod.kin T.kC (thn (ha.run pos pins s σ H _ I h) fun us s1 hh => ?_) he hpl
  obtain ⟨vs, H1, I1, r1, v, ev, q1⟩ := hh
  subst ev
  refine ⟨I1.kIn, ?_⟩
  cases r1 with
  | cons rv rn =>
    rename_i v' us'
    cases rn
    show wpAny _ _ (call (.ref C) [v']) _ _ _
    have hlim := I1.nolimit
    obtain ⟨mb, b1, b2⟩ := I1.mod.blt
    have hbs : mb "super" = some (.type "super") := (b2 _ (by decide)).trans (by decide +kernel)
    have G1 := I1.mod.glob.keeps I1.bk
    have B1 := b1.keeps I1.bk
    obtain ⟨hp, g, dr, tk, os⟩ := s1
    refine wpAny_call (BtX.made T I1.kIn G1 B1 hbs hlim (by have := hr.dp; omega) fun h' tk' e d M => ?_)
    show MkP X pins σ Q (.ref e) ⟨h', g, dr, tk', os⟩
    obtain ⟨oe, fv, hoe, hc, hd, hdat, h1⟩ := M.obj
    have hns := M.ns
    obtain ⟨G', g1, g2⟩ := restrict h' fun b => decide (b ≠ e)
    have gk : ∀ b, b ≠ e → G'.get? b = h'.get? b := fun b hb => g1 b (decide_eq_true hb)
    have ge : G'.get? e = none := g2 e (by simp)
    have old : ∀ b o, hp.get? b = some o → G'.get? b = some o := fun b o q => (gk b (Nat.ne_of_lt (Nat.lt_of_lt_of_le (Heap.lt_size q) M.new))).trans (M.keep b o q)
    have ob : ObjOk X.prog X.w (upd H1 d (.xd [(("line" : Str), v)])) G' d (.xd [(("line" : Str), v)]) :=
      ⟨_, hns.at (fun o q => (gk d M.dne).trans q), fun f => relO_line rv f⟩
    have J : Inv X pins σ (upd H1 d (.xd [(("line" : Str), v)])) ⟨G', g, dr, tk', os⟩ := I1.laid (t' := tk') old M.dbig ob
    refine ⟨e, oe, fv, ⟨G', g, dr, tk', os⟩, _, .ref C, some d, rfl, J, fun b o q => ?_, ge, hoe, ⟨hc, hd⟩, hdat, h1, ?_, rfl, I1.bare, raises_own T.exC T.tyC, q1 d (I1.hok.fresh M.dbig)⟩
    · by_cases hb : b = e
      · have q' : G'.get? b = some o := q
        rw [hb, ge] at q'; cases q'
      · exact (gk b hb).symm.trans q
    · rw [upd_ne (Ne.symm M.dne)]
      exact I1.hok.fresh M.new
/-- raise BadText(e) -/
def tRaiseBad (C : Addr) (W : WX) (ta : TA) : TS := fun _ σ H => tBad C ta σ H fun cls d H' => W cls d σ H'
theorem ps_raiseBad {a : Expr} {ta : TA} {W : WX} {p pos pos2 : Pos} {k : Nat} (hc : X.calm = true) (T : BtX.BtTxt X.prog X.K X.mg C fI) (hr : Room k X.A) (tk : Takes X W) (ha : PA X [a] ta) (hg : Gl X "BadText" := by rfl)
    (he : starEach (a :: []) X.env = (false, eval a X.env) :: starEach [] X.env := by rfl) (hpl : (backTo pos (starEach [] X.env)).any (·.1) = false := by rfl) :
    PS X (.Raise (some (.Call (.Name "BadText" p) [a] [] pos)) none pos2) (tRaiseBad C W ta) := ps_raise hc tk (pmk_bad T hr ha hg he hpl)
end
end L2
set_option maxRecDepth 100000
set_option maxHeartbeats 4000000
/-! enumerate(xs, k) over a list, enumerate(t) over a tuple. -/
namespace EnX
open PySem PyProof.Rows
open Sem (wp)
abbrev enObj (it : Addr) (k : Int) : Obj := { cls := .type "enumerate", data := .fields #[.none, .bool false, .ref it, rawInt k, .none, .none] }
/-- enumerate(v), one argument, of anything that begins -/
theorem new1 {v : Value} {o : Obj} {H : Heap → Prop} (B : Begins v o H) :
    Meets (Builtin.«enumerate.__new__» ⟨[.type "enumerate", v], []⟩) (fun _ R s => H s.heap ∧ R (.ok (.ret (.ref (s.heap.push o).objs.size))) { s with heap := (s.heap.push o).push (enObj s.heap.objs.size 0) }) := by
  refine .of_wp fun prog w A R s h => ?_
  obtain ⟨hp, g, d, tk, os⟩ := s
  obtain ⟨h1, h⟩ := h
  have hs := sub_enumerate
  have q : ∀ {A' : Around} {E : Value → Shared → Prop} {Q : Value → Shared → Prop}, Q (.ref hp.objs.size) ⟨hp.push o, g, d, tk, os⟩ → wpAny (model prog w) A' (pyIter v) Q E ⟨hp, g, d, tk, os⟩ := by
    intro A' E Q z
    exact B.iter prog w A' E ⟨hp, g, d, tk, os⟩ Q h1 z
  wp_walk using q
  refine wpAny_stack_any fun st => ?_
  refine wpAny_pure ?_
  split
  · rename_i c _ _ _ _ _
    cases (c == Value.type "enumerate") <;> (wp_walk using q; exact ⟨_, rfl, h⟩)
  · wp_walk using q; exact ⟨_, rfl, h⟩
theorem begins1 {prog : Program} {w : World} {A : Around} {E : Value → Shared → Prop} {s : Shared} {v : Value} {o : Obj} {H : Heap → Prop} {Q : Value → Shared → Prop} (B : Begins v o H) (h1 : H s.heap)
    (h : ∀ h', IsEnum h' (s.heap.objs.size + 1) s.heap.objs.size 0 .none → h'.get? s.heap.objs.size = some o → (∀ b u, s.heap.get? b = some u → h'.get? b = some u) → Q (.ref (s.heap.objs.size + 1)) { s with heap := h' }) :
    wpAny (model prog w) A (call (.type "enumerate") [v]) Q E s := by
  refine callType_new F.called_enumerate (by decide) (F.typeCall_enumerate_1 _) (F.newCall_enumerate_1 _) (fun obj => F.args_object_init_2 obj _) F.entry_enumerate_new (new1 B) ⟨h1, ?_⟩
  have z : (s.heap.push o).objs.size = s.heap.objs.size + 1 := Heap.size_push ..
  have e : IsEnum ((s.heap.push o).push (enObj s.heap.objs.size 0)) (s.heap.objs.size + 1) s.heap.objs.size 0 .none := by
    have y := Heap.get?_push_size (s.heap.push o) (o := enObj s.heap.objs.size 0) rfl
    rw [z] at y
    exact y
  show _ ∧ _
  rw [z]
  exact ⟨⟨_, e, rfl⟩, h _ e (Heap.get?_push_of_some _ (Heap.get?_push_size _ B.free)) fun b u y => Heap.get?_push_of_some _ (Heap.get?_push_of_some _ y)⟩
end EnX
namespace L2
open PySem PySem.Spec PyProof.Rows
/-- items of S, in new pairs, counted from c -/
def IteG (S : Hp → List V → Prop) (c : Int) : It where
  go i H := ∃ (xs : List V) (x : V), S H xs ∧ xs[i]? = some x
  yld i H v H' := ∃ T x, v = .ref T ∧ H T = none ∧ H' = upd H T (.tup [.int (c + (i : Nat)), x]) ∧ ∀ xs, S H xs → xs[i]? = some x
  stop i H := ∃ xs : List V, S H xs ∧ xs.length = i
/-- what is drawn from: the iterator at it, at turn i, Ti i -/
structure EnSrc (P : Program) (w : World) (K : PySem.W.Frag) (S : Hp → List V → Prop) (it : Addr) (ex : Addr) (Ti : Nat → Heap → Prop) : Prop where
  obj : ∀ i h, Ti i h → ∃ o, h.get? it = some o ∧ ∀ v, o.data ≠ .cell v
  keep : ∀ i h h', Ti i h → (∀ o, h.get? it = some o → h'.get? it = some o) → Ti i h'
  inj : ∀ (X : Cx) (pins : List (Addr × Obj)) (σ : St) (H : Hp) (s : Shared) (xs ys : List V), X.K = K → Inv X pins σ H s → S H xs → S H ys → xs = ys
  draw : ∀ (X : Cx) (pins : List (Addr × Obj)) (σ : St) (H : Hp) (s : Shared) (xs : List V), X.prog = P → X.w = w → X.K = K → X.calm = true → Inv X pins σ H s → S H xs →
    ∃ (its : List Value) (St : Nat → Heap → Prop), Vals xs its ∧ (∀ i, Ti i s.heap → St i s.heap) ∧ (∀ i h, St i h → Ti i h) ∧ Draws P w X.A.in1 it [it, ex] its.length (fun i v => its[i]? = some v) St
theorem turn_enG {P : Program} {w : World} {K : PySem.W.Frag} {S : Hp → List V → Prop} {c : Int} {elts : List Expr} {kk : Nat} {tpos : Pos} {e it ex : Addr} {Ti : Nat → Heap → Prop} (D : EnSrc P w K S it ex Ti) (hne : e ≠ it) (hnx : e ≠ ex) :
    Turn P w K (.Tuple elts kk tpos) (IteG S c) [e, it] e (fun i h => (∃ old, IsEnum h e it (c + ((i : Nat) : Int)) old) ∧ Ti i h) where
  mem := by simp
  obj := by
    intro i h st b hb
    obtain ⟨⟨old, he⟩, ht⟩ := st
    rcases (show b = e ∨ b = it by simpa using hb) with z | z
    · rw [z]
      exact ⟨_, he, fun v q => nomatch q⟩
    · rw [z]
      exact D.obj i h ht
  keep := by
    intro i h h' st k
    obtain ⟨⟨old, he⟩, ht⟩ := st
    exact ⟨⟨old, k e (by simp) _ he⟩, D.keep i h h' ht fun o q => k it (by simp) o q⟩
  item := by
    intro X hP hw hK hc i pins s σ H E I hf st hg
    obtain ⟨⟨old, he⟩, ht⟩ := st
    obtain ⟨xs, x, hq, hx⟩ := hg
    obtain ⟨its, St, rv, h1, h2, dr⟩ := D.draw X pins σ H s xs hP hw hK hc I hq
    obtain ⟨u, hu, ru⟩ := rv.get hx
    subst hP hw
    have hlt : i < its.length := (List.getElem?_eq_some_iff.mp hu).1
    have hel : e < s.heap.objs.size := Heap.lt_size he
    have hil : it < s.heap.objs.size := by
      obtain ⟨o, q, _⟩ := D.obj i _ ht
      exact Heap.lt_size q
    refine wpAny_pyNext_enum_itemC dr he (h1 i ht) hlt hne (by simp [hne, hnx]) fun y h' tk hy ho st' hT hsz hk => ?_
    have ey : y = u := Option.some.inj (hy.symm.trans hu)
    subst ey
    refine ⟨_, rfl, wpAny_letOwnedTupleGo_enum (s := { s with heap := h', toks := tk + 1 }) ho fun h'' he' sb => ?_⟩
    have hT2 := (sb.2 _ (Nat.ne_of_gt hel)).trans hT
    have new : ObjOk X.prog X.w (upd H s.heap.objs.size (.tup [.int (c + (i : Nat)), x])) h'' s.heap.objs.size (.tup [.int (c + (i : Nat)), x]) :=
      ⟨by show 2 ≤ sizeLine; decide, [.int (c + (i : Nat)) tk, y], .cons ⟨_, rfl⟩ (.cons ru .nil), ⟨_, hT2, rfl, _, rfl⟩⟩
    have I1 : Inv X pins σ (upd H s.heap.objs.size (.tup [.int (c + (i : Nat)), x])) { s with heap := h'', toks := tk + 1 } := by
      refine I.turnedNew (ch := [e, it]) (fun b ob hb q => ?_) hf (Nat.le_refl _) new
      have n1 : b ≠ e := fun z => hb (by simp [z])
      have n2 : b ≠ it := fun z => hb (by simp [z])
      exact (sb.2 b n1).trans (hk b ob n1 n2 q)
    refine ⟨.ref s.heap.objs.size, _, I1, rfl, ⟨_, x, rfl, I.hok.fresh (Nat.le_refl _), rfl, fun ys hy' => ?_⟩, ⟨⟨y, ?_⟩, ?_⟩, fun b hb => ?_⟩
    · rw [D.inj X pins σ H s ys xs hK I hy' hq]
      exact hx
    · have e1 : c + ((i + 1 : Nat) : Int) = c + (i : Nat) + 1 := by omega
      rw [e1]
      exact he'
    · exact D.keep _ _ _ (h2 _ _ st') fun o q => (sb.2 it (Ne.symm hne)).trans q
    · have hb' : b < s.heap.objs.size := by
        rcases (show b = e ∨ b = it by simpa using hb) with z | z
        · rw [z]; exact hel
        · rw [z]; exact hil
      rw [upd_ne (Nat.ne_of_lt hb')]
      exact (hf b hb).1
  done := by
    intro X hP hw hK hc i pins s σ H E I hf st hg
    obtain ⟨⟨old, he⟩, ht⟩ := st
    obtain ⟨xs, hq, hx⟩ := hg
    obtain ⟨its, St, rv, h1, h2, dr⟩ := D.draw X pins σ H s xs hP hw hK hc I hq
    obtain ⟨f0, f1, f2, f3, f4, f5⟩ := hf it (by simp)
    have hl : its.length = i := rv.length.symm.trans hx
    subst hP hw
    refine wpAny_pyNext_enum_endD dr he (by rw [hl]; exact h1 i ht) fun h' eb => ⟨rfl, ?_⟩
    exact I.turned (t' := s.toks) (fun b o hb q => eb b o hb q) f0 f1 f3 f4 f5
  self := fun A i s Q E st h => let ⟨⟨_, he⟩, _⟩ := st; wpAny_pyIter_enum he h
theorem src_list {P : Program} {w : World} {K : PySem.W.Frag} {a it : Addr} (hne : a ≠ it) : EnSrc P w K (fun H xs => SqL K H a xs) it a (fun i h => h.IsListIter it a i) where
  obj := fun i h ⟨o, ho, hc, hd⟩ => ⟨o, ho, fun v q => by rw [hd] at q; cases q⟩
  keep := fun i h h' st k => st.at k
  inj := fun X pins σ H s xs ys hK I h1 h2 => by subst hK; exact I.list_inj h1 h2
  draw := fun X pins σ H s xs hP hw hK hc I hq => by
    subst hP hw hK
    obtain ⟨its, rv, p, hz⟩ := I.list hq
    refine ⟨its, fun i h => h.IsListIter it a i ∧ h.IsList a its.toArray, rv, fun i st => ⟨st, p.isList⟩, fun i h st => st.1, ?_⟩
    have D := Draws.list (prog := X.prog) (w := X.w) (A := X.A.in1) (I.ok.hd hc) it a hne its.toArray
    simpa using D
theorem src_tup {P : Program} {w : World} {K : PySem.W.Frag} {a it : Addr} (hne : a ≠ it) : EnSrc P w K (fun H xs => SqT K H a xs) it a (fun i h => h.IsTupleIter it a i) where
  obj := fun i h ⟨o, ho, hc, hd⟩ => ⟨o, ho, fun v q => by rw [hd] at q; cases q⟩
  keep := fun i h h' st k => st.at k
  inj := fun X pins σ H s xs ys hK I h1 h2 => by subst hK; exact I.tuple_inj h1 h2
  draw := fun X pins σ H s xs hP hw hK hc I hq => by
    subst hP hw hK
    obtain ⟨its, rv, p, hz⟩ := I.tuple hq
    refine ⟨its, fun i h => h.IsTupleIter it a i ∧ h.IsTuple a its.toArray, rv, fun i st => ⟨st, p⟩, fun i h st => st.1, ?_⟩
    have D := Draws.tuple (prog := X.prog) (w := X.w) (A := X.A.in1) (I.ok.hd hc) it a hne its.toArray
    simpa using D
/-- enumerate(xs, k) -/
def iEnumK (K : PySem.W.Frag) (ta : TA) : TI := fun σ H R => ta σ H fun vs H1 => ∃ (a : Addr) (k : Int) (xs : List V), vs = [.ref a, .int k] ∧ -(2 ^ 63) ≤ k ∧ k < 2 ^ 63 ∧ SqL K H1 a xs ∧ R (IteG (fun H xs => SqL K H a xs) k) H1
/-- enumerate(t), t a tuple -/
def iEnumT (K : PySem.W.Frag) (ta : TA) : TI := fun σ H R => ta σ H fun vs H1 => ∃ (a : Addr) (xs : List V), vs = [.ref a] ∧ SqT K H1 a xs ∧ R (IteG (fun H xs => SqT K H a xs) 0) H1
section
variable {X : Cx} {e e2 : Expr} {ta : TA} {p pos tpos : Pos} {elts : List Expr} {kk : Nat}
theorem pi_enumK (hg : Gl X "enumerate") (hm : X.mg "enumerate" = none) (ha : PA X [e, e2] ta) (hs : starEach [e, e2] X.env = [(false, eval e X.env), (false, eval e2 X.env)] := by rfl) (hs2 : starEach [e2] X.env = [(false, eval e2 X.env)] := by rfl) :
    PI X (.Tuple elts kk tpos) (.Call (.Name "enumerate" p) [e, e2] [] pos) (iEnumK X.K ta) := by
  refine ⟨fun pins s σ H R I h => ?_⟩
  refine Call_ (ld_blt I hg hm boot_enumerate (PyProof.Rows.callWith_type1 (thn (ha.run pos pins s σ H _ I h) fun us s1 ⟨vs, H1, I1, r1, q1⟩ => ?_) (by rw [hs, hs2]) (by rw [hs2]; rfl)))
  obtain ⟨a, k, xs, ex, b1, b2, hq, q⟩ := q1
  subst ex
  obtain ⟨u, u2, rfl, ra, rk⟩ := vals2 r1
  cases ra
  obtain ⟨t, rfl⟩ := rk
  obtain ⟨its, rv, p', hz⟩ := I1.list hq
  refine enum_begins (begins_list a its.toArray) p'.isList b1 b2 fun h' he hit hsz hk => wpAny_pyIter_enum he ?_
  have I2 : Inv X pins σ H1 { s1 with heap := h' } := I1.kept (t' := s1.toks) hk
  have la : a < s1.heap.objs.size := by
    obtain ⟨o, q, _⟩ := p'.isList
    exact Heap.lt_size q
  have hli : h'.IsListIter s1.heap.objs.size a 0 := ⟨_, hit, rfl, rfl⟩
  refine ⟨s1.heap.objs.size + 1, [s1.heap.objs.size + 1, s1.heap.objs.size], _, _, H1, rfl, I2, turn_enG (src_list (Nat.ne_of_lt la)) (Nat.succ_ne_self _) (Nat.ne_of_gt (Nat.lt_succ_of_lt la)), ⟨⟨.none, ?_⟩, hli⟩, fun b hb => ?_, q⟩
  · have e0 : k + ((0 : Nat) : Int) = k := Int.add_zero k
    rw [e0]
    exact he
  · have e' : b = s1.heap.objs.size + 1 ∨ b = s1.heap.objs.size := by simpa using hb
    have hle : s1.heap.objs.size ≤ b := by
      rcases e' with z | z
      · rw [z]; exact Nat.le_succ _
      · rw [z]; exact Nat.le_refl _
    exact I1.fpOk hle (I1.hok.fresh hle)
theorem pi_enumT (hg : Gl X "enumerate") (hm : X.mg "enumerate" = none) (ha : PA X [e] ta) (hs : starEach [e] X.env = [(false, eval e X.env)] := by rfl) :
    PI X (.Tuple elts kk tpos) (.Call (.Name "enumerate" p) [e] [] pos) (iEnumT X.K ta) := by
  refine ⟨fun pins s σ H R I h => ?_⟩
  refine Call_ (ld_blt I hg hm boot_enumerate (PyProof.Rows.callWith_type1 (thn (ha.run pos pins s σ H _ I h) fun us s1 ⟨vs, H1, I1, r1, q1⟩ => ?_) hs rfl))
  obtain ⟨a, xs, ex, hq, q⟩ := q1
  subst ex
  obtain ⟨u, rfl, ra⟩ := vals1 r1
  cases ra
  obtain ⟨its, rv, p', hz⟩ := I1.tuple hq
  refine EnX.begins1 (begins_tuple a its.toArray) p' fun h' he hit hk => wpAny_pyIter_enum he ?_
  have I2 : Inv X pins σ H1 { s1 with heap := h' } := I1.kept (t' := s1.toks) hk
  have la : a < s1.heap.objs.size := by
    obtain ⟨o, q, _⟩ := p'
    exact Heap.lt_size q
  have hli : h'.IsTupleIter s1.heap.objs.size a 0 := ⟨_, hit, rfl, rfl⟩
  refine ⟨s1.heap.objs.size + 1, [s1.heap.objs.size + 1, s1.heap.objs.size], _, _, H1, rfl, I2, turn_enG (src_tup (Nat.ne_of_lt la)) (Nat.succ_ne_self _) (Nat.ne_of_gt (Nat.lt_succ_of_lt la)), ⟨⟨.none, ?_⟩, hli⟩, fun b hb => ?_, q⟩
  · have e0 : (0 : Int) + ((0 : Nat) : Int) = 0 := rfl
    rw [e0]
    exact he
  · have e' : b = s1.heap.objs.size + 1 ∨ b = s1.heap.objs.size := by simpa using hb
    have hle : s1.heap.objs.size ≤ b := by
      rcases e' with z | z
      · rw [z]; exact Nat.le_succ _
      · rw [z]; exact Nat.le_refl _
    exact I1.fpOk hle (I1.hok.fresh hle)
end
theorem walk_enG {S : Hp → List V → Prop} {c : Int} {xs : List V} (hi : ∀ H ys, S H xs → S H ys → xs.length = ys.length) : Walk (IteG S c) xs.length (fun H => S H xs) (YPair (fun i => some (.int (c + (i : Nat)))) (fun i => xs[i]?)) := by
  refine ⟨fun i H h q => ⟨xs, xs[i], q, by simp [h]⟩, fun H q => ⟨xs, q, rfl⟩, fun i H v H' h q y => ?_⟩
  obtain ⟨T, x, h1, h2, h3, h4⟩ := y
  exact ⟨T, .int (c + (i : Nat)), x, h1, h2, h3, rfl, h4 xs q⟩
end L2
set_option maxRecDepth 100000
set_option maxHeartbeats 4000000
/-! a != b of two instances of a class with the text's own == and no own != -/
namespace NeX
open PySem PySem.W PyProof.Rows
section
variable {prog : Program} {w : World} {A : Around} {E : Value → Shared → Prop} {s : Shared} {K : Frag} {x y C f : Addr} {ox oy : Obj} {dx dy : Option Obj}
theorem ne_call (hu : A.units + 1 < cLine) (X : K.In s.heap) (Ix : InstAt s.heap x ox C dx) (hs : findIn K (.ref C) "__eq__" = some (some (.ref f))) (hf : isFn K (.ref f) = true) (hob : subIn K (.ref C) (.type "object") = some true) {Q : Value → Shared → Prop}
    (h : wpAny (model prog w) A.in1 (call (.ref f) [.ref x, .ref y]) (fun v s' => ∃ b, v = .bool b ∧ Q (.bool (!b)) s') E s) :
    wpAny (model prog w) A (call (.builtin "object.__ne__") [.ref x, .ref y]) Q E s := by
  have li : Looks (model prog w) s.heap (isInstance (.ref x) (.type "object")) true := Ix.type.andThen (looks_subIn X hob)
  refine wpAny_call (codeAny_call_builtin PySem.F.cmp_object.ne.plain PySem.F.cmpEntry_ne (check_slot PySem.F.cmpKind_ne PySem.F.cmpSplit_ne li (PySem.F.cmpArgs_ne _ _) ?_))
  unfold Builtin.«object.__ne__»
  repeat (first
    | with_reducible refine wpAny_cRoomFor (A := A.in1) (Nat.lt_of_le_of_lt (Nat.le_refl _) hu) ?_
    | (refine wpAny_bind (m := callSpecialIfBound? (.ref x) (Str.ofString "__eq__") [.ref y]) (ifBound_K X Ix hs hf (wpAny_mono h (fun v s' hv => ?_) fun _ _ z => z)))
    | wp_step)
  obtain ⟨b, rfl, q⟩ := hv
  repeat (first | exact q | exact wpAny_pure q | exact wpAny_truthy_bool q | (refine wpAny_bind (m := truthy (.bool _)) (wpAny_truthy_bool ?_)) | wp_step)
theorem ne_rich (hu : A.units + 1 < cLine) (X : K.In s.heap) (Ix : InstAt s.heap x ox C dx) (Iy : InstAt s.heap y oy C dy) (hn : findIn K (.ref C) "__ne__" = some (some (.builtin "object.__ne__"))) (hs : findIn K (.ref C) "__eq__" = some (some (.ref f))) (hf : isFn K (.ref f) = true)
    (hob : subIn K (.ref C) (.type "object") = some true) {Q : Value → Shared → Prop}
    (h : wpAny (model prog w) A.in1 (call (.ref f) [.ref x, .ref y]) (fun v s' => ∃ b, v = .bool b ∧ Q (.bool (!b)) s') E s) :
    wpAny (model prog w) A (richCompare .NotEq (.ref x) (.ref y)) Q E s := by
  have one : wpAny (model prog w) A (tryCompare (.ref x) "__ne__" (.ref y)) (fun r s' => ∃ v, r = some v ∧ Q v s') E s := by
    unfold tryCompare
    refine wpAny_bind ?_
    simp only [callSpecialIfBound?, bindSpecialIfBound?]
    refine wpAny_holding (wpAny_bind (wpAny_bind (wpAny_bind (Ix.type.here ((looks_findIn X hn).here ?_)))))
    have fin : wpAny (model prog w) A (call (.builtin "object.__ne__") ([.ref x] ++ [.ref y]) >>= fun v => pure (some v)) (fun a s₁ => wpAny (model prog w) A (match a with | some .notImplemented => pure none | none => pure none | some v => pure (some v)) (fun r s' => ∃ v, r = some v ∧ Q v s') E s₁) E s := by
      refine wpAny_bind (wpAny_mono (ne_call (Q := fun v s' => ∃ b, v = .bool b ∧ Q v s') hu X Ix hs hf hob (wpAny_mono h (fun v s' hv => ?_) fun _ _ z => z)) (fun v s' hv => ?_) fun _ _ z => z)
      · obtain ⟨b, e, q⟩ := hv
        exact ⟨b, e, !b, rfl, q⟩
      · obtain ⟨b, rfl, q⟩ := hv
        exact wpAny_pure (wpAny_pure ⟨_, rfl, q⟩)
    simp only [PySem.F.cmp_object.ne.bind]
    refine wpAny_bind (wpAny_askSetting (wpAny_ite ?_))
    split
    · exact wpAny_bind (wpAny_pure (wpAny_pure fin))
    · exact wpAny_tryCatch (wpAny_bind (wpAny_pure (wpAny_pure fin)))
  unfold richCompare
  simp only [oneThing_ref]
  refine wpAny_holding (wpAny_bind (wpAny_cRoomFor (Nat.lt_of_succ_lt hu) ?_))
  rw [cmpInfo_NotEq]
  dsimp only
  refine wpAny_bind (Ix.type.here (wpAny_bind (Iy.type.here ?_)))
  rw [show (Value.ref C != Value.ref C) = false from by simp]
  simp only [Bool.false_eq_true, if_false]
  refine wpAny_bind (wpAny_pure ?_)
  simp only [Bool.false_eq_true, if_false]
  refine wpAny_bind (wpAny_mono one (fun r s' z => ?_) fun _ _ z => z)
  obtain ⟨v, rfl, q⟩ := z
  first | exact wpAny_pure q | exact wpAny_pure (wpAny_pure q)
end
end NeX
namespace L2
open PySem PySem.Spec PyProof.Rows
/-- a != b, both of the class at C, whose == keeps sp -/
def rNeI (C : Addr) (sp : Sp) (E : XK) : R2 := fun x y H Q => ∃ a b dx fs dy gs, x = .ref a ∧ y = .ref b ∧ H a = some (.ins C dx fs) ∧ H b = some (.ins C dy gs) ∧ sp [.ref a, .ref b] H (fun v H' => ∃ k, v = .bl k ∧ Q (.bl (!k)) H') E
theorem op_neI {X : Cx} {CX : CXT} {k : Nat} {C f : Addr} {fd : FuncData} {ps : List Str} {sp : Sp} {E : XK} (F : FnOk X.prog X.w X.K X.mg X.base CX k f fd ps sp) (hr : Room (k + 1) X.A) (hn : PySem.W.findIn X.K (.ref C) "__ne__" = some (some (.builtin "object.__ne__")))
    (hs : PySem.W.findIn X.K (.ref C) "__eq__" = some (some (.ref f))) (hf : PySem.W.isFn X.K (.ref f) = true) (hob : PySem.W.subIn X.K (.ref C) (.type "object") = some true) (hb : Binds X.K fd ps []) (hx : Passes CX X E) : OpR X (compareOp .NotEq) (rNeI C sp E) := by
  intro pins s σ H x y v u Q I rx ry hq
  obtain ⟨a, b, dx, fs, dy, gs, rfl, rfl, ha, hb', hsp⟩ := hq
  cases rx
  cases ry
  obtain ⟨mA, J, _⟩ := ins_get I.hok ha
  obtain ⟨mB, J', _⟩ := ins_get I.hok hb'
  obtain ⟨od, J, _⟩ := J.look
  obtain ⟨od', J', _⟩ := J'.look
  show wpAny (model X.prog X.w) X.A (richCompare .NotEq (.ref a) (.ref b)) (EP X pins σ Q) X.xe s
  refine NeX.ne_rich (by have := hr.un; omega) I.kIn J J' hn hs hf hob ?_
  have hl := F.len _ _ _ _ hsp
  have r2 : Vals [V.ref a, V.ref b] [Value.ref a, Value.ref b] := .cons rfl (.cons rfl .nil)
  have bd : BindsTo s fd ⟨[.ref a, .ref b], []⟩ (ps.zip [.ref a, .ref b]) := by
    have z := hb s [.ref a, .ref b] I.kIn (by simpa using hl)
    simpa using z
  refine wpAny_call (codeAny_mono (F.run X.A.in1 X.stack s H ⟨[.ref a, .ref b], []⟩ [.ref a, .ref b] [.ref a, .ref b] _ E hr.in1 I.env0.in1 bd r2 hsp) fun r s' hq => ?_)
  cases r with
  | error e => exact hx pins σ H s e s' I hq
  | ok fl =>
    cases fl with
    | ret w =>
      obtain ⟨z, H', I', rz, k', ez, q⟩ := I.after hq
      subst ez
      cases rz
      exact ⟨k', rfl, .bl (!k'), H', I', rfl, q⟩
    | next => exact False.elim hq
    | brk => exact False.elim hq
    | cont => exact False.elim hq
end L2
set_option maxRecDepth 100000
set_option maxHeartbeats 4000000
/-! a star in a list's display -/
namespace L2
open PySem PySem.Spec PyProof.Rows
section
variable {X : Cx} {pins : List (Addr × Obj)} {σ : St} {H : Hp} {s : Shared}
theorem star_lst {a : Addr} {xs : List V} {E : Value → Shared → Prop} {Q : List Value → Shared → Prop} (I : Inv X pins σ H s) (h : SqL X.K H a xs) (hQ : ∀ us s', Inv X pins σ H s' → Vals xs us → Q us s') :
    PySem.W.StarOf (model X.prog X.w) X.A E (.ref a) Q s := by
  obtain ⟨its, r, p, hz⟩ := I.list h
  obtain ⟨o, ho, hc, n, hd⟩ := p.isList
  have hl := r.length
  refine wpAny_bind (wpAny_specialOf (T := "list") ⟨o, ho, hc⟩ PySem.F.slot_list_iter.lookup (wpAny_pure ⟨rfl, ?_⟩))
  refine wpAny_collect_seq a (.inl rfl) ho hc hd (fun h' hk => ?_) (by rw [List.size_toArray]; omega)
  have e : its.toArray.toList = its := by simp
  rw [e]
  exact hQ its _ (I.kept (t' := s.toks) hk) r
/-- *e, e a list -/
def tStarL (K : PySem.W.Frag) (te : TE) (t : TA) : TA := fun σ H Q => te σ H fun y H1 => ∃ (b : Addr) (vs : List V), y = .ref b ∧ SqL K H1 b vs ∧ t σ H1 fun ws H2 => Q (vs ++ ws) H2
theorem pa_star {e : Expr} {es : List Expr} {te : TE} {t : TA} {p : Pos} (he : PE X e te) (hr : PA X es t) (hs : starEach (.Starred e p :: es) X.env = (true, eval e X.env) :: starEach es X.env := by rfl) : PA X (.Starred e p :: es) (tStarL X.K te t) := by
  refine ⟨fun pos pins s σ H Q I h => ?_⟩
  refine PySem.W.items_star (thn (he.run pins s σ H _ I h) fun u s1 ⟨y, H1, I1, ry, b, vs, ey, hb, q⟩ => ?_) hs
  subst ey
  cases ry
  refine star_lst I1 hb fun us s2 I2 rv => thn (hr.run pos pins s2 σ H1 _ I2 q) fun ws s3 ⟨zs, H3, I3, r3, q3⟩ => ?_
  exact ⟨vs ++ zs, H3, I3, rv.append r3, q3⟩
/-- max of a pair of ints -/
theorem cr_max2T (hc : X.calm = true) (hu : X.A.units + 64 < cLine) : CallR X (.builtin "max") (fun vs H Q => ∃ (a : Addr) (i j : Int), vs = [V.ref a] ∧ SqT X.K H a [.int i, .int j] ∧ Q (.int (max i j)) H) := by
  intro pins s σ H vs us Q I r h
  obtain ⟨a, i, j, rfl, hs, q⟩ := h
  obtain ⟨its, rv, hl, _⟩ := I.tuple hs
  obtain ⟨u1, u2, rfl, r1, r2⟩ := vals2 rv
  obtain ⟨t1, rfl⟩ := r1
  obtain ⟨t2, rfl⟩ := r2
  obtain ⟨u, rfl, ru⟩ := vals1 r
  cases ru
  have rd : ReadsAll s.heap (#[Value.int i t1, Value.int j t2] : Array Value).toList [.int i, .int j] _ := .cons (.int i t1) (.cons (.int j t2) .nil)
  refine PySem.W.max_tuple_data (I.ok.hd hc) hl rd ⟨?_, ?_⟩ ?_ fun k v h' tk bs hv hr hk => ?_
  · intro x hx y hy
    simp only [List.mem_cons, List.not_mem_nil, or_false] at hx hy
    rcases hx with rfl | rfl <;> rcases hy with rfl | rfl <;> rfl
  · intro x hx
    simp only [List.mem_cons, List.not_mem_nil, or_false] at hx
    rcases hx with rfl | rfl <;> (intro z; cases z)
  · show X.A.units + 1 + _ < _
    have e : PyData.depthAll [PyData.int i, PyData.int j] ≤ 60 := by simp [PyData.depth, PyData.depthAll]
    omega
  · have e := PySem.W.maxD_ints i [j]
    rw [List.map_singleton] at e
    rw [e] at hr
    cases hr
    exact ⟨.int (max i j), H, I.kept hk, ⟨_, rfl⟩, q⟩
end
end L2
set_option maxRecDepth 100000
set_option maxHeartbeats 4000000
/-! the text by places, the names of built-ins, short words -/
namespace Kx
open PySem PySem.Spec PyProof.Rows L2
def topS (i : Nat) : Stmt := PySem.Challenge.pw_copylots_k32_whole_texts.main.body.getD i (.Pass ⟨0, 0, 0, 0⟩)
/-- built-ins that the text doesn't shadow -/
structure Bi (mg : Str → Option Value) : Prop where
  isi : mg "isinstance" = none
  int : mg "int" = none
  bool : mg "bool" = none
  tup : mg "tuple" = none
  lst : mg "list" = none
  str : mg "str" = none
  all : mg "all" = none
  zip : mg "zip" = none
  len : mg "len" = none
  enm : mg "enumerate" = none
  rng : mg "range" = none
  max : mg "max" = none
/-- a def of the text -/
structure Df (K : PySem.W.Frag) (mg : Str → Option Value) (x : Str) (st : Stmt) (ps : List Str) (f : Addr) (fd : FuncData) : Prop where
  F : Fun K x x st f fd
  g : mg x = some (.ref f)
  b : Binds K fd ps []
theorem Df.k {K : PySem.W.Frag} {mg : Str → Option Value} {x : Str} {st : Stmt} {ps : List Str} {f : Addr} {fd : FuncData} (D : Df K mg x st ps f fd) : PySem.W.keepIn K (.ref f) = true := D.F.kp
theorem same_upd {H : Hp} {p : Addr} {o : HO} (h : H p = none) : Same H (upd H p o) := fun b x e => by
  rw [upd_ne (ne_of_none e h)]
  exact e
theorem same_upd' {H H' : Hp} {p : Addr} {o : HO} (s : Same H H') (h : H p = none) : Same H (upd H' p o) := fun b x e => by
  rw [upd_ne (ne_of_none e h)]
  exact s b x e
theorem same_new {H H' : Hp} {p : Addr} {o : HO} (s : Same H H') (h : H' p = none) : Same H (upd H' p o) := s.trans (same_upd h)
theorem map_get {α β : Type} {f : α → β} {l : List α} {i : Nat} {x : β} (h : (l.map f)[i]? = some x) : ∃ z, l[i]? = some z ∧ f z = x := by
  rw [List.getElem?_map] at h
  cases e : l[i]? with
  | none => rw [e] at h; cases h
  | some z => rw [e] at h; exact ⟨z, rfl, Option.some.inj h⟩
theorem fresh_of {H H' : Hp} {p : Addr} (s : Same H H') (h : H' p = none) : H p = none := s.free h
theorem _root_.L2.Same.seqT {K : PySem.W.Frag} {H H' : Hp} {a : Addr} {xs : List V} (e : Same H H') (h : SqT K H a xs) : SqT K H' a xs := by
  rcases h with (h | ⟨o, h⟩) | h
  · exact .inl (.inl (e _ _ h))
  · exact .inl (.inr ⟨o, e _ _ h⟩)
  · exact .inr h
section
variable {X : Cx}
/-- isinstance(e, T), T a built-in type by its name -/
theorem pe_isi {e : Expr} {te : TE} {T : Str} {n : String} {p q pos : Pos} (he : PE X e te) (hi : X.mg "isinstance" = none) (hm : X.mg T = none) (hb : bootBuiltins T = some (.type n)) (hg1 : Gl X "isinstance" := by rfl) (hg : Gl X T := by rfl)
    (hs : starEach [e, .Name T q] X.env = (false, eval e X.env) :: starEach [.Name T q] X.env := by rfl) (hT : T ≠ "__name__" := by decide) (hd : (T == ("__debug__" : Str)) = false := by decide) :
    PE X (.Call (.Name "isinstance" p) [e, .Name T q] [] pos) (tCB (rIsi X.K) (tCons te (tCons (tC (.ty n)) tNil))) :=
  pe_callB call_isi hg1 hi boot_isinstance (pa_cons he (pa_cons (pe_bltn (v := .ty n) hg hm hb rfl hT hd) pa_nil) hs) (by decide) (by decide) hs
end
theorem cut1 (xs : List V) : cutV xs (some 1) none = xs.drop 1 := by
  unfold cutV
  rw [show HT.sIx xs.length 0 (some 1) = min 1 xs.length from HT.sIx_nat xs.length 0 1, HT.sIx_none]
  cases xs with
  | nil => rfl
  | cons x r =>
    rw [show min 1 (x :: r).length = 1 by rw [List.length_cons]; omega]
    show List.take ((x :: r).length - 1) r = r
    rw [List.length_cons, Nat.add_sub_cancel]
    exact List.take_length
theorem walk_zipT {K : PySem.W.Frag} {a b : Addr} {xs ys : List V} {n : Nat} (hn : n = min xs.length ys.length) : Walk (RZ.ItzT K a b) n (fun H => SqT K H a xs ∧ SqT K H b ys) (YPair (fun i => xs[i]?) (fun i => ys[i]?)) := by
  subst hn
  refine ⟨fun i _ hi q => ?_, fun _ q => ⟨xs, ys, q.1, q.2, by omega⟩, fun i H v H' _ q y => ?_⟩
  · have h1 : i < xs.length := by omega
    have h2 : i < ys.length := by omega
    exact ⟨xs, ys, xs[i], ys[i], q.1, q.2, by simp [h1], by simp [h2]⟩
  · obtain ⟨T, x, z, h1, h2, h3, h4, h5⟩ := y
    exact ⟨T, x, z, h1, h2, h3, h4 xs q.1, h5 ys q.2⟩
theorem take_more {α : Type} {l : List α} {i : Nat} {x : α} (h : l[i]? = some x) : l.take (i + 1) = l.take i ++ [x] := by
  rw [List.take_add_one, h]
  rfl
/-- [e for .. in ..] without an if: the list made is xs -/
theorem lc_map {J : It} {n : Nat} {G : Hp → Prop} {Y : Nat → Hp → V → Hp → Prop} (wk : Walk J n G Y) {g : TG} {te : TE} {vs : List Nat} {σ : L2.St} {H1 : Hp} {D : Addr} {Qd : Hp → Prop} (hD : H1 D = none) (xs : List V) (hx : xs.length = n) (hn : n < 1000)
    (hG : ∀ H', Same H1 H' → G H')
    (hs : ∀ (i : Nat) (v x : V) (H2 H' : Hp) (Q : VK), xs[i]? = some v → Same H1 H2 → Y i H2 x H' → (∀ H5, Same H2 H5 → Q v H5) → g x (wipe σ vs) H' fun σ2 H3 => wipe σ2 vs = wipe σ vs ∧ te σ2 H3 Q)
    (hd : ∀ H', Same H1 H' → H' D = some (.lst xs) → Qd H') :
    ∃ W : Nat → Nat → Hp → Prop, (∃ m, W 0 m (upd H1 D (.lst []))) ∧ ∀ i m H, W i m H →
      (J.stop i H ∧ Qd H) ∨ (J.go i H ∧ ∃ Nx : Hp → Prop, (∀ H', Nx H' → ∃ m', m' < m ∧ W (i + 1) m' H') ∧ ∀ x H', J.yld i H x H' → g x (wipe σ vs) H' fun σ2 H2 => wipe σ2 vs = wipe σ vs ∧ tYes σ2 H2 fun b H3 =>
        if b = true then te σ2 H3 fun y H4 => ∃ acc, H4 D = some (.lst acc) ∧ acc.length < sizeLine ∧ Nx (upd H4 D (.lst (acc ++ [y]))) else Nx H3) := by
  refine lc_it wk (tt := tYes) (fun i H' => Same H1 H' ∧ H' D = some (.lst (xs.take i))) ⟨same_upd hD, upd_same⟩ (fun i H' _ p => hG H' p.1) (fun i x H2 H' hi p y => ?_) (fun H' p => ?_)
  · obtain ⟨p1, p2⟩ := p
    obtain ⟨v, hv⟩ : ∃ v, xs[i]? = some v := ⟨xs[i]'(by omega), List.getElem?_eq_getElem (by omega)⟩
    have e : (fun (σ2 : L2.St) (H2 : Hp) => wipe σ2 vs = wipe σ vs ∧ tYes σ2 H2 fun b H3 => if b = true then te σ2 H3 (fun y H4 => ∃ acc, H4 D = some (.lst acc) ∧ acc.length < sizeLine ∧ (Same H1 (upd H4 D (.lst (acc ++ [y]))) ∧ upd H4 D (.lst (acc ++ [y])) D = some (.lst (xs.take (i + 1))))) else (Same H1 H3 ∧ H3 D = some (.lst (xs.take (i + 1)))))
        = fun (σ2 : L2.St) (H2 : Hp) => wipe σ2 vs = wipe σ vs ∧ te σ2 H2 (fun y H4 => ∃ acc, H4 D = some (.lst acc) ∧ acc.length < sizeLine ∧ (Same H1 (upd H4 D (.lst (acc ++ [y]))) ∧ upd H4 D (.lst (acc ++ [y])) D = some (.lst (xs.take (i + 1))))) := by
      funext σ2 H2
      simp only [tYes, if_true]
    rw [e]
    refine hs i v x H2 H' _ hv p1 y fun H5 s5 => ⟨xs.take i, s5 _ _ p2, small1000 (by rw [List.length_take]; omega), fun b o z => ?_, ?_⟩
    · have nb : b ≠ D := ne_of_none z hD
      rw [upd_ne nb]
      exact s5 _ _ (p1 _ _ z)
    · rw [upd_same, take_more hv]
  · obtain ⟨p1, p2⟩ := p
    rw [← hx, List.take_length] at p2
    exact hd H' p1 p2
end Kx
set_option maxRecDepth 100000
set_option maxHeartbeats 4000000
namespace Kx
open PySem PySem.Spec PyProof.Rows L2
section
variable {P : Program} {w : World} {K : PySem.W.Frag} {mg : Str → Option Value} {base : Heap}
abbrev sNum : Stmt := topS 13
theorem scNum : FnScope ["thing", "least", "most"] ["thing", "least", "most"] (defScope sNum) := ⟨rfl, rfl, rfl, by decide +kernel, rfl, by decide +kernel, by decide +kernel⟩
def spNum : Sp := fun vs H Q _ => ∃ t lo hi : Int, vs = [.int t, .int lo, .int hi] ∧ Q (.bl (decide (lo ≤ t ∧ t ≤ hi))) H
theorem ok_num {f : Addr} {fd : FuncData} {k : Nat} (D : Df K mg "is_number" sNum ["thing", "least", "most"] f fd) (B : Bi mg) : FnOk P w K mg base CX0 (k + 1) f fd ["thing", "least", "most"] spNum := by
  refine D.F.ok scNum (fun vs H Q E h => ?_) (fun cdv A outer s H vs Q E hr h => ?_)
  · obtain ⟨_, _, _, rfl, _⟩ := h
    rfl
  · obtain ⟨t, lo, hi, rfl, q⟩ := h
    refine ⟨_, pss_one (ps_ret (pe_and (pe_isi (pv 0) B.isi B.int boot_int) (pe_and (pe_not (pe_isi (pv 0) B.isi B.bool boot_bool)) (pe_one (pe_chain op_le op_le (pv 1) (pv 0) (pv 2)))))), ?_⟩
    refine ⟨.int t, rfl, .int t, .ty "int", _, _, true, rfl, .ty "int", .base (.int t), kit_ty (by decide +kernel), true, rfl, iteT ?_⟩
    refine ⟨.int t, rfl, .int t, .ty "bool", _, _, false, rfl, .ty "bool", .base (.int t), kit_ty (by decide +kernel), false, rfl, true, rfl, iteT ?_⟩
    refine ⟨_, rfl, _, rfl, lo, t, rfl, rfl, _, rfl, ?_⟩
    by_cases h1 : lo ≤ t
    · rw [decide_eq_true h1]
      refine iteT ⟨_, rfl, t, hi, rfl, rfl, ?_⟩
      have e : decide (lo ≤ t ∧ t ≤ hi) = decide (t ≤ hi) := by simp [h1]
      rw [e] at q
      exact q
    · rw [decide_eq_false h1]
      refine iteF ?_
      have e : decide (lo ≤ t ∧ t ≤ hi) = false := by simp [h1]
      rw [e] at q
      exact q
abbrev sSet : Stmt := topS 14
theorem scSet : FnScope ["thing", "servers", "server", "one", "other"] ["thing", "servers"] (defScope sSet) := ⟨rfl, rfl, rfl, by decide +kernel, rfl, by decide +kernel, by decide +kernel⟩
/-- all in 0 .. n - 1 -/
def within (n : Int) (ns : List Int) : Bool := ns.all fun x => decide (0 ≤ x ∧ x ≤ n - 1)
/-- ascending -/
def asc (ns : List Int) : Bool := (List.zipWith (fun a b => decide (a < b)) ns (ns.drop 1)).all id
def isSet (ns : List Int) (n : Int) : Bool := within n ns && asc ns
def spSet (K : PySem.W.Frag) : Sp := fun vs H Q _ => ∃ (a : Addr) (ns : List Int) (n : Int), vs = [.ref a, .int n] ∧ SqT K H a (ns.map V.int) ∧ TyX K H (.ref a) (.type "tuple") ∧ ns ≠ [] ∧ ns.length < 900 ∧ ∀ H', Same H H' → Q (.bl (isSet ns n)) H'
theorem ok_set {f fN : Addr} {fd fdN : FuncData} {k : Nat} (D : Df K mg "is_set" sSet ["thing", "servers"] f fd) (B : Bi mg) (DN : Df K mg "is_number" sNum ["thing", "least", "most"] fN fdN) : FnOk P w K mg base CX0 (k + 2) f fd ["thing", "servers"] (spSet K) := by
  have GN : FnOk P w K mg base CX0 (k + 1) fN fdN ["thing", "least", "most"] spNum := ok_num DN B
  refine D.F.ok scSet (fun vs H Q E h => ?_) (fun cdv A outer s H vs Q E hr h => ?_)
  · obtain ⟨_, _, _, rfl, _⟩ := h
    rfl
  · obtain ⟨a, ns, n, rfl, hT, ty, hne, hl, q⟩ := h
    refine ⟨_, pss_cons (ps_if (PW.pt (pw_or (pt_not (pt_val (pe_isi (pv 0) B.isi B.tup boot_tuple)))
        (pw_or1 (pt_not (pt_val (pe_callB (cr_all rfl) rfl B.all boot_all (pa_cons
          (pe_lc (own := [("server", 2)]) (g := gName 2) rfl scSet.nd (pi_tup (pv 0)) (blkOk_by (own := [("server", 2)]) (N := ["thing", "servers", "server", "one", "other"]) (sc := defScope sSet) (by decide +kernel))
            (fun _ _ _ _ _ => pg_name (i := 2) scSet.nd rfl (Or.inl rfl)) (fun _ _ _ _ _ => pts_nil) (fun _ _ _ _ _ => pe_call GN hr rfl DN.g DN.k DN.b .nil pass0 (pa_cons (pv 2) (pa_cons pe_int (pa_cons (pe_op op_sub (pv 1) pe_int) pa_nil))))) pa_nil)))))))
        (pss_one (ps_ret pe_bl)) pss_nil)
      (pss_one (ps_ret (pe_callB (cr_all rfl) rfl B.all boot_all (pa_cons
          (pe_lc (own := [("one", 3), ("other", 4)]) (g := gTup K 2 (gCons (gName 3) (gCons (gName 4) gNil))) rfl scSet.nd (RZ.pi_zipA rfl B.zip (pa_cons (pv 0) (pa_cons (pe_slice sl_tup (pv 0) (po_some pe_int) po_none) pa_nil)))
            (blkOk_by (own := [("one", 3), ("other", 4)]) (N := ["thing", "servers", "server", "one", "other"]) (sc := defScope sSet) (by decide +kernel))
            (fun _ _ _ _ _ => pg_tup rfl (pgs_cons (pg_name (i := 3) scSet.nd rfl (Or.inl rfl)) (pgs_cons (pg_name (i := 4) scSet.nd rfl (Or.inl rfl)) pgs_nil))) (fun _ _ _ _ _ => pts_nil) (fun _ _ _ _ _ => pe_cmpR op_lt (pv 3) (pv 4) (nomark _))) pa_nil)))), ?_⟩
    refine ⟨.ref a, rfl, .ref a, .ty "tuple", _, _, true, rfl, .ty "tuple", ty, kit_ty (by decide +kernel), true, rfl, iteF ?_⟩
    -- all in range
    have hN : (ns.map V.int).length = ns.length := by rw [List.length_map]
    refine ⟨.ref a, rfl, a, rfl, ⟨_, hT⟩, fun d hd => ?_⟩
    refine lc_map (walk_tup (xs := ns.map V.int)) hd ((ns.map fun x => decide (0 ≤ x ∧ x ≤ n - 1)).map V.bl) (by simp) (by rw [hN]; omega) (fun H' s => s.seqT hT) (fun i v x H2 H' Q' hv s2 y q' => ?_) (fun H1 s1 e1 => ?_)
    · obtain ⟨e, hx⟩ := y
      subst e
      obtain ⟨z, hz, ez⟩ := map_get hx
      subst ez
      have ev : v = V.bl (decide (0 ≤ z ∧ z ≤ n - 1)) := by
        rw [List.map_map, List.getElem?_map, hz] at hv
        exact (Option.some.inj hv).symm
      subst ev
      exact ⟨rfl, _, rfl, _, rfl, _, _, rfl, rfl, z, 0, n - 1, rfl, q' _ (Same.refl _)⟩
    · refine ⟨d, _, rfl, .inl (.inl e1), _, rfl, ?_⟩
      have ew : (ns.map fun x => decide (0 ≤ x ∧ x ≤ n - 1)).all id = within n ns := by simp [within, List.all_map]
      rw [ew]
      cases hw : within n ns with
      | false =>
        refine iteT ?_
        have e2 : isSet ns n = false := by simp [isSet, hw]
        have q2 := q H1 s1
        rw [e2] at q2
        exact q2
      | true =>
        refine iteF ?_
        -- ascending
        refine ⟨.ref a, rfl, .ref a, rfl, 1, rfl, a, ns.map V.int, rfl, s1.seqT hT, ?_, fun c nc => ?_⟩
        · rintro ⟨z1, z2⟩
          rw [show HT.sIx (ns.map V.int).length 0 (some 1) = min 1 (ns.map V.int).length from HT.sIx_nat _ 0 1] at z1
          have : ns.length ≠ 0 := fun z => hne (List.length_eq_zero_iff.mp z)
          omega
        · have s2 : Same H (upd H1 c (.tup (cutV (ns.map V.int) (some 1) none))) := same_new s1 nc
          have hC : SqT K (upd H1 c (.tup (cutV (ns.map V.int) (some 1) none))) c ((ns.drop 1).map V.int) := by
            rw [cut1, ← List.map_drop]
            exact .inl (.inl upd_same)
          refine ⟨a, c, ns.map V.int, (ns.drop 1).map V.int, rfl, .inr ⟨s2.seqT hT, hC, fun d2 hd2 => ?_⟩⟩
          refine lc_map (walk_zipT (xs := ns.map V.int) (ys := (ns.drop 1).map V.int) rfl) hd2 ((List.zipWith (fun a b => decide (a < b)) ns (ns.drop 1)).map V.bl) (by simp) (by simp; omega) (fun H' s => ⟨s.seqT (s2.seqT hT), s.seqT hC⟩) (fun i v x H2 H' Q' hv s3 y q' => ?_) (fun H3 s3 e3 => ?_)
          · obtain ⟨T, x1, x2, rfl, nT, rfl, f1, f2⟩ := y
            obtain ⟨z1, hz1, ez1⟩ := map_get f1
            obtain ⟨z2, hz2, ez2⟩ := map_get f2
            subst ez1
            subst ez2
            have ev : v = V.bl (decide (z1 < z2)) := by
              rw [List.getElem?_map, List.getElem?_zipWith, hz1, hz2] at hv
              exact (Option.some.inj hv).symm
            subst ev
            exact ⟨T, _, rfl, .inl (.inl upd_same), rfl, _, _, rfl, _, _, rfl, rfl, rfl, _, rfl, _, rfl, _, _, rfl, rfl, q' _ (same_upd nT)⟩
          · refine ⟨d2, _, rfl, .inl (.inl e3), ?_⟩
            have e2 : isSet ns n = (List.zipWith (fun a b => decide (a < b)) ns (ns.drop 1)).all id := by simp [isSet, hw, asc]
            rw [← e2]
            exact q H3 (s2.trans s3)
end
end Kx
set_option maxRecDepth 100000
set_option maxHeartbeats 4000000
namespace Kx
open PySem PySem.Spec PyProof.Rows L2
section
variable {P : Program} {w : World} {K : PySem.W.Frag} {mg : Str → Option Value} {base : Heap}
abbrev sItem : Stmt := topS 15
theorem scItem : FnScope ["thing", "servers"] ["thing", "servers"] (defScope sItem) := ⟨rfl, rfl, rfl, by decide +kernel, rfl, by decide +kernel, by decide +kernel⟩
def isItem (ns : List Int) (k n : Int) : Bool := isSet ns n && decide (1 ≤ k ∧ k ≤ (ns.length : Int))
/-- an item at a: its holders' tuple at h, its need -/
def ItemAt (H : Hp) (a : Addr) (it : List Int × Int) : Prop := ∃ h : Addr, H a = some (.tup [.ref h, .int it.2]) ∧ H h = some (.tup (it.1.map V.int))
theorem ItemAt.same {H H' : Hp} {a : Addr} {it : List Int × Int} (x : ItemAt H a it) (s : Same H H') : ItemAt H' a it := by
  obtain ⟨h, h1, h2⟩ := x
  exact ⟨h, s _ _ h1, s _ _ h2⟩
def spItem : Sp := fun vs H Q _ => ∃ (a : Addr) (n : Int) (it : List Int × Int), vs = [.ref a, .int n] ∧ ItemAt H a it ∧ it.1 ≠ [] ∧ it.1.length < 900 ∧ ∀ H', Same H H' → Q (.bl (isItem it.1 it.2 n)) H'
theorem ok_item {f fN fS : Addr} {fd fdN fdS : FuncData} (D : Df K mg "is_item" sItem ["thing", "servers"] f fd) (B : Bi mg) (DN : Df K mg "is_number" sNum ["thing", "least", "most"] fN fdN) (DS : Df K mg "is_set" sSet ["thing", "servers"] fS fdS) :
    FnOk P w K mg base CX0 3 f fd ["thing", "servers"] spItem := by
  have GN : FnOk P w K mg base CX0 1 fN fdN ["thing", "least", "most"] spNum := ok_num DN B
  have GS : FnOk P w K mg base CX0 2 fS fdS ["thing", "servers"] (spSet K) := ok_set DS B DN
  refine D.F.ok scItem (fun vs H Q E h => ?_) (fun cdv A outer s H vs Q E hr h => ?_)
  · obtain ⟨_, _, _, rfl, _⟩ := h
    rfl
  · obtain ⟨a, n, ⟨ns, k⟩, rfl, ⟨h, ha, hh⟩, hne, hl, q⟩ := h
    have hr1 : Room 1 _ := hr.mono (by decide)
    refine ⟨_, pss_cons (ps_if (PW.pt <| pw_or (pt_not <| pt_val <| pe_isi (pv 0) B.isi B.tup boot_tuple) <|
          pw_or (pt_cmpR op_ne (pe_callB call_len_seq (by rfl) B.len boot_len <| pa_cons (pv 0) pa_nil) pe_int (nomark _)) <|
          pw_or1 <| pt_not <| pt_val <| pe_call GS hr (by rfl) DS.g DS.k DS.b .nil pass0 <| pa_cons (pe_ix ix_tup (pv 0) pe_int fun _ _ => rfl) <| pa_cons (pv 1) pa_nil)
        (pss_one <| ps_ret pe_bl) pss_nil) <|
      pss_one <| ps_ret <| pe_call GN hr1 (by rfl) DN.g DN.k DN.b .nil pass0 <| pa_cons (pe_ix ix_tup (pv 0) pe_int fun _ _ => rfl) <| pa_cons pe_int <|
        pa_cons (pe_callB call_len_seq (by rfl) B.len boot_len <| pa_cons (pe_ix ix_tup (pv 0) pe_int fun _ _ => rfl) pa_nil) pa_nil, ?_⟩
    refine ⟨.ref a, rfl, .ref a, .ty "tuple", _, _, true, rfl, .ty "tuple", .base (.tup ha), kit_ty (by decide +kernel), true, rfl, iteF ?_⟩
    refine ⟨.ref a, rfl, a, _, rfl, .inr (.inl (.inl ha)), rfl, _, rfl, ?_⟩
    refine iteF ⟨.ref a, rfl, a, _, 0, .ref h, rfl, rfl, .inl (.inl ha), atI_nat (j := 0) rfl, .int n, rfl, h, ns, n, rfl, .inl (.inl hh), .base (.tup hh), hne, hl, fun H1 s1 => ?_⟩
    have ha1 := s1 _ _ ha
    have hh1 := s1 _ _ hh
    refine ⟨_, rfl, ?_⟩
    cases hw : isSet ns n with
    | false =>
      refine iteT ?_
      have e : isItem ns k n = false := by simp [isItem, hw]
      have q1 := q H1 s1
      rw [e] at q1
      exact q1
    | true =>
      refine iteF ⟨.ref a, rfl, a, _, 1, .int k, rfl, rfl, .inl (.inl ha1), atI_nat (j := 1) rfl, .ref a, rfl, a, _, 0, .ref h, rfl, rfl, .inl (.inl ha1), atI_nat (j := 0) rfl, h, _, rfl, .inr (.inl (.inl hh1)), k, 1, _, rfl, ?_⟩
      have e : isItem ns k n = decide (1 ≤ k ∧ k ≤ ((ns.map V.int).length : Int)) := by simp [isItem, hw]
      rw [← e]
      exact q H1 s1
end
end Kx
set_option maxRecDepth 100000
set_option maxHeartbeats 4000000
namespace Kx
open PySem PySem.Spec PyProof.Rows L2
section
variable {P : Program} {w : World} {K : PySem.W.Frag} {mg : Str → Option Value} {base : Heap}
/-- what the written part says of Layout, at CL -/
structure LayC (K : PySem.W.Frag) (mg : Str → Option Value) (CL fI fE : Addr) : Prop where
  g : mg "Layout" = some (.ref CL)
  cl : Cls K CL
  nS : NoAttr K CL "servers"
  nE : NoAttr K CL "entries"
  mkL : Mk K CL fI
  cA : PySem.W.findIn K (.ref CL) "__class__" = some (some (.builtin "object.__class__"))
  cN : PySem.W.specialIn K (.builtin "object.__class__") "__get__" = some (some (.builtin "getset_descriptor.__get__"))
  cT : PySem.W.takesIn K (.builtin "object.__class__") = some true
  cM : PySem.W.mroIn K CL (.type "object") = some true
  ne : PySem.W.findIn K (.ref CL) "__ne__" = some (some (.builtin "object.__ne__"))
  eq : PySem.W.findIn K (.ref CL) "__eq__" = some (some (.ref fE))
  fe : PySem.W.isFn K (.ref fE) = true
  ob : PySem.W.subIn K (.ref CL) (.type "object") = some true
  ki : PySem.W.kitOne K (.ref CL) (.ref CL) = some true
/-- the module's numbers -/
structure Nu (mg : Str → Option Value) : Prop where
  s : ∃ t, mg "MOST_SERVERS" = some (.int 8 t)
  i : ∃ t, mg "MOST_ITEMS" = some (.int 10 t)
  t : ∃ t, mg "MOST_TRANSFERS" = some (.int 16 t)
/-- rows of items -/
def ItemsAt (H : Hp) (rows : List V) (its : List (List Int × Int)) : Prop := rows.length = its.length ∧ ∀ (i : Nat) (v : V) (it : List Int × Int), rows[i]? = some v → its[i]? = some it → ∃ a : Addr, v = V.ref a ∧ ItemAt H a it
theorem ItemsAt.same {H H' : Hp} {rows : List V} {its : List (List Int × Int)} (x : ItemsAt H rows its) (s : Same H H') : ItemsAt H' rows its :=
  ⟨x.1, fun i v it h1 h2 => let ⟨a, e, q⟩ := x.2 i v it h1 h2; ⟨a, e, q.same s⟩⟩
/-- good items of n servers -/
def GoodIt (n : Int) (it : List Int × Int) : Prop := it.1 ≠ [] ∧ it.1.length < 900 ∧ isItem it.1 it.2 n = true
/-- a layout at p -/
def LayAt (CL : Addr) (H : Hp) (p : Addr) (n : Int) (its : List (List Int × Int)) : Prop :=
  ∃ (dx t : Addr) (fs : List (Str × V)) (rows : List V), H p = some (.ins CL dx fs) ∧ fs.lookup ("servers" : Str) = some (V.int n) ∧ fs.lookup ("entries" : Str) = some (V.ref t) ∧ H t = some (.tup rows) ∧ ItemsAt H rows its
theorem LayAt.same {CL : Addr} {H H' : Hp} {p : Addr} {n : Int} {its : List (List Int × Int)} (x : LayAt CL H p n its) (s : Same H H') : LayAt CL H' p n its := by
  obtain ⟨dx, t, fs, rows, h1, h2, h3, h4, h5⟩ := x
  exact ⟨dx, t, fs, rows, s _ _ h1, h2, h3, s _ _ h4, h5.same s⟩
abbrev sInit : Stmt := inClass (topS 16) 0
theorem scInit : FnScope ["self", "servers", "items", "index", "item"] ["self", "servers", "items"] (defScope sInit) := ⟨rfl, rfl, rfl, by decide +kernel, rfl, by decide +kernel, by decide +kernel⟩
def spInit (CL : Addr) : Sp := fun vs H Q _ => ∃ (x dx l : Addr) (n : Int) (rows : List V) (its : List (List Int × Int)), vs = [.ref x, .int n, .ref l] ∧ H x = some (.ins CL dx []) ∧ H l = some (.lst rows) ∧ ItemsAt H rows its ∧ (∀ it ∈ its, GoodIt n it) ∧
  1 ≤ n ∧ n ≤ 8 ∧ 1 ≤ its.length ∧ its.length ≤ 10 ∧ ∀ H', (∀ b o, b ≠ x → H b = some o → H' b = some o) → LayAt CL H' x n its → Q .non H'
theorem ok_init {f fN fS fI fE fT CL : Addr} {fd fdN fdS fdT : FuncData} (F : Fun K "__init__" "Layout.__init__" sInit f fd) (B : Bi mg) (Z : Nu mg) (L : LayC K mg CL fI fE) (DN : Df K mg "is_number" sNum ["thing", "least", "most"] fN fdN) (DS : Df K mg "is_set" sSet ["thing", "servers"] fS fdS)
    (DT : Df K mg "is_item" sItem ["thing", "servers"] fT fdT) : FnOk P w K mg base CX0 4 f fd ["self", "servers", "items"] (spInit CL) := by
  have GN : FnOk P w K mg base CX0 1 fN fdN ["thing", "least", "most"] spNum := ok_num DN B
  have GT : FnOk P w K mg base CX0 3 fT fdT ["thing", "servers"] spItem := ok_item DT B DN DS
  obtain ⟨⟨t8, h8⟩, ⟨t10, h10⟩, _⟩ := Z
  refine F.ok scInit (fun vs H Q E h => ?_) (fun cdv A outer s H vs Q E hr h => ?_)
  · obtain ⟨_, _, _, _, _, _, rfl, _⟩ := h
    rfl
  · obtain ⟨x, dx, l, n, rows, its, rfl, hx, hl, hI, hg, n1, n8, i1, i10, q⟩ := h
    have hr1 : Room 1 _ := hr.mono (by decide)
    refine ⟨_, pss_cons (ps_if (pt_not <| pt_val <| pe_call GN hr1 (by rfl) DN.g DN.k DN.b .nil pass0 <| pa_cons (pv 1) <| pa_cons pe_int <| pa_cons (pe_glob (v := .int 8) (by rfl) h8 ⟨_, rfl⟩) pa_nil) (pss_one ps_never) pss_nil) <|
      pss_cons (ps_if (PW.pt <| pw_or (pt_not <| pt_val <| pe_callB call_isiT (by rfl) B.isi boot_isinstance <| pa_cons (pv 2) <|
            pa_cons (pe_tup <| pa_cons (pe_bltn (v := .ty "list") (by rfl) B.lst boot_list rfl) <| pa_cons (pe_bltn (v := .ty "tuple") (by rfl) B.tup boot_tuple rfl) pa_nil) pa_nil) <|
          pw_or1 <| pt_not <| pt_chain op_le op_le pe_int (pe_callB call_len_seq (by rfl) B.len boot_len <| pa_cons (pv 2) pa_nil) (pe_glob (v := .int 10) (by rfl) h10 ⟨_, rfl⟩)) (pss_one ps_never) pss_nil) <|
      pss_cons (ps_for PassesOwn.never rfl (pi_enum (by rfl) B.enm <| pa_cons (pv 2) pa_nil) (pg_tup rfl <| pgs_cons (pg_name (i := 3) scInit.nd rfl (.inl rfl)) <| pgs_cons (pg_name (i := 4) scInit.nd rfl (.inl rfl)) pgs_nil) <|
        pss_one <| ps_if (pt_not <| pt_val <| pe_call GT hr (by rfl) DT.g DT.k DT.b .nil pass0 <| pa_cons (pv 4) <| pa_cons (pv 1) pa_nil) (pss_one ps_never) pss_nil) <|
      pss_cons (ps_fld (pv 0) (pv 1) rfl) <| pss_one <| ps_fld (pv 0) (pe_callTy call_tuple_of (by rfl) B.tup boot_tuple <| pa_cons (pv 2) pa_nil) rfl, ?_⟩
    refine ⟨_, rfl, n, 1, 8, rfl, _, rfl, ?_⟩
    rw [decide_eq_true (show 1 ≤ n ∧ n ≤ 8 from ⟨n1, n8⟩)]
    refine iteF ?_
    -- isinstance(items, (list, tuple))
    refine ⟨.ref l, rfl, (by show 2 ≤ sizeLine; decide), fun tp ntp => ?_⟩
    have s1 : Same H (upd H tp (.tup [.ty "list", .ty "tuple"])) := same_upd ntp
    refine ⟨.ref l, tp, _, .type "list", _, true, rfl, upd_same, .cons (.ty "list") (.cons (.ty "tuple") .nil), .base (.lst (s1 _ _ hl)), kitAny_cons (b := true) (kit_ty (by decide +kernel)) (fun z => nomatch z) (fun _ => rfl), true, rfl, iteF ?_⟩
    have hlen : rows.length = its.length := hI.1
    refine ⟨.ref l, rfl, l, rows, rfl, .inl (.inl (.inl (s1 _ _ hl))), 1, _, rfl, rfl, true, by show V.bl (decide ((1 : Int) ≤ (rows.length : Int))) = V.bl true; rw [decide_eq_true (show (1 : Int) ≤ (rows.length : Int) by omega)], iteT ⟨_, 10, rfl, rfl, true, by show V.bl (decide ((rows.length : Int) ≤ 10)) = V.bl true; rw [decide_eq_true (show (rows.length : Int) ≤ 10 by omega)], iteF ?_⟩⟩
    -- the loop
    refine ⟨.ref l, rfl, l, rows, rfl, .inl (.inl (s1 _ _ hl)), for_it (walk_enum (xs := rows)) (fun i σ H' => ∃ y3 y4, σ = [some (.ref x), some (.int n), some (.ref l), y3, y4] ∧ Same H H') ⟨none, none, rfl, s1⟩ (fun i σ H' _ ⟨_, _, _, s⟩ => .inl (.inl (s _ _ hl))) ?_ ?_⟩
    · rintro i v σ H1 H2 hi ⟨y3, y4, rfl, s2⟩ ⟨T, v1, v2, rfl, nT, rfl, e1, e2⟩
      cases e1
      have s3 : Same H (upd H1 T (.tup [.int (i : Nat), v2])) := same_new s2 nT
      obtain ⟨it, hit⟩ : ∃ it, its[i]? = some it := ⟨its[i]'(by omega), List.getElem?_eq_getElem (by omega)⟩
      obtain ⟨a, rfl, ha⟩ := hI.2 i v2 it e2 hit
      obtain ⟨g1, g2, g3⟩ := hg it (List.mem_of_getElem? hit)
      refine ⟨T, _, rfl, .inl (.inl upd_same), rfl, _, _, rfl, _, _, rfl, rfl, ?_⟩
      refine ⟨_, rfl, _, rfl, a, n, it, rfl, ha.same s3, g1, g2, fun H3 s4 => ⟨_, rfl, ?_⟩⟩
      rw [g3]
      exact iteF ⟨_, _, rfl, s3.trans s4⟩
    · rintro σ H1 ⟨y3, y4, rfl, s2⟩
      refine ⟨_, rfl, _, rfl, x, CL, dx, [], rfl, s2 _ _ hx, L.cl, L.nS, by decide, ?_⟩
      have nl : l ≠ x := ne_of hl hx (by intro z; cases z)
      have hl1 : (upd H1 x (.ins CL dx (putF "servers" (.int n) []))) l = some (.lst rows) := by
        rw [upd_ne nl]
        exact s2 _ _ hl
      refine ⟨_, rfl, l, rows, rfl, .inl ⟨.inl (.inl hl1), fun t nt => ?_⟩⟩
      have nxt : x ≠ t := ne_of_none upd_same nt
      refine ⟨_, rfl, x, CL, dx, _, rfl, by rw [upd_ne nxt]; exact upd_same, L.cl, L.nE, by show (1 : Nat) < 1000; decide, ?_⟩
      have keep : ∀ b o, b ≠ x → H b = some o → upd (upd (upd H1 x (.ins CL dx (putF "servers" (.int n) []))) t (.tup rows)) x (.ins CL dx (putF "entries" (.ref t) (putF "servers" (.int n) []))) b = some o := by
        intro b o hb e
        have e1 : upd H1 x (.ins CL dx (putF "servers" (.int n) [])) b = some o := by
          rw [upd_ne hb]
          exact s2 _ _ e
        rw [upd_ne hb, upd_ne (ne_of_none e1 nt)]
        exact e1
      refine q _ keep ⟨dx, t, _, rows, upd_same, ?_, ?_, ?_, hI.1, fun i v it h1 h2 => ?_⟩
      · rw [lookup_putF, if_neg (by decide), lookup_putF, if_pos rfl]
      · rw [lookup_putF, if_pos rfl]
      · rw [upd_ne (Ne.symm nxt)]
        exact upd_same
      · obtain ⟨a, e, h, ha, hh⟩ := hI.2 i v it h1 h2
        exact ⟨a, e, h, keep _ _ (ne_of ha hx (by intro z; cases z)) ha, keep _ _ (ne_of hh hx (by intro z; cases z)) hh⟩
end
end Kx
set_option maxRecDepth 100000
set_option maxHeartbeats 4000000
namespace Kx
open PySem PySem.Spec PyProof.Rows L2
/-! data of layouts, for == -/
def itD (it : List Int × Int) : PyData := .tuple [.tuple (it.1.map PyData.int), .int it.2]
theorem can_ints : ∀ ns : List Int, PyData.canLayAll0 (ns.map PyData.int) = true
  | [] => rfl
  | n :: r => by
    have h := can_ints r
    simp [PyData.canLayAll0, PyData.canLay0, h]
theorem dep_ints : ∀ ns : List Int, PyData.depthAll (ns.map PyData.int) = 0
  | [] => rfl
  | n :: r => by
    have h := dep_ints r
    simp [PyData.depthAll, PyData.depth, h]
theorem can_its : ∀ its : List (List Int × Int), PyData.canLayAll0 (its.map itD) = true
  | [] => rfl
  | it :: r => by
    have h := can_its r
    simp [PyData.canLayAll0, PyData.canLay0, itD, h, can_ints]
theorem dep_its : ∀ its : List (List Int × Int), PyData.depthAll (its.map itD) ≤ 2
  | [] => by simp [PyData.depthAll]
  | it :: r => by
    have h := dep_its r
    simp only [List.map_cons, PyData.depthAll, PyData.depth, itD, dep_ints]
    omega
section
variable {K : PySem.W.Frag} {H : Hp}
theorem dp_ints : ∀ ns : List Int, DpAll K H (ns.map V.int) (ns.map PyData.int)
  | [] => .nil
  | n :: r => .cons (.int n) (dp_ints r)
theorem dp_item {a : Addr} {it : List Int × Int} (h : ItemAt H a it) : Dp K H (.ref a) (itD it) := by
  obtain ⟨h, h1, h2⟩ := h
  exact .tup (.inl (.inl h1)) (.cons (.tup (.inl (.inl h2)) (dp_ints _)) (.cons (.int _) .nil))
theorem dp_items : ∀ {rows : List V} {its : List (List Int × Int)}, ItemsAt H rows its → DpAll K H rows (its.map itD)
  | [], [], _ => .nil
  | [], _ :: _, h => by cases h.1
  | _ :: _, [], h => by cases h.1
  | v :: rows, it :: its, h => by
    obtain ⟨a, e, q⟩ := h.2 0 v it rfl rfl
    subst e
    refine .cons (dp_item q) (dp_items ⟨Nat.succ.inj h.1, fun i v' it' h1 h2 => h.2 (i + 1) v' it' h1 h2⟩)
end
def layD (n : Int) (its : List (List Int × Int)) : PyData := .tuple [.int n, .tuple (its.map itD)]
theorem lay_shaped (n : Int) (its : List (List Int × Int)) : SeqAt.shaped (layD n its) = true := by
  have h1 : (layD n its).canLay0 = true := by simp [layD, PyData.canLay0, PyData.canLayAll0, can_its]
  have h2 : (layD n its).depth ≤ 64 := by
    have := dep_its its
    simp only [layD, PyData.depth, PyData.depthAll]
    omega
  unfold SeqAt.shaped
  rw [h1, decide_eq_true h2]
  rfl
theorem eqv_self {d : PyData} (h : SeqAt.shaped d = true) : PyData.eqv d d = true := SeqAt.eqv_refl d (SeqAt.canLay_of_shaped h)
section
variable {P : Program} {w : World} {K : PySem.W.Frag} {mg : Str → Option Value} {base : Heap}
abbrev sEq : Stmt := inClass (topS 16) 1
theorem scEq : FnScope ["self", "other"] ["self", "other"] (defScope sEq) := ⟨rfl, rfl, rfl, by decide +kernel, rfl, by decide +kernel, by decide +kernel⟩
/-- two layouts alike -/
def spEqL (CL : Addr) : Sp := fun vs H Q _ => ∃ (a b : Addr) (n : Int) (its : List (List Int × Int)), vs = [.ref a, .ref b] ∧ LayAt CL H a n its ∧ LayAt CL H b n its ∧ ∀ H', Same H H' → Q (.bl true) H'
theorem ok_eq {f fI CL : Addr} {fd : FuncData} (F : Fun K "__eq__" "Layout.__eq__" sEq f fd) (B : Bi mg) (L : LayC K mg CL fI f) : FnOk P w K mg base CX0 1 f fd ["self", "other"] (spEqL CL) := by
  refine F.ok scEq (fun vs H Q E h => ?_) (fun cdv A outer s H vs Q E hr h => ?_)
  · obtain ⟨_, _, _, _, rfl, _⟩ := h
    rfl
  · obtain ⟨a, b, n, its, rfl, ⟨dx, t, fs, rows, a1, a2, a3, a4, a5⟩, ⟨dy, u, gs, rowz, b1, b2, b3, b4, b5⟩, q⟩ := h
    refine ⟨_, pss_one <| ps_ret <| pe_and (pe_callB call_isi (by rfl) B.isi boot_isinstance <| pa_cons (pv 1) <| pa_cons (pe_glob (v := .ref CL) (by rfl) L.g rfl) pa_nil) <|
      pe_one <| pe_cmpR (op_eqD hr.units) (pe_tup <| pa_cons (pe_fld (pv 0) rfl) <| pa_cons (pe_fld (pv 0) rfl) pa_nil) (pe_tup <| pa_cons (pe_fld (pv 1) rfl) <| pa_cons (pe_fld (pv 1) rfl) pa_nil) (nomark _), ?_⟩
    refine ⟨.ref b, rfl, .ref b, .ref CL, _, _, true, rfl, .own CL, .base (.ins b1 L.cl L.cA L.cN L.cT L.cM), L.ki, true, rfl, iteT ?_⟩
    refine ⟨.ref a, rfl, a, CL, dx, fs, _, rfl, a1, L.cl, L.nS, a2, .ref a, rfl, a, CL, dx, fs, _, rfl, a1, L.cl, L.nE, a3, by show 2 ≤ sizeLine; decide, fun p np => ?_⟩
    have s1 : Same H (upd H p (.tup [.int n, .ref t])) := same_upd np
    refine ⟨.ref b, rfl, b, CL, dy, gs, _, rfl, s1 _ _ b1, L.cl, L.nS, b2, .ref b, rfl, b, CL, dy, gs, _, rfl, s1 _ _ b1, L.cl, L.nE, b3, by show 2 ≤ sizeLine; decide, fun r nr => ?_⟩
    have s2 : Same H (upd (upd H p (.tup [.int n, .ref t])) r (.tup [.int n, .ref u])) := same_new s1 nr
    have hp : upd (upd H p (.tup [.int n, .ref t])) r (.tup [.int n, .ref u]) p = some (.tup [.int n, .ref t]) := (same_upd nr) _ _ upd_same
    refine ⟨layD n its, layD n its, .tup (.inl (.inl hp)) (.cons (.int n) (.cons (.tup (.inl (.inl (s2 _ _ a4))) (dp_items (a5.same s2))) .nil)),
      .tup (.inl (.inl upd_same)) (.cons (.int n) (.cons (.tup (.inl (.inl (s2 _ _ b4))) (dp_items (b5.same s2))) .nil)), lay_shaped _ _, lay_shaped _ _, ?_⟩
    rw [eqv_self (lay_shaped n its)]
    exact q _ s2
abbrev sChk : Stmt := topS 17
theorem scChk : FnScope ["layout"] ["layout"] (defScope sChk) := ⟨rfl, rfl, rfl, by decide +kernel, rfl, by decide +kernel, by decide +kernel⟩
def spChk (CL : Addr) : Sp := fun vs H Q _ => ∃ (a : Addr) (n : Int) (its : List (List Int × Int)), vs = [.ref a] ∧ LayAt CL H a n its ∧ Q .non H
theorem ok_chk {f fI fE CL : Addr} {fd : FuncData} (D : Df K mg "check_layout" sChk ["layout"] f fd) (B : Bi mg) (L : LayC K mg CL fI fE) : FnOk P w K mg base CX0 1 f fd ["layout"] (spChk CL) := by
  refine D.F.ok scChk (fun vs H Q E h => ?_) (fun cdv A outer s H vs Q E hr h => ?_)
  · obtain ⟨_, _, _, rfl, _⟩ := h
    rfl
  · obtain ⟨a, n, its, rfl, ⟨dx, t, fs, rows, a1, a2, a3, a4, a5⟩, q⟩ := h
    refine ⟨_, pss_one <| ps_if (pt_not <| pt_val <| pe_callB call_isi (by rfl) B.isi boot_isinstance <| pa_cons (pv 0) <| pa_cons (pe_glob (v := .ref CL) (by rfl) L.g rfl) pa_nil) (pss_one ps_never) pss_nil, ?_⟩
    exact ⟨.ref a, rfl, .ref a, .ref CL, _, _, true, rfl, .own CL, .base (.ins a1 L.cl L.cA L.cN L.cT L.cM), L.ki, true, rfl, iteF q⟩
end
end Kx
set_option maxRecDepth 100000
set_option maxHeartbeats 4000000
/-! texts as lists of signs: reading, writing, bending -/
namespace Kx
open PySem TL
def dg : List Nat → Option Int
  | [c] => if 48 ≤ c ∧ c ≤ 57 then some ((c : Int) - 48) else none
  | _ => none
def dgs : List (List Nat) → Option (List Int)
  | [] => some []
  | w :: r => match dg w, dgs r with
    | some d, some ds => some (d :: ds)
    | _, _ => none
def words (l : List Nat) : List (List Nat) := spl [32] 0 [] l
def lns (t : List Nat) : List (List Nat) := spl [10] 0 [] t
theorem spl_len (s : Nat) : ∀ (l acc : List Nat), (spl [s] 0 acc l).length ≤ l.length + 1
  | [], acc => by simp [spl_nil]
  | c :: r, acc => by
    cases h : pre [s] (c :: r) with
    | true =>
      rw [spl_hit h]
      have := spl_len s r []
      simp only [List.length_cons] at this ⊢
      show (spl [s] 0 [] r).length + 1 ≤ _
      omega
    | false =>
      rw [spl_miss h]
      have := spl_len s r (acc ++ [c])
      simp only [List.length_cons]
      omega
theorem spl_ne (s : Nat) : ∀ (l acc : List Nat), spl [s] 0 acc l ≠ []
  | [], acc => by simp [spl_nil]
  | c :: r, acc => by
    cases h : pre [s] (c :: r) with
    | true =>
      rw [spl_hit h]
      simp
    | false =>
      rw [spl_miss h]
      exact spl_ne s r _
def NEED : List Nat := [110, 101, 101, 100]
def OF : List Nat := [111, 102]
def SERV : List Nat := [115, 101, 114, 118, 101, 114, 115]
def itemIn (ws : List (List Nat)) (n : Int) : Option (List Int × Int) :=
  if ws.length < 4 ∨ ws.getD 0 [] ≠ NEED ∨ ws.getD 2 [] ≠ OF then none
  else match dgs (ws.getD 1 [] :: ws.drop 3) with
    | some (k :: ns) => if isItem ns k n = true then some (ns, k) else none
    | _ => none
def pairIn (ws : List (List Nat)) (n : Int) : Option (Int × Int) :=
  if ws.length ≠ 3 ∨ ws.getD 1 [] ≠ [62] then none
  else match dg (ws.getD 0 []), dg (ws.getD 2 []) with
    | some a, some b => if n ≤ max a b ∨ a = b then none else some (a, b)
    | _, _ => none
def srvIn (ls : List (List Nat)) : Option Int :=
  match ls with
  | [] => none
  | l :: _ => if (words l).length = 2 ∧ (words l).getD 0 [] = SERV then
      match dg ((words l).getD 1 []) with
      | some m => if 1 ≤ m ∧ m ≤ 8 then some m else none
      | none => none
    else none
def readF {α : Type} (f : List Nat → Option α) (cap : Nat) : Nat → List (List Nat) → List α → Nat ⊕ List α
  | _, [], acc => .inr acc
  | i, l :: r, acc => match f l with
    | none => .inl i
    | some x => if acc.length = cap then .inl i else readF f cap (i + 1) r (acc ++ [x])
def readLay (t : List Nat) : Nat ⊕ (Int × List (List Int × Int)) :=
  match srvIn (lns t).dropLast with
  | none => .inl 0
  | some n => match readF (fun l => itemIn (words l) n) 10 1 ((lns t).dropLast.drop 1) [] with
    | .inl k => .inl k
    | .inr its => if (lns t).getLastD [] ≠ [] ∨ its = [] then .inl (lns t).dropLast.length else .inr (n, its)
def readMv (t : List Nat) : Nat ⊕ (Int × List (Int × Int)) :=
  match srvIn (lns t).dropLast with
  | none => .inl 0
  | some n => match readF (fun l => pairIn (words l) n) 16 1 ((lns t).dropLast.drop 1) [] with
    | .inl k => .inl k
    | .inr its => if (lns t).getLastD [] ≠ [] then .inl (lns t).dropLast.length else .inr (n, its)
/-! ### what is written -/
abbrev jn : List (List Nat) → List Nat := joinL [32]
def wd (x : Int) : List Nat := [48 + x.toNat]
def itW (it : List Int × Int) : List (List Nat) := NEED :: wd it.2 :: OF :: it.1.map wd
def mvW (p : Int × Int) : List (List Nat) := [wd p.1, [62], wd p.2]
def fsW (n : Int) : List (List Nat) := [SERV, wd n]
def iL (it : List Int × Int) : List Nat := jn (itW it)
def mL (p : Int × Int) : List Nat := jn (mvW p)
def fL (n : Int) : List Nat := jn (fsW n)
def tx (ls : List (List Nat)) : List Nat := (ls.map fun l => l ++ [10]).flatten
/-- a drawn item of n servers; a drawn transfer -/
structure Drw (n : Int) (it : List Int × Int) : Prop where
  ok : isItem it.1 it.2 n = true
  ne : it.1 ≠ []
  le : it.1.length ≤ 8
def Mvd (n : Int) (p : Int × Int) : Prop := 0 ≤ p.1 ∧ p.1 < n ∧ 0 ≤ p.2 ∧ p.2 < n ∧ p.1 ≠ p.2
theorem words_jn {ws : List (List Nat)} (h : ws ≠ []) (hw : ∀ w ∈ ws, 32 ∉ w) : words (jn ws) = ws := spl_join h hw
theorem dg_wd {x : Int} (h0 : 0 ≤ x) (h9 : x ≤ 9) : dg (wd x) = some x := by
  show (if 48 ≤ 48 + x.toNat ∧ 48 + x.toNat ≤ 57 then some (((48 + x.toNat : Nat) : Int) - 48) else none) = some x
  rw [if_pos (by omega)]
  congr 1
  omega
theorem dgs_wd : ∀ {ns : List Int}, (∀ x ∈ ns, 0 ≤ x ∧ x ≤ 9) → dgs (ns.map wd) = some ns
  | [], _ => rfl
  | x :: r, h => by
    have h1 := h x (List.mem_cons_self ..)
    have ih := dgs_wd fun y hy => h y (List.mem_cons_of_mem _ hy)
    simp only [List.map_cons, dgs, dg_wd h1.1 h1.2, ih]
theorem dgs_none : ∀ {ws : List (List Nat)} {w : List Nat}, w ∈ ws → dg w = none → dgs ws = none
  | v :: r, w, h, hw => by
    rcases List.mem_cons.mp h with e | h
    · subst e
      simp only [dgs, hw]
    · have ih := dgs_none h hw
      simp only [dgs, ih]
      cases dg v <;> rfl
theorem free_wd (x s : Int) (h : s.toNat < 48) : s.toNat ∉ wd x := by
  simp only [wd, List.mem_singleton]
  omega
theorem free32 (x : Int) : 32 ∉ wd x := by simp only [wd, List.mem_singleton]; omega
theorem Drw.bd {n : Int} {it : List Int × Int} (h : Drw n it) (hn : n ≤ 8) : (∀ x ∈ it.1, 0 ≤ x ∧ x ≤ 7) ∧ 1 ≤ it.2 ∧ it.2 ≤ 8 := by
  have h1 := h.ok
  simp only [isItem, isSet, within, Bool.and_eq_true, List.all_eq_true, decide_eq_true_eq] at h1
  obtain ⟨⟨h2, _⟩, h3, h4⟩ := h1
  have := h.le
  refine ⟨fun x hx => ?_, h3, by omega⟩
  have := h2 x hx
  omega
theorem free_itW (it : List Int × Int) : ∀ w ∈ itW it, 32 ∉ w := by
  intro w hw
  simp only [itW, List.mem_cons, List.mem_map] at hw
  rcases hw with e | e | e | ⟨x, _, e⟩
  · subst e; decide
  · subst e; exact free32 _
  · subst e; decide
  · subst e; exact free32 _
theorem itemIn_ok {n : Int} {it : List Int × Int} (h : Drw n it) (hn : n ≤ 8) : itemIn (itW it) n = some it := by
  obtain ⟨ns, k⟩ := it
  obtain ⟨hb, k1, k8⟩ := h.bd hn
  have hl : 0 < ns.length := List.length_pos_iff.mpr h.ne
  have hd : dgs (wd k :: ns.map wd) = some (k :: ns) := dgs_wd (ns := k :: ns) fun x hx => by
    rcases List.mem_cons.mp hx with e | hx
    · subst e
      have : 1 ≤ x := k1
      have : x ≤ 8 := k8
      omega
    · have := hb x hx
      omega
  unfold itemIn
  rw [if_neg]
  · show (match dgs (wd k :: ns.map wd) with | some (k :: ns) => if isItem ns k n = true then some (ns, k) else none | _ => none) = _
    rw [hd]
    show (if isItem ns k n = true then some (ns, k) else none) = _
    rw [if_pos h.ok]
  · rintro (z | z | z)
    · simp only [itW, List.length_cons, List.length_map] at z
      omega
    · exact z rfl
    · exact z rfl
theorem pairIn_ok {n : Int} {p : Int × Int} (h : Mvd n p) (hn : n ≤ 8) : pairIn (mvW p) n = some p := by
  obtain ⟨a, b⟩ := p
  obtain ⟨h1, h2, h3, h4, h5⟩ := h
  simp only at h1 h2 h3 h4 h5
  unfold pairIn
  rw [if_neg]
  · show (match dg (wd a), dg (wd b) with | some a, some b => if n ≤ max a b ∨ a = b then none else some (a, b) | _, _ => none) = _
    rw [dg_wd h1 (by omega), dg_wd h3 (by omega)]
    show (if n ≤ max a b ∨ a = b then none else some (a, b)) = _
    rw [if_neg (by omega)]
  · rintro (z | z)
    · exact z rfl
    · exact z rfl
theorem free_mvW (p : Int × Int) : ∀ w ∈ mvW p, 32 ∉ w := by
  intro w hw
  simp only [mvW, List.mem_cons, List.not_mem_nil, or_false] at hw
  rcases hw with e | e | e
  · subst e; exact free32 _
  · subst e; decide
  · subst e; exact free32 _
theorem free_fsW (n : Int) : ∀ w ∈ fsW n, 32 ∉ w := by
  intro w hw
  simp only [fsW, List.mem_cons, List.not_mem_nil, or_false] at hw
  rcases hw with e | e
  · subst e; decide
  · subst e; exact free32 _
theorem words_iL (it : List Int × Int) : words (iL it) = itW it := words_jn (by simp [itW]) (free_itW it)
theorem words_mL (p : Int × Int) : words (mL p) = mvW p := words_jn (by simp [mvW]) (free_mvW p)
theorem words_fL (n : Int) : words (fL n) = fsW n := words_jn (by simp [fsW]) (free_fsW n)
theorem srvIn_ok {n : Int} (h1 : 1 ≤ n) (h8 : n ≤ 8) (r : List (List Nat)) : srvIn (fL n :: r) = some n := by
  unfold srvIn
  simp only [words_fL]
  rw [if_pos ⟨rfl, rfl⟩]
  show (match dg (wd n) with | some m => if 1 ≤ m ∧ m ≤ 8 then some m else none | none => none) = _
  rw [dg_wd (by omega) (by omega)]
  show (if 1 ≤ n ∧ n ≤ 8 then some n else none) = _
  rw [if_pos ⟨h1, h8⟩]
end Kx
set_option maxRecDepth 100000
set_option maxHeartbeats 4000000
namespace Kx
open PySem TL PySem.StrLaws
/-! ### bent lines -/
def bend (k : Nat) (l : List Nat) : List Nat := match k with
  | 0 => 32 :: l
  | 1 => l ++ [32]
  | 2 => l ++ [32, 57]
  | 3 => []
  | 4 => replL [32] [32, 32] l
  | 5 => l ++ [44]
  | _ => 120 :: l
def dbl : List (List Nat) → List (List Nat)
  | [] => []
  | [w] => [w]
  | w :: v :: r => w :: [] :: dbl (v :: r)
theorem jn_snoc (x : List Nat) : ∀ {ws : List (List Nat)}, ws ≠ [] → jn (ws ++ [x]) = jn ws ++ (32 :: x)
  | [], h => absurd rfl h
  | [w], _ => rfl
  | w :: v :: r, _ => by
    show w ++ (32 :: jn ((v :: r) ++ [x])) = (w ++ (32 :: jn (v :: r))) ++ (32 :: x)
    rw [jn_snoc x (by simp), List.append_assoc]
    rfl
theorem jn_last (c : Nat) (x : List Nat) : ∀ ws : List (List Nat), jn (ws ++ [x]) ++ [c] = jn (ws ++ [x ++ [c]])
  | [] => rfl
  | [w] => by
    show (w ++ (32 :: x)) ++ [c] = w ++ (32 :: (x ++ [c]))
    simp
  | w :: v :: r => by
    show (w ++ (32 :: jn ((v :: r) ++ [x]))) ++ [c] = w ++ (32 :: jn ((v :: r) ++ [x ++ [c]]))
    rw [← jn_last c x (v :: r)]
    simp
theorem jn_head (c : Nat) (w : List Nat) (r : List (List Nat)) : c :: jn (w :: r) = jn ((c :: w) :: r) := by
  cases r with
  | nil => rfl
  | cons v r => rfl
theorem repl_free : ∀ (w : List Nat), 32 ∉ w → ∀ r : List Nat, replL [32] [32, 32] (w ++ r) = w ++ replL [32] [32, 32] r
  | [], _, r => rfl
  | c :: w, h, r => by
    have hc : c ≠ 32 := fun e => h (by simp [e])
    have hw : 32 ∉ w := fun e => h (List.mem_cons_of_mem _ e)
    show replL [32] [32, 32] (c :: (w ++ r)) = c :: (w ++ replL [32] [32, 32] r)
    rw [replL_miss (by simpa using hc), repl_free w hw r]
theorem repl_sp (r : List Nat) : replL [32] [32, 32] (32 :: r) = 32 :: 32 :: replL [32] [32, 32] r := by
  rw [replL_hit (by simp) (by simp)]
  rfl
theorem repl_nil : replL [32] [32, 32] [] = [] := replL_nil
theorem repl_jn : ∀ {ws : List (List Nat)}, (∀ w ∈ ws, 32 ∉ w) → replL [32] [32, 32] (jn ws) = jn (dbl ws)
  | [], _ => repl_nil
  | [w], h => by
    have := repl_free w (h w (by simp)) []
    rw [List.append_nil, repl_nil, List.append_nil] at this
    exact this
  | w :: v :: r, h => by
    show replL [32] [32, 32] (w ++ (32 :: jn (v :: r))) = w ++ (32 :: jn ([] :: dbl (v :: r)))
    rw [repl_free w (h w (by simp)), repl_sp, repl_jn fun z hz => h z (List.mem_cons_of_mem _ hz)]
    have e : ∀ r : List (List Nat), r ≠ [] → jn ([] :: r) = 32 :: jn r := by
      intro r hr
      cases r with
      | nil => exact absurd rfl hr
      | cons z r => rfl
    rw [e (dbl (v :: r)) (by cases r <;> simp [dbl])]
theorem free_dbl : ∀ {ws : List (List Nat)}, (∀ w ∈ ws, 32 ∉ w) → ∀ w ∈ dbl ws, 32 ∉ w
  | [], _, w, hw => by simp [dbl] at hw
  | [x], h, w, hw => h w hw
  | x :: v :: r, h, w, hw => by
    rcases List.mem_cons.mp hw with e | hw
    · exact h w (by simp [e])
    · rcases List.mem_cons.mp hw with e | hw
      · subst e; simp
      · exact free_dbl (fun z hz => h z (List.mem_cons_of_mem _ hz)) w hw
/-- the words of a bent line -/
def bendW (k : Nat) (ws : List (List Nat)) : List (List Nat) := match k with
  | 0 => [] :: ws
  | 1 => ws ++ [[]]
  | 2 => ws ++ [[57]]
  | 3 => [[]]
  | 4 => dbl ws
  | 5 => ws.dropLast ++ [ws.getLastD [] ++ [44]]
  | _ => (120 :: ws.headD []) :: ws.drop 1
theorem lastD_snoc {α : Type} (r : List α) (x d : α) : (r ++ [x]).getLastD d = x := by
  rw [List.getLastD_eq_getLast?, List.getLast?_concat]
  rfl
theorem words_bend (k : Nat) {ws : List (List Nat)} (h : ws ≠ []) (hw : ∀ w ∈ ws, 32 ∉ w) : words (bend k (jn ws)) = bendW k ws := by
  obtain ⟨r0, x0, e0⟩ : ∃ r x, ws = r ++ [x] := ⟨_, _, (List.dropLast_concat_getLast h).symm⟩
  have hl : ws.dropLast ++ [ws.getLastD []] = ws := by
    rw [e0, lastD_snoc, List.dropLast_concat]
  have hln : 32 ∉ ws.getLastD [] := by
    rw [e0, lastD_snoc]
    exact hw _ (by rw [e0]; simp)
  unfold bend bendW
  split
  · have e : 32 :: jn ws = jn ([] :: ws) := by
      cases ws with
      | nil => exact absurd rfl h
      | cons w r => rfl
    rw [e]
    exact words_jn (by simp) fun w m => by
      rcases List.mem_cons.mp m with z | z
      · subst z; simp
      · exact hw w z
  · have e : jn ws ++ [32] = jn (ws ++ [[]]) := (jn_snoc [] h).symm
    rw [e]
    exact words_jn (by simp) fun w m => by
      rcases List.mem_append.mp m with z | z
      · exact hw w z
      · rw [List.mem_singleton] at z; subst z; simp
  · have e : jn ws ++ [32, 57] = jn (ws ++ [[57]]) := (jn_snoc [57] h).symm
    rw [e]
    exact words_jn (by simp) fun w m => by
      rcases List.mem_append.mp m with z | z
      · exact hw w z
      · rw [List.mem_singleton] at z; subst z; simp
  · rfl
  · rw [repl_jn hw]
    refine words_jn ?_ (free_dbl hw)
    cases ws with
    | nil => exact absurd rfl h
    | cons w r => cases r <;> simp [dbl]
  · have e : jn ws ++ [44] = jn (ws.dropLast ++ [ws.getLastD [] ++ [44]]) := by
      rw [← jn_last, hl]
    rw [e]
    exact words_jn (by simp) fun w m => by
      rcases List.mem_append.mp m with z | z
      · exact hw w (by rw [← hl]; exact List.mem_append_left _ z)
      · rw [List.mem_singleton] at z
        subst z
        simp only [List.mem_append, List.mem_singleton, not_or]
        exact ⟨hln, by decide⟩
  · cases ws with
    | nil => exact absurd rfl h
    | cons w r =>
      rw [jn_head]
      exact words_jn (by simp) fun z m => by
        rcases List.mem_cons.mp m with e | e
        · subst e
          simp only [List.headD_cons, List.mem_cons, not_or]
          exact ⟨by decide, hw w (by simp)⟩
        · exact hw z (List.mem_cons_of_mem _ e)
theorem item_bent (k : Nat) {n : Int} {it : List Int × Int} (h : Drw n it) (hn : n ≤ 8) : itemIn (words (bend k (iL it))) n = none := by
  rw [show iL it = jn (itW it) from rfl, words_bend k (by simp [itW]) (free_itW it)]
  obtain ⟨ns, v⟩ := it
  obtain ⟨hb, k1, k8⟩ := h.bd hn
  have bad : ∀ ws : List (List Nat), (ws.length < 4 ∨ ws.getD 0 [] ≠ NEED ∨ ws.getD 2 [] ≠ OF) → itemIn ws n = none := by
    intro ws hz
    unfold itemIn
    rw [if_pos hz]
  have noD : ∀ (ws : List (List Nat)) (w : List Nat), w ∈ (ws.getD 1 [] :: ws.drop 3) → dg w = none → itemIn ws n = none := by
    intro ws w hw hd
    unfold itemIn
    rw [dgs_none hw hd]
    split <;> rfl
  unfold bendW
  split
  · exact bad _ (.inr (.inl (by simp [NEED])))
  · refine noD _ [] ?_ rfl
    simp [itW]
  · -- one more number, 9
    have hd : dgs (wd v :: (ns ++ [9]).map wd) = some (v :: (ns ++ [9])) := dgs_wd (ns := v :: (ns ++ [9])) fun x hx => by
      rcases List.mem_cons.mp hx with e | hx
      · have : 1 ≤ v := k1
        have : v ≤ 8 := k8
        omega
      · rcases List.mem_append.mp hx with z | z
        · have := hb x z
          omega
        · rw [List.mem_singleton] at z
          omega
    unfold itemIn
    split
    · rfl
    · have e : ((itW (ns, v) ++ [[57]]).getD 1 [] :: (itW (ns, v) ++ [[57]]).drop 3) = wd v :: (ns ++ [9]).map wd := by
        simp [itW, wd]
      rw [e, hd]
      show (if isItem (ns ++ [9]) v n = true then some (ns ++ [9], v) else none) = none
      rw [if_neg]
      intro z
      simp only [isItem, isSet, within, Bool.and_eq_true, List.all_eq_true, decide_eq_true_eq] at z
      have := z.1.1 9 (by simp)
      omega
  · exact bad _ (.inl (by simp))
  · refine bad _ (.inr (.inr ?_))
    have hz : ∃ y r, ns = y :: r := by
      cases ns with
      | nil => exact absurd rfl h.ne
      | cons y r => exact ⟨y, r, rfl⟩
    obtain ⟨y, r, rfl⟩ := hz
    show wd v ≠ OF
    simp [wd, OF]
  · refine noD _ ((itW (ns, v)).getLastD [] ++ [44]) ?_ ?_
    · have hz : ∃ y r, ns = r ++ [y] := by
        refine ⟨ns.getLast h.ne, ns.dropLast, (List.dropLast_concat_getLast h.ne).symm⟩
      obtain ⟨y, r, rfl⟩ := hz
      refine List.mem_cons_of_mem _ ?_
      have e : (itW (r ++ [y], v)).dropLast = NEED :: wd v :: OF :: r.map wd := by
        have e2 : itW (r ++ [y], v) = (NEED :: wd v :: OF :: r.map wd) ++ [wd y] := by simp [itW]
        rw [e2, List.dropLast_concat]
      rw [e]
      simp
    · have hz : ∃ y r, ns = r ++ [y] := ⟨ns.getLast h.ne, ns.dropLast, (List.dropLast_concat_getLast h.ne).symm⟩
      obtain ⟨y, r, rfl⟩ := hz
      have e : (itW (r ++ [y], v)).getLastD [] = wd y := by
        have e2 : itW (r ++ [y], v) = (NEED :: wd v :: OF :: r.map wd) ++ [wd y] := by simp [itW]
        rw [e2, lastD_snoc]
      rw [e]
      rfl
  · exact bad _ (.inr (.inl (by simp [itW, NEED])))
theorem pair_bent (k : Nat) {n : Int} {p : Int × Int} : pairIn (words (bend k (mL p))) n = none := by
  rw [show mL p = jn (mvW p) from rfl, words_bend k (by simp [mvW]) (free_mvW p)]
  obtain ⟨a, b⟩ := p
  have bad : ∀ ws : List (List Nat), (ws.length ≠ 3 ∨ ws.getD 1 [] ≠ [62]) → pairIn ws n = none := by
    intro ws hz
    unfold pairIn
    rw [if_pos hz]
  unfold bendW
  split
  · exact bad _ (.inl (by simp [mvW]))
  · exact bad _ (.inl (by simp [mvW]))
  · exact bad _ (.inl (by simp [mvW]))
  · exact bad _ (.inl (by simp))
  · exact bad _ (.inl (by simp [mvW, dbl]))
  · unfold pairIn
    split
    · rfl
    · show (match dg (wd a), dg (wd b ++ [44]) with | some a, some b => if n ≤ max a b ∨ a = b then none else some (a, b) | _, _ => none) = none
      rw [show dg (wd b ++ [44]) = none from rfl]
      cases dg (wd a) <;> rfl
  · unfold pairIn
    split
    · rfl
    · show (match dg (120 :: wd a), dg (wd b) with | some a, some b => if n ≤ max a b ∨ a = b then none else some (a, b) | _, _ => none) = none
      rw [show dg (120 :: wd a) = none from rfl]
theorem srv_bent (k : Nat) (n : Int) (r : List (List Nat)) : srvIn (bend k (fL n) :: r) = none := by
  have hw : words (bend k (fL n)) = bendW k (fsW n) := words_bend k (by simp [fsW]) (free_fsW n)
  unfold srvIn
  simp only [hw]
  unfold bendW
  split
  · rw [if_neg (by simp [fsW])]
  · rw [if_neg (by simp [fsW])]
  · rw [if_neg (by simp [fsW])]
  · rw [if_neg (by simp)]
  · rw [if_neg (by simp [fsW, dbl])]
  · have e : dg ((((fsW n).dropLast ++ [(fsW n).getLastD [] ++ [44]])).getD 1 []) = none := rfl
    simp only [e]
    split <;> rfl
  · rw [if_neg (by simp [fsW, SERV])]
end Kx
set_option maxRecDepth 100000
set_option maxHeartbeats 4000000
namespace Kx
open PySem TL
/-! ### texts: cut into lines -/
theorem tx_join : ∀ (ls : List (List Nat)) (r : List Nat), tx ls ++ r = joinL [10] (ls ++ [r])
  | [], r => rfl
  | [l], r => by
    show (l ++ [10] ++ []) ++ r = l ++ ([10] ++ r)
    simp
  | l :: m :: ls, r => by
    have ih := tx_join (m :: ls) r
    show (l ++ [10] ++ tx (m :: ls)) ++ r = l ++ ([10] ++ joinL [10] ((m :: ls) ++ [r]))
    rw [← ih]
    simp
theorem lns_tx {ls : List (List Nat)} {r : List Nat} (h : ∀ l ∈ ls, 10 ∉ l) (hr : 10 ∉ r) : lns (tx ls ++ r) = ls ++ [r] := by
  rw [tx_join]
  refine spl_join (by simp) fun p hp => ?_
  rcases List.mem_append.mp hp with z | z
  · exact h p z
  · rw [List.mem_singleton] at z
    rw [z]
    exact hr
theorem lns_tx0 {ls : List (List Nat)} (h : ∀ l ∈ ls, 10 ∉ l) : lns (tx ls) = ls ++ [[]] := by
  have e := lns_tx h (r := []) (by simp)
  rwa [List.append_nil] at e
theorem free_jn {c : Nat} (hc : c ≠ 32) : ∀ {ws : List (List Nat)}, (∀ w ∈ ws, c ∉ w) → c ∉ jn ws
  | [], _ => by simp [jn, joinL]
  | [w], h => h w (by simp)
  | w :: v :: r, h => by
    show c ∉ w ++ ([32] ++ jn (v :: r))
    simp only [List.mem_append, List.mem_singleton, not_or]
    exact ⟨h w (by simp), hc, free_jn hc fun z hz => h z (List.mem_cons_of_mem _ hz)⟩
theorem wd10 (x : Int) : 10 ∉ wd x := by simp only [wd, List.mem_singleton]; omega
theorem iL10 (it : List Int × Int) : 10 ∉ iL it := free_jn (by decide) fun w hw => by
  simp only [itW, List.mem_cons, List.mem_map] at hw
  rcases hw with e | e | e | ⟨x, _, e⟩
  · subst e; decide
  · subst e; exact wd10 _
  · subst e; decide
  · subst e; exact wd10 _
theorem mL10 (p : Int × Int) : 10 ∉ mL p := free_jn (by decide) fun w hw => by
  simp only [mvW, List.mem_cons, List.not_mem_nil, or_false] at hw
  rcases hw with e | e | e
  · subst e; exact wd10 _
  · subst e; decide
  · subst e; exact wd10 _
theorem fL10 (n : Int) : 10 ∉ fL n := free_jn (by decide) fun w hw => by
  simp only [fsW, List.mem_cons, List.not_mem_nil, or_false] at hw
  rcases hw with e | e
  · subst e; decide
  · subst e; exact wd10 _
theorem repl10 : ∀ (l : List Nat), 10 ∉ l → 10 ∉ PySem.StrLaws.replL [32] [32, 32] l
  | [], _ => by rw [repl_nil]; simp
  | c :: r, h => by
    have hr : 10 ∉ r := fun z => h (List.mem_cons_of_mem _ z)
    have hc : c ≠ 10 := fun z => h (by simp [z])
    by_cases e : c = 32
    · subst e
      rw [repl_sp]
      simp only [List.mem_cons, not_or]
      exact ⟨by decide, by decide, repl10 r hr⟩
    · rw [PySem.StrLaws.replL_miss (by simpa using e)]
      simp only [List.mem_cons, not_or]
      exact ⟨fun z => hc z.symm, repl10 r hr⟩
theorem bend10 (k : Nat) {l : List Nat} (h : 10 ∉ l) : 10 ∉ bend k l := by
  unfold bend
  split
  · simp [h]
  · simp [h]
  · simp [h]
  · simp
  · exact repl10 l h
  · simp [h]
  · simp [h]
/-! ### the reading loop -/
theorem readF_ok {α β : Type} {f : List Nat → Option α} {g : β → List Nat} {v : β → α} {cap : Nat} : ∀ (xs : List β) (rest : List (List Nat)) (i : Nat) (acc : List α), (∀ x ∈ xs, f (g x) = some (v x)) → acc.length + xs.length ≤ cap →
    readF f cap i (xs.map g ++ rest) acc = readF f cap (i + xs.length) rest (acc ++ xs.map v)
  | [], rest, i, acc, _, _ => by simp
  | x :: r, rest, i, acc, h, hc => by
    have h1 := h x (by simp)
    simp only [List.length_cons] at hc
    have ih := readF_ok (f := f) (g := g) (v := v) (cap := cap) r rest (i + 1) (acc ++ [v x]) (fun y hy => h y (List.mem_cons_of_mem _ hy)) (by simp; omega)
    show readF f cap i (g x :: (r.map g ++ rest)) acc = _
    simp only [readF, h1]
    rw [if_neg (by omega), ih]
    simp only [List.length_cons, List.map_cons, List.append_assoc, List.singleton_append]
    congr 1
    omega
theorem readF_bad {α : Type} {f : List Nat → Option α} {cap i : Nat} {l : List Nat} {rest : List (List Nat)} {acc : List α} (h : f l = none) : readF f cap i (l :: rest) acc = .inl i := by
  simp only [readF, h]
theorem readF_full {α : Type} {f : List Nat → Option α} {cap i : Nat} {l : List Nat} {rest : List (List Nat)} {acc : List α} (h : acc.length = cap) : readF f cap i (l :: rest) acc = .inl i := by
  simp only [readF]
  cases f l with
  | none => rfl
  | some x => simp [h]
theorem drop1_last {α : Type} (x : α) (r : List α) (y : α) : ((x :: r) ++ [y]).dropLast.drop 1 = r := by
  rw [List.dropLast_concat]
  rfl
/-! ### what is read -/
section
variable {n : Int} {its : List (List Int × Int)} {mvs : List (Int × Int)}
theorem rows10 (n : Int) (its : List (List Int × Int)) : ∀ l ∈ fL n :: its.map iL, 10 ∉ l := by
  intro l hl
  rcases List.mem_cons.mp hl with e | hl
  · rw [e]; exact fL10 n
  · obtain ⟨it, _, rfl⟩ := List.mem_map.mp hl
    exact iL10 it
theorem movs10 (n : Int) (mvs : List (Int × Int)) : ∀ l ∈ fL n :: mvs.map mL, 10 ∉ l := by
  intro l hl
  rcases List.mem_cons.mp hl with e | hl
  · rw [e]; exact fL10 n
  · obtain ⟨it, _, rfl⟩ := List.mem_map.mp hl
    exact mL10 it
theorem lay_back (h1 : 1 ≤ n) (h8 : n ≤ 8) (hi : ∀ it ∈ its, Drw n it) (hne : its ≠ []) (hl : its.length ≤ 10) : readLay (tx (fL n :: its.map iL)) = .inr (n, its) := by
  unfold readLay
  rw [lns_tx0 (rows10 n its)]
  simp only [List.drop_succ_cons, List.drop_zero, List.dropLast_concat, srvIn_ok h1 h8, lastD_snoc]
  have e := readF_ok (f := fun l => itemIn (words l) n) (g := iL) (v := id) (cap := 10) its [] 1 [] (fun it h => by show itemIn (words (iL it)) n = some it; rw [words_iL]; exact itemIn_ok (hi it h) h8) (by simpa using hl)
  rw [List.append_nil] at e
  rw [e]
  simp [readF, hne]
theorem mv_back (h1 : 1 ≤ n) (h8 : n ≤ 8) (hi : ∀ p ∈ mvs, Mvd n p) (hl : mvs.length ≤ 16) : readMv (tx (fL n :: mvs.map mL)) = .inr (n, mvs) := by
  unfold readMv
  rw [lns_tx0 (movs10 n mvs)]
  simp only [List.drop_succ_cons, List.drop_zero, List.dropLast_concat, srvIn_ok h1 h8, lastD_snoc]
  have e := readF_ok (f := fun l => pairIn (words l) n) (g := mL) (v := id) (cap := 16) mvs [] 1 [] (fun p h => by show pairIn (words (mL p)) n = some p; rw [words_mL]; exact pairIn_ok (hi p h) h8) (by simpa using hl)
  rw [List.append_nil] at e
  rw [e]
  simp [readF]
/-- the lines with the one at i bent -/
def bentR (k i : Nat) (ls : List (List Nat)) : List (List Nat) := ls.take i ++ [bend k (ls.getD i [])] ++ ls.drop (i + 1)
theorem bent10 (k i : Nat) {ls : List (List Nat)} (h : ∀ l ∈ ls, 10 ∉ l) : ∀ l ∈ bentR k i ls, 10 ∉ l := by
  intro l hl
  unfold bentR at hl
  rcases List.mem_append.mp hl with hl | hl
  · rcases List.mem_append.mp hl with hl | hl
    · exact h l (List.mem_of_mem_take hl)
    · rw [List.mem_singleton] at hl
      rw [hl]
      refine bend10 k ?_
      cases e : ls[i]? with
      | none => simp [List.getD, e]
      | some x =>
        have := h x (List.mem_of_getElem? e)
        simp [List.getD, e, this]
  · exact h l (List.mem_of_mem_drop hl)
theorem lay_bent (k i : Nat) (h1 : 1 ≤ n) (h8 : n ≤ 8) (hi : ∀ it ∈ its, Drw n it) (hl : its.length ≤ 10) (hk : i < (fL n :: its.map iL).length) : readLay (tx (bentR k i (fL n :: its.map iL))) = .inl i := by
  unfold readLay
  rw [lns_tx0 (bent10 k i (rows10 n its))]
  cases i with
  | zero =>
    have e : (bentR k 0 (fL n :: its.map iL) ++ [[]]).dropLast = bend k (fL n) :: its.map iL := by rw [List.dropLast_concat]; rfl
    rw [e]
    simp only [srv_bent]
  | succ j =>
    have hj : j < its.length := by simpa using hk
    have e : (bentR k (j + 1) (fL n :: its.map iL) ++ [[]]).dropLast = fL n :: ((its.take j).map iL ++ (bend k (iL (its[j])) :: (its.drop (j + 1)).map iL)) := by
      rw [List.dropLast_concat]
      unfold bentR
      have e2 : (fL n :: its.map iL).getD (j + 1) [] = iL (its[j]) := by simp [hj]
      rw [e2]
      simp [List.map_take, List.map_drop]
    rw [e]
    simp only [srvIn_ok h1 h8, List.drop_succ_cons, List.drop_zero]
    have hd : ∀ it ∈ its.take j, Drw n it := fun it h => hi it (List.mem_of_mem_take h)
    rw [readF_ok (f := fun l => itemIn (words l) n) (g := iL) (v := id) (cap := 10) (its.take j) _ 1 [] (fun it h => by show itemIn (words (iL it)) n = some it; rw [words_iL]; exact itemIn_ok (hd it h) h8) (by simp; omega)]
    rw [readF_bad (show itemIn (words (bend k (iL its[j]))) n = none from item_bent k (hi _ (List.getElem_mem hj)) h8)]
    simp
    omega
theorem mv_bent (k i : Nat) (h1 : 1 ≤ n) (h8 : n ≤ 8) (hi : ∀ p ∈ mvs, Mvd n p) (hl : mvs.length ≤ 16) (hk : i < (fL n :: mvs.map mL).length) : readMv (tx (bentR k i (fL n :: mvs.map mL))) = .inl i := by
  unfold readMv
  rw [lns_tx0 (bent10 k i (movs10 n mvs))]
  cases i with
  | zero =>
    have e : (bentR k 0 (fL n :: mvs.map mL) ++ [[]]).dropLast = bend k (fL n) :: mvs.map mL := by rw [List.dropLast_concat]; rfl
    rw [e]
    simp only [srv_bent]
  | succ j =>
    have hj : j < mvs.length := by simpa using hk
    have e : (bentR k (j + 1) (fL n :: mvs.map mL) ++ [[]]).dropLast = fL n :: ((mvs.take j).map mL ++ (bend k (mL (mvs[j])) :: (mvs.drop (j + 1)).map mL)) := by
      rw [List.dropLast_concat]
      unfold bentR
      have e2 : (fL n :: mvs.map mL).getD (j + 1) [] = mL (mvs[j]) := by simp [hj]
      rw [e2]
      simp [List.map_take, List.map_drop]
    rw [e]
    simp only [srvIn_ok h1 h8, List.drop_succ_cons, List.drop_zero]
    have hd : ∀ it ∈ mvs.take j, Mvd n it := fun it h => hi it (List.mem_of_mem_take h)
    rw [readF_ok (f := fun l => pairIn (words l) n) (g := mL) (v := id) (cap := 16) (mvs.take j) _ 1 [] (fun it h => by show pairIn (words (mL it)) n = some it; rw [words_mL]; exact pairIn_ok (hd it h) h8) (by simp; omega)]
    rw [readF_bad (show pairIn (words (bend k (mL mvs[j]))) n = none from pair_bent k)]
    simp
    omega
/-- signs behind the last line feed -/
theorem lay_left (h1 : 1 ≤ n) (h8 : n ≤ 8) (hi : ∀ it ∈ its, Drw n it) (hl : its.length ≤ 10) {r : List Nat} (hr : 10 ∉ r) (hne : r ≠ []) : readLay (tx (fL n :: its.map iL) ++ r) = .inl (its.length + 1) := by
  unfold readLay
  rw [lns_tx (rows10 n its) hr]
  simp only [List.drop_succ_cons, List.drop_zero, List.dropLast_concat, srvIn_ok h1 h8, lastD_snoc]
  have e := readF_ok (f := fun l => itemIn (words l) n) (g := iL) (v := id) (cap := 10) its [] 1 [] (fun it h => by show itemIn (words (iL it)) n = some it; rw [words_iL]; exact itemIn_ok (hi it h) h8) (by simpa using hl)
  rw [List.append_nil] at e
  rw [e]
  simp [readF, hne]
/-- no item -/
theorem lay_none (h1 : 1 ≤ n) (h8 : n ≤ 8) : readLay (tx [fL n]) = .inl 1 := by
  unfold readLay
  rw [lns_tx0 (ls := [fL n]) (rows10 n [])]
  simp only [List.drop_succ_cons, List.drop_zero, List.dropLast_concat, srvIn_ok h1 h8, lastD_snoc]
  simp [readF]
/-- without the last line feed -/
theorem mv_cut (h1 : 1 ≤ n) (h8 : n ≤ 8) (hi : ∀ p ∈ mvs, Mvd n p) (hl : mvs.length ≤ 16) : readMv (tx (fL n :: mvs.map mL)).dropLast = .inl mvs.length := by
  obtain ⟨r, x, e⟩ : ∃ r x, fL n :: mvs.map mL = r ++ [x] := ⟨_, _, (List.dropLast_concat_getLast (by simp)).symm⟩
  have hx : 10 ∉ x := movs10 n mvs x (by rw [e]; simp)
  have hr : ∀ l ∈ r, 10 ∉ l := fun l h => movs10 n mvs l (by rw [e]; simp [h])
  have et : (tx (fL n :: mvs.map mL)).dropLast = tx r ++ x := by
    rw [e]
    unfold tx
    rw [List.map_append, List.flatten_append]
    show ((r.map fun l => l ++ [10]).flatten ++ (x ++ [10] ++ [])).dropLast = _
    rw [List.append_nil, ← List.append_assoc, List.dropLast_concat]
  have xne : x ≠ [] := by
    have hm : x ∈ fL n :: mvs.map mL := by rw [e]; simp
    rcases List.mem_cons.mp hm with z | z
    · rw [z]; simp [fL, fsW, jn, joinL, SERV]
    · obtain ⟨p, _, rfl⟩ := List.mem_map.mp z
      simp [mL, mvW, jn, joinL, wd]
  have hlen : r.length = mvs.length := by
    have := congrArg List.length e
    simp at this
    omega
  unfold readMv
  rw [et, lns_tx hr hx]
  simp only [List.dropLast_concat, lastD_snoc]
  cases r with
  | nil =>
    have : mvs.length = 0 := by simpa using hlen.symm
    simp [srvIn, this]
  | cons a r =>
    have ea : a = fL n := by
      have := congrArg (fun l => l.head?) e
      simpa using this.symm
    subst ea
    have er : mvs.map mL = r ++ [x] := by
      have := congrArg List.tail e
      simpa using this
    have er2 : r = (mvs.take r.length).map mL := by
      rw [List.map_take, er, List.take_left]
    simp only [srvIn_ok h1 h8, List.drop_succ_cons, List.drop_zero]
    have hd : ∀ it ∈ mvs.take r.length, Mvd n it := fun it h => hi it (List.mem_of_mem_take h)
    have e5 := readF_ok (f := fun l => pairIn (words l) n) (g := mL) (v := id) (cap := 16) (mvs.take r.length) [] 1 [] (fun it h => by show pairIn (words (mL it)) n = some it; rw [words_mL]; exact pairIn_ok (hd it h) h8) (by simp; omega)
    rw [← er2, List.append_nil] at e5
    rw [e5]
    simp only [readF, List.length_cons] at hlen ⊢
    simp [xne, hlen]
theorem lay_full (h1 : 1 ≤ n) (h8 : n ≤ 8) {it : List Int × Int} (hi : Drw n it) : readLay (tx (fL n :: (List.replicate 11 it).map iL)) = .inl 11 := by
  unfold readLay
  rw [lns_tx0 (rows10 n _)]
  simp only [List.drop_succ_cons, List.drop_zero, List.dropLast_concat, srvIn_ok h1 h8]
  have e : (List.replicate 11 it).map iL = (List.replicate 10 it).map iL ++ [iL it] := rfl
  rw [e, readF_ok (f := fun l => itemIn (words l) n) (g := iL) (v := id) (cap := 10) (List.replicate 10 it) [iL it] 1 [] (fun y h => by
    have : y = it := (List.mem_replicate.mp h).2
    subst this
    show itemIn (words (iL y)) n = some y; rw [words_iL]; exact itemIn_ok hi h8) (by simp)]
  rw [readF_full (by simp)]
  rfl
theorem mv_full (h1 : 2 ≤ n) (h8 : n ≤ 8) : readMv (tx (fL n :: (List.replicate 17 ((0 : Int), (1 : Int))).map mL)) = .inl 17 := by
  unfold readMv
  rw [lns_tx0 (movs10 n _)]
  simp only [List.drop_succ_cons, List.drop_zero, List.dropLast_concat, srvIn_ok (show 1 ≤ n by omega) h8]
  have e : (List.replicate 17 ((0 : Int), (1 : Int))).map mL = (List.replicate 16 ((0 : Int), (1 : Int))).map mL ++ [mL (0, 1)] := rfl
  rw [e, readF_ok (f := fun l => pairIn (words l) n) (g := mL) (v := id) (cap := 16) (List.replicate 16 ((0 : Int), (1 : Int))) [mL (0, 1)] 1 [] (fun y h => by
    have : y = (0, 1) := (List.mem_replicate.mp h).2
    subst this
    show pairIn (words (mL (0, 1))) n = some (0, 1); rw [words_mL]; exact pairIn_ok ⟨by simp, by simp; omega, by simp, by simp; omega, by simp⟩ h8) (by simp)]
  rw [readF_full (by simp)]
  rfl
end
end Kx
set_option maxRecDepth 100000
set_option maxHeartbeats 4000000
namespace Kx
open PySem PySem.Spec PyProof.Rows L2 TL
/-! digit_in -/
def optV : Option Int → V
  | some d => .int d
  | none => .non
theorem tl_dig : tl ("0123456789" : Str) = [48, 49, 50, 51, 52, 53, 54, 55, 56, 57] := by decide +kernel
theorem one_sign {z : Str} (h : z.length = 1) : ∃ c, z = ⟨#[c]⟩ := by
  rw [len_tl] at h
  match e : tl z, h with
  | [c], _ => exact ⟨c, ext_tl e⟩
theorem dg_len {l : List Nat} (h : l.length ≠ 1) : dg l = none := by
  match l, h with
  | [], _ => rfl
  | [_], h => exact absurd rfl h
  | _ :: _ :: _, _ => rfl
theorem dg_no {c : Nat} (h : c ∉ tl ("0123456789" : Str)) : dg [c] = none := by
  rw [tl_dig] at h
  show (if 48 ≤ c ∧ c ≤ 57 then _ else none) = none
  rw [if_neg]
  intro z
  apply h
  simp only [List.mem_cons, List.not_mem_nil, or_false]
  omega
theorem dg_yes {c : Nat} (h : c ∈ tl ("0123456789" : Str)) : ∃ d : Int, dg [c] = some d ∧ PySem.intText? (⟨#[c]⟩ : Str) = some d := by
  rw [tl_dig] at h
  have hc : 48 ≤ c ∧ c ≤ 57 := by
    simp only [List.mem_cons, List.not_mem_nil, or_false] at h
    omega
  have e : (⟨#[c]⟩ : Str) = Str.ofString (toString ((c - 48 : Nat) : Int)) := ext_tl (by
    rw [tl_num, numL_lt (by omega)]
    show [c] = _
    congr 1
    omega)
  refine ⟨(c : Int) - 48, ?_, ?_⟩
  · show (if 48 ≤ c ∧ c ≤ 57 then _ else none) = _
    rw [if_pos hc]
  · rw [e, int_num (by rw [numL_lt (by omega)]; simp)]
    congr 1
    omega
section
variable {P : Program} {w : World} {K : PySem.W.Frag} {mg : Str → Option Value} {base : Heap}
abbrev sDig : Stmt := topS 27
theorem scDig : FnScope ["word"] ["word"] (defScope sDig) := ⟨rfl, rfl, rfl, by decide +kernel, rfl, by decide +kernel, by decide +kernel⟩
def spDig : Sp := fun vs H Q _ => ∃ z : Str, vs = [.str z] ∧ z.length ≤ sizeLine ∧ Q (optV (dg (tl z))) H
theorem ok_dig {f : Addr} {fd : FuncData} {k : Nat} (D : Df K mg "digit_in" sDig ["word"] f fd) (B : Bi mg) : FnOk P w K mg base CX0 (k + 1) f fd ["word"] spDig := by
  refine D.F.ok scDig (fun vs H Q E h => ?_) (fun cdv A outer s H vs Q E hr h => ?_)
  · obtain ⟨_, rfl, _⟩ := h
    rfl
  · obtain ⟨z, rfl, hz, q⟩ := h
    refine ⟨_, pss_one <| ps_ret <| pe_ifExp (PW.pt <| pw_and (pt_cmpR op_eq (pe_callB call_len_str (by rfl) B.len boot_len <| pa_cons (pv 0) pa_nil) pe_int (nomark _)) <| pw_and1 (pt_cmpR op_in_sign (pv 0) pe_str rfl))
      (pe_callTy call_int_str (by rfl) B.int boot_int <| pa_cons (pv 0) pa_nil) pe_non, ?_⟩
    refine ⟨.str z, rfl, z, rfl, hz, rfl, _, rfl, ?_⟩
    by_cases h1 : z.length = 1
    · rw [decide_eq_true (show V.int ((z.length : Nat) : Int) = V.int 1 by rw [h1]; rfl)]
      obtain ⟨c, rfl⟩ := one_sign h1
      refine iteT ⟨.str ⟨#[c]⟩, rfl, c, _, rfl, rfl, _, rfl, ?_⟩
      by_cases h2 : c ∈ tl ("0123456789" : Str)
      · rw [decide_eq_true h2]
        obtain ⟨d, h3, h4⟩ := dg_yes h2
        refine iteT ⟨.str ⟨#[c]⟩, rfl, _, d, rfl, h4, by rw [h1]; decide, ?_⟩
        rw [show tl (⟨#[c]⟩ : Str) = [c] from rfl, h3] at q
        exact q
      · rw [decide_eq_false h2]
        refine iteF ?_
        rw [show tl (⟨#[c]⟩ : Str) = [c] from rfl, dg_no h2] at q
        exact q
    · rw [decide_eq_false (show ¬ V.int ((z.length : Nat) : Int) = V.int 1 from fun e => h1 (by injection e with e; omega))]
      refine iteF ?_
      rw [dg_len (by rw [← len_tl]; exact h1)] at q
      exact q
end
end Kx
set_option maxRecDepth 100000
set_option maxHeartbeats 4000000
namespace Kx
open PySem PySem.Spec PyProof.Rows L2 TL
theorem spl_mem (s : Nat) : ∀ (l acc w : List Nat), w ∈ spl [s] 0 acc l → w.length ≤ acc.length + l.length
  | [], acc, w, h => by
    rw [spl_nil, List.mem_singleton] at h
    rw [h]
    simp
  | c :: r, acc, w, h => by
    cases hp : pre [s] (c :: r) with
    | true =>
      rw [spl_hit hp] at h
      rcases List.mem_cons.mp h with e | h
      · rw [e]
        omega
      · have := spl_mem s r [] w h
        simp only [List.length_cons, List.length_nil] at this ⊢
        omega
    | false =>
      rw [spl_miss hp] at h
      have := spl_mem s r (acc ++ [c]) w h
      simp only [List.length_cons, List.length_append, List.length_nil] at this ⊢
      omega
theorem split_words (z : Str) : (Txt.split z (" " : Str)).map tl = words (tl z) := split_spl z _ (by decide +kernel) (kind_ok (by decide +kernel))
theorem split_lines (z : Str) : (Txt.split z ("\n" : Str)).map tl = lns (tl z) := split_spl z _ (by decide +kernel) (kind_ok (by decide +kernel))
theorem cutK (k : Nat) (xs : List V) : cutV xs (some (k : Int)) none = xs.drop k := by
  unfold cutV
  rw [show HT.sIx xs.length 0 (some (k : Int)) = min k xs.length from HT.sIx_nat xs.length 0 k, HT.sIx_none]
  by_cases h : k ≤ xs.length
  · rw [show min k xs.length = k by omega]
    exact List.take_of_length_le (by rw [List.length_drop]; omega)
  · rw [show min k xs.length = xs.length by omega, Nat.sub_self, List.take_zero, List.drop_of_length_le (by omega)]
theorem inN : ∀ ws : List (List Nat), inV .non (ws.map fun w => optV (dg w)) = (dgs ws).isNone
  | [] => rfl
  | w :: r => by
    have ih := inN r
    show (eqV (optV (dg w)) .non || inV .non (r.map fun w => optV (dg w))) = _
    rw [ih]
    show _ = (match dg w, dgs r with | some d, some ds => some (d :: ds) | _, _ => none).isNone
    cases dg w with
    | none => rfl
    | some d => cases dgs r <;> rfl
theorem flat_opt : ∀ ws : List (List Nat), (ws.map fun w => optV (dg w)).all flatV = true
  | [] => rfl
  | w :: r => by
    have ih := flat_opt r
    show (flatV (optV (dg w)) && (r.map fun w => optV (dg w)).all flatV) = true
    rw [ih]
    cases dg w <;> rfl
theorem dgs_map : ∀ {ws : List (List Nat)} {ds : List Int}, dgs ws = some ds → (ws.map fun w => optV (dg w)) = ds.map V.int
  | [], ds, h => by cases h; rfl
  | w :: r, ds, h => by
    have h' : (match dg w, dgs r with | some d, some ds => some (d :: ds) | _, _ => none) = some ds := h
    cases e : dg w with
    | none => rw [e] at h'; cases h'
    | some d =>
      cases e2 : dgs r with
      | none => rw [e, e2] at h'; cases h'
      | some es =>
        rw [e, e2] at h'
        cases h'
        show optV (dg w) :: (r.map fun w => optV (dg w)) = _
        rw [e, dgs_map e2]
        rfl
theorem dgs_len : ∀ {ws : List (List Nat)} {ds : List Int}, dgs ws = some ds → ds.length = ws.length
  | ws, ds, h => by
    have := congrArg List.length (dgs_map h)
    simpa using this.symm
theorem itemIn_short {ws : List (List Nat)} {n : Int} (h : ws.length < 4) : itemIn ws n = none := by
  unfold itemIn
  rw [if_pos (.inl h)]
theorem itemIn_head {a b c d : List Nat} {r : List (List Nat)} {n : Int} (h : a ≠ NEED ∨ c ≠ OF) : itemIn (a :: b :: c :: d :: r) n = none := by
  unfold itemIn
  rw [if_pos (.inr h)]
theorem itemIn_none {a b c d : List Nat} {r : List (List Nat)} {n : Int} (h : dgs (b :: d :: r) = none) : itemIn (a :: b :: c :: d :: r) n = none := by
  unfold itemIn
  split
  · rfl
  · show (match dgs (b :: d :: r) with | some (k :: ns) => if isItem ns k n = true then some (ns, k) else none | _ => none) = none
    rw [h]
theorem itemIn_some {b d : List Nat} {r : List (List Nat)} {n k : Int} {ns : List Int} (h : dgs (b :: d :: r) = some (k :: ns)) : itemIn (NEED :: b :: OF :: d :: r) n = if isItem ns k n = true then some (ns, k) else none := by
  unfold itemIn
  rw [if_neg (by simp)]
  show (match dgs (b :: d :: r) with | some (k :: ns) => if isItem ns k n = true then some (ns, k) else none | _ => none) = _
  rw [h]
theorem str_tl {x : Str} {y : Str} : x = y ↔ tl x = tl y := ⟨fun e => by rw [e], ext_tl⟩
theorem tl_need : tl ("need" : Str) = NEED := by decide +kernel
theorem tl_of : tl ("of" : Str) = OF := by decide +kernel
theorem tl_serv : tl ("servers" : Str) = SERV := by decide +kernel
theorem tl_gt : tl (">" : Str) = [62] := by decide +kernel
theorem ne_str {x y : Str} : (!decide (V.str x = V.str y)) = decide (tl x ≠ tl y) := by
  by_cases h : tl x = tl y
  · rw [ext_tl h]
    simp
  · have : V.str x ≠ V.str y := fun e => h (by injection e with e; rw [e])
    simp [h, this]
section
variable {P : Program} {w : World} {K : PySem.W.Frag} {mg : Str → Option Value} {base : Heap}
abbrev sII : Stmt := topS 29
theorem scII : FnScope ["line", "servers", "words", "numbers", "item", "word"] ["line", "servers"] (defScope sII) := ⟨rfl, rfl, rfl, by decide +kernel, rfl, by decide +kernel, by decide +kernel⟩
def ItemOr (n : Int) (o : Option (List Int × Int)) (v : V) (H : Hp) : Prop := match o with
  | none => v = .non
  | some it => ∃ a, v = .ref a ∧ ItemAt H a it ∧ GoodIt n it
def spII : Sp := fun vs H Q _ => ∃ (z : Str) (n : Int), vs = [.str z, .int n] ∧ z.length ≤ 700 ∧ ∀ H' v, Same H H' → ItemOr n (itemIn (words (tl z)) n) v H' → Q v H'
theorem ok_ii {f fG fT fN fS : Addr} {fd fdG fdT fdN fdS : FuncData} (D : Df K mg "item_in" sII ["line", "servers"] f fd) (B : Bi mg) (DG : Df K mg "digit_in" sDig ["word"] fG fdG) (DT : Df K mg "is_item" sItem ["thing", "servers"] fT fdT)
    (DN : Df K mg "is_number" sNum ["thing", "least", "most"] fN fdN) (DS : Df K mg "is_set" sSet ["thing", "servers"] fS fdS) : FnOk P w K mg base CX0 4 f fd ["line", "servers"] spII := by
  have GG : FnOk P w K mg base CX0 1 fG fdG ["word"] spDig := ok_dig DG B
  have GT : FnOk P w K mg base CX0 3 fT fdT ["thing", "servers"] spItem := ok_item DT B DN DS
  refine D.F.ok scII (fun vs H Q E h => ?_) (fun cdv A outer s H vs Q E hr h => ?_)
  · obtain ⟨_, _, rfl, _⟩ := h
    rfl
  · obtain ⟨z, n, rfl, hz, q⟩ := h
    have hr1 : Room 1 _ := hr.mono (by decide)
    have hline : (1000 : Nat) < sizeLine := by decide
    refine ⟨_, pss_cons (ps_set (i := 2) scII.nd rfl (.inl rfl) (pe_split (pv 0) pe_str)) <|
      pss_cons (ps_if (PW.pt <| pw_or (pt_cmpR op_lt (pe_callB call_len_seq (by rfl) B.len boot_len <| pa_cons (pv 2) pa_nil) pe_int (nomark _)) <|
        pw_or (pt_cmpR op_ne (pe_ix ix_list (pv 2) pe_int fun _ _ => rfl) pe_str (nomark _)) <| pw_or1 <| pt_cmpR op_ne (pe_ix ix_list (pv 2) pe_int fun _ _ => rfl) pe_str (nomark _)) (pss_one <| ps_ret pe_non) pss_nil) <|
      pss_cons (ps_setLc (i := 3) (own := [("word", 5)]) (g := gName 5) (by rfl) scII.nd rfl rfl (sw_true rfl rfl rfl (by decide +kernel))
        (pi_list <| pe_lst <| pa_cons (pe_ix ix_list (pv 2) pe_int fun _ _ => rfl) <| pa_star (pe_slice sl_list (pv 2) (po_some pe_int) po_none) pa_nil)
        (blkOk_by (own := [("word", 5)]) (N := ["line", "servers", "words", "numbers", "item", "word"]) (sc := defScope sII) (by decide +kernel))
        (fun _ _ _ _ _ => pg_name (i := 5) scII.nd rfl (Or.inl rfl)) (fun _ _ _ _ _ => pts_nil) (fun _ _ _ _ _ => pe_call GG hr1 (by rfl) DG.g DG.k DG.b .nil pass0 <| pa_cons (pv 5) pa_nil)) <|
      pss_cons (ps_if (pt_cmpR op_in_seq pe_non (pv 3) rfl) (pss_one <| ps_ret pe_non) pss_nil) <|
      pss_cons (ps_set (i := 4) scII.nd rfl (.inl rfl) <| pe_tup <| pa_cons (pe_callTy call_tuple_of (by rfl) B.tup boot_tuple <| pa_cons (pe_slice sl_list (pv 3) (po_some pe_int) po_none) pa_nil) <|
        pa_cons (pe_ix ix_list (pv 3) pe_int fun _ _ => rfl) pa_nil) <|
      pss_one <| ps_ret <| pe_ifExp (pt_val <| pe_call GT hr (by rfl) DT.g DT.k DT.b .nil pass0 <| pa_cons (pv 4) <| pa_cons (pv 1) pa_nil) (pv 4) pe_non, ?_⟩
    refine ⟨.str z, rfl, ⟨_, rfl⟩, z, (" " : Str), rfl, rfl, rfl, by omega, fun p np => ?_⟩
    have hw := split_words z
    have hwl : ∀ x ∈ Txt.split z (" " : Str), x.length ≤ 700 := fun x hx => by
      have h1 : tl x ∈ words (tl z) := by rw [← hw]; exact List.mem_map_of_mem hx
      have h2 := spl_mem 32 _ _ _ h1
      rw [len_tl] at hz ⊢
      simp only [List.length_nil, Nat.zero_add] at h2
      omega
    have hwn : (Txt.split z (" " : Str)).length ≤ 701 := by
      have h1 := congrArg List.length hw
      rw [List.length_map] at h1
      have h2 := spl_len 32 (tl z) []
      rw [len_tl] at hz
      rw [h1]
      exact Nat.le_trans h2 (by omega)
    generalize Txt.split z (" " : Str) = ws at hw hwl hwn ⊢
    have s1 : Same H (upd H p (.lst (ws.map V.str))) := same_upd np
    have hp : SqL K (upd H p (.lst (ws.map V.str))) p (ws.map V.str) := .inl (.inl upd_same)
    refine ⟨.ref p, rfl, p, _, rfl, .inl hp, _, _, rfl, rfl, _, rfl, ?_⟩
    by_cases h4 : ws.length < 4
    · rw [decide_eq_true (show (((ws.map V.str).length : Nat) : Int) < 4 by rw [List.length_map]; omega)]
      refine iteT (q _ _ s1 ?_)
      rw [itemIn_short (by rw [← hw, List.length_map]; exact h4)]
      exact rfl
    · rw [decide_eq_false (show ¬ (((ws.map V.str).length : Nat) : Int) < 4 by rw [List.length_map]; omega)]
      obtain ⟨w0, w1, w2, w3, r, rfl⟩ : ∃ w0 w1 w2 w3 r, ws = w0 :: w1 :: w2 :: w3 :: r := by
        match ws, h4 with
        | w0 :: w1 :: w2 :: w3 :: r, _ => exact ⟨w0, w1, w2, w3, r, rfl⟩
        | [], h => exact absurd (by simp) h
        | [_], h => exact absurd (by simp) h
        | [_, _], h => exact absurd (by simp) h
        | [_, _, _], h => exact absurd (by simp) h
      have hw' : words (tl z) = tl w0 :: tl w1 :: tl w2 :: tl w3 :: r.map tl := hw.symm
      refine iteF ⟨.ref p, rfl, p, _, 0, .str w0, rfl, rfl, hp, atI_nat (j := 0) rfl, rfl, _, rfl, ?_⟩
      rw [ne_str, tl_need]
      by_cases h0 : tl w0 ≠ NEED
      · rw [decide_eq_true h0]
        refine iteT (q _ _ s1 ?_)
        rw [hw', itemIn_head (.inl h0)]
        exact rfl
      rw [decide_eq_false h0]
      refine iteF ⟨.ref p, rfl, p, _, 2, .str w2, rfl, rfl, hp, atI_nat (j := 2) rfl, rfl, _, rfl, ?_⟩
      rw [ne_str, tl_of]
      by_cases h2 : tl w2 ≠ OF
      · rw [decide_eq_true h2]
        refine iteT (q _ _ s1 ?_)
        rw [hw', itemIn_head (.inr h2)]
        exact rfl
      rw [decide_eq_false h2]
      have h0 : tl w0 = NEED := Classical.byContradiction h0
      have h2 : tl w2 = OF := Classical.byContradiction h2
      rw [h0, h2] at hw'
      refine iteF ⟨.ref p, rfl, p, _, 1, .str w1, rfl, rfl, hp, atI_nat (j := 1) rfl, .ref p, rfl, 3, rfl, p, _, rfl, hp, fun c nc => ⟨c, (w3 :: r).map V.str, rfl, .inl (.inl (by rw [upd_same]; exact congrArg (fun l => some (HO.lst l)) (cutK 3 _))), ?_⟩⟩
      have s2 := same_new (o := .lst (cutV ((w0 :: w1 :: w2 :: w3 :: r).map V.str) (some 3) none)) s1 nc
      refine ⟨?_, fun l nl => ?_⟩
      · simp only [List.length_cons, List.length_map, List.cons_append, List.nil_append, List.append_nil] at hwn ⊢
        omega
      have s3 := same_new (o := .lst (V.str w1 :: ((w3 :: r).map V.str ++ []))) s2 nl
      refine ⟨l, rfl, ⟨_, .inl (.inl upd_same)⟩, fun d hd => ?_⟩
      refine lc_map (walk_list (xs := (w1 :: w3 :: r).map V.str)) hd ((tl w1 :: tl w3 :: r.map tl).map fun w => optV (dg w)) (by simp) (by simp only [List.length_cons, List.length_map] at hwn ⊢; omega)
        (fun H' s => .inl (.inl (s _ _ (by rw [upd_same, List.append_nil]; rfl)))) (fun i v x H2 H' Q' hv sv y q' => ?_) (fun H1 sd e1 => ?_)
      · obtain ⟨e, hx⟩ := y
        subst e
        obtain ⟨x, hz, ez⟩ := map_get hx
        subst ez
        have ev : v = optV (dg (tl x)) := by
          rw [show (tl w1 :: tl w3 :: r.map tl) = (w1 :: w3 :: r).map tl from rfl, List.map_map, List.getElem?_map, hz] at hv
          exact (Option.some.inj hv).symm
        subst ev
        have hx2 : x ∈ w0 :: w1 :: w2 :: w3 :: r := by
          have := List.mem_of_getElem? hz
          simp only [List.mem_cons] at this ⊢
          rcases this with e | e | e
          · exact .inr (.inl e)
          · exact .inr (.inr (.inr (.inl e)))
          · exact .inr (.inr (.inr (.inr e)))
        have := hwl x hx2
        exact ⟨rfl, _, rfl, x, rfl, by omega, q' _ (Same.refl _)⟩
      · have s4 := s3.trans sd
        refine ⟨.ref d, rfl, d, _, rfl, .inl (.inl (.inl e1)), rfl, flat_opt _, _, rfl, ?_⟩
        rw [inN]
        cases hk : dgs (tl w1 :: tl w3 :: r.map tl) with
        | none =>
          refine iteT (q _ _ s4 ?_)
          rw [hw', itemIn_none hk]
          exact rfl
        | some ds =>
          have hlen := dgs_len hk
          match ds, hlen, hk with
          | k :: ns, hlen, hk =>
            rw [dgs_map hk] at e1
            have hq : SqL K H1 d ((k :: ns).map V.int) := .inl (.inl e1)
            have hns : ns.length = r.length + 1 := by simpa using hlen
            refine iteF ⟨.ref d, rfl, 1, rfl, d, _, rfl, hq, fun c2 nc2 => ⟨c2, ns.map V.int, rfl, .inl ⟨.inl (.inl (by rw [upd_same]; exact congrArg (fun l => some (HO.lst l)) (cutK 1 _))), fun t nt => ?_⟩⟩⟩
            have s5 := same_new (o := .lst (cutV ((k :: ns).map V.int) (some 1) none)) s4 nc2
            have s6 := same_new (o := .tup (ns.map V.int)) s5 nt
            have sq6 : Same H1 _ := same_new (o := .tup (ns.map V.int)) (same_new (o := .lst (cutV ((k :: ns).map V.int) (some 1) none)) (Same.refl H1) nc2) nt
            refine ⟨.ref d, rfl, d, _, 0, .int k, rfl, rfl, .inl (.inl (sq6 _ _ e1)), atI_nat (j := 0) rfl, by show 2 ≤ sizeLine; decide, fun t2 nt2 => ?_⟩
            have s7 := same_new (o := .tup [.ref t, .int k]) s6 nt2
            have hit : ItemAt (upd (upd (upd H1 c2 (.lst (cutV ((k :: ns).map V.int) (some 1) none))) t (.tup (ns.map V.int))) t2 (.tup [.ref t, .int k])) t2 (ns, k) := ⟨t, upd_same, same_upd nt2 _ _ upd_same⟩
            simp only [List.length_cons] at hwn
            have hne : ns ≠ [] := by
              intro e
              rw [e] at hns
              simp at hns
            have hb : ns.length < 900 := by omega
            refine ⟨.ref t2, rfl, .int n, rfl, t2, n, (ns, k), rfl, hit, hne, hb, fun H' s8 => ⟨_, rfl, ?_⟩⟩
            cases hg : isItem ns k n with
            | true =>
              refine iteT ⟨.ref t2, rfl, q _ _ (s7.trans s8) ?_⟩
              rw [hw', itemIn_some hk, hg]
              exact ⟨t2, rfl, hit.same s8, hne, hb, hg⟩
            | false =>
              refine iteF (q _ _ (s7.trans s8) ?_)
              rw [hw', itemIn_some hk, hg]
              exact rfl
end
end Kx
set_option maxRecDepth 100000
set_option maxHeartbeats 4000000
namespace L2
open PySem PySem.Spec PyProof.Rows
section
variable {X : Cx}
/-- a list beside an empty one -/
def rNil (K : PySem.W.Frag) (neg : Bool) : R2 := fun x y H Q => ∃ (a b : Addr) (xs : List V), x = .ref a ∧ y = .ref b ∧ SqL K H a xs ∧ SqL K H b [] ∧ Q (.bl (if neg then !xs.isEmpty else xs.isEmpty)) H
theorem op_eqNil (hu : X.A.units + 64 < cLine) : OpR X (compareOp .Eq) (rNil X.K false) := by
  intro pins s σ H x y v u Q I rx ry h
  obtain ⟨a, b, xs, rfl, rfl, ha, hb, q⟩ := h
  cases rx
  cases ry
  obtain ⟨its, r1, p1, z1⟩ := I.list ha
  obtain ⟨it2, r2, p2, z2⟩ := I.list hb
  cases r2
  cases xs with
  | nil =>
    cases r1
    exact SeqAt.eq_listAt (e := fun _ => true) p1.isList p2.isList rfl (by omega) (fun j h1 => absurd h1 (by simp)) ⟨.bl true, H, I, rfl, q⟩
  | cons y ys =>
    cases r1
    exact SeqAt.eq_list_lengthsAt p1.isList p2.isList (by simp) (by omega) ⟨.bl false, H, I, rfl, q⟩
theorem op_neNil (hu : X.A.units + 64 < cLine) : OpR X (compareOp .NotEq) (rNil X.K true) := by
  intro pins s σ H x y v u Q I rx ry h
  obtain ⟨a, b, xs, rfl, rfl, ha, hb, q⟩ := h
  cases rx
  cases ry
  obtain ⟨its, r1, p1, z1⟩ := I.list ha
  obtain ⟨it2, r2, p2, z2⟩ := I.list hb
  cases r2
  cases xs with
  | nil =>
    cases r1
    exact SeqAt.RcNeAt.lists (e := fun _ => true) p1.isList p2.isList rfl (by omega) (fun j h1 => absurd h1 (by simp)) X.prog X.w _ _ ⟨.bl false, H, I, rfl, q⟩
  | cons y ys =>
    cases r1
    exact SeqAt.RcNeAt.lists_lengths p1.isList p2.isList (by simp) (by omega) X.prog X.w _ _ ⟨.bl true, H, I, rfl, q⟩
end
end L2
namespace Kx
open PySem PySem.Spec PyProof.Rows L2 TL
theorem cutL (xs : List V) : cutV xs none (some (-1)) = xs.dropLast := by
  unfold cutV
  rw [HT.sIx_none]
  have e : HT.sIx xs.length xs.length (some (-1)) = xs.length - 1 := by
    show (if (-1 : Int) < 0 then ((-1 : Int) + (xs.length : Int)).toNat else min (-1 : Int).toNat xs.length) = _
    rw [if_pos (by decide)]
    omega
  rw [e, List.drop_zero, Nat.sub_zero, List.dropLast_eq_take]
section
variable {P : Program} {w : World} {K : PySem.W.Frag} {mg : Str → Option Value} {base : Heap}
abbrev sPI : Stmt := topS 31
theorem scPI : FnScope ["line", "servers", "words", "pair"] ["line", "servers"] (defScope sPI) := ⟨rfl, rfl, rfl, by decide +kernel, rfl, by decide +kernel, by decide +kernel⟩
/-- a pair of ints at a -/
def PairAt (H : Hp) (a : Addr) (p : Int × Int) : Prop := H a = some (.tup [.int p.1, .int p.2])
def PairOr (o : Option (Int × Int)) (v : V) (H : Hp) : Prop := match o with
  | none => v = .non
  | some p => ∃ a, v = .ref a ∧ PairAt H a p
def spPI : Sp := fun vs H Q _ => ∃ (z : Str) (n : Int), vs = [.str z, .int n] ∧ z.length ≤ 700 ∧ ∀ H' v, Same H H' → PairOr (pairIn (words (tl z)) n) v H' → Q v H'
theorem pairIn_bad {ws : List (List Nat)} {n : Int} (h : ws.length ≠ 3) : pairIn ws n = none := by
  unfold pairIn
  rw [if_pos (.inl h)]
theorem pairIn_mid {a b c : List Nat} {n : Int} (h : b ≠ [62]) : pairIn [a, b, c] n = none := by
  unfold pairIn
  rw [if_pos (.inr h)]
theorem pairIn_three {a c : List Nat} {n : Int} : pairIn [a, [62], c] n = match dg a, dg c with
    | some a, some b => if n ≤ max a b ∨ a = b then none else some (a, b)
    | _, _ => none := by
  unfold pairIn
  rw [if_neg (by simp)]
  rfl
theorem ok_pi {f fG : Addr} {fd fdG : FuncData} {k : Nat} (D : Df K mg "pair_in" sPI ["line", "servers"] f fd) (B : Bi mg) (DG : Df K mg "digit_in" sDig ["word"] fG fdG) : FnOk P w K mg base CX0 (k + 2) f fd ["line", "servers"] spPI := by
  have GG : FnOk P w K mg base CX0 (k + 1) fG fdG ["word"] spDig := ok_dig DG B
  refine D.F.ok scPI (fun vs H Q E h => ?_) (fun cdv A outer s H vs Q E hr h => ?_)
  · obtain ⟨_, _, rfl, _⟩ := h
    rfl
  · obtain ⟨z, n, rfl, hz, q⟩ := h
    have hline : (1000 : Nat) < sizeLine := by decide
    refine ⟨_, pss_cons (ps_set (i := 2) scPI.nd rfl (.inl rfl) (pe_split (pv 0) pe_str)) <|
      pss_cons (ps_if (PW.pt <| pw_or (pt_cmpR op_ne (pe_callB call_len_seq (by rfl) B.len boot_len <| pa_cons (pv 2) pa_nil) pe_int (nomark _)) <|
        pw_or1 <| pt_cmpR op_ne (pe_ix ix_list (pv 2) pe_int fun _ _ => rfl) pe_str (nomark _)) (pss_one <| ps_ret pe_non) pss_nil) <|
      pss_cons (ps_set (i := 3) scPI.nd rfl (.inl rfl) <| pe_tup <| pa_cons (pe_call GG hr (by rfl) DG.g DG.k DG.b .nil pass0 <| pa_cons (pe_ix ix_list (pv 2) pe_int fun _ _ => rfl) pa_nil) <|
        pa_cons (pe_call GG hr (by rfl) DG.g DG.k DG.b .nil pass0 <| pa_cons (pe_ix ix_list (pv 2) pe_int fun _ _ => rfl) pa_nil) pa_nil) <|
      pss_cons (ps_if (PW.pt <| pw_or (pt_cmpR op_in_seq pe_non (pv 3) rfl) <| pw_or (pt_cmpR op_ge (pe_callB (cr_max2T rfl hr.units) (by rfl) B.max boot_max <| pa_cons (pv 3) pa_nil) (pv 1) (nomark _)) <|
        pw_or1 <| pt_cmpR op_eq (pe_ix ix_tup (pv 3) pe_int fun _ _ => rfl) (pe_ix ix_tup (pv 3) pe_int fun _ _ => rfl) (nomark _)) (pss_one <| ps_ret pe_non) pss_nil) <|
      pss_one <| ps_ret (pv 3), ?_⟩
    refine ⟨.str z, rfl, ⟨_, rfl⟩, z, (" " : Str), rfl, rfl, rfl, by omega, fun p np => ?_⟩
    have hw := split_words z
    have hwl : ∀ x ∈ Txt.split z (" " : Str), x.length ≤ 700 := fun x hx => by
      have h1 : tl x ∈ words (tl z) := by rw [← hw]; exact List.mem_map_of_mem hx
      have h2 := spl_mem 32 _ _ _ h1
      rw [len_tl] at hz ⊢
      simp only [List.length_nil, Nat.zero_add] at h2
      omega
    generalize Txt.split z (" " : Str) = ws at hw hwl ⊢
    have s1 : Same H (upd H p (.lst (ws.map V.str))) := same_upd np
    have hp : SqL K (upd H p (.lst (ws.map V.str))) p (ws.map V.str) := .inl (.inl upd_same)
    refine ⟨.ref p, rfl, p, _, rfl, .inl hp, rfl, _, rfl, ?_⟩
    by_cases h3 : ws.length = 3
    · rw [decide_eq_true (show V.int (((ws.map V.str).length : Nat) : Int) = V.int 3 by rw [List.length_map, h3]; rfl)]
      obtain ⟨w0, w1, w2, rfl⟩ : ∃ w0 w1 w2, ws = [w0, w1, w2] := by
        match ws, h3 with
        | [w0, w1, w2], _ => exact ⟨w0, w1, w2, rfl⟩
      have hw' : words (tl z) = [tl w0, tl w1, tl w2] := hw.symm
      refine iteF ⟨.ref p, rfl, p, _, 1, .str w1, rfl, rfl, hp, atI_nat (j := 1) rfl, rfl, _, rfl, ?_⟩
      rw [ne_str, tl_gt]
      by_cases h1 : tl w1 ≠ [62]
      · rw [decide_eq_true h1]
        refine iteT (q _ _ s1 ?_)
        rw [hw', pairIn_mid h1]
        exact rfl
      rw [decide_eq_false h1]
      have h1 : tl w1 = [62] := Classical.byContradiction h1
      rw [h1] at hw'
      have l0 := hwl w0 (by simp)
      have l2 := hwl w2 (by simp)
      refine iteF ⟨.ref p, rfl, p, _, 0, .str w0, rfl, rfl, hp, atI_nat (j := 0) rfl, w0, rfl, by omega, .ref p, rfl, p, _, 2, .str w2, rfl, rfl, hp, atI_nat (j := 2) rfl, w2, rfl, by omega, by show 2 ≤ sizeLine; decide, fun t nt => ?_⟩
      have s2 := same_new (o := .tup [optV (dg (tl w0)), optV (dg (tl w2))]) s1 nt
      refine ⟨.ref t, rfl, t, [optV (dg (tl w0)), optV (dg (tl w2))], rfl, .inr (.inl (.inl upd_same)), rfl, flat_opt [tl w0, tl w2], _, rfl, ?_⟩
      rw [show inV .non [optV (dg (tl w0)), optV (dg (tl w2))] = (dgs [tl w0, tl w2]).isNone from inN [tl w0, tl w2]]
      have e3 := pairIn_three (a := tl w0) (c := tl w2) (n := n)
      cases ea : dg (tl w0) with
      | none =>
        have e4 : dgs [tl w0, tl w2] = none := by simp only [dgs, ea]
        rw [e4]
        rw [ea] at s2 e3
        refine iteT (q _ _ s2 ?_)
        rw [hw', e3]
        exact rfl
      | some a =>
        cases eb : dg (tl w2) with
        | none =>
          have e4 : dgs [tl w0, tl w2] = none := by simp only [dgs, ea, eb]
          rw [e4]
          rw [ea, eb] at s2 e3
          refine iteT (q _ _ s2 ?_)
          rw [hw', e3]
          exact rfl
        | some b =>
          have e4 : dgs [tl w0, tl w2] = some [a, b] := by simp only [dgs, ea, eb]
          rw [e4]
          rw [ea, eb] at s2 e3
          have e5 : pairIn (words (tl z)) n = if n ≤ max a b ∨ a = b then none else some (a, b) := by rw [hw', e3]
          have ht : SqT K (upd (upd H p (.lst ([w0, w1, w2].map V.str))) t (.tup [.int a, .int b])) t [.int a, .int b] := .inl (.inl upd_same)
          refine iteF ⟨.ref t, rfl, t, a, b, rfl, ht, .int n, rfl, _, _, rfl, rfl, _, rfl, ?_⟩
          by_cases hm : n ≤ max a b
          · rw [decide_eq_true (show max a b ≥ n from hm)]
            refine iteT (q _ _ s2 ?_)
            rw [e5, if_pos (.inl hm)]
            exact rfl
          · rw [decide_eq_false (show ¬ max a b ≥ n from hm)]
            refine iteF ⟨.ref t, rfl, t, _, 0, .int a, rfl, rfl, ht, atI_nat (j := 0) rfl, .ref t, rfl, t, _, 1, .int b, rfl, rfl, ht, atI_nat (j := 1) rfl, rfl, _, rfl, ?_⟩
            by_cases he : a = b
            · rw [decide_eq_true (show V.int a = V.int b by rw [he])]
              refine iteT (q _ _ s2 ?_)
              rw [e5, if_pos (.inr he)]
              exact rfl
            · rw [decide_eq_false (show ¬ V.int a = V.int b from fun e => he (by injection e))]
              refine iteF ⟨.ref t, rfl, q _ _ s2 ?_⟩
              rw [e5, if_neg (by omega)]
              exact ⟨t, rfl, upd_same⟩
    · rw [decide_eq_false (show ¬ V.int (((ws.map V.str).length : Nat) : Int) = V.int 3 from fun e => h3 (by injection e with e; rw [List.length_map] at e; omega))]
      refine iteT (q _ _ s1 ?_)
      rw [pairIn_bad (by rw [← hw, List.length_map]; exact h3)]
      exact rfl
end
end Kx
set_option maxRecDepth 100000
set_option maxHeartbeats 4000000
namespace Kx
open PySem PySem.Spec PyProof.Rows L2 TL
section
variable {P : Program} {w : World} {K : PySem.W.Frag} {mg : Str → Option Value} {base : Heap} {C fB : Addr}
abbrev sLO : Stmt := topS 26
theorem scLO : FnScope ["text", "found"] ["text"] (defScope sLO) := ⟨rfl, rfl, rfl, by decide +kernel, rfl, by decide +kernel, by decide +kernel⟩
def spLO : Sp := fun vs H Q _ => ∃ z : Str, vs = [.str z] ∧ z.length ≤ 60000 ∧ ∀ H' (t l : Addr) (ls : List Str), Same H H' → H' t = some (.tup [.ref l, .bl (decide ((lns (tl z)).getLastD [] ≠ []))]) → H' l = some (.lst (ls.map V.str)) → ls.map tl = (lns (tl z)).dropLast → Q (.ref t) H'
theorem ok_lo {f : Addr} {fd : FuncData} {k : Nat} (D : Df K mg "lines_of" sLO ["text"] f fd) (B : Bi mg) : FnOk P w K mg base CX0 (k + 1) f fd ["text"] spLO := by
  refine D.F.ok scLO (fun vs H Q E h => ?_) (fun cdv A outer s H vs Q E hr h => ?_)
  · obtain ⟨_, rfl, _⟩ := h
    rfl
  · obtain ⟨z, rfl, hz, q⟩ := h
    have hline : (100000 : Nat) < sizeLine := by decide
    refine ⟨_, pss_cons (ps_if (pt_not <| pt_val <| pe_isi (pv 0) B.isi B.str boot_str) (pss_one ps_never) pss_nil) <|
      pss_cons (ps_set (i := 1) scLO.nd rfl (.inl rfl) (pe_split (pv 0) pe_str)) <|
      pss_one <| ps_ret <| pe_tup <| pa_cons (pe_slice sl_list (pv 1) po_none (po_some <| pe_un un_neg pe_int)) <| pa_cons (pe_cmpR op_ne (pe_ix ix_list (pv 1) (pe_un un_neg pe_int) fun _ _ => rfl) pe_str (nomark _)) pa_nil, ?_⟩
    refine ⟨.str z, rfl, .str z, .ty "str", _, _, true, rfl, .ty "str", .base (.str z), kit_ty (by decide +kernel), true, rfl, iteF ?_⟩
    refine ⟨.str z, rfl, ⟨_, rfl⟩, z, ("\n" : Str), rfl, rfl, rfl, by omega, fun p np => ?_⟩
    have hw := split_lines z
    have hne : Txt.split z ("\n" : Str) ≠ [] := fun e => spl_ne 10 (tl z) [] (by rw [show spl [10] 0 [] (tl z) = lns (tl z) from rfl, ← hw, e]; rfl)
    obtain ⟨ls, x, e⟩ : ∃ ls x, Txt.split z ("\n" : Str) = ls ++ [x] := ⟨_, _, (List.dropLast_concat_getLast hne).symm⟩
    rw [e] at hw ⊢
    have hw' : lns (tl z) = ls.map tl ++ [tl x] := by rw [← hw]; simp
    have em : (ls ++ [x]).map V.str = ls.map V.str ++ [V.str x] := by simp
    have s1 : Same H (upd H p (.lst ((ls ++ [x]).map V.str))) := same_upd np
    have hp : SqL K (upd H p (.lst ((ls ++ [x]).map V.str))) p ((ls ++ [x]).map V.str) := .inl (.inl upd_same)
    refine ⟨.ref p, rfl, 1, rfl, -1, rfl, p, _, rfl, hp, fun c nc => ?_⟩
    have s2 := same_new (o := .lst (cutV ((ls ++ [x]).map V.str) none (some (-1)))) s1 nc
    have hp2 : SqL K (upd (upd H p (.lst ((ls ++ [x]).map V.str))) c (.lst (cutV ((ls ++ [x]).map V.str) none (some (-1))))) p ((ls ++ [x]).map V.str) := .inl (.inl ((same_upd nc) _ _ upd_same))
    refine ⟨.ref p, rfl, 1, rfl, p, _, _, .str x, rfl, rfl, hp2, by rw [em]; exact atI_last _ _, rfl, by show 2 ≤ sizeLine; decide, fun t nt => ?_⟩
    have s3 := same_new (o := .tup [.ref c, .bl (!decide (V.str x = V.str ("" : Str)))]) s2 nt
    refine q _ t c ls s3 ?_ ((same_upd nt) _ _ ?_) ?_
    · rw [upd_same, ne_str, show tl ("" : Str) = [] by decide +kernel, hw', lastD_snoc]
    · rw [upd_same, cutL, em, List.dropLast_concat]
    · rw [hw', List.dropLast_concat]
theorem eq_str {x y : Str} : decide (V.str x = V.str y) = decide (tl x = tl y) := by
  by_cases h : tl x = tl y
  · rw [ext_tl h]
    simp
  · have : V.str x ≠ V.str y := fun e => h (by injection e with e; rw [e])
    simp [h, this]
abbrev sSI : Stmt := topS 28
theorem scSI : FnScope ["lines", "words", "many"] ["lines"] (defScope sSI) := ⟨rfl, rfl, rfl, by decide +kernel, rfl, by decide +kernel, by decide +kernel⟩
def spSI (K : PySem.W.Frag) (C : Addr) : Sp := fun vs H Q E => ∃ (a : Addr) (ls : List Str), vs = [.ref a] ∧ SqL K H a (ls.map V.str) ∧ (∀ x ∈ ls, x.length ≤ 60000) ∧ (∀ n H', srvIn (ls.map tl) = some n → Same H H' → Q (.int n) H') ∧
  (∀ H' d, srvIn (ls.map tl) = none → Same H H' → H' d = some (.xd [(("line" : Str), .int 0)]) → E (.ref C) (some d) H')
theorem ok_si {f fG : Addr} {fd fdG : FuncData} {k : Nat} (D : Df K mg "servers_in" sSI ["lines"] f fd) (B : Bi mg) (Z : Nu mg) (T : BtX.BtTxt P K mg C fB) (DG : Df K mg "digit_in" sDig ["word"] fG fdG) : FnOk P w K mg base (L2.CX P w) (k + 2) f fd ["lines"] (spSI K C) := by
  have GG : FnOk P w K mg base CX0 (k + 1) fG fdG ["word"] spDig := ok_dig DG B
  obtain ⟨⟨t8, h8⟩, _, _⟩ := Z
  refine D.F.okX scSI (fun vs H Q E h => ?_) (fun cdv A outer s H vs Q E hr h => ?_)
  · obtain ⟨_, _, rfl, _⟩ := h
    rfl
  · obtain ⟨a, ls, rfl, ha, hlen, q, qx⟩ := h
    have hline : (100000 : Nat) < sizeLine := by decide
    refine ⟨_, pss_cons (ps_set (i := 1) scSI.nd rfl (.inl rfl) <| pe_ifExp (pt_cmpR (op_neNil hr.units) (pv 0) (pe_lst pa_nil) (nomark _)) (pe_split (pe_ix ix_list (pv 0) pe_int fun _ _ => rfl) pe_str) (pe_lst pa_nil)) <|
      pss_cons (ps_set (i := 2) scSI.nd rfl (.inl rfl) <| pe_ifExp (PW.pt <| pw_and (pt_cmpR op_eq (pe_callB call_len_seq (by rfl) B.len boot_len <| pa_cons (pv 1) pa_nil) pe_int (nomark _)) <|
        pw_and1 <| pt_cmpR op_eq (pe_ix ix_list (pv 1) pe_int fun _ _ => rfl) pe_str (nomark _)) (pe_call GG hr (by rfl) DG.g DG.k DG.b .nil pass0 <| pa_cons (pe_ix ix_list (pv 1) pe_int fun _ _ => rfl) pa_nil) pe_non) <|
      pss_cons (ps_if (PW.pt <| pw_or (pt_cmpR op_isN (pv 2) pe_non (nomark _)) <| pw_or1 <| pt_not <| pt_chain op_le op_le pe_int (pv 2) (pe_glob (v := .int 8) (by rfl) h8 ⟨_, rfl⟩))
        (pss_one <| ps_raiseBad rfl T hr (takes_of rfl rfl rfl rfl) (pa_cons pe_int pa_nil)) pss_nil) <|
      pss_one <| ps_ret (pv 2), ?_⟩
    cases ls with
    | nil =>
      have hn : srvIn (([] : List Str).map tl) = none := rfl
      refine ⟨.ref a, rfl, by show 0 ≤ sizeLine; exact Nat.zero_le _, fun l0 n0 => ⟨a, l0, [], rfl, rfl, (same_upd n0).seq ha, .inl (.inl upd_same), _, rfl, ?_⟩⟩
      have s1 := same_upd (o := .lst []) n0
      refine iteF ⟨by show 0 ≤ sizeLine; exact Nat.zero_le _, fun p np => ?_⟩
      have s2 := same_new (o := .lst []) s1 np
      refine ⟨.ref p, rfl, p, [], rfl, .inl (.inl (.inl upd_same)), rfl, _, rfl, ?_⟩
      rw [decide_eq_false (show ¬ V.int ((([] : List V).length : Nat) : Int) = V.int 2 from fun e => by injection e with e; cases e)]
      refine iteF ⟨.non, rfl, rfl, _, rfl, iteT ⟨.int 0, rfl, fun d nd => ?_⟩⟩
      exact qx _ d hn (same_new s2 nd) upd_same
    | cons x r =>
      refine ⟨.ref a, rfl, by show 0 ≤ sizeLine; exact Nat.zero_le _, fun l0 n0 => ⟨a, l0, _, rfl, rfl, (same_upd n0).seq ha, .inl (.inl upd_same), _, rfl, ?_⟩⟩
      have s1 := same_upd (o := .lst []) n0
      have hx := hlen x (by simp)
      refine iteT ⟨.ref a, rfl, a, _, 0, .str x, rfl, rfl, (same_upd n0).seq ha, atI_nat (j := 0) rfl, ⟨_, rfl⟩, x, (" " : Str), rfl, rfl, rfl, by omega, fun p np => ?_⟩
      have hw := split_words x
      have hwl : ∀ y ∈ Txt.split x (" " : Str), y.length ≤ 60000 := fun y hy => by
        have h1 : tl y ∈ words (tl x) := by rw [← hw]; exact List.mem_map_of_mem hy
        have h2 := spl_mem 32 _ _ _ h1
        rw [len_tl] at hx ⊢
        simp only [List.length_nil, Nat.zero_add] at h2
        omega
      generalize Txt.split x (" " : Str) = ws at hw hwl ⊢
      have s2 := same_new (o := .lst (ws.map V.str)) s1 np
      generalize hH2 : upd (upd H l0 (.lst [])) p (.lst (ws.map V.str)) = H2 at s2
      have hp : SqL K H2 p (ws.map V.str) := by rw [← hH2]; exact .inl (.inl upd_same)
      have hs : srvIn ((x :: r).map tl) = if (ws.map tl).length = 2 ∧ (ws.map tl).getD 0 [] = SERV then
          match dg ((ws.map tl).getD 1 []) with
          | some m => if 1 ≤ m ∧ m ≤ 8 then some m else none
          | none => none
        else none := by
        rw [hw]
        rfl
      refine ⟨.ref p, rfl, p, _, rfl, .inl hp, rfl, _, rfl, ?_⟩
      by_cases h2 : ws.length = 2
      · rw [decide_eq_true (show V.int (((ws.map V.str).length : Nat) : Int) = V.int 2 by rw [List.length_map, h2]; rfl)]
        obtain ⟨w0, w1, rfl⟩ : ∃ w0 w1, ws = [w0, w1] := by
          match ws, h2 with
          | [w0, w1], _ => exact ⟨w0, w1, rfl⟩
        refine iteT ⟨.ref p, rfl, p, _, 0, .str w0, rfl, rfl, hp, atI_nat (j := 0) rfl, rfl, _, rfl, ?_⟩
        rw [eq_str, tl_serv]
        by_cases h3 : tl w0 = SERV
        · rw [decide_eq_true h3]
          have l1 := hwl w1 (by simp)
          refine iteT ⟨.ref p, rfl, p, _, 1, .str w1, rfl, rfl, hp, atI_nat (j := 1) rfl, w1, rfl, by omega, ?_⟩
          have hs2 : srvIn ((x :: r).map tl) = match dg (tl w1) with
              | some m => if 1 ≤ m ∧ m ≤ 8 then some m else none
              | none => none := by
            rw [hs, if_pos ⟨rfl, h3⟩]
            rfl
          cases ed : dg (tl w1) with
          | none =>
            rw [ed] at hs2
            refine ⟨.non, rfl, rfl, _, rfl, iteT ⟨.int 0, rfl, fun d nd => ?_⟩⟩
            exact qx _ d hs2 (same_new s2 nd) upd_same
          | some m =>
            rw [ed] at hs2
            refine ⟨.int m, rfl, rfl, _, rfl, iteF ⟨.int m, rfl, 1, m, rfl, rfl, _, rfl, ?_⟩⟩
            by_cases h4 : 1 ≤ m
            · rw [decide_eq_true h4]
              refine iteT ⟨m, 8, rfl, rfl, _, rfl, ?_⟩
              by_cases h5 : m ≤ 8
              · rw [decide_eq_true h5]
                refine iteF ⟨.int m, rfl, q m _ ?_ s2⟩
                rw [hs2]
                exact if_pos ⟨h4, h5⟩
              · rw [decide_eq_false h5]
                refine iteT ⟨.int 0, rfl, fun d nd => ?_⟩
                exact qx _ d (by rw [hs2]; exact if_neg (by omega)) (same_new s2 nd) upd_same
            · rw [decide_eq_false h4]
              refine iteF ⟨_, rfl, iteT ⟨.int 0, rfl, fun d nd => ?_⟩⟩
              exact qx _ d (by rw [hs2]; exact if_neg (by omega)) (same_new s2 nd) upd_same
        · rw [decide_eq_false h3]
          refine iteF ⟨.non, rfl, rfl, _, rfl, iteT ⟨.int 0, rfl, fun d nd => ?_⟩⟩
          exact qx _ d (by rw [hs]; exact if_neg fun z => h3 z.2) (same_new s2 nd) upd_same
      · rw [decide_eq_false (show ¬ V.int (((ws.map V.str).length : Nat) : Int) = V.int 2 from fun e => h2 (by injection e with e; rw [List.length_map] at e; omega))]
        refine iteF ⟨.non, rfl, rfl, _, rfl, iteT ⟨.int 0, rfl, fun d nd => ?_⟩⟩
        exact qx _ d (by rw [hs]; exact if_neg fun z => h2 (by simpa using z.1)) (same_new s2 nd) upd_same
end
end Kx
set_option maxRecDepth 100000
set_option maxHeartbeats 4000000
namespace L2
open PySem PySem.Spec PyProof.Rows
theorem walk_enK {S : Hp → List V → Prop} {c : Int} {xs : List V} : Walk (IteG S c) xs.length (fun H => S H xs) (YPair (fun i => some (.int (c + (i : Nat)))) (fun i => xs[i]?)) := by
  refine ⟨fun i H h q => ⟨xs, xs[i], q, by simp [h]⟩, fun H q => ⟨xs, q, rfl⟩, fun i H v H' h q y => ?_⟩
  obtain ⟨T, x, h1, h2, h3, h4⟩ := y
  exact ⟨T, .int (c + (i : Nat)), x, h1, h2, h3, rfl, h4 xs q⟩
end L2
namespace Kx
open PySem PySem.Spec PyProof.Rows L2 TL
/-- all but what stands at p is as before -/
def Keep (p : Addr) (H H' : Hp) : Prop := ∀ b o, b ≠ p → H b = some o → H' b = some o
theorem Keep.same {p : Addr} {H H1 H2 : Hp} (k : Keep p H H1) (s : Same H1 H2) : Keep p H H2 := fun b o h e => s _ _ (k b o h e)
theorem Keep.set {p : Addr} {H H1 : Hp} {o : HO} (k : Keep p H H1) : Keep p H (upd H1 p o) := fun b x h e => by
  rw [upd_ne h]
  exact k b x h e
theorem Keep.of {p : Addr} {H H1 : Hp} (s : Same H H1) : Keep p H H1 := fun b o _ e => s _ _ e
theorem Keep.fresh {p : Addr} {H H1 H2 : Hp} (s : Same H H1) (f : H p = none) (k : Keep p H1 H2) : Same H H2 := fun b o e => k b o (fun z => by rw [z, f] at e; cases e) (s _ _ e)
theorem ItemAt.keep {p : Addr} {H H' : Hp} {a : Addr} {it : List Int × Int} {xs : List V} (h : ItemAt H a it) (hp : H p = some (.lst xs)) (k : Keep p H H') : ItemAt H' a it := by
  obtain ⟨b, h1, h2⟩ := h
  exact ⟨b, k _ _ (ne_of h1 hp (by intro z; cases z)) h1, k _ _ (ne_of h2 hp (by intro z; cases z)) h2⟩
theorem ItemsAt.keep {p : Addr} {H H' : Hp} {rows : List V} {its : List (List Int × Int)} {xs : List V} (h : ItemsAt H rows its) (hp : H p = some (.lst xs)) (k : Keep p H H') : ItemsAt H' rows its :=
  ⟨h.1, fun i v it h1 h2 => let ⟨a, e, q⟩ := h.2 i v it h1 h2; ⟨a, e, q.keep hp k⟩⟩
theorem ItemsAt.snoc {H : Hp} {rows : List V} {its : List (List Int × Int)} {a : Addr} {it : List Int × Int} (h : ItemsAt H rows its) (q : ItemAt H a it) : ItemsAt H (rows ++ [.ref a]) (its ++ [it]) := by
  refine ⟨by simp [h.1], fun i v x h1 h2 => ?_⟩
  by_cases hi : i < rows.length
  · rw [List.getElem?_append_left hi] at h1
    rw [List.getElem?_append_left (by rw [← h.1]; exact hi)] at h2
    exact h.2 i v x h1 h2
  · rw [List.getElem?_append_right (by omega)] at h1
    rw [List.getElem?_append_right (by rw [← h.1]; omega)] at h2
    rw [← h.1] at h2
    cases e : i - rows.length with
    | zero =>
      rw [e] at h1 h2
      cases h1
      cases h2
      exact ⟨a, rfl, q⟩
    | succ j =>
      rw [e] at h1
      cases h1
theorem srvIn_bd {ls : List (List Nat)} {n : Int} (h : srvIn ls = some n) : 1 ≤ n ∧ n ≤ 8 := by
  unfold srvIn at h
  split at h
  · cases h
  · split at h
    · split at h
      · split at h
        · rename_i hm
          cases h
          exact hm
        · cases h
      · cases h
    · cases h
theorem readF_cons {α : Type} {f : List Nat → Option α} {cap i : Nat} {l : List Nat} {r : List (List Nat)} {acc : List α} {x : α} (h : f l = some x) (hc : acc.length ≠ cap) : readF f cap i (l :: r) acc = readF f cap (i + 1) r (acc ++ [x]) := by
  simp only [readF, h]
  rw [if_neg hc]
theorem drop_get {α : Type} {l : List α} {i : Nat} {x : α} (h : l[i]? = some x) : l.drop i = x :: l.drop (i + 1) := by
  obtain ⟨hi, e⟩ := List.getElem?_eq_some_iff.mp h
  rw [List.drop_eq_getElem_cons hi, e]
abbrev sRL : Stmt := topS 30
abbrev sRM : Stmt := topS 32
/-- what the text says of its names, for the readers -/
structure Nm (P : Program) (K : PySem.W.Frag) (mg : Str → Option Value) where
  CL : Addr
  C : Addr
  fI : Addr
  fE : Addr
  fB : Addr
  fdI : FuncData
  fdE : FuncData
  B : Bi mg
  Z : Nu mg
  L : LayC K mg CL fI fE
  T : BtX.BtTxt P K mg C fB
  FI : Fun K "__init__" "Layout.__init__" sInit fI fdI
  bI : Binds K fdI ["self", "servers", "items"] []
  FE : Fun K "__eq__" "Layout.__eq__" sEq fE fdE
  bE : Binds K fdE ["self", "other"] []
  fN : Addr
  fdN : FuncData
  DN : Df K mg "is_number" sNum ["thing", "least", "most"] fN fdN
  fS : Addr
  fdS : FuncData
  DS : Df K mg "is_set" sSet ["thing", "servers"] fS fdS
  fT : Addr
  fdT : FuncData
  DT : Df K mg "is_item" sItem ["thing", "servers"] fT fdT
  fK : Addr
  fdK : FuncData
  DK : Df K mg "check_layout" sChk ["layout"] fK fdK
  fG : Addr
  fdG : FuncData
  DG : Df K mg "digit_in" sDig ["word"] fG fdG
  fII : Addr
  fdII : FuncData
  DII : Df K mg "item_in" sII ["line", "servers"] fII fdII
  fPI : Addr
  fdPI : FuncData
  DPI : Df K mg "pair_in" sPI ["line", "servers"] fPI fdPI
  fLO : Addr
  fdLO : FuncData
  DLO : Df K mg "lines_of" sLO ["text"] fLO fdLO
  fSI : Addr
  fdSI : FuncData
  DSI : Df K mg "servers_in" sSI ["lines"] fSI fdSI
section
variable {P : Program} {w : World} {K : PySem.W.Frag} {mg : Str → Option Value} {base : Heap}
theorem scRL : FnScope ["text", "lines", "left", "servers", "items", "at", "line", "item"] ["text"] (defScope sRL) := ⟨rfl, rfl, rfl, by decide +kernel, rfl, by decide +kernel, by decide +kernel⟩
def spRL (C CL : Addr) : Sp := fun vs H Q E => ∃ z : Str, vs = [.str z] ∧ z.length ≤ 700 ∧ (∀ n its H' p, readLay (tl z) = .inr (n, its) → Same H H' → LayAt CL H' p n its → Q (.ref p) H') ∧
  (∀ (k : Nat) H' d, readLay (tl z) = .inl k → Same H H' → H' d = some (.xd [(("line" : Str), .int k)]) → E (.ref C) (some d) H')
theorem ok_rl {f : Addr} {fd : FuncData} (N : Nm P K mg) (D : Df K mg "read_layout" sRL ["text"] f fd) : FnOk P w K mg base (L2.CX P w) 6 f fd ["text"] (spRL N.C N.CL) := by
  have GLO : FnOk P w K mg base CX0 1 N.fLO N.fdLO ["text"] spLO := ok_lo N.DLO N.B
  have GSI : FnOk P w K mg base (L2.CX P w) 2 N.fSI N.fdSI ["lines"] (spSI K N.C) := ok_si N.DSI N.B N.Z N.T N.DG
  have GII : FnOk P w K mg base CX0 4 N.fII N.fdII ["line", "servers"] spII := ok_ii N.DII N.B N.DG N.DT N.DN N.DS
  have GI : FnOk P w K mg base CX0 4 N.fI N.fdI ["self", "servers", "items"] (spInit N.CL) := ok_init N.FI N.B N.Z N.L N.DN N.DS N.DT
  obtain ⟨_, ⟨t10, h10⟩, _⟩ := N.Z
  refine D.F.okX scRL (fun vs H Q E h => ?_) (fun cdv A outer s H vs Q E hr h => ?_)
  · obtain ⟨_, rfl, _⟩ := h
    rfl
  · obtain ⟨z, rfl, hz, q, qx⟩ := h
    have hline : (100000 : Nat) < sizeLine := by decide
    have hr1 : Room 1 _ := hr.mono (by decide)
    have hr2 : Room 2 _ := hr.mono (by decide)
    have hr4 : Room 4 _ := hr.mono (by decide)
    refine ⟨_, pss_cons (ps_asg (pe_call GLO hr1 (by rfl) N.DLO.g N.DLO.k N.DLO.b .nil pass0 <| pa_cons (pv 0) pa_nil) (pg_tup rfl <| pgs_cons (pg_name (i := 1) scRL.nd rfl (.inl rfl)) <| pgs_cons (pg_name (i := 2) scRL.nd rfl (.inl rfl)) pgs_nil)) <|
      pss_cons (ps_par (i := 3) (j := 4) (by rfl) scRL.nd rfl rfl (by decide) rfl rfl (pa_cons (pe_call GSI hr2 (by rfl) N.DSI.g N.DSI.k N.DSI.b .nil (passes_call (takes_of rfl rfl rfl rfl) (fun _ _ _ _ h => h)) <| pa_cons (pv 1) pa_nil) <| pa_cons (pe_lst pa_nil) pa_nil) (by rfl)) <|
      pss_cons (ps_for (passes_of rfl) rfl (pi_enumK (by rfl) N.B.enm <| pa_cons (pe_slice sl_list (pv 1) (po_some pe_int) po_none) <| pa_cons pe_int pa_nil) (pg_tup rfl <| pgs_cons (pg_name (i := 5) scRL.nd rfl (.inl rfl)) <| pgs_cons (pg_name (i := 6) scRL.nd rfl (.inl rfl)) pgs_nil) <|
        pss_cons (ps_set (i := 7) scRL.nd rfl (.inl rfl) <| pe_call GII hr4 (by rfl) N.DII.g N.DII.k N.DII.b .nil pass0 <| pa_cons (pv 6) <| pa_cons (pv 3) pa_nil) <|
        pss_cons (ps_if (PW.pt <| pw_or (pt_cmpR op_isN (pv 7) pe_non (nomark _)) <| pw_or1 <| pt_cmpR op_eq (pe_callB call_len_seq (by rfl) N.B.len boot_len <| pa_cons (pv 4) pa_nil) (pe_glob (v := .int 10) (by rfl) h10 ⟨_, rfl⟩) (nomark _))
          (pss_one <| ps_raiseBad rfl N.T hr (takes_of rfl rfl rfl rfl) (pa_cons (pv 5) pa_nil)) pss_nil) <|
        pss_one <| ps_expr (pe_bm PySem.F.plainAttrs_list PySem.F.slot_list_append PySem.F.type_list_append mt_append (pv 4) (pa_cons (pv 7) pa_nil))) <|
      pss_cons (ps_if (PW.pt <| pw_or (pt_val <| pv 2) <| pw_or1 <| pt_cmpR (op_eqNil hr.units) (pv 4) (pe_lst pa_nil) (nomark _)) (pss_one <| ps_raiseBad rfl N.T hr (takes_of rfl rfl rfl rfl) (pa_cons (pe_callB call_len_seq (by rfl) N.B.len boot_len <| pa_cons (pv 1) pa_nil) pa_nil)) pss_nil) <|
      pss_one <| ps_ret <| pe_make N.L.mkL GI hr (by rfl) N.L.g N.bI .nil pass0 <| pa_cons (pv 3) <| pa_cons (pv 4) pa_nil, ?_⟩
    refine ⟨.str z, rfl, z, rfl, by omega, fun H1 t l ls s1 ht hl els => ⟨t, _, rfl, .inl (.inl ht), rfl, _, _, rfl, _, _, rfl, rfl, ?_⟩⟩
    have hlen : ∀ x ∈ ls, x.length ≤ 700 := fun x hx => by
      have h1 : tl x ∈ lns (tl z) := (List.dropLast_sublist _).subset (by rw [← els]; exact List.mem_map_of_mem hx)
      have h2 := spl_mem 10 _ _ _ h1
      rw [len_tl] at hz ⊢
      simp only [List.length_nil, Nat.zero_add] at h2
      omega
    have hcount : ls.length ≤ 701 := by
      have h1 := congrArg List.length els
      rw [List.length_map, List.length_dropLast] at h1
      have h2 := spl_len 10 (tl z) []
      rw [len_tl] at hz
      have h3 : (lns (tl z)).length ≤ (tl z).length + 1 := h2
      omega
    have hRL : readLay (tl z) = match srvIn (ls.map tl) with
      | none => .inl 0
      | some n => match readF (fun l => itemIn (words l) n) 10 1 ((ls.map tl).drop 1) [] with
        | .inl k => .inl k
        | .inr its => if (lns (tl z)).getLastD [] ≠ [] ∨ its = [] then .inl (ls.map tl).length else .inr (n, its) := by
      rw [els]
      rfl
    refine ⟨.ref l, rfl, l, ls, rfl, .inl (.inl hl), fun x hx => by have := hlen x hx; omega, fun n H2 en s2 => ⟨by show 0 ≤ sizeLine; exact Nat.zero_le _, fun L nL => ?_⟩, fun H2 d en s2 hd => qx 0 H2 d (by rw [hRL, en]) (s1.trans s2) hd⟩
    replace hRL : readLay (tl z) = match readF (fun l => itemIn (words l) n) 10 1 ((ls.map tl).drop 1) [] with
        | .inl k => .inl k
        | .inr its => if (lns (tl z)).getLastD [] ≠ [] ∨ its = [] then .inl (ls.map tl).length else .inr (n, its) := by rw [hRL, en]
    obtain ⟨n1, n8⟩ := srvIn_bd en
    have s3 := s1.trans s2
    refine ⟨_, _, rfl, ?_⟩
    have hl3 : upd H2 L (.lst []) l = some (.lst (ls.map V.str)) := (same_upd nL) _ _ (s2 _ _ hl)
    refine ⟨.ref l, rfl, 1, rfl, l, _, rfl, .inl (.inl hl3), fun c nc => ⟨c, 1, _, rfl, by decide, by decide, .inl (.inl upd_same), ?_⟩⟩
    have hL3 : upd (upd H2 L (.lst [])) c (.lst (cutV (ls.map V.str) (some 1) none)) L = some (.lst []) := (same_upd nc) _ _ upd_same
    have hl4 : upd (upd H2 L (.lst [])) c (.lst (cutV (ls.map V.str) (some 1) none)) l = some (.lst (ls.map V.str)) := (same_upd nc) _ _ hl3
    have hc4 : upd (upd H2 L (.lst [])) c (.lst (cutV (ls.map V.str) (some 1) none)) c = some (.lst ((ls.drop 1).map V.str)) := by rw [upd_same, cut1, List.map_drop]
    have k4 : Keep L H2 (upd (upd H2 L (.lst [])) c (.lst (cutV (ls.map V.str) (some 1) none))) := Keep.of (same_new (same_upd nL) nc)
    have cL : c ≠ L := fun e => by
      rw [e] at nc
      rw [upd_same] at nc
      cases nc
    have lL : l ≠ L := fun e => by
      have := s2 _ _ hl
      rw [e, nL] at this
      cases this
    generalize hH3 : upd (upd H2 L (.lst [])) c (.lst (cutV (ls.map V.str) (some 1) none)) = H3 at hL3 hl4 hc4 k4
    refine for_it (walk_enK (xs := (ls.drop 1).map V.str)) (fun i σ H' => ∃ y5 y6 y7 rows its, σ = [some (.str z), some (.ref l), some (.bl (decide ((lns (tl z)).getLastD [] ≠ []))), some (.int n), some (.ref L), y5, y6, y7] ∧
      Keep L H3 H' ∧ H' L = some (.lst rows) ∧ ItemsAt H' rows its ∧ (∀ it ∈ its, GoodIt n it) ∧ its.length ≤ 10 ∧ readF (fun l => itemIn (words l) n) 10 1 ((ls.map tl).drop 1) [] = readF (fun l => itemIn (words l) n) 10 (1 + i) (((ls.map tl).drop 1).drop i) its)
      ⟨none, none, none, [], [], rfl, Keep.of (Same.refl _), hL3, ⟨rfl, fun i v it h1 h2 => nomatch h1⟩, (fun it h => nomatch h), Nat.zero_le _, rfl⟩ (fun i σ H' _ ⟨_, _, _, _, _, _, k, _⟩ => .inl (.inl (k _ _ cL hc4))) ?_ ?_
    · rintro i v σ H4 H5 hi ⟨y5, y6, y7, rows, its, rfl, k, hL, hI, hg, h10', hF⟩ ⟨T, v1, v2, rfl, nT, rfl, e1, e2⟩
      cases e1
      obtain ⟨x, hx, ex⟩ := map_get e2
      subst ex
      have k5 : Keep L H3 (upd H4 T (.tup [.int (1 + (i : Nat)), .str x])) := k.same (same_upd nT)
      have hL5 : upd H4 T (.tup [.int (1 + (i : Nat)), .str x]) L = some (.lst rows) := (same_upd nT) _ _ hL
      have hI5 := hI.same (same_upd (o := .tup [.int (1 + (i : Nat)), .str x]) nT)
      refine ⟨T, _, rfl, .inl (.inl upd_same), rfl, _, _, rfl, _, _, rfl, rfl, ?_⟩
      have hxm : x ∈ ls := List.mem_of_mem_drop (List.mem_of_getElem? hx)
      have hxl := hlen x hxm
      have hdr : ((ls.map tl).drop 1).drop i = tl x :: ((ls.map tl).drop 1).drop (i + 1) := drop_get (by rw [← List.map_drop, List.getElem?_map, hx]; rfl)
      rw [hdr] at hF
      refine ⟨.str x, rfl, .int n, rfl, x, n, rfl, hxl, fun H6 v s6 hv => ?_⟩
      have k6 := k5.same s6
      have hL6 := s6 _ _ hL5
      have hI6 := hI5.same s6
      have s26 : Same H2 H6 := Keep.fresh (Same.refl _) nL (fun b o hb e => k6 b o hb (k4 b o hb e))
      cases ei : itemIn (words (tl x)) n with
      | none =>
        rw [ei] at hv
        have hv : v = .non := hv
        subst hv
        refine ⟨.non, rfl, rfl, _, rfl, iteT ⟨.int (1 + (i : Nat)), rfl, .int (1 + (i : Nat)), rfl, fun d nd => ?_⟩⟩
        refine qx (1 + i) _ d ?_ (same_new (s3.trans s26) nd) ?_
        · rw [hRL, hF, readF_bad ei]
        · rw [upd_same]
          norm_cast
      | some it =>
        rw [ei] at hv
        obtain ⟨a, ev, ha, hgi⟩ := hv
        subst ev
        refine ⟨.ref a, rfl, rfl, _, rfl, iteF ⟨.ref L, rfl, L, rows, rfl, .inl (.inl (.inl hL6)), rfl, _, rfl, ?_⟩⟩
        by_cases hm : its.length = 10
        · rw [decide_eq_true (show V.int ((rows.length : Nat) : Int) = V.int 10 by rw [hI.1, hm]; rfl)]
          refine iteT ⟨.int (1 + (i : Nat)), rfl, .int (1 + (i : Nat)), rfl, fun d nd => ?_⟩
          refine qx (1 + i) _ d ?_ (same_new (s3.trans s26) nd) ?_
          · rw [hRL, hF, readF_full hm]
          · rw [upd_same]
            norm_cast
        · rw [decide_eq_false (show ¬ V.int ((rows.length : Nat) : Int) = V.int 10 from fun e => hm (by injection e with e; rw [hI.1] at e; omega))]
          refine iteF ⟨.ref L, rfl, .inl ⟨rfl, _, .inl (.inl hL6)⟩, .ref a, rfl, L, rows, _, rfl, rfl, hL6, small1000 (by rw [hI.1]; omega), ?_⟩
          have kk : Keep L H6 (upd H6 L (.lst (rows ++ [.ref a]))) := Keep.set (Keep.of (Same.refl _))
          refine ⟨_, _, _, rows ++ [.ref a], its ++ [it], rfl, k6.set, upd_same, (hI6.keep hL6 kk).snoc (ha.keep hL6 kk), ?_, by rw [List.length_append]; simp only [List.length_singleton]; omega, ?_⟩
          · intro y hy
            rcases List.mem_append.mp hy with h | h
            · exact hg y h
            · rw [List.mem_singleton] at h
              rw [h]
              exact hgi
          · rw [hF, readF_cons ei hm]
            rfl
    · rintro σ H4 ⟨y5, y6, y7, rows, its, rfl, k, hL, hI, hg, h10', hF⟩
      have s24 : Same H2 H4 := Keep.fresh (Same.refl _) nL (fun b o hb e => k b o hb (k4 b o hb e))
      have s04 := s3.trans s24
      have hl5 := k _ _ lL hl4
      have hend : readF (fun l => itemIn (words l) n) 10 1 ((ls.map tl).drop 1) [] = .inr its := by
        rw [hF, List.length_map, ← List.map_drop, ← List.length_map (f := tl), List.drop_length]
        rfl
      rw [hend] at hRL
      refine ⟨_, rfl, _, rfl, ?_⟩
      by_cases hleft : (lns (tl z)).getLastD [] ≠ []
      · rw [decide_eq_true hleft]
        refine iteT ⟨.ref l, rfl, l, _, rfl, .inl (.inl (.inl hl5)), _, rfl, fun d nd => ?_⟩
        refine qx ls.length _ d ?_ (same_new s04 nd) ?_
        · rw [hRL]
          simp only [if_pos (Or.inl hleft : _ ∨ its = []), List.length_map]
        · rw [upd_same, List.length_map]
      · rw [decide_eq_false hleft]
        refine iteF ⟨.ref L, rfl, by show 0 ≤ sizeLine; exact Nat.zero_le _, fun l0 n0 => ⟨L, l0, rows, rfl, rfl, .inl (.inl ((same_upd n0) _ _ hL)), .inl (.inl upd_same), _, rfl, ?_⟩⟩
        have s5 := same_upd (o := .lst []) n0
        by_cases hnil : its = []
        · have hr0 : rows = [] := List.length_eq_zero_iff.mp (by rw [hI.1, hnil]; rfl)
          rw [hr0]
          refine iteT ⟨.ref l, rfl, l, _, rfl, .inl (.inl (.inl (s5 _ _ hl5))), _, rfl, fun d nd => ?_⟩
          refine qx ls.length _ d ?_ (same_new (s04.trans s5) nd) ?_
          · rw [hRL]
            simp only [if_pos (Or.inr hnil : (lns (tl z)).getLastD [] ≠ [] ∨ its = []), List.length_map]
          · rw [upd_same, List.length_map]
        · have hpos : 1 ≤ its.length := List.length_pos_iff.mpr hnil
          have hrne : rows.isEmpty = false := by
            cases rows with
            | nil =>
              have := hI.1
              simp only [List.length_nil] at this
              omega
            | cons _ _ => rfl
          rw [hrne]
          refine iteF ⟨.int n, rfl, .ref L, rfl, fun x dx nx ndx hdx => ?_⟩
          have s6 := same_new (o := .ins N.CL dx []) (same_new (o := .own x) (Same.refl (upd H4 l0 (.lst []))) ndx) (by rw [upd_ne (Ne.symm hdx)]; exact nx)
          have hL7 := s6 _ _ (s5 _ _ hL)
          refine ⟨x, dx, L, n, rows, its, rfl, upd_same, hL7, (hI.same s5).same s6, hg, n1, n8, hpos, h10', fun H8 k8 hlay => ⟨rfl, ?_⟩⟩
          refine q n its H8 x ?_ ?_ hlay
          · rw [hRL]
            simp only [if_neg (show ¬ ((lns (tl z)).getLastD [] ≠ [] ∨ its = []) from fun z => z.elim hleft hnil)]
          · intro b o e
            have e1 := s5 _ _ (s04 _ _ e)
            exact k8 b o (fun z => by rw [z, nx] at e1; cases e1) (s6 _ _ e1)
end
end Kx
set_option maxRecDepth 100000
set_option maxHeartbeats 4000000
namespace Kx
open PySem PySem.Spec PyProof.Rows L2 TL
/-- rows of pairs -/
def PairsAt (H : Hp) (rows : List V) (ps : List (Int × Int)) : Prop := rows.length = ps.length ∧ ∀ (i : Nat) (v : V) (p : Int × Int), rows[i]? = some v → ps[i]? = some p → ∃ a : Addr, v = V.ref a ∧ PairAt H a p
theorem PairsAt.same {H H' : Hp} {rows : List V} {its : List (Int × Int)} (x : PairsAt H rows its) (s : Same H H') : PairsAt H' rows its :=
  ⟨x.1, fun i v it h1 h2 => let ⟨a, e, q⟩ := x.2 i v it h1 h2; ⟨a, e, s _ _ q⟩⟩
theorem PairsAt.keep {p : Addr} {H H' : Hp} {rows : List V} {its : List (Int × Int)} {xs : List V} (h : PairsAt H rows its) (hp : H p = some (.lst xs)) (k : Keep p H H') : PairsAt H' rows its :=
  ⟨h.1, fun i v it h1 h2 => let ⟨a, e, q⟩ := h.2 i v it h1 h2; ⟨a, e, k _ _ (ne_of q hp (by intro z; cases z)) q⟩⟩
theorem PairsAt.snoc {H : Hp} {rows : List V} {its : List (Int × Int)} {a : Addr} {it : Int × Int} (h : PairsAt H rows its) (q : PairAt H a it) : PairsAt H (rows ++ [.ref a]) (its ++ [it]) := by
  refine ⟨by simp [h.1], fun i v x h1 h2 => ?_⟩
  by_cases hi : i < rows.length
  · rw [List.getElem?_append_left hi] at h1
    rw [List.getElem?_append_left (by rw [← h.1]; exact hi)] at h2
    exact h.2 i v x h1 h2
  · rw [List.getElem?_append_right (by omega)] at h1
    rw [List.getElem?_append_right (by rw [← h.1]; omega)] at h2
    rw [← h.1] at h2
    cases e : i - rows.length with
    | zero =>
      rw [e] at h1 h2
      cases h1
      cases h2
      exact ⟨a, rfl, q⟩
    | succ j =>
      rw [e] at h1
      cases h1
section
variable {P : Program} {w : World} {K : PySem.W.Frag} {mg : Str → Option Value} {base : Heap}
theorem scRM : FnScope ["text", "lines", "left", "servers", "found", "at", "line", "pair"] ["text"] (defScope sRM) := ⟨rfl, rfl, rfl, by decide +kernel, rfl, by decide +kernel, by decide +kernel⟩
def spRM (C : Addr) : Sp := fun vs H Q E => ∃ z : Str, vs = [.str z] ∧ z.length ≤ 700 ∧ (∀ n its H' p L rows, readMv (tl z) = .inr (n, its) → Same H H' → H' p = some (.tup [.int n, .ref L]) → H' L = some (.lst rows) → PairsAt H' rows its → Q (.ref p) H') ∧
  (∀ (k : Nat) H' d, readMv (tl z) = .inl k → Same H H' → H' d = some (.xd [(("line" : Str), .int k)]) → E (.ref C) (some d) H')
theorem ok_rm {f : Addr} {fd : FuncData} (N : Nm P K mg) (D : Df K mg "read_transfers" sRM ["text"] f fd) : FnOk P w K mg base (L2.CX P w) 3 f fd ["text"] (spRM N.C) := by
  have GLO : FnOk P w K mg base CX0 1 N.fLO N.fdLO ["text"] spLO := ok_lo N.DLO N.B
  have GSI : FnOk P w K mg base (L2.CX P w) 2 N.fSI N.fdSI ["lines"] (spSI K N.C) := ok_si N.DSI N.B N.Z N.T N.DG
  have GPI : FnOk P w K mg base CX0 2 N.fPI N.fdPI ["line", "servers"] spPI := ok_pi N.DPI N.B N.DG
  obtain ⟨_, _, ⟨t10, h10⟩⟩ := N.Z
  refine D.F.okX scRM (fun vs H Q E h => ?_) (fun cdv A outer s H vs Q E hr h => ?_)
  · obtain ⟨_, rfl, _⟩ := h
    rfl
  · obtain ⟨z, rfl, hz, q, qx⟩ := h
    have hline : (100000 : Nat) < sizeLine := by decide
    have hr1 : Room 1 _ := hr.mono (by decide)
    have hr2 : Room 2 _ := hr.mono (by decide)
    refine ⟨_, pss_cons (ps_asg (pe_call GLO hr1 (by rfl) N.DLO.g N.DLO.k N.DLO.b .nil pass0 <| pa_cons (pv 0) pa_nil) (pg_tup rfl <| pgs_cons (pg_name (i := 1) scRM.nd rfl (.inl rfl)) <| pgs_cons (pg_name (i := 2) scRM.nd rfl (.inl rfl)) pgs_nil)) <|
      pss_cons (ps_par (i := 3) (j := 4) (by rfl) scRM.nd rfl rfl (by decide) rfl rfl (pa_cons (pe_call GSI hr2 (by rfl) N.DSI.g N.DSI.k N.DSI.b .nil (passes_call (takes_of rfl rfl rfl rfl) (fun _ _ _ _ h => h)) <| pa_cons (pv 1) pa_nil) <| pa_cons (pe_lst pa_nil) pa_nil) (by rfl)) <|
      pss_cons (ps_for (passes_of rfl) rfl (pi_enumK (by rfl) N.B.enm <| pa_cons (pe_slice sl_list (pv 1) (po_some pe_int) po_none) <| pa_cons pe_int pa_nil) (pg_tup rfl <| pgs_cons (pg_name (i := 5) scRM.nd rfl (.inl rfl)) <| pgs_cons (pg_name (i := 6) scRM.nd rfl (.inl rfl)) pgs_nil) <|
        pss_cons (ps_set (i := 7) scRM.nd rfl (.inl rfl) <| pe_call GPI hr2 (by rfl) N.DPI.g N.DPI.k N.DPI.b .nil pass0 <| pa_cons (pv 6) <| pa_cons (pv 3) pa_nil) <|
        pss_cons (ps_if (PW.pt <| pw_or (pt_cmpR op_isN (pv 7) pe_non (nomark _)) <| pw_or1 <| pt_cmpR op_eq (pe_callB call_len_seq (by rfl) N.B.len boot_len <| pa_cons (pv 4) pa_nil) (pe_glob (v := .int 16) (by rfl) h10 ⟨_, rfl⟩) (nomark _))
          (pss_one <| ps_raiseBad rfl N.T hr (takes_of rfl rfl rfl rfl) (pa_cons (pv 5) pa_nil)) pss_nil) <|
        pss_one <| ps_expr (pe_bm PySem.F.plainAttrs_list PySem.F.slot_list_append PySem.F.type_list_append mt_append (pv 4) (pa_cons (pv 7) pa_nil))) <|
      pss_cons (ps_if (pt_val <| pv 2) (pss_one <| ps_raiseBad rfl N.T hr (takes_of rfl rfl rfl rfl) (pa_cons (pe_callB call_len_seq (by rfl) N.B.len boot_len <| pa_cons (pv 1) pa_nil) pa_nil)) pss_nil) <|
      pss_one <| ps_ret <| pe_tup <| pa_cons (pv 3) <| pa_cons (pv 4) pa_nil, ?_⟩
    refine ⟨.str z, rfl, z, rfl, by omega, fun H1 t l ls s1 ht hl els => ⟨t, _, rfl, .inl (.inl ht), rfl, _, _, rfl, _, _, rfl, rfl, ?_⟩⟩
    have hlen : ∀ x ∈ ls, x.length ≤ 700 := fun x hx => by
      have h1 : tl x ∈ lns (tl z) := (List.dropLast_sublist _).subset (by rw [← els]; exact List.mem_map_of_mem hx)
      have h2 := spl_mem 10 _ _ _ h1
      rw [len_tl] at hz ⊢
      simp only [List.length_nil, Nat.zero_add] at h2
      omega
    have hcount : ls.length ≤ 701 := by
      have h1 := congrArg List.length els
      rw [List.length_map, List.length_dropLast] at h1
      have h2 := spl_len 10 (tl z) []
      rw [len_tl] at hz
      have h3 : (lns (tl z)).length ≤ (tl z).length + 1 := h2
      omega
    have hRL : readMv (tl z) = match srvIn (ls.map tl) with
      | none => .inl 0
      | some n => match readF (fun l => pairIn (words l) n) 16 1 ((ls.map tl).drop 1) [] with
        | .inl k => .inl k
        | .inr its => if (lns (tl z)).getLastD [] ≠ [] then .inl (ls.map tl).length else .inr (n, its) := by
      rw [els]
      rfl
    refine ⟨.ref l, rfl, l, ls, rfl, .inl (.inl hl), fun x hx => by have := hlen x hx; omega, fun n H2 en s2 => ⟨by show 0 ≤ sizeLine; exact Nat.zero_le _, fun L nL => ?_⟩, fun H2 d en s2 hd => qx 0 H2 d (by rw [hRL, en]) (s1.trans s2) hd⟩
    replace hRL : readMv (tl z) = match readF (fun l => pairIn (words l) n) 16 1 ((ls.map tl).drop 1) [] with
        | .inl k => .inl k
        | .inr its => if (lns (tl z)).getLastD [] ≠ [] then .inl (ls.map tl).length else .inr (n, its) := by rw [hRL, en]
    obtain ⟨n1, n8⟩ := srvIn_bd en
    have s3 := s1.trans s2
    refine ⟨_, _, rfl, ?_⟩
    have hl3 : upd H2 L (.lst []) l = some (.lst (ls.map V.str)) := (same_upd nL) _ _ (s2 _ _ hl)
    refine ⟨.ref l, rfl, 1, rfl, l, _, rfl, .inl (.inl hl3), fun c nc => ⟨c, 1, _, rfl, by decide, by decide, .inl (.inl upd_same), ?_⟩⟩
    have hL3 : upd (upd H2 L (.lst [])) c (.lst (cutV (ls.map V.str) (some 1) none)) L = some (.lst []) := (same_upd nc) _ _ upd_same
    have hl4 : upd (upd H2 L (.lst [])) c (.lst (cutV (ls.map V.str) (some 1) none)) l = some (.lst (ls.map V.str)) := (same_upd nc) _ _ hl3
    have hc4 : upd (upd H2 L (.lst [])) c (.lst (cutV (ls.map V.str) (some 1) none)) c = some (.lst ((ls.drop 1).map V.str)) := by rw [upd_same, cut1, List.map_drop]
    have k4 : Keep L H2 (upd (upd H2 L (.lst [])) c (.lst (cutV (ls.map V.str) (some 1) none))) := Keep.of (same_new (same_upd nL) nc)
    have cL : c ≠ L := fun e => by
      rw [e] at nc
      rw [upd_same] at nc
      cases nc
    have lL : l ≠ L := fun e => by
      have := s2 _ _ hl
      rw [e, nL] at this
      cases this
    generalize hH3 : upd (upd H2 L (.lst [])) c (.lst (cutV (ls.map V.str) (some 1) none)) = H3 at hL3 hl4 hc4 k4
    refine for_it (walk_enK (xs := (ls.drop 1).map V.str)) (fun i σ H' => ∃ y5 y6 y7 rows its, σ = [some (.str z), some (.ref l), some (.bl (decide ((lns (tl z)).getLastD [] ≠ []))), some (.int n), some (.ref L), y5, y6, y7] ∧
      Keep L H3 H' ∧ H' L = some (.lst rows) ∧ PairsAt H' rows its ∧ its.length ≤ 16 ∧ readF (fun l => pairIn (words l) n) 16 1 ((ls.map tl).drop 1) [] = readF (fun l => pairIn (words l) n) 16 (1 + i) (((ls.map tl).drop 1).drop i) its)
      ⟨none, none, none, [], [], rfl, Keep.of (Same.refl _), hL3, ⟨rfl, fun i v it h1 h2 => nomatch h1⟩, Nat.zero_le _, rfl⟩ (fun i σ H' _ ⟨_, _, _, _, _, _, k, _⟩ => .inl (.inl (k _ _ cL hc4))) ?_ ?_
    · rintro i v σ H4 H5 hi ⟨y5, y6, y7, rows, its, rfl, k, hL, hI, h10', hF⟩ ⟨T, v1, v2, rfl, nT, rfl, e1, e2⟩
      cases e1
      obtain ⟨x, hx, ex⟩ := map_get e2
      subst ex
      have k5 : Keep L H3 (upd H4 T (.tup [.int (1 + (i : Nat)), .str x])) := k.same (same_upd nT)
      have hL5 : upd H4 T (.tup [.int (1 + (i : Nat)), .str x]) L = some (.lst rows) := (same_upd nT) _ _ hL
      have hI5 := hI.same (same_upd (o := .tup [.int (1 + (i : Nat)), .str x]) nT)
      refine ⟨T, _, rfl, .inl (.inl upd_same), rfl, _, _, rfl, _, _, rfl, rfl, ?_⟩
      have hxm : x ∈ ls := List.mem_of_mem_drop (List.mem_of_getElem? hx)
      have hxl := hlen x hxm
      have hdr : ((ls.map tl).drop 1).drop i = tl x :: ((ls.map tl).drop 1).drop (i + 1) := drop_get (by rw [← List.map_drop, List.getElem?_map, hx]; rfl)
      rw [hdr] at hF
      refine ⟨.str x, rfl, .int n, rfl, x, n, rfl, hxl, fun H6 v s6 hv => ?_⟩
      have k6 := k5.same s6
      have hL6 := s6 _ _ hL5
      have hI6 := hI5.same s6
      have s26 : Same H2 H6 := Keep.fresh (Same.refl _) nL (fun b o hb e => k6 b o hb (k4 b o hb e))
      cases ei : pairIn (words (tl x)) n with
      | none =>
        rw [ei] at hv
        have hv : v = .non := hv
        subst hv
        refine ⟨.non, rfl, rfl, _, rfl, iteT ⟨.int (1 + (i : Nat)), rfl, .int (1 + (i : Nat)), rfl, fun d nd => ?_⟩⟩
        refine qx (1 + i) _ d ?_ (same_new (s3.trans s26) nd) ?_
        · rw [hRL, hF, readF_bad ei]
        · rw [upd_same]
          norm_cast
      | some it =>
        rw [ei] at hv
        obtain ⟨a, ev, ha⟩ := hv
        subst ev
        refine ⟨.ref a, rfl, rfl, _, rfl, iteF ⟨.ref L, rfl, L, rows, rfl, .inl (.inl (.inl hL6)), rfl, _, rfl, ?_⟩⟩
        by_cases hm : its.length = 16
        · rw [decide_eq_true (show V.int ((rows.length : Nat) : Int) = V.int 16 by rw [hI.1, hm]; rfl)]
          refine iteT ⟨.int (1 + (i : Nat)), rfl, .int (1 + (i : Nat)), rfl, fun d nd => ?_⟩
          refine qx (1 + i) _ d ?_ (same_new (s3.trans s26) nd) ?_
          · rw [hRL, hF, readF_full hm]
          · rw [upd_same]
            norm_cast
        · rw [decide_eq_false (show ¬ V.int ((rows.length : Nat) : Int) = V.int 16 from fun e => hm (by injection e with e; rw [hI.1] at e; omega))]
          refine iteF ⟨.ref L, rfl, .inl ⟨rfl, _, .inl (.inl hL6)⟩, .ref a, rfl, L, rows, _, rfl, rfl, hL6, small1000 (by rw [hI.1]; omega), ?_⟩
          have kk : Keep L H6 (upd H6 L (.lst (rows ++ [.ref a]))) := Keep.set (Keep.of (Same.refl _))
          refine ⟨_, _, _, rows ++ [.ref a], its ++ [it], rfl, k6.set, upd_same, (hI6.keep hL6 kk).snoc (kk _ _ (ne_of ha hL6 (by intro z; cases z)) ha), by rw [List.length_append]; simp only [List.length_singleton]; omega, ?_⟩
          rw [hF, readF_cons ei hm]
          rfl
    · rintro σ H4 ⟨y5, y6, y7, rows, its, rfl, k, hL, hI, h10', hF⟩
      have s24 : Same H2 H4 := Keep.fresh (Same.refl _) nL (fun b o hb e => k b o hb (k4 b o hb e))
      have s04 := s3.trans s24
      have hl5 := k _ _ lL hl4
      have hend : readF (fun l => pairIn (words l) n) 16 1 ((ls.map tl).drop 1) [] = .inr its := by
        rw [hF, List.length_map, ← List.map_drop, ← List.length_map (f := tl), List.drop_length]
        rfl
      rw [hend] at hRL
      refine ⟨_, rfl, _, rfl, ?_⟩
      by_cases hleft : (lns (tl z)).getLastD [] ≠ []
      · rw [decide_eq_true hleft]
        refine iteT ⟨.ref l, rfl, l, _, rfl, .inl (.inl (.inl hl5)), _, rfl, fun d nd => ?_⟩
        refine qx ls.length _ d ?_ (same_new s04 nd) ?_
        · rw [hRL]
          simp only [if_pos hleft, List.length_map]
        · rw [upd_same, List.length_map]
      · rw [decide_eq_false hleft]
        refine iteF ⟨.int n, rfl, .ref L, rfl, by show 2 ≤ sizeLine; decide, fun p np => ?_⟩
        have s5 := same_upd (o := .tup [.int n, .ref L]) np
        refine q n its _ p L rows ?_ (s04.trans s5) upd_same (s5 _ _ hL) (hI.same s5)
        rw [hRL]
        simp only [if_neg hleft]
end
end Kx
set_option maxRecDepth 100000
set_option maxHeartbeats 4000000
namespace L2
open PySem PySem.Spec PyProof.Rows
theorem walk_enT {S : Hp → List V → Prop} {xs : List V} : Walk (IteG S 0) xs.length (fun H => S H xs) (YPair (fun i => some (.int (0 + (i : Nat)))) (fun i => xs[i]?)) := walk_enK
end L2
namespace Kx
open PySem PySem.Spec PyProof.Rows L2 TL
/-! ### texts and lists of signs -/
theorem joinL_nil : ∀ l : List (List Nat), joinL [] l = l.flatten
  | [] => rfl
  | [p] => by simp [joinL]
  | p :: q :: r => by
    show p ++ ([] ++ joinL [] (q :: r)) = _
    rw [joinL_nil (q :: r)]
    simp
theorem tl_nl : tl ("\n" : Str) = [10] := by decide +kernel
theorem tl_emp : tl ("" : Str) = [] := by decide +kernel
theorem join_nl (sts : List Str) : tl (Txt.join ("" : Str) (sts.map fun s => s ++ ("\n" : Str))) = tx (sts.map tl) := by
  rw [join_eq, tl_join, tl_emp, joinL_nil, List.map_map]
  unfold tx
  rw [List.map_map]
  congr 1
  apply List.map_congr_left
  intro s _
  show tl (s ++ ("\n" : Str)) = tl s ++ [10]
  rw [tl_append, tl_nl]
theorem len_app (x y : Str) : (x ++ y).length = x.length + y.length := by
  rw [len_tl, tl_append, List.length_append, len_tl x, len_tl y]
theorem sum_le {m : Nat} : ∀ {l : List Nat}, (∀ x ∈ l, x ≤ m) → l.sum ≤ l.length * m
  | [], _ => by simp
  | x :: r, h => by
    have h1 := h x (by simp)
    have ih := sum_le (m := m) fun y hy => h y (List.mem_cons_of_mem _ hy)
    rw [List.sum_cons, List.length_cons, Nat.succ_mul]
    omega
theorem nl_fit {sts : List Str} (h : ∀ s ∈ sts, s.length ≤ 100) (hn : sts.length ≤ 40) : ((sts.map fun s => s ++ ("\n" : Str)).map (·.length)).sum + (sts.map fun s => s ++ ("\n" : Str)).length * ("" : Str).length ≤ 16777216 := by
  have h1 : ("" : Str).length = 0 := by decide +kernel
  have h2 : ("\n" : Str).length = 1 := by decide +kernel
  rw [h1, Nat.mul_zero, Nat.add_zero]
  have := sum_le (m := 101) (l := (sts.map fun s => s ++ ("\n" : Str)).map (·.length)) (fun x hx => by
    rw [List.map_map] at hx
    obtain ⟨s, hs, rfl⟩ := List.mem_map.mp hx
    have := h s hs
    show (s ++ ("\n" : Str)).length ≤ 101
    rw [len_app, h2]
    omega)
  rw [List.length_map, List.length_map] at this
  have h3 : sts.length * 101 ≤ 40 * 101 := Nat.mul_le_mul_right _ hn
  omega
theorem tl_int {x : Int} (h0 : 0 ≤ x) (h9 : x ≤ 9) : tl (Str.ofString (toString x)) = wd x := by
  obtain ⟨n, rfl⟩ := Int.eq_ofNat_of_zero_le h0
  have e := tl_num n
  rw [numL_lt (by omega)] at e
  exact e
theorem len_int {x : Int} (h0 : 0 ≤ x) (h9 : x ≤ 9) : (Str.ofString (toString x)).length = 1 := by
  rw [len_tl, tl_int h0 h9]
  rfl
theorem log_int {x : Int} (h0 : 0 ≤ x) (h9 : x ≤ 9) : x.natAbs.log2 < 1920 := by
  have h : x.natAbs < 2 ^ 1920 := by
    have : x.natAbs ≤ 9 := by omega
    exact Nat.lt_of_le_of_lt this (by decide +kernel)
  by_cases hz : x.natAbs = 0
  · rw [hz]; decide
  · exact (Nat.log2_lt hz).mpr h
theorem jn_len1 : ∀ {ws : List (List Nat)}, (∀ w ∈ ws, w.length = 1) → (jn ws).length ≤ 2 * ws.length
  | [], _ => by simp [jn, joinL]
  | [w], h => by
    have := h w (by simp)
    show w.length ≤ 2 * 1
    omega
  | w :: v :: r, h => by
    have h1 := h w (by simp)
    have ih := jn_len1 (ws := v :: r) fun z hz => h z (List.mem_cons_of_mem _ hz)
    show (w ++ ([32] ++ jn (v :: r))).length ≤ _
    simp only [List.length_append, List.length_cons, List.length_nil] at ih ⊢
    omega
theorem iL_form (ns : List Int) (k : Int) (h : ns ≠ []) : iL (ns, k) = [110, 101, 101, 100, 32] ++ wd k ++ [32, 111, 102, 32] ++ jn (ns.map wd) := by
  cases ns with
  | nil => exact absurd rfl h
  | cons y r =>
    show NEED ++ ([32] ++ (wd k ++ ([32] ++ (OF ++ ([32] ++ jn (wd y :: r.map wd)))))) = _
    simp [NEED, OF]
theorem wd_len (x : Int) : (wd x).length = 1 := rfl
theorem iL_len {n : Int} {it : List Int × Int} (h : Drw n it) : (iL it).length ≤ 40 := by
  obtain ⟨ns, k⟩ := it
  rw [iL_form ns k h.ne]
  have h1 := jn_len1 (ws := ns.map wd) (fun w hw => by
    obtain ⟨x, _, rfl⟩ := List.mem_map.mp hw
    rfl)
  have h2 : ns.length ≤ 8 := h.le
  simp only [List.length_append, List.length_cons, List.length_nil, List.length_map, wd_len] at h1 ⊢
  omega
theorem fL_form (n : Int) : fL n = [115, 101, 114, 118, 101, 114, 115, 32] ++ wd n := rfl
theorem mL_form (p : Int × Int) : mL p = wd p.1 ++ [32, 62, 32] ++ wd p.2 := rfl
theorem tl_servs : tl ("servers " : Str) = [115, 101, 114, 118, 101, 114, 115, 32] := by decide +kernel
theorem tl_needs : tl ("need " : Str) = [110, 101, 101, 100, 32] := by decide +kernel
theorem tl_ofs : tl (" of " : Str) = [32, 111, 102, 32] := by decide +kernel
theorem tl_gts : tl (" > " : Str) = [32, 62, 32] := by decide +kernel
theorem tl_sp : tl (" " : Str) = [32] := by decide +kernel
theorem LayAt.keep {CL : Addr} {p : Addr} {H H' : Hp} {a : Addr} {n : Int} {its : List (List Int × Int)} {xs : List V} (h : LayAt CL H a n its) (hp : H p = some (.lst xs)) (k : Keep p H H') : LayAt CL H' a n its := by
  obtain ⟨dx, t, fs, rows, h1, h2, h3, h4, h5⟩ := h
  exact ⟨dx, t, fs, rows, k _ _ (ne_of h1 hp (by intro z; cases z)) h1, h2, h3, k _ _ (ne_of h4 hp (by intro z; cases z)) h4, h5.keep hp k⟩
section
variable {P : Program} {w : World} {K : PySem.W.Frag} {mg : Str → Option Value} {base : Heap}
abbrev sCT : Stmt := topS 22
theorem scCT : FnScope ["servers", "transfers", "index", "pair", "one"] ["servers", "transfers"] (defScope sCT) := ⟨rfl, rfl, rfl, by decide +kernel, rfl, by decide +kernel, by decide +kernel⟩
def spCT : Sp := fun vs H Q _ => ∃ (n : Int) (a : Addr) (rows : List V) (ps : List (Int × Int)), vs = [.int n, .ref a] ∧ H a = some (.tup rows) ∧ PairsAt H rows ps ∧ (∀ p ∈ ps, Mvd n p) ∧ ps.length ≤ 16 ∧ 1 ≤ n ∧ n ≤ 8 ∧ ∀ H', Same H H' → Q .non H'
theorem ok_ct {f : Addr} {fd : FuncData} {k : Nat} (N : Nm P K mg) (D : Df K mg "check_transfers" sCT ["servers", "transfers"] f fd) : FnOk P w K mg base CX0 (k + 2) f fd ["servers", "transfers"] spCT := by
  have GN : FnOk P w K mg base CX0 (k + 1) N.fN N.fdN ["thing", "least", "most"] spNum := ok_num N.DN N.B
  have B := N.B
  obtain ⟨⟨t8, h8⟩, _, ⟨t16, h16⟩⟩ := N.Z
  refine D.F.ok scCT (fun vs H Q E h => ?_) (fun cdv A outer s H vs Q E hr h => ?_)
  · obtain ⟨_, _, _, _, rfl, _⟩ := h
    rfl
  · obtain ⟨n, a, rows, ps, rfl, ha, hP, hm, h16', n1, n8, q⟩ := h
    refine ⟨_, pss_cons (ps_if (pt_not <| pt_val <| pe_call GN hr (by rfl) N.DN.g N.DN.k N.DN.b .nil pass0 <| pa_cons (pv 0) <| pa_cons pe_int <| pa_cons (pe_glob (v := .int 8) (by rfl) h8 ⟨_, rfl⟩) pa_nil) (pss_one ps_never) pss_nil) <|
      pss_cons (ps_if (PW.pt <| pw_or (pt_not <| pt_val <| pe_callB call_isiT (by rfl) B.isi boot_isinstance <| pa_cons (pv 1) <|
            pa_cons (pe_tup <| pa_cons (pe_bltn (v := .ty "list") (by rfl) B.lst boot_list rfl) <| pa_cons (pe_bltn (v := .ty "tuple") (by rfl) B.tup boot_tuple rfl) pa_nil) pa_nil) <|
          pw_or1 <| pt_cmpR op_gt (pe_callB call_len_seq (by rfl) B.len boot_len <| pa_cons (pv 1) pa_nil) (pe_glob (v := .int 16) (by rfl) h16 ⟨_, rfl⟩) (nomark _)) (pss_one ps_never) pss_nil) <|
      pss_one <| ps_for PassesOwn.never rfl (pi_enumT (by rfl) B.enm <| pa_cons (pv 1) pa_nil) (pg_tup rfl <| pgs_cons (pg_name (i := 2) scCT.nd rfl (.inl rfl)) <| pgs_cons (pg_name (i := 3) scCT.nd rfl (.inl rfl)) pgs_nil) <|
        pss_cons (ps_if (PW.pt <| pw_or (pt_not <| pt_val <| pe_isi (pv 3) B.isi B.tup boot_tuple) <| pw_or (pt_cmpR op_ne (pe_callB call_len_seq (by rfl) B.len boot_len <| pa_cons (pv 3) pa_nil) pe_int (nomark _)) <|
          pw_or1 <| pt_not <| pt_val <| pe_callB (cr_all rfl) rfl B.all boot_all <| pa_cons
            (pe_lc (own := [("one", 4)]) (g := gName 4) rfl scCT.nd (pi_tup (pv 3)) (blkOk_by (own := [("one", 4)]) (N := ["servers", "transfers", "index", "pair", "one"]) (sc := defScope sCT) (by decide +kernel))
              (fun _ _ _ _ _ => pg_name (i := 4) scCT.nd rfl (Or.inl rfl)) (fun _ _ _ _ _ => pts_nil) (fun _ _ _ _ _ => pe_call GN hr rfl N.DN.g N.DN.k N.DN.b .nil pass0 (pa_cons (pv 4) (pa_cons pe_int (pa_cons (pe_op op_sub (pv 0) pe_int) pa_nil))))) pa_nil) (pss_one ps_never) pss_nil) <|
        pss_one <| ps_if (pt_cmpR op_eq (pe_ix ix_tup (pv 3) pe_int fun _ _ => rfl) (pe_ix ix_tup (pv 3) pe_int fun _ _ => rfl) (nomark _)) (pss_one ps_never) pss_nil, ?_⟩
    refine ⟨_, rfl, n, 1, 8, rfl, _, rfl, ?_⟩
    rw [decide_eq_true (show 1 ≤ n ∧ n ≤ 8 from ⟨n1, n8⟩)]
    refine iteF ?_
    refine ⟨.ref a, rfl, (by show 2 ≤ sizeLine; decide), fun tp ntp => ?_⟩
    have s1 : Same H (upd H tp (.tup [.ty "list", .ty "tuple"])) := same_upd ntp
    refine ⟨.ref a, tp, _, .type "tuple", _, true, rfl, upd_same, .cons (.ty "list") (.cons (.ty "tuple") .nil), .base (.tup (s1 _ _ ha)),
      kitAny_cons (b := false) (kit_ty (by decide +kernel)) (fun _ => kitAny_cons (b := true) (kit_ty (by decide +kernel)) (fun z => nomatch z) (fun _ => rfl)) (fun z => nomatch z), true, rfl, iteF ?_⟩
    have hlen : rows.length = ps.length := hP.1
    refine ⟨.ref a, rfl, a, rows, rfl, .inr (.inl (.inl (s1 _ _ ha))), _, _, rfl, rfl, false, by show V.bl (decide ((rows.length : Int) > 16)) = V.bl false; rw [decide_eq_false (show ¬ (rows.length : Int) > 16 by omega)], iteF ?_⟩
    refine ⟨.ref a, rfl, a, rows, rfl, .inl (.inl (s1 _ _ ha)), for_it (walk_enT (xs := rows)) (fun i σ H' => ∃ y2 y3 y4, σ = [some (.int n), some (.ref a), y2, y3, y4] ∧ Same H H') ⟨none, none, none, rfl, s1⟩ (fun i σ H' _ ⟨_, _, _, _, s⟩ => .inl (.inl (s _ _ ha))) ?_ ?_⟩
    · rintro i v σ H1 H2 hi ⟨y2, y3, y4, rfl, s2⟩ ⟨T, v1, v2, rfl, nT, rfl, e1, e2⟩
      cases e1
      obtain ⟨p, hp⟩ : ∃ p, ps[i]? = some p := ⟨ps[i]'(by omega), List.getElem?_eq_getElem (by omega)⟩
      obtain ⟨b, rfl, hb⟩ := hP.2 i v2 p e2 hp
      obtain ⟨x, y⟩ := p
      obtain ⟨m1, m2, m3, m4, m5⟩ := hm _ (List.mem_of_getElem? hp)
      simp only at m1 m2 m3 m4 m5
      have s3 := same_new (o := .tup [.int (0 + (i : Nat)), .ref b]) s2 nT
      have hb3 := s3 _ _ hb
      have hT : SqT K (upd H1 T (.tup [.int (0 + (i : Nat)), .ref b])) b ([x, y].map V.int) := .inl (.inl hb3)
      refine ⟨T, _, rfl, .inl (.inl upd_same), rfl, _, _, rfl, _, _, rfl, rfl, ?_⟩
      refine ⟨.ref b, rfl, .ref b, .ty "tuple", _, _, true, rfl, .ty "tuple", .base (.tup hb3), kit_ty (by decide +kernel), true, rfl, iteF ?_⟩
      refine ⟨.ref b, rfl, b, _, rfl, .inr hT, rfl, _, rfl, iteF ?_⟩
      refine ⟨.ref b, rfl, b, rfl, ⟨_, hT⟩, fun d hd => ?_⟩
      refine lc_map (walk_tup (xs := [x, y].map V.int)) hd ([true, true].map V.bl) rfl (by show 2 < 1000; decide) (fun H' s => s.seqT hT) (fun j v z H2 H' Q' hv s4 yy q' => ?_) (fun H4 s4 e4 => ?_)
      · obtain ⟨e, hx⟩ := yy
        subst e
        have hz : ∃ z' : Int, z = .int z' ∧ 0 ≤ z' ∧ z' < n := by
          match j, hx with
          | 0, hx => cases hx; exact ⟨x, rfl, m1, m2⟩
          | 1, hx => cases hx; exact ⟨y, rfl, m3, m4⟩
        obtain ⟨z', rfl, z1, z2⟩ := hz
        have ev : v = V.bl (decide (0 ≤ z' ∧ z' ≤ n - 1)) := by
          rw [decide_eq_true (show 0 ≤ z' ∧ z' ≤ n - 1 by omega)]
          match j, hv with
          | 0, hv => cases hv; rfl
          | 1, hv => cases hv; rfl
        subst ev
        exact ⟨rfl, _, rfl, _, rfl, _, _, rfl, rfl, z', 0, n - 1, rfl, q' _ (Same.refl _)⟩
      · have s5 := s3.trans s4
        have hT5 : SqT K H4 b ([x, y].map V.int) := s4.seqT hT
        refine ⟨d, _, rfl, .inl (.inl e4), _, rfl, iteF ?_⟩
        refine ⟨.ref b, rfl, b, _, 0, .int x, rfl, rfl, hT5, atI_nat (j := 0) rfl, .ref b, rfl, b, _, 1, .int y, rfl, rfl, hT5, atI_nat (j := 1) rfl, rfl, _, rfl, ?_⟩
        rw [decide_eq_false (show ¬ V.int x = V.int y from fun e => m5 (by injection e))]
        exact iteF ⟨_, _, _, rfl, s5⟩
    · rintro σ H1 ⟨y2, y3, y4, rfl, s2⟩
      exact q _ s2
end
end Kx
set_option maxRecDepth 100000
set_option maxHeartbeats 4000000
namespace Kx
open PySem PySem.Spec PyProof.Rows L2 TL
theorem fit {x : Str} {l : List Nat} (h : tl x = l) (hl : l.length ≤ 1000) : x.length ≤ sizeLine := by
  have : (1000 : Nat) < sizeLine := by decide
  rw [len_tl, h]
  omega
theorem fit' {n : Nat} (hl : n ≤ 1000) : n ≤ sizeLine := by
  have : (1000 : Nat) < sizeLine := by decide
  omega
theorem tl_e : tl Str.empty = [] := rfl
theorem Drw.itb {n : Int} {it : List Int × Int} (h : Drw n it) (hn : n ≤ 8) : (∀ x ∈ it.1, 0 ≤ x ∧ x ≤ 9) ∧ 0 ≤ it.2 ∧ it.2 ≤ 9 := by
  obtain ⟨h1, h2, h3⟩ := h.bd hn
  exact ⟨fun x hx => ⟨(h1 x hx).1, by have := (h1 x hx).2; omega⟩, by omega, by omega⟩
theorem join_sp {ns : List Int} (h : ∀ x ∈ ns, 0 ≤ x ∧ x ≤ 9) : tl (Txt.join (" " : Str) (ns.map fun x => Str.ofString (toString x))) = jn (ns.map wd) := by
  rw [join_eq, tl_join, tl_sp, List.map_map]
  show joinL [32] _ = joinL [32] _
  congr 1
  apply List.map_congr_left
  intro x hx
  exact tl_int (h x hx).1 (h x hx).2
theorem join_fit {ns : List Int} (h : ∀ x ∈ ns, 0 ≤ x ∧ x ≤ 9) (hl : ns.length ≤ 8) : ((ns.map fun x => Str.ofString (toString x)).map (·.length)).sum + (ns.map fun x => Str.ofString (toString x)).length * (" " : Str).length ≤ 16777216 := by
  have h1 : (" " : Str).length = 1 := by decide +kernel
  have := sum_le (m := 1) (l := (ns.map fun x => Str.ofString (toString x)).map (·.length)) (fun x hx => by
    rw [List.map_map] at hx
    obtain ⟨s, hs, rfl⟩ := List.mem_map.mp hx
    exact Nat.le_of_eq (len_int (h s hs).1 (h s hs).2))
  rw [h1]
  rw [List.length_map, List.length_map] at this
  rw [List.length_map]
  omega
section
variable {P : Program} {w : World} {K : PySem.W.Frag} {mg : Str → Option Value} {base : Heap}
abbrev sLT : Stmt := topS 24
theorem scLT : FnScope ["layout", "lines", "holders", "need", "server", "line"] ["layout"] (defScope sLT) := ⟨rfl, rfl, rfl, by decide +kernel, rfl, by decide +kernel, by decide +kernel⟩
def spLT (CL : Addr) : Sp := fun vs H Q _ => ∃ (a : Addr) (n : Int) (its : List (List Int × Int)), vs = [.ref a] ∧ LayAt CL H a n its ∧ 1 ≤ n ∧ n ≤ 8 ∧ (∀ it ∈ its, Drw n it) ∧ its.length ≤ 10 ∧ ∀ H' z, Same H H' → tl z = tx (fL n :: its.map iL) → Q (.str z) H'
theorem ok_lt {f : Addr} {fd : FuncData} (N : Nm P K mg) (D : Df K mg "layout_text" sLT ["layout"] f fd) : FnOk P w K mg base CX0 2 f fd ["layout"] (spLT N.CL) := by
  have GK : FnOk P w K mg base CX0 1 N.fK N.fdK ["layout"] (spChk N.CL) := ok_chk N.DK N.B N.L
  have B := N.B
  have L := N.L
  refine D.F.ok scLT (fun vs H Q E h => ?_) (fun cdv A outer s H vs Q E hr h => ?_)
  · obtain ⟨_, _, _, rfl, _⟩ := h
    rfl
  · obtain ⟨a, n, its, rfl, hA, n1, n8, hd, hcnt, q⟩ := h
    refine ⟨_, pss_cons (ps_expr <| pe_call GK hr (by rfl) N.DK.g N.DK.k N.DK.b .nil pass0 <| pa_cons (pv 0) pa_nil) <|
      pss_cons (ps_set (i := 1) scLT.nd rfl (.inl rfl) <| pe_lst <| pa_cons (pe_joined <| .cons pe_str <| .cons (pe_fmt <| pe_fld (pv 0) rfl) .nil) pa_nil) <|
      pss_cons (ps_for PassesOwn.never rfl (pi_tup <| pe_fld (pv 0) rfl) (pg_tup rfl <| pgs_cons (pg_name (i := 2) scLT.nd rfl (.inl rfl)) <| pgs_cons (pg_name (i := 3) scLT.nd rfl (.inl rfl)) pgs_nil) <|
        pss_one <| ps_expr <| pe_bm PySem.F.plainAttrs_list PySem.F.slot_list_append PySem.F.type_list_append mt_append (pv 1) <| pa_cons (pe_joined <| .cons pe_str <| .cons (pe_fmt <| pv 3) <| .cons pe_str <| .cons (pe_fmt <| pe_join pe_str <|
          pe_lc (own := [("server", 4)]) (g := gName 4) rfl scLT.nd (pi_tup (pv 2)) (blkOk_by (own := [("server", 4)]) (N := ["layout", "lines", "holders", "need", "server", "line"]) (sc := defScope sLT) (by decide +kernel))
              (fun _ _ _ _ _ => pg_name (i := 4) scLT.nd rfl (Or.inl rfl)) (fun _ _ _ _ _ => pts_nil) (fun _ _ _ _ _ => pe_callTy call_str_int (by rfl) B.str boot_str <| pa_cons (pv 4) pa_nil)) .nil) pa_nil) <|
      pss_one <| ps_ret <| pe_join pe_str <| pe_lc (own := [("line", 5)]) (g := gName 5) rfl scLT.nd (pi_list (pv 1)) (blkOk_by (own := [("line", 5)]) (N := ["layout", "lines", "holders", "need", "server", "line"]) (sc := defScope sLT) (by decide +kernel))
              (fun _ _ _ _ _ => pg_name (i := 5) scLT.nd rfl (Or.inl rfl)) (fun _ _ _ _ _ => pts_nil) (fun _ _ _ _ _ => pe_op op_add_str (pv 5) pe_str), ?_⟩
    have t0 : tl (Str.empty ++ ("servers " : Str)) = [115, 101, 114, 118, 101, 114, 115, 32] := by rw [tl_append, tl_servs, tl_e]; rfl
    have t1 : tl (Str.empty ++ ("servers " : Str) ++ Str.ofString (toString n)) = fL n := by rw [tl_append, t0, tl_int (by omega) (by omega)]; rfl
    obtain ⟨dx, t, fs, rows, a1, a2, a3, a4, a5⟩ := id hA
    refine ⟨.ref a, rfl, a, n, its, rfl, hA, ?_⟩
    refine ⟨("servers " : Str), rfl, fit t0 (by simp), .ref a, rfl, a, N.CL, dx, fs, _, rfl, a1, L.cl, L.nS, a2, .inr ⟨n, rfl, log_int (by omega) (by omega), Str.ofString (toString n), rfl, fit t1 (by simp [fL_form, wd]), by show 1 ≤ sizeLine; decide, fun l nl => ?_⟩⟩
    have s1 : Same H (upd H l (.lst [.str (Str.empty ++ ("servers " : Str) ++ Str.ofString (toString n))])) := same_upd nl
    generalize hH1 : upd H l (.lst [.str (Str.empty ++ ("servers " : Str) ++ Str.ofString (toString n))]) = H1 at s1
    have hl1 : H1 l = some (.lst [.str (Str.empty ++ ("servers " : Str) ++ Str.ofString (toString n))]) := by rw [← hH1, upd_same]
    have tl' : t ≠ l := ne_of (s1 _ _ a4) hl1 (by intro z; cases z)
    have hlen : rows.length = its.length := a5.1
    refine ⟨.ref a, rfl, a, N.CL, dx, fs, _, rfl, s1 _ _ a1, L.cl, L.nE, a3, t, rfl, ⟨rows, .inl (.inl (s1 _ _ a4))⟩, ?_⟩
    refine for_it (walk_tup (xs := rows)) (fun i σ H' => ∃ y2 y3 y4 y5 sts, σ = [some (.ref a), some (.ref l), y2, y3, y4, y5] ∧ Keep l H1 H' ∧ H' l = some (.lst (sts.map V.str)) ∧ sts.map tl = fL n :: (its.take i).map iL)
      ⟨none, none, none, none, [_], rfl, Keep.of (Same.refl _), hl1, by rw [List.map_singleton, t1]; rfl⟩ (fun i σ H' _ ⟨_, _, _, _, _, _, k, _⟩ => .inl (.inl (k _ _ tl' (s1 _ _ a4)))) ?_ ?_
    · rintro i v σ H2 H3 hi ⟨y2, y3, y4, y5, sts, rfl, k, hl2, est⟩ yy
      obtain ⟨e, hx⟩ := yy
      subst e
      obtain ⟨it, hit⟩ : ∃ it, its[i]? = some it := ⟨its[i]'(by omega), List.getElem?_eq_getElem (by omega)⟩
      obtain ⟨b, rfl, hb⟩ := a5.2 i v it hx hit
      have hdr := hd it (List.mem_of_getElem? hit)
      obtain ⟨h, hb1, hb2⟩ := (hb.same s1).keep hl1 k
      obtain ⟨ns, kk⟩ := it
      obtain ⟨i1, i2, i3⟩ := hdr.itb n8
      simp only at i1 i2 i3 hb1 hb2
      have hns : ns.length ≤ 8 := hdr.le
      have u0 : tl (Str.empty ++ ("need " : Str)) = [110, 101, 101, 100, 32] := by rw [tl_append, tl_needs, tl_e]; rfl
      have u1 : tl (Str.empty ++ ("need " : Str) ++ Str.ofString (toString kk)) = [110, 101, 101, 100, 32] ++ wd kk := by rw [tl_append, u0, tl_int i2 i3]
      have u2 : tl (Str.empty ++ ("need " : Str) ++ Str.ofString (toString kk) ++ (" of " : Str)) = [110, 101, 101, 100, 32] ++ wd kk ++ [32, 111, 102, 32] := by rw [tl_append, u1, tl_ofs]
      have u3 : tl (Str.empty ++ ("need " : Str) ++ Str.ofString (toString kk) ++ (" of " : Str) ++ Txt.join (" " : Str) (ns.map fun x => Str.ofString (toString x))) = iL (ns, kk) := by
        rw [tl_append, u2, join_sp i1, iL_form ns kk hdr.ne]
      have u4 : (Txt.join (" " : Str) (ns.map fun x => Str.ofString (toString x))).length ≤ sizeLine := fit (join_sp i1) (by
        have := jn_len1 (ws := ns.map wd) (fun w hw => by
          obtain ⟨x, _, rfl⟩ := List.mem_map.mp hw
          rfl)
        rw [List.length_map] at this
        omega)
      refine ⟨b, _, rfl, .inl (.inl hb1), rfl, _, _, rfl, _, _, rfl, rfl, ?_⟩
      refine ⟨.ref l, rfl, .inl ⟨rfl, _, .inl (.inl hl2)⟩, ("need " : Str), rfl, fit u0 (by simp), .int kk, rfl, .inr ⟨kk, rfl, log_int i2 i3, _, rfl, fit u1 (by simp [wd]), (" of " : Str), rfl, fit u2 (by simp [wd]), ⟨_, rfl⟩, .ref h, rfl, h, rfl, ⟨_, .inl (.inl hb2)⟩, fun d nd => ?_⟩⟩
      refine lc_map (walk_tup (xs := ns.map V.int)) nd ((ns.map fun x => Str.ofString (toString x)).map V.str) (by simp) (by rw [List.length_map]; omega) (fun H' s => .inl (.inl (s _ _ hb2))) (fun j v x H4 H5 Q' hv s4 y q' => ?_) (fun H4 s4 e4 => ?_)
      · obtain ⟨e, hx⟩ := y
        subst e
        obtain ⟨x, hz, ez⟩ := map_get hx
        subst ez
        have ev : v = V.str (Str.ofString (toString x)) := by
          rw [List.map_map, List.getElem?_map, hz] at hv
          exact (Option.some.inj hv).symm
        subst ev
        have hx := i1 x (List.mem_of_getElem? hz)
        exact ⟨rfl, _, rfl, x, rfl, log_int hx.1 hx.2, q' _ (Same.refl _)⟩
      · have hl4 := s4 _ _ hl2
        have hcap : sts.length ≤ 11 := by
          have := congrArg List.length est
          simp only [List.length_map, List.length_cons, List.length_take] at this
          omega
        refine ⟨(" " : Str), d, _, rfl, rfl, .inl (.inl (.inl e4)), join_fit i1 hns, .inl ⟨_, rfl, u4, _, rfl, fit u3 (by have := iL_len hdr; omega), l, _, _, rfl, rfl, hl4, small1000 (by rw [List.length_map]; omega), ?_⟩⟩
        refine ⟨_, _, _, _, sts ++ [Str.empty ++ ("need " : Str) ++ Str.ofString (toString kk) ++ (" of " : Str) ++ Txt.join (" " : Str) (ns.map fun x => Str.ofString (toString x))], rfl, (k.same s4).set, ?_, ?_⟩
        · rw [upd_same, List.map_append]
          rfl
        · rw [List.map_append, est, List.map_singleton, u3, take_more hit, List.map_append]
          rfl
    · rintro σ H2 ⟨y2, y3, y4, y5, sts, rfl, k, hl2, est⟩
      rw [hlen, List.take_length] at est
      have s2 : Same H H2 := fun b o e => by
        have hb : b ≠ l := ne_of_none e nl
        exact k _ _ hb (s1 _ _ e)
      have hstl : ∀ x ∈ sts, x.length ≤ 100 := fun x hx => by
        have h1 : tl x ∈ fL n :: its.map iL := by rw [← est]; exact List.mem_map_of_mem hx
        rw [len_tl]
        rcases List.mem_cons.mp h1 with e | h1
        · rw [e, fL_form]
          simp [wd]
        · obtain ⟨it, hit, e⟩ := List.mem_map.mp h1
          have := iL_len (hd it hit)
          rw [← e]
          omega
      have hcap : sts.length ≤ 11 := by
        have := congrArg List.length est
        simp only [List.length_map, List.length_cons] at this
        omega
      refine ⟨⟨_, rfl⟩, .ref l, rfl, l, rfl, ⟨_, .inl (.inl hl2)⟩, fun d nd => ?_⟩
      refine lc_map (walk_list (xs := sts.map V.str)) nd ((sts.map fun x => x ++ ("\n" : Str)).map V.str) (by simp) (by rw [List.length_map]; omega) (fun H' s => .inl (.inl (s _ _ hl2))) (fun j v x H4 H5 Q' hv s4 y q' => ?_) (fun H4 s4 e4 => ?_)
      · obtain ⟨e, hx⟩ := y
        subst e
        obtain ⟨x, hz, ez⟩ := map_get hx
        subst ez
        have ev : v = V.str (x ++ ("\n" : Str)) := by
          rw [List.map_map, List.getElem?_map, hz] at hv
          exact (Option.some.inj hv).symm
        subst ev
        have hx := hstl x (List.mem_of_getElem? hz)
        exact ⟨rfl, _, rfl, x, ("\n" : Str), rfl, rfl, fit' (by rw [show ("\n" : Str).length = 1 by decide +kernel]; omega), q' _ (Same.refl _)⟩
      · refine ⟨("" : Str), d, _, rfl, rfl, .inl (.inl (.inl e4)), nl_fit hstl (by omega), ?_⟩
        exact q _ _ (s2.trans s4) (by rw [join_nl, est])
end
end Kx
set_option maxRecDepth 100000
set_option maxHeartbeats 4000000
namespace Kx
open PySem PySem.Spec PyProof.Rows L2 TL
section
variable {P : Program} {w : World} {K : PySem.W.Frag} {mg : Str → Option Value} {base : Heap}
abbrev sTT : Stmt := topS 25
theorem scTT : FnScope ["servers", "transfers", "lines", "sender", "receiver", "line"] ["servers", "transfers"] (defScope sTT) := ⟨rfl, rfl, rfl, by decide +kernel, rfl, by decide +kernel, by decide +kernel⟩
def spTT : Sp := fun vs H Q _ => ∃ (n : Int) (a : Addr) (rows : List V) (ps : List (Int × Int)), vs = [.int n, .ref a] ∧ H a = some (.tup rows) ∧ PairsAt H rows ps ∧ (∀ p ∈ ps, Mvd n p) ∧ ps.length ≤ 16 ∧ 1 ≤ n ∧ n ≤ 8 ∧ ∀ H' z, Same H H' → tl z = tx (fL n :: ps.map mL) → Q (.str z) H'
theorem Mvd.itb {n : Int} {p : Int × Int} (h : Mvd n p) (hn : n ≤ 8) : (0 ≤ p.1 ∧ p.1 ≤ 9) ∧ 0 ≤ p.2 ∧ p.2 ≤ 9 := by
  obtain ⟨h1, h2, h3, h4, h5⟩ := h
  omega
def mvS (p : Int × Int) : Str := Str.empty ++ Str.ofString (toString p.1) ++ (" > " : Str) ++ Str.ofString (toString p.2)
theorem tl_mvS {n : Int} {p : Int × Int} (h : Mvd n p) (hn : n ≤ 8) : tl (mvS p) = mL p := by
  obtain ⟨⟨h1, h2⟩, h3, h4⟩ := h.itb hn
  unfold mvS
  rw [tl_append, tl_append, tl_append, tl_e, tl_int h1 h2, tl_int h3 h4, tl_gts, mL_form]
  rfl
theorem ok_tt {f fC : Addr} {fd fdC : FuncData} (N : Nm P K mg) (D : Df K mg "transfers_text" sTT ["servers", "transfers"] f fd) (DC : Df K mg "check_transfers" sCT ["servers", "transfers"] fC fdC) : FnOk P w K mg base CX0 3 f fd ["servers", "transfers"] spTT := by
  have GC : FnOk P w K mg base CX0 2 fC fdC ["servers", "transfers"] spCT := ok_ct N DC
  have B := N.B
  refine D.F.ok scTT (fun vs H Q E h => ?_) (fun cdv A outer s H vs Q E hr h => ?_)
  · obtain ⟨_, _, _, _, rfl, _⟩ := h
    rfl
  · obtain ⟨n, a, rows, ps, rfl, ha, hP, hm, h16, n1, n8, q⟩ := h
    refine ⟨_, pss_cons (ps_expr <| pe_call GC hr (by rfl) DC.g DC.k DC.b .nil pass0 <| pa_cons (pv 0) <| pa_cons (pv 1) pa_nil) <|
      pss_cons (ps_set (i := 2) scTT.nd rfl (.inl rfl) <| pe_lst <| pa_cons (pe_joined <| .cons pe_str <| .cons (pe_fmt <| pv 0) .nil) <| pa_star
          (pe_lc (own := [("sender", 3), ("receiver", 4)]) (g := gTup K 2 (gCons (gName 3) (gCons (gName 4) gNil))) rfl scTT.nd (pi_tup (pv 1)) (blkOk_by (own := [("sender", 3), ("receiver", 4)]) (N := ["servers", "transfers", "lines", "sender", "receiver", "line"]) (sc := defScope sTT) (by decide +kernel))
            (fun _ _ _ _ _ => pg_tup rfl (pgs_cons (pg_name (i := 3) scTT.nd rfl (Or.inl rfl)) (pgs_cons (pg_name (i := 4) scTT.nd rfl (Or.inl rfl)) pgs_nil))) (fun _ _ _ _ _ => pts_nil) (fun _ _ _ _ _ => pe_joined <| .cons (pe_fmt <| pv 3) <| .cons pe_str <| .cons (pe_fmt <| pv 4) .nil)) pa_nil) <|
      pss_one <| ps_ret <| pe_join pe_str <| pe_lc (own := [("line", 5)]) (g := gName 5) rfl scTT.nd (pi_list (pv 2)) (blkOk_by (own := [("line", 5)]) (N := ["servers", "transfers", "lines", "sender", "receiver", "line"]) (sc := defScope sTT) (by decide +kernel))
              (fun _ _ _ _ _ => pg_name (i := 5) scTT.nd rfl (Or.inl rfl)) (fun _ _ _ _ _ => pts_nil) (fun _ _ _ _ _ => pe_op op_add_str (pv 5) pe_str), ?_⟩
    have t0 : tl (Str.empty ++ ("servers " : Str)) = [115, 101, 114, 118, 101, 114, 115, 32] := by rw [tl_append, tl_servs, tl_e]; rfl
    have t1 : tl (Str.empty ++ ("servers " : Str) ++ Str.ofString (toString n)) = fL n := by rw [tl_append, t0, tl_int (by omega) (by omega)]; rfl
    have hlen : rows.length = ps.length := hP.1
    refine ⟨.int n, rfl, .ref a, rfl, n, a, rows, ps, rfl, ha, hP, hm, h16, n1, n8, fun H1 s1 => ?_⟩
    have ha1 := s1 _ _ ha
    refine ⟨("servers " : Str), rfl, fit t0 (by simp), .int n, rfl, .inr ⟨n, rfl, log_int (by omega) (by omega), Str.ofString (toString n), rfl, fit t1 (by simp [fL_form, wd]), .ref a, rfl, a, rfl, ⟨_, .inl (.inl ha1)⟩, fun d nd => ?_⟩⟩
    refine lc_map (te := fun σ H Q => tJs [tFmt (tVar 3), tC (.str (" > " : Str)), tFmt (tVar 4)] Str.empty σ H fun out H1 => Q (.str out) H1) (walk_tup (xs := rows)) nd ((ps.map mvS).map V.str) (by simp [hlen]) (by omega) (fun H' s => .inl (.inl (s _ _ ha1))) (fun j v x H4 H5 Q' hv s4 y q' => ?_) (fun H4 s4 e4 => ?_)
    · obtain ⟨e, hx⟩ := y
      subst e
      obtain ⟨p, hp⟩ : ∃ p, ps[j]? = some p := by
        obtain ⟨hj, _⟩ := List.getElem?_eq_some_iff.mp hx
        exact ⟨ps[j]'(by omega), List.getElem?_eq_getElem (by omega)⟩
      obtain ⟨b, rfl, hb⟩ := hP.2 j x p hx hp
      have ev : v = V.str (mvS p) := by
        rw [List.map_map, List.getElem?_map, hp] at hv
        exact (Option.some.inj hv).symm
      subst ev
      have hmv := hm p (List.mem_of_getElem? hp)
      obtain ⟨⟨i1, i2⟩, i3, i4⟩ := hmv.itb n8
      have v0 : tl (Str.empty ++ Str.ofString (toString p.1)) = wd p.1 := by rw [tl_append, tl_e, tl_int i1 i2]; rfl
      have v1 : tl (Str.empty ++ Str.ofString (toString p.1) ++ (" > " : Str)) = wd p.1 ++ [32, 62, 32] := by rw [tl_append, v0, tl_gts]
      have hb4 := s4 _ _ (s1 _ _ hb)
      exact ⟨b, _, rfl, .inl (.inl hb4), rfl, _, _, rfl, _, _, rfl, rfl, rfl, .int p.1, rfl, .inr ⟨p.1, rfl, log_int i1 i2, _, rfl, fit v0 (by simp [wd]), (" > " : Str), rfl, fit v1 (by simp [wd]), .int p.2, rfl, .inr ⟨p.2, rfl, log_int i3 i4, _, rfl, fit (tl_mvS hmv n8) (by simp [mL_form, wd]), q' _ (Same.refl _)⟩⟩⟩
    · have s5 := s1.trans s4
      refine ⟨d, _, rfl, .inl (.inl e4), by simp; exact fit' (by omega), fun l nl => ?_⟩
      have s6 := same_new (o := .lst (V.str (Str.empty ++ ("servers " : Str) ++ Str.ofString (toString n)) :: ((ps.map mvS).map V.str ++ []))) s5 nl
      have hl6 : upd H4 l (.lst (V.str (Str.empty ++ ("servers " : Str) ++ Str.ofString (toString n)) :: ((ps.map mvS).map V.str ++ []))) l = some (.lst (((Str.empty ++ ("servers " : Str) ++ Str.ofString (toString n)) :: ps.map mvS).map V.str)) := by
        rw [upd_same, List.append_nil]
        rfl
      have est : ((Str.empty ++ ("servers " : Str) ++ Str.ofString (toString n)) :: ps.map mvS).map tl = fL n :: ps.map mL := by
        rw [List.map_cons, t1, List.map_map]
        congr 1
        apply List.map_congr_left
        intro p hp
        exact tl_mvS (hm p hp) n8
      generalize (Str.empty ++ ("servers " : Str) ++ Str.ofString (toString n)) :: ps.map mvS = sts at hl6 est
      have hstl : ∀ x ∈ sts, x.length ≤ 100 := fun x hx => by
        have h1 : tl x ∈ fL n :: ps.map mL := by rw [← est]; exact List.mem_map_of_mem hx
        rw [len_tl]
        rcases List.mem_cons.mp h1 with e | h1
        · rw [e, fL_form]
          simp [wd]
        · obtain ⟨p, hit, e⟩ := List.mem_map.mp h1
          rw [← e, mL_form]
          simp [wd]
      have hcap : sts.length ≤ 17 := by
        have := congrArg List.length est
        simp only [List.length_map, List.length_cons] at this
        omega
      refine ⟨⟨_, rfl⟩, .ref l, rfl, l, rfl, ⟨_, .inl (.inl hl6)⟩, fun d2 nd2 => ?_⟩
      refine lc_map (walk_list (xs := sts.map V.str)) nd2 ((sts.map fun x => x ++ ("\n" : Str)).map V.str) (by simp) (by rw [List.length_map]; omega) (fun H' s => .inl (.inl (s _ _ hl6))) (fun j v x H4 H5 Q' hv s4 y q' => ?_) (fun H4 s4 e4 => ?_)
      · obtain ⟨e, hx⟩ := y
        subst e
        obtain ⟨x, hz, ez⟩ := map_get hx
        subst ez
        have ev : v = V.str (x ++ ("\n" : Str)) := by
          rw [List.map_map, List.getElem?_map, hz] at hv
          exact (Option.some.inj hv).symm
        subst ev
        have hx := hstl x (List.mem_of_getElem? hz)
        exact ⟨rfl, _, rfl, x, ("\n" : Str), rfl, rfl, fit' (by rw [show ("\n" : Str).length = 1 by decide +kernel]; omega), q' _ (Same.refl _)⟩
      · refine ⟨("" : Str), d2, _, rfl, rfl, .inl (.inl (.inl e4)), nl_fit hstl (by omega), ?_⟩
        exact q _ _ (s6.trans s4) (by rw [join_nl, est])
abbrev sTx : Stmt := topS 40
theorem scTx : FnScope ["_law_lines", "_law_line_here"] ["_law_lines"] (defScope sTx) := ⟨rfl, rfl, rfl, by decide +kernel, rfl, by decide +kernel, by decide +kernel⟩
def spTx (K : PySem.W.Frag) : Sp := fun vs H Q _ => ∃ (a : Addr) (sts : List Str), vs = [.ref a] ∧ SqL K H a (sts.map V.str) ∧ (∀ x ∈ sts, x.length ≤ 100) ∧ sts.length ≤ 40 ∧ ∀ H' z, Same H H' → tl z = tx (sts.map tl) → Q (.str z) H'
theorem ok_tx {f : Addr} {fd : FuncData} {k : Nat} (D : Df K mg "_law_text" sTx ["_law_lines"] f fd) : FnOk P w K mg base CX0 (k + 1) f fd ["_law_lines"] (spTx K) := by
  refine D.F.ok scTx (fun vs H Q E h => ?_) (fun cdv A outer s H vs Q E hr h => ?_)
  · obtain ⟨_, _, rfl, _⟩ := h
    rfl
  · obtain ⟨a, sts, rfl, ha, hstl, hcap, q⟩ := h
    refine ⟨_, pss_one <| ps_ret <| pe_join pe_str <| pe_lc (own := [("_law_line_here", 1)]) (g := gName 1) rfl scTx.nd (pi_list (pv 0)) (blkOk_by (own := [("_law_line_here", 1)]) (N := ["_law_lines", "_law_line_here"]) (sc := defScope sTx) (by decide +kernel))
              (fun _ _ _ _ _ => pg_name (i := 1) scTx.nd rfl (Or.inl rfl)) (fun _ _ _ _ _ => pts_nil) (fun _ _ _ _ _ => pe_op op_add_str (pv 1) pe_str), ?_⟩
    refine ⟨⟨_, rfl⟩, .ref a, rfl, a, rfl, ⟨_, ha⟩, fun d nd => ?_⟩
    refine lc_map (walk_list (xs := sts.map V.str)) nd ((sts.map fun x => x ++ ("\n" : Str)).map V.str) (by simp) (by rw [List.length_map]; omega) (fun H' s => s.seq ha) (fun j v x H4 H5 Q' hv s4 y q' => ?_) (fun H4 s4 e4 => ?_)
    · obtain ⟨e, hx⟩ := y
      subst e
      obtain ⟨x, hz, ez⟩ := map_get hx
      subst ez
      have ev : v = V.str (x ++ ("\n" : Str)) := by
        rw [List.map_map, List.getElem?_map, hz] at hv
        exact (Option.some.inj hv).symm
      subst ev
      have hx := hstl x (List.mem_of_getElem? hz)
      exact ⟨rfl, _, rfl, x, ("\n" : Str), rfl, rfl, fit' (by rw [show ("\n" : Str).length = 1 by decide +kernel]; omega), q' _ (Same.refl _)⟩
    · refine ⟨("" : Str), d, _, rfl, rfl, .inl (.inl (.inl e4)), nl_fit hstl (by omega), ?_⟩
      exact q _ _ s4 (by rw [join_nl])
end
end Kx
set_option maxRecDepth 100000
set_option maxHeartbeats 4000000
namespace Kx
open PySem PySem.Spec PyProof.Rows L2 TL
theorem cutT (k : Nat) (xs : List V) : cutV xs none (some (k : Int)) = xs.take k := by
  unfold cutV
  rw [HT.sIx_none, show HT.sIx xs.length xs.length (some (k : Int)) = min k xs.length from HT.sIx_nat xs.length xs.length k, List.drop_zero, Nat.sub_zero]
  by_cases h : k ≤ xs.length
  · rw [show min k xs.length = k by omega]
  · rw [show min k xs.length = xs.length by omega, List.take_length, List.take_of_length_le (by omega)]
section
variable {P : Program} {w : World} {K : PySem.W.Frag} {mg : Str → Option Value} {base : Heap}
abbrev sNr : Stmt := topS 34
theorem scNr : FnScope ["_law_script", "_law_at", "_law_cells", "_law_cell", "_law_mixed"] ["_law_script", "_law_at"] (defScope sNr) := ⟨rfl, rfl, rfl, by decide +kernel, rfl, by decide +kernel, by decide +kernel⟩
def spNr (K : PySem.W.Frag) : Sp := fun vs H Q _ => ∃ (a : Addr) (xs : List Int) (t : Int), vs = [.ref a, .int t] ∧ SqL K H a (xs.map V.int) ∧ 0 ≤ t ∧ t ≤ 100000 ∧ ∀ H' r, Same H H' → 0 ≤ r → r < 4294967291 → Q (.int r) H'
theorem ok_nr {f : Addr} {fd : FuncData} {k : Nat} (D : Df K mg "_law_number" sNr ["_law_script", "_law_at"] f fd) (B : Bi mg) : FnOk P w K mg base CX0 (k + 1) f fd ["_law_script", "_law_at"] (spNr K) := by
  refine D.F.ok scNr (fun vs H Q E h => ?_) (fun cdv A outer s H vs Q E hr h => ?_)
  · obtain ⟨_, _, _, rfl, _⟩ := h
    rfl
  · obtain ⟨a, xs, t, rfl, ha, t0, t1, q⟩ := h
    refine ⟨_, pss_cons (ps_set (i := 2) scNr.nd rfl (.inl rfl) <| pe_ifExp (pt_cmpR (op_neNil hr.units) (pv 0) (pe_lst pa_nil) (nomark _)) (pe_slice sl_list (pv 0) po_none (po_some pe_int)) (pe_lst <| pa_cons pe_int pa_nil)) <|
      pss_cons (ps_set (i := 3) scNr.nd rfl (.inl rfl) <| pe_op op_add (pe_ix ix_list (pv 2) (pe_op op_mod (pv 1) (pe_callB call_len_seq (by rfl) B.len boot_len <| pa_cons (pv 2) pa_nil)) fun _ _ => rfl) <|
        pe_op op_mul pe_int <| pe_op op_fdiv (pv 1) (pe_callB call_len_seq (by rfl) B.len boot_len <| pa_cons (pv 2) pa_nil)) <|
      pss_cons (ps_set (i := 4) scNr.nd rfl (.inl rfl) <| pe_op op_add (pe_op op_mul (pe_op op_add (pe_op op_add (pe_op op_mod (pe_callTy call_int1 (by rfl) B.int boot_int <| pa_cons (pv 3) pa_nil) pe_int) (pe_op op_mul pe_int (pv 1))) pe_int) pe_int) <|
        pe_op op_mod (pe_callTy call_int1 (by rfl) B.int boot_int <| pa_cons (pe_op op_fdiv (pv 3) pe_int) pa_nil) pe_int) <|
      pss_one <| ps_ret <| pe_op op_mod (pe_op op_mul (pe_op op_mod (pv 4) pe_int) pe_int) pe_int, ?_⟩
    -- from the cells on
    have key : ∀ (H1 : Hp) (p : Addr) (ns : List Int), Same H H1 → SqL K H1 p (ns.map V.int) → ns ≠ [] → ns.length ≤ 60 → ∃ c : Int, atI (ns.map V.int) (t % (((ns.map V.int).length : Nat) : Int)) = some (.int c) ∧ (0 : Int) < (((ns.map V.int).length : Nat) : Int) ∧ (((ns.map V.int).length : Nat) : Int) < 1073741824 := by
      intro H1 p ns s1 hp hne hl
      have hpos : 0 < ns.length := List.length_pos_iff.mpr hne
      rw [List.length_map]
      have h1 : 0 ≤ t % (ns.length : Int) := Int.emod_nonneg _ (by omega)
      have h2 : t % (ns.length : Int) < ns.length := Int.emod_lt_of_pos _ (by omega)
      obtain ⟨j, ej⟩ := Int.eq_ofNat_of_zero_le h1
      rw [ej] at h2 ⊢
      have hj : j < ns.length := by omega
      exact ⟨ns[j], atI_nat (j := j) (by simp [hj]), by omega, by omega⟩
    refine ⟨.ref a, rfl, by show 0 ≤ sizeLine; exact Nat.zero_le _, fun l0 n0 => ⟨a, l0, _, rfl, rfl, (same_upd n0).seq ha, .inl (.inl upd_same), _, rfl, ?_⟩⟩
    have s1 := same_upd (o := .lst []) n0
    have fin : ∀ c : Int, 0 ≤ c % 1000003 ∧ c % 1000003 < 1000003 := fun c => ⟨Int.emod_nonneg _ (by decide), Int.emod_lt_of_pos _ (by decide)⟩
    cases xs with
    | nil =>
      refine iteF ⟨by show 1 ≤ sizeLine; decide, fun p np => ?_⟩
      have s2 := same_new (o := .lst [.int 7]) s1 np
      have hp : SqL K (upd (upd H l0 (.lst [])) p (.lst [.int 7])) p ([(7 : Int)].map V.int) := .inl (.inl upd_same)
      obtain ⟨c, hc, b1, b2⟩ := key _ p [7] s2 hp (by simp) (by simp)
      refine ⟨.ref p, rfl, .int t, rfl, .ref p, rfl, p, _, rfl, .inl hp, _, _, rfl, rfl, b1, p, _, _, .int c, rfl, rfl, hp, hc, .int t, rfl, .ref p, rfl, p, _, rfl, .inl hp, _, _, rfl, rfl, ⟨b1, b2⟩, _, _, rfl, rfl, .inl ⟨by decide, by decide⟩, _, _, rfl, rfl, ?_⟩
      refine ⟨_, rfl, .inl ⟨_, rfl, _, _, rfl, rfl, by show (0 : Int) < 1000003; decide, .int t, rfl, _, _, rfl, rfl, .inl ⟨by decide, by decide⟩, _, _, rfl, rfl, _, _, rfl, rfl, _, _, rfl, rfl, .inl ?_, ?_⟩⟩
      · have := fin (c + 31 * (t / (([(7 : Int)].map V.int).length : Nat)))
        constructor <;> omega
      · refine ⟨_, rfl, _, _, rfl, rfl, ⟨by decide, by decide⟩, .inl ⟨_, rfl, _, _, rfl, rfl, by show (0 : Int) < 999983; decide, _, _, rfl, rfl, _, rfl, _, _, rfl, rfl, by show (0 : Int) < 2147483647; decide, _, _, rfl, rfl, .inl ?_, _, _, rfl, rfl, by show (0 : Int) < 4294967291; decide, q _ _ s2 (Int.emod_nonneg _ (by decide)) (Int.emod_lt_of_pos _ (by decide))⟩⟩
        constructor
        · exact Int.lt_of_lt_of_le (by decide) (Int.emod_nonneg _ (by decide))
        · exact Int.lt_trans (Int.emod_lt_of_pos _ (by decide)) (by decide)
    | cons x r =>
      refine iteT ⟨.ref a, rfl, 60, rfl, a, _, rfl, (same_upd n0).seq ha, fun p np => ?_⟩
      have s2 := same_new (o := .lst (cutV ((x :: r).map V.int) none (some 60))) s1 np
      have hp : SqL K (upd (upd H l0 (.lst [])) p (.lst (cutV ((x :: r).map V.int) none (some 60)))) p (((x :: r).take 60).map V.int) := .inl (.inl (by rw [upd_same, show cutV ((x :: r).map V.int) none (some 60) = ((x :: r).map V.int).take 60 from cutT 60 _, List.map_take]))
      have hne : (x :: r).take 60 ≠ [] := by simp
      have hle : ((x :: r).take 60).length ≤ 60 := List.length_take_le _ _
      obtain ⟨c, hc, b1, b2⟩ := key _ p _ s2 hp hne hle
      generalize (x :: r).take 60 = ns at hp hc b1 b2 hle
      refine ⟨.ref p, rfl, .int t, rfl, .ref p, rfl, p, _, rfl, .inl hp, _, _, rfl, rfl, b1, p, _, _, .int c, rfl, rfl, hp, hc, .int t, rfl, .ref p, rfl, p, _, rfl, .inl hp, _, _, rfl, rfl, ⟨b1, b2⟩, _, _, rfl, rfl, .inl ⟨by decide, by decide⟩, _, _, rfl, rfl, ?_⟩
      refine ⟨_, rfl, .inl ⟨_, rfl, _, _, rfl, rfl, by show (0 : Int) < 1000003; decide, .int t, rfl, _, _, rfl, rfl, .inl ⟨by decide, by decide⟩, _, _, rfl, rfl, _, _, rfl, rfl, _, _, rfl, rfl, .inl ?_, ?_⟩⟩
      · have := fin (c + 31 * (t / ((ns.map V.int).length : Nat)))
        constructor <;> omega
      · refine ⟨_, rfl, _, _, rfl, rfl, ⟨by decide, by decide⟩, .inl ⟨_, rfl, _, _, rfl, rfl, by show (0 : Int) < 999983; decide, _, _, rfl, rfl, _, rfl, _, _, rfl, rfl, by show (0 : Int) < 2147483647; decide, _, _, rfl, rfl, .inl ?_, _, _, rfl, rfl, by show (0 : Int) < 4294967291; decide, q _ _ s2 (Int.emod_nonneg _ (by decide)) (Int.emod_lt_of_pos _ (by decide))⟩⟩
        constructor
        · exact Int.lt_of_lt_of_le (by decide) (Int.emod_nonneg _ (by decide))
        · exact Int.lt_trans (Int.emod_lt_of_pos _ (by decide)) (by decide)
end
end Kx
set_option maxRecDepth 100000
set_option maxHeartbeats 4000000
namespace L2
open PySem PySem.Spec PyProof.Rows
/-- what an expression gives, told by a property of its value and the heap -/
def tVia (t : TE) : TE := fun σ H Q => ∃ Desc : V → Hp → Prop, (∀ Q' : VK, (∀ v H1, Desc v H1 → Q' v H1) → t σ H Q') ∧ ∀ v H1, Desc v H1 → Q v H1
theorem pe_via {X : Cx} {e : Expr} {t : TE} (h : PE X e t) : PE X e (tVia t) := ⟨fun pins s σ H Q I ⟨_, h1, h2⟩ => h.run pins s σ H Q I (h1 Q h2)⟩
end L2
namespace Kx
open PySem PySem.Spec PyProof.Rows L2 TL
theorem setF {H H' : Hp} {p : Addr} {o : HO} (s : Same H H') (f : H p = none) : Same H (upd H' p o) := fun b x e => by
  rw [upd_ne (ne_of_none e f)]
  exact s _ _ e
theorem asc_of : ∀ {ns : List Int}, ns.Pairwise (· < ·) → asc ns = true
  | [], _ => rfl
  | [_], _ => rfl
  | x :: y :: r, h => by
    have h1 := List.pairwise_cons.mp h
    have ih := asc_of h1.2
    have h2 : x < y := h1.1 y (by simp)
    show (decide (x < y) && (List.zipWith (fun a b => decide (a < b)) (y :: r) ((y :: r).drop 1)).all id) = true
    rw [decide_eq_true h2]
    exact ih
/-- drawn holders: below i, ascending -/
def Hold (i : Int) (ns : List Int) : Prop := ns.Pairwise (· < ·) ∧ ∀ x ∈ ns, 0 ≤ x ∧ x < i
theorem Hold.snoc {i : Int} {ns : List Int} (h : Hold i ns) (h0 : 0 ≤ i) : Hold (i + 1) (ns ++ [i]) := by
  refine ⟨List.pairwise_append.mpr ⟨h.1, by simp, fun a ha b hb => ?_⟩, fun x hx => ?_⟩
  · rw [List.mem_singleton] at hb
    rw [hb]
    exact (h.2 a ha).2
  · rcases List.mem_append.mp hx with z | z
    · have := h.2 x z
      omega
    · rw [List.mem_singleton] at z
      omega
theorem Hold.up {i j : Int} {ns : List Int} (h : Hold i ns) (hj : i ≤ j) : Hold j ns := ⟨h.1, fun x hx => by have := h.2 x hx; omega⟩
theorem Hold.drw {n k : Int} {ns : List Int} (h : Hold n ns) (hne : ns ≠ []) (hl : ns.length ≤ 8) (k1 : 1 ≤ k) (k2 : k ≤ ns.length) : Drw n (ns, k) := by
  refine ⟨?_, hne, hl⟩
  have h1 : within n ns = true := by
    simp only [within, List.all_eq_true, decide_eq_true_eq]
    intro x hx
    have := h.2 x hx
    omega
  have h2 : asc ns = true := asc_of h.1
  show (within n ns && asc ns && decide (1 ≤ k ∧ k ≤ (ns.length : Int))) = true
  rw [h1, h2, decide_eq_true ⟨k1, k2⟩]
  rfl
section
variable {P : Program} {w : World} {K : PySem.W.Frag} {mg : Str → Option Value} {base : Heap}
abbrev sIt : Stmt := topS 35
abbrev nIt : List Str := ["_law_script", "_law_at", "_law_servers", "_law_most", "_law_found", "_law_row", "_law_first", "_law_holders", "_law_drawn", "_law_need", "_law_server"]
theorem scIt : FnScope nIt ["_law_script", "_law_at", "_law_servers", "_law_most"] (defScope sIt) := ⟨rfl, rfl, rfl, by decide +kernel, rfl, by decide +kernel, by decide +kernel⟩
def spIt (K : PySem.W.Frag) : Sp := fun vs H Q _ => ∃ (a : Addr) (xs : List Int) (t n m : Int), vs = [.ref a, .int t, .int n, .int m] ∧ SqL K H a (xs.map V.int) ∧ 0 ≤ t ∧ t ≤ 1000 ∧ 1 ≤ n ∧ n ≤ 8 ∧ 1 ≤ m ∧ m ≤ 8 ∧
  ∀ H' l rows its, Same H H' → H' l = some (.lst rows) → ItemsAt H' rows its → (∀ it ∈ its, Drw n it) → 1 ≤ its.length → its.length ≤ 8 → Q (.ref l) H'
theorem ok_it {f fN : Addr} {fd fdN : FuncData} (D : Df K mg "_law_items" sIt ["_law_script", "_law_at", "_law_servers", "_law_most"] f fd) (B : Bi mg) (DN : Df K mg "_law_number" sNr ["_law_script", "_law_at"] fN fdN) :
    FnOk P w K mg base CX0 2 f fd ["_law_script", "_law_at", "_law_servers", "_law_most"] (spIt K) := by
  have GN : FnOk P w K mg base CX0 1 fN fdN ["_law_script", "_law_at"] (spNr K) := ok_nr DN B
  refine D.F.ok scIt (fun vs H Q E h => ?_) (fun cdv A outer s H vs Q E hr h => ?_)
  · obtain ⟨_, _, _, _, _, rfl, _⟩ := h
    rfl
  · obtain ⟨a, xs, t, n, m, rfl, ha, t0, t1, n1, n8, m1, m8, q⟩ := h
    refine ⟨_, pss_cons (ps_set (i := 4) scIt.nd rfl (.inl rfl) <| pe_lst pa_nil) <|
      pss_cons (ps_for PassesOwn.never rfl (pi_range1 (by rfl) B.rng <| pa_cons (pe_op op_add pe_int <| pe_op op_mod (pe_callTy call_int1 (by rfl) B.int boot_int <| pa_cons (pe_call GN hr (by rfl) DN.g DN.k DN.b .nil pass0 <| pa_cons (pv 0) <| pa_cons (pv 1) pa_nil) pa_nil) (pv 3)) pa_nil)
        (pg_name (i := 5) scIt.nd rfl (.inl rfl)) <|
        pss_cons (ps_set (i := 6) scIt.nd rfl (.inr rfl) <| pe_op op_add (pe_op op_add (pv 1) pe_int) (pe_op op_mul pe_int (pv 5))) <|
        pss_cons (ps_setLc (i := 7) (own := [("_law_server", 10)]) (g := gName 10) (by rfl) scIt.nd rfl rfl (sw_true rfl rfl rfl (by decide +kernel)) (pi_range1 (by rfl) B.rng <| pa_cons (pv 2) pa_nil)
          (blkOk_by (own := [("_law_server", 10)]) (N := nIt) (sc := defScope sIt) (by decide +kernel)) (fun _ _ _ _ _ => pg_name (i := 10) scIt.nd rfl (Or.inl rfl))
          (fun _ _ _ _ _ => pts_one <| pt_cmpR op_eq (pe_op op_mod (pe_callTy call_int1 (by rfl) B.int boot_int <| pa_cons (pe_call GN hr (by rfl) DN.g DN.k DN.b .nil pass0 <| pa_cons (pv 0) <| pa_cons (pe_op op_add (pv 6) (pv 10)) pa_nil) pa_nil) pe_int) pe_int (nomark _))
          (fun _ _ _ _ _ => pv 10)) <|
        pss_cons (ps_set (i := 7) scIt.nd rfl (.inl rfl) <| pe_via <| pe_ifExp (pt_cmpR (op_neNil hr.units) (pv 7) (pe_lst pa_nil) (nomark _)) (pv 7) <| pe_lst <| pa_cons (pe_op op_mod (pe_callTy call_int1 (by rfl) B.int boot_int <| pa_cons (pe_call GN hr (by rfl) DN.g DN.k DN.b .nil pass0 <| pa_cons (pv 0) <| pa_cons (pe_op op_add (pv 6) pe_int) pa_nil) pa_nil) (pv 2)) pa_nil) <|
        pss_cons (ps_set (i := 8) scIt.nd rfl (.inl rfl) <| pe_callTy call_int1 (by rfl) B.int boot_int <| pa_cons (pe_call GN hr (by rfl) DN.g DN.k DN.b .nil pass0 <| pa_cons (pv 0) <| pa_cons (pe_op op_add (pv 6) pe_int) pa_nil) pa_nil) <|
        pss_cons (ps_set (i := 9) scIt.nd rfl (.inl rfl) <| pe_via <| pe_ifExp (pt_cmpR op_eq (pe_op op_mod (pv 8) pe_int) pe_int (nomark _)) (pe_op op_add pe_int <| pe_op op_mod (pe_op op_fdiv (pv 8) pe_int) (pe_callB call_len_seq (by rfl) B.len boot_len <| pa_cons (pv 7) pa_nil)) pe_int) <|
        pss_one <| ps_expr <| pe_bm PySem.F.plainAttrs_list PySem.F.slot_list_append PySem.F.type_list_append mt_append (pv 4) <| pa_cons (pe_tup <| pa_cons (pe_callTy call_tuple_of (by rfl) B.tup boot_tuple <| pa_cons (pv 7) pa_nil) <| pa_cons (pv 9) pa_nil) pa_nil) <|
      pss_one <| ps_ret (pv 4), ?_⟩
    refine ⟨by show 0 ≤ sizeLine; exact Nat.zero_le _, fun L nL => ?_⟩
    have s1 := same_upd (o := .lst []) nL
    have hLa : ∀ {H' : Hp}, Same H H' → SqL K H' a (xs.map V.int) := fun s => s.seq ha
    refine ⟨.ref a, rfl, .int t, rfl, a, xs, t, rfl, hLa s1, t0, by omega, fun H1 r sR r0 r1 => .inl ⟨r, rfl, .int m, rfl, _, _, rfl, rfl, by show (0 : Int) < m; omega, _, _, rfl, rfl, ?_⟩⟩
    have hr0 : 0 ≤ r % m := Int.emod_nonneg _ (by omega)
    have hr1 : r % m < m := Int.emod_lt_of_pos _ (by omega)
    have hL1 := sR _ _ (upd_same (H := H) (a := L) (o := .lst []))
    have s2 := s1.trans sR
    obtain ⟨cnt, ec⟩ : ∃ cnt : Nat, (1 + r % m).toNat = cnt := ⟨_, rfl⟩
    have c1 : 1 ≤ cnt := by omega
    have c8 : cnt ≤ 8 := by omega
    refine ⟨_, rfl, by omega, by omega, ?_⟩
    rw [ec]
    refine for_it walk_range (fun i σ H' => ∃ y5 y6 y7 y8 y9 y10 rows its, σ = [some (.ref a), some (.int t), some (.int n), some (.int m), some (.ref L), y5, y6, y7, y8, y9, y10] ∧ Same H H' ∧ H' L = some (.lst rows) ∧ ItemsAt H' rows its ∧ (∀ it ∈ its, Drw n it) ∧ its.length = i)
      ⟨none, none, none, none, none, none, [], [], rfl, s2, hL1, ⟨rfl, fun i v it h1 h2 => nomatch h1⟩, (fun it h => nomatch h), rfl⟩ (fun _ _ _ _ _ => trivial) ?_ ?_
    · rintro i v σ Hx H2 hi ⟨y5, y6, y7, y8, y9, y10, rows, its, rfl, s3, hL2, hI, hd, hcnt⟩ ⟨e1, e2⟩
      subst e1
      subst e2
      have hz : (0 : Int) + (i : Nat) = (i : Int) := by omega
      refine ⟨.int t, rfl, _, _, rfl, rfl, _, rfl, _, _, rfl, rfl, .inl ⟨by decide, by decide⟩, _, _, rfl, rfl, ?_⟩
      refine ⟨.int n, rfl, n, rfl, by omega, by omega, fun D nD => ?_⟩
      refine lc_it walk_range (fun j H' => Same H2 H' ∧ ∃ ns, H' D = some (.lst (ns.map V.int)) ∧ Hold j ns ∧ ns.length ≤ j) ⟨same_upd nD, [], upd_same, ⟨.nil, fun x hx => nomatch hx⟩, Nat.le_refl _⟩ (fun _ _ _ _ => trivial) ?_ ?_
      · rintro j x Hy H4 hj ⟨s4, ns, hD, hh, hl⟩ ⟨e1, e2⟩
        subst e1
        subst e2
        refine ⟨rfl, .ref a, rfl, .int _, rfl, _, rfl, _, _, rfl, rfl, a, xs, _, rfl, hLa (s3.trans s4), by omega, by omega, fun H6 r2 s6 _ _ => .inl ⟨r2, rfl, _, _, rfl, rfl, by show (0 : Int) < 2; decide, rfl, _, rfl, ?_⟩⟩
        by_cases hc : V.int (r2 % 2) = V.int 0
        · rw [decide_eq_true hc]
          refine iteT ⟨_, rfl, ns.map V.int, s6 _ _ hD, small1000 (by rw [List.length_map]; omega), ?_, ns ++ [(j : Int)], ?_, ?_, by simp; exact hl⟩
          · exact fun c o e => by
              have nb : c ≠ D := ne_of_none e nD
              rw [upd_ne nb]
              exact s6 _ _ (s4 _ _ e)
          · rw [upd_same, List.map_append, List.map_singleton]
            show some (HO.lst (ns.map V.int ++ [V.int (0 + ((j : Nat) : Int))])) = _
            rw [Int.zero_add]
          · have := hh.snoc (by omega)
            exact_mod_cast this
        · rw [decide_eq_false hc]
          exact iteF ⟨s4.trans s6, ns, s6 _ _ hD, hh.up (by omega), by omega⟩
      · rintro H4 ⟨s4, ns, hD, hh, hl⟩
        have hns8 : ns.length ≤ 8 := by omega
        have en : ((n.toNat : Nat) : Int) = n := by omega
        rw [en] at hh
        have s5 := s3.trans s4
        -- the holders' list, not empty
        refine ⟨fun v H5 => ∃ (D2 : Addr) (ms : List Int), v = .ref D2 ∧ Same H2 H5 ∧ H5 D2 = some (.lst (ms.map V.int)) ∧ Hold n ms ∧ ms ≠ [] ∧ ms.length ≤ 8, fun Q' hQ' => ?_, ?_⟩
        · refine ⟨.ref D, rfl, by show 0 ≤ sizeLine; exact Nat.zero_le _, fun l0 n0 => ⟨D, l0, _, rfl, rfl, .inl (.inl ((same_upd n0) _ _ hD)), .inl (.inl upd_same), _, rfl, ?_⟩⟩
          have s6 := same_new (o := .lst []) s4 n0
          cases ns with
          | cons z zs => exact iteT ⟨.ref D, rfl, hQ' _ _ ⟨D, z :: zs, rfl, s6, (same_upd n0) _ _ hD, hh, by simp, hns8⟩⟩
          | nil =>
            refine iteF ⟨.ref a, rfl, .int _, rfl, _, _, rfl, rfl, a, xs, _, rfl, hLa (s3.trans s6), by omega, by omega, fun H7 r2 s7 _ _ => .inl ⟨r2, rfl, .int n, rfl, _, _, rfl, rfl, by show (0 : Int) < n; omega, by show 1 ≤ sizeLine; decide, fun l nl => hQ' _ _ ⟨l, [r2 % n], rfl, same_new (s6.trans s7) nl, upd_same, ⟨by simp, fun x hx => ?_⟩, by simp, by simp⟩⟩⟩
            rw [List.mem_singleton] at hx
            rw [hx]
            exact ⟨Int.emod_nonneg _ (by omega), Int.emod_lt_of_pos _ (by omega)⟩
        · rintro v H5 ⟨D2, ms, rfl, s6, hD2, g1, g2, g3⟩
          have hpos : 0 < ms.length := List.length_pos_iff.mpr g2
          refine ⟨.ref a, rfl, .int _, rfl, _, _, rfl, rfl, a, xs, _, rfl, hLa (s3.trans s6), by omega, by omega, fun H7 dr s7 d0 d1 => .inl ⟨dr, rfl, ?_⟩⟩
          have hD7 := s7 _ _ hD2
          refine ⟨fun v H8 => ∃ k : Int, v = .int k ∧ Same H7 H8 ∧ 1 ≤ k ∧ k ≤ (ms.length : Int), fun Q' hQ' => ?_, ?_⟩
          · refine ⟨.int dr, rfl, _, _, rfl, rfl, by show (0 : Int) < 3; decide, rfl, _, rfl, ?_⟩
            by_cases hc : V.int (dr % 3) = V.int 0
            · rw [decide_eq_true hc]
              refine iteT ⟨.int dr, rfl, _, _, rfl, rfl, ⟨by decide, by decide⟩, .ref D2, rfl, D2, _, rfl, .inl (.inl (.inl hD7)), _, _, rfl, rfl, by show (0 : Int) < (((ms.map V.int).length : Nat) : Int); rw [List.length_map]; omega, _, _, rfl, rfl, hQ' _ _ ⟨_, rfl, Same.refl _, ?_, ?_⟩⟩
              · have : 0 ≤ dr / 3 % (((ms.map V.int).length : Nat) : Int) := Int.emod_nonneg _ (by rw [List.length_map]; omega)
                omega
              · have : dr / 3 % (((ms.map V.int).length : Nat) : Int) < (((ms.map V.int).length : Nat) : Int) := Int.emod_lt_of_pos _ (by rw [List.length_map]; omega)
                rw [List.length_map] at this ⊢
                omega
            · rw [decide_eq_false hc]
              exact iteF (hQ' _ _ ⟨1, rfl, Same.refl _, by decide, by omega⟩)
          · rintro v H8 ⟨k, rfl, s8, k1, k2⟩
            have s9 := (s6.trans s7).trans s8
            have hD8 := s8 _ _ hD7
            refine ⟨.ref L, rfl, .inl ⟨rfl, _, .inl (.inl (s9 _ _ hL2))⟩, .ref D2, rfl, D2, _, rfl, .inl ⟨.inl (.inl hD8), fun tp ntp => ⟨.int k, rfl, by show 2 ≤ sizeLine; decide, fun tq ntq => ?_⟩⟩⟩
            have s10 : Same H2 (upd (upd H8 tp (.tup (ms.map V.int))) tq (.tup [.ref tp, .int k])) := same_new (same_new s9 ntp) ntq
            have hL10 := s10 _ _ hL2
            refine ⟨L, rows, _, rfl, rfl, hL10, small1000 (by rw [hI.1]; omega), ?_⟩
            have hit : ItemAt (upd (upd H8 tp (.tup (ms.map V.int))) tq (.tup [.ref tp, .int k])) tq (ms, k) := ⟨tp, upd_same, (same_upd ntq) _ _ upd_same⟩
            have kk : Keep L (upd (upd H8 tp (.tup (ms.map V.int))) tq (.tup [.ref tp, .int k])) (upd (upd (upd H8 tp (.tup (ms.map V.int))) tq (.tup [.ref tp, .int k])) L (.lst (rows ++ [.ref tq]))) := Keep.set (Keep.of (Same.refl _))
            refine ⟨_, _, _, _, _, _, rows ++ [.ref tq], its ++ [(ms, k)], rfl, setF (s3.trans s10) nL, upd_same, ((hI.same s10).keep hL10 kk).snoc (hit.keep hL10 kk), ?_, by rw [List.length_append, hcnt]; rfl⟩
            intro it hit
            rcases List.mem_append.mp hit with z | z
            · exact hd it z
            · rw [List.mem_singleton] at z
              rw [z]
              exact g1.drw g2 g3 k1 k2
    · rintro σ H2 ⟨y5, y6, y7, y8, y9, y10, rows, its, rfl, s3, hL2, hI, hd, hcnt⟩
      exact ⟨_, rfl, q _ L rows its s3 hL2 hI hd (by omega) (by omega)⟩
end
end Kx
set_option maxRecDepth 100000
set_option maxHeartbeats 4000000
namespace Kx
open PySem PySem.Spec PyProof.Rows L2 TL
section
variable {P : Program} {w : World} {K : PySem.W.Frag} {mg : Str → Option Value} {base : Heap}
abbrev sMo : Stmt := topS 36
abbrev nMo : List Str := ["_law_script", "_law_at", "_law_servers", "_law_most", "_law_found", "_law_row", "_law_sender", "_law_receiver"]
theorem scMo : FnScope nMo ["_law_script", "_law_at", "_law_servers", "_law_most"] (defScope sMo) := ⟨rfl, rfl, rfl, by decide +kernel, rfl, by decide +kernel, by decide +kernel⟩
def spMo (K : PySem.W.Frag) : Sp := fun vs H Q _ => ∃ (a : Addr) (xs : List Int) (t n m : Int), vs = [.ref a, .int t, .int n, .int m] ∧ SqL K H a (xs.map V.int) ∧ 0 ≤ t ∧ t ≤ 1000 ∧ 2 ≤ n ∧ n ≤ 8 ∧ 1 ≤ m ∧ m ≤ 16 ∧
  ∀ H' l rows ps, Same H H' → H' l = some (.lst rows) → PairsAt H' rows ps → (∀ p ∈ ps, Mvd n p) → ps.length ≤ 16 → Q (.ref l) H'
theorem mvd_drawn {n a b : Int} (n2 : 2 ≤ n) : Mvd n (a % n, (a % n + 1 + b % (n - 1)) % n) := by
  have h1 : 0 ≤ a % n := Int.emod_nonneg _ (by omega)
  have h2 : a % n < n := Int.emod_lt_of_pos _ (by omega)
  have h3 : 0 ≤ b % (n - 1) := Int.emod_nonneg _ (by omega)
  have h4 : b % (n - 1) < n - 1 := Int.emod_lt_of_pos _ (by omega)
  generalize a % n = s at h1 h2 ⊢
  generalize b % (n - 1) = u at h3 h4 ⊢
  have h5 : 0 ≤ (s + 1 + u) % n := Int.emod_nonneg _ (by omega)
  have h6 : (s + 1 + u) % n < n := Int.emod_lt_of_pos _ (by omega)
  refine ⟨h1, h2, h5, h6, ?_⟩
  show s ≠ (s + 1 + u) % n
  by_cases h : s + 1 + u < n
  · rw [Int.emod_eq_of_lt (by omega) h]
    omega
  · have e : (s + 1 + u) % n = s + 1 + u - n := by
      have h7 := Int.add_emod_right (s + 1 + u - n) n
      rw [show s + 1 + u - n + n = s + 1 + u by omega] at h7
      rw [h7]
      exact Int.emod_eq_of_lt (by omega) (by omega)
    rw [e]
    omega
theorem ok_mo {f fN : Addr} {fd fdN : FuncData} (D : Df K mg "_law_transfers" sMo ["_law_script", "_law_at", "_law_servers", "_law_most"] f fd) (B : Bi mg) (DN : Df K mg "_law_number" sNr ["_law_script", "_law_at"] fN fdN) :
    FnOk P w K mg base CX0 2 f fd ["_law_script", "_law_at", "_law_servers", "_law_most"] (spMo K) := by
  have GN : FnOk P w K mg base CX0 1 fN fdN ["_law_script", "_law_at"] (spNr K) := ok_nr DN B
  refine D.F.ok scMo (fun vs H Q E h => ?_) (fun cdv A outer s H vs Q E hr h => ?_)
  · obtain ⟨_, _, _, _, _, rfl, _⟩ := h
    rfl
  · obtain ⟨a, xs, t, n, m, rfl, ha, t0, t1, n2, n8, m1, m16, q⟩ := h
    refine ⟨_, pss_cons (ps_set (i := 4) scMo.nd rfl (.inl rfl) <| pe_lst pa_nil) <|
      pss_cons (ps_for PassesOwn.never rfl (pi_range1 (by rfl) B.rng <| pa_cons (pe_op op_mod (pe_callTy call_int1 (by rfl) B.int boot_int <| pa_cons (pe_call GN hr (by rfl) DN.g DN.k DN.b .nil pass0 <| pa_cons (pv 0) <| pa_cons (pv 1) pa_nil) pa_nil) (pe_op op_add (pv 3) pe_int)) pa_nil)
        (pg_name (i := 5) scMo.nd rfl (.inl rfl)) <|
        pss_cons (ps_set (i := 6) scMo.nd rfl (.inl rfl) <| pe_op op_mod (pe_callTy call_int1 (by rfl) B.int boot_int <| pa_cons (pe_call GN hr (by rfl) DN.g DN.k DN.b .nil pass0 <| pa_cons (pv 0) <| pa_cons (pe_op op_add (pe_op op_add (pv 1) pe_int) (pe_op op_mul pe_int (pv 5))) pa_nil) pa_nil) (pv 2)) <|
        pss_cons (ps_set (i := 7) scMo.nd rfl (.inl rfl) <| pe_op op_mod (pe_op op_add (pe_op op_add (pv 6) pe_int) <| pe_op op_mod (pe_callTy call_int1 (by rfl) B.int boot_int <| pa_cons (pe_call GN hr (by rfl) DN.g DN.k DN.b .nil pass0 <| pa_cons (pv 0) <| pa_cons (pe_op op_add (pe_op op_add (pv 1) pe_int) (pe_op op_mul pe_int (pv 5))) pa_nil) pa_nil) (pe_op op_sub (pv 2) pe_int)) (pv 2)) <|
        pss_one <| ps_expr <| pe_bm PySem.F.plainAttrs_list PySem.F.slot_list_append PySem.F.type_list_append mt_append (pv 4) <| pa_cons (pe_tup <| pa_cons (pv 6) <| pa_cons (pv 7) pa_nil) pa_nil) <|
      pss_one <| ps_ret (pv 4), ?_⟩
    refine ⟨by show 0 ≤ sizeLine; exact Nat.zero_le _, fun L nL => ?_⟩
    have s1 := same_upd (o := .lst []) nL
    have hLa : ∀ {H' : Hp}, Same H H' → SqL K H' a (xs.map V.int) := fun s => s.seq ha
    refine ⟨.ref a, rfl, .int t, rfl, a, xs, t, rfl, hLa s1, t0, by omega, fun H1 r sR r0 r1 => .inl ⟨r, rfl, .int m, rfl, _, _, rfl, rfl, _, _, rfl, rfl, by show (0 : Int) < m + 1; omega, ?_⟩⟩
    have hr0 : 0 ≤ r % (m + 1) := Int.emod_nonneg _ (by omega)
    have hr1 : r % (m + 1) < m + 1 := Int.emod_lt_of_pos _ (by omega)
    have hL1 := sR _ _ (upd_same (H := H) (a := L) (o := .lst []))
    have s2 := s1.trans sR
    obtain ⟨cnt, ec⟩ : ∃ cnt : Nat, (r % (m + 1)).toNat = cnt := ⟨_, rfl⟩
    have c16 : cnt ≤ 16 := by omega
    refine ⟨_, rfl, by omega, by omega, ?_⟩
    rw [ec]
    refine for_it walk_range (fun i σ H' => ∃ y5 y6 y7 rows ps, σ = [some (.ref a), some (.int t), some (.int n), some (.int m), some (.ref L), y5, y6, y7] ∧ Same H H' ∧ H' L = some (.lst rows) ∧ PairsAt H' rows ps ∧ (∀ p ∈ ps, Mvd n p) ∧ ps.length = i)
      ⟨none, none, none, [], [], rfl, s2, hL1, ⟨rfl, fun i v it h1 h2 => nomatch h1⟩, (fun it h => nomatch h), rfl⟩ (fun _ _ _ _ _ => trivial) ?_ ?_
    · rintro i v σ Hx H2 hi ⟨y5, y6, y7, rows, ps, rfl, s3, hL2, hI, hd, hcnt⟩ ⟨e1, e2⟩
      subst e1
      subst e2
      refine ⟨.ref a, rfl, .int t, rfl, _, _, rfl, rfl, _, rfl, _, _, rfl, rfl, .inl ⟨by decide, by decide⟩, _, _, rfl, rfl, a, xs, _, rfl, hLa s3, by omega, by omega, fun H3 r3 s4 _ _ => .inl ⟨r3, rfl, .int n, rfl, _, _, rfl, rfl, by show (0 : Int) < n; omega, ?_⟩⟩
      have s5 := s3.trans s4
      refine ⟨_, rfl, _, _, rfl, rfl, .ref a, rfl, .int t, rfl, _, _, rfl, rfl, _, rfl, _, _, rfl, rfl, .inl ⟨by decide, by decide⟩, _, _, rfl, rfl, a, xs, _, rfl, hLa s5, by omega, by omega, fun H4 r4 s6 _ _ => .inl ⟨r4, rfl, .int n, rfl, _, _, rfl, rfl, _, _, rfl, rfl, by show (0 : Int) < n - 1; omega, _, _, rfl, rfl, .int n, rfl, _, _, rfl, rfl, by show (0 : Int) < n; omega, ?_⟩⟩
      have s7 := s4.trans s6
      refine ⟨.ref L, rfl, .inl ⟨rfl, _, .inl (.inl (s7 _ _ hL2))⟩, _, rfl, _, rfl, by show 2 ≤ sizeLine; decide, fun tq ntq => ?_⟩
      have s8 : Same _ (upd H4 tq (.tup [.int (r3 % n), .int ((r3 % n + 1 + r4 % (n - 1)) % n)])) := same_new s7 ntq
      have hL8 := s8 _ _ hL2
      refine ⟨L, rows, _, rfl, rfl, hL8, small1000 (by rw [hI.1]; omega), ?_⟩
      have kk : Keep L (upd H4 tq (.tup [.int (r3 % n), .int ((r3 % n + 1 + r4 % (n - 1)) % n)])) (upd (upd H4 tq (.tup [.int (r3 % n), .int ((r3 % n + 1 + r4 % (n - 1)) % n)])) L (.lst (rows ++ [.ref tq]))) := Keep.set (Keep.of (Same.refl _))
      have hp : PairAt (upd H4 tq (.tup [.int (r3 % n), .int ((r3 % n + 1 + r4 % (n - 1)) % n)])) tq (r3 % n, (r3 % n + 1 + r4 % (n - 1)) % n) := upd_same
      refine ⟨_, _, _, rows ++ [.ref tq], ps ++ [(r3 % n, (r3 % n + 1 + r4 % (n - 1)) % n)], rfl, setF (s3.trans s8) nL, upd_same, ((hI.same s8).keep hL8 kk).snoc (kk _ _ (ne_of hp hL8 (by intro z; cases z)) hp), ?_, by rw [List.length_append, hcnt]; rfl⟩
      intro p hp
      rcases List.mem_append.mp hp with z | z
      · exact hd p z
      · rw [List.mem_singleton] at z
        rw [z]
        exact mvd_drawn n2
    · rintro σ H2 ⟨y5, y6, y7, rows, ps, rfl, s3, hL2, hI, hd, hcnt⟩
      exact ⟨_, rfl, q _ L rows ps s3 hL2 hI hd (by omega)⟩
end
end Kx
set_option maxRecDepth 100000
set_option maxHeartbeats 4000000
namespace L2
open PySem PySem.Spec PyProof.Rows
section
variable {X : Cx} {b e : Expr} {es : List Expr} {te tb : TE} {t : TA} {x : Str} {j : Nat} {p pos : Pos} {op : Operator} {r : R2}
/-- behind it a token is out -/
def PEs (X : Cx) (e : Expr) (t : TE) : Prop :=
  ∀ (pins : List (Addr × Obj)) (s : Shared) (σ : St) (H : Hp) (Q : VK), Inv X pins σ H s → t σ H Q → wpAny (model X.prog X.w) X.A (eval e X.env) (fun u s' => 1 ≤ s'.toks ∧ EP X pins σ Q u s') X.xe s
/-- 'x' op b -/
theorem pes_strop (ho : OpR X (binaryOp op) r) (hb : PE X b tb) : PEs X (.BinOp (.Constant (.str x) j p) op b pos) (tOp r (tC (.str x)) tb) := by
  intro pins s σ H Q I h
  have h1 : 1 ≤ s.toks + 1 := Nat.succ_le_succ (Nat.zero_le _)
  refine wpAny_BinOp (Calls.Constant_str ?_)
  refine wpAny_mono (PySem.wpAny_toks_of (s := { s with toks := s.toks + 1 }) h1 (hb.run pins { s with toks := s.toks + 1 } σ H _ (I.tok _) h)) (fun u s2 q => ?_) fun _ _ z => z.2
  obtain ⟨hk, y, H2, I2, r2, q2⟩ := q
  exact wpAny_mono (PySem.wpAny_toks_of hk (ho pins s2 σ H2 (.str x) y (.str x s.toks) u Q I2 ⟨_, rfl⟩ r2 q2)) (fun _ _ z => z) fun _ _ z => z.2
theorem pa_consT (ha : PEs X e te) (hr : PAT X es t) (hs : starEach (e :: es) X.env = (false, eval e X.env) :: starEach es X.env := by rfl) : PA X (e :: es) (tCons te t) := by
  refine ⟨fun pos pins s σ H Q I h => ?_⟩
  rw [hs]
  show wpAny _ _ (spliced ((false, eval e X.env) :: backTo pos (starEach es X.env))) _ _ s
  refine Calls.spliced_cons (thn (ha pins s σ H _ I h) fun u s1 ⟨hk, x, H1, I1, r1, q1⟩ => ?_)
  exact thn (hr pos pins s1 σ H1 _ hk I1 q1) fun us s2 ⟨xs, H2, I2, r2, q2⟩ => ⟨x :: xs, H2, I2, .cons r1 r2, q2⟩
end
end L2
namespace Kx
open PySem PySem.Spec PyProof.Rows L2 TL PySem.StrLaws
theorem repl_len : ∀ l : List Nat, (replL [32] [32, 32] l).length ≤ 2 * l.length
  | [] => by rw [repl_nil]; simp
  | c :: r => by
    have ih := repl_len r
    by_cases e : c = 32
    · subst e
      rw [repl_sp]
      simp only [List.length_cons]
      omega
    · rw [replL_miss (by simpa using e)]
      simp only [List.length_cons]
      omega
theorem bend_len (k : Nat) (l : List Nat) : (bend k l).length ≤ 2 * l.length + 2 := by
  unfold bend
  split
  · simp; omega
  · simp; omega
  · simp; omega
  · simp
  · have := repl_len l
    omega
  · simp; omega
  · simp; omega
def bendS (k : Nat) (x : Str) : Str := match k with
  | 0 => (" " : Str) ++ x
  | 1 => x ++ (" " : Str)
  | 2 => x ++ (" 9" : Str)
  | 3 => ("" : Str)
  | 4 => Txt.replace x (" " : Str) ("  " : Str)
  | 5 => x ++ ("," : Str)
  | _ => ("x" : Str) ++ x
theorem tl_sp2 : tl ("  " : Str) = [32, 32] := by decide +kernel
theorem tl_sp9 : tl (" 9" : Str) = [32, 57] := by decide +kernel
theorem tl_com : tl ("," : Str) = [44] := by decide +kernel
theorem tl_x : tl ("x" : Str) = [120] := by decide +kernel
theorem tl_bendS : ∀ (k : Nat) (x : Str), tl (bendS k x) = bend k (tl x)
  | 0, x => by
    show tl ((" " : Str) ++ x) = 32 :: tl x
    rw [tl_append, tl_sp]; rfl
  | 1, x => by
    show tl (x ++ (" " : Str)) = tl x ++ [32]
    rw [tl_append, tl_sp]
  | 2, x => by
    show tl (x ++ (" 9" : Str)) = tl x ++ [32, 57]
    rw [tl_append, tl_sp9]
  | 3, x => tl_emp
  | 4, x => by
    have h := replace_list (x := x) (y := (" " : Str)) (z := ("  " : Str)) (by decide +kernel)
    rw [show (Txt.replace x (" " : Str) ("  " : Str)).cps.toList = tl (Txt.replace x (" " : Str) ("  " : Str)) from rfl, show (" " : Str).cps.toList = [32] from tl_sp, show ("  " : Str).cps.toList = [32, 32] from tl_sp2] at h
    exact h
  | 5, x => by
    show tl (x ++ ("," : Str)) = tl x ++ [44]
    rw [tl_append, tl_com]
  | k + 6, x => by
    show tl (("x" : Str) ++ x) = 120 :: tl x
    rw [tl_append, tl_x]; rfl
section
variable {P : Program} {w : World} {K : PySem.W.Frag} {mg : Str → Option Value} {base : Heap}
abbrev sBn : Stmt := topS 41
abbrev nBn : List Str := ["_law_script", "_law_at", "_law_lines", "_law_here", "_law_kind", "_law_one", "_law_late"]
theorem scBn : FnScope nBn ["_law_script", "_law_at", "_law_lines"] (defScope sBn) := ⟨rfl, rfl, rfl, by decide +kernel, rfl, by decide +kernel, by decide +kernel⟩
def spBn (K : PySem.W.Frag) : Sp := fun vs H Q _ => ∃ (a : Addr) (xs : List Int) (t : Int) (l : Addr) (sts : List Str), vs = [.ref a, .int t, .ref l] ∧ SqL K H a (xs.map V.int) ∧ 0 ≤ t ∧ t ≤ 1000 ∧ H l = some (.lst (sts.map V.str)) ∧ 0 < sts.length ∧ sts.length ≤ 30 ∧ (∀ x ∈ sts, x.length ≤ 40) ∧
  ∀ H' (tt l2 : Addr) (sts2 : List Str) (k i : Nat), Same H H' → i < sts.length → H' tt = some (.tup [.ref l2, .int (i : Nat)]) → H' l2 = some (.lst (sts2.map V.str)) → sts2.map tl = bentR k i (sts.map tl) → (∀ x ∈ sts2, x.length ≤ 100) → sts2.length = sts.length → Q (.ref tt) H'
theorem ok_bn {f fN : Addr} {fd fdN : FuncData} (D : Df K mg "_law_bent" sBn ["_law_script", "_law_at", "_law_lines"] f fd) (B : Bi mg) (DN : Df K mg "_law_number" sNr ["_law_script", "_law_at"] fN fdN) :
    FnOk P w K mg base CX0 2 f fd ["_law_script", "_law_at", "_law_lines"] (spBn K) := by
  have GN : FnOk P w K mg base CX0 1 fN fdN ["_law_script", "_law_at"] (spNr K) := ok_nr DN B
  refine D.F.ok scBn (fun vs H Q E h => ?_) (fun cdv A outer s H vs Q E hr h => ?_)
  · obtain ⟨_, _, _, _, _, rfl, _⟩ := h
    rfl
  · obtain ⟨a, xs, t, l, sts, rfl, ha, t0, t1, hl, c1, c30, hlen, q⟩ := h
    have hline : (1000 : Nat) < sizeLine := by decide
    refine ⟨_, pss_cons (ps_par (i := 3) (j := 4) (by rfl) scBn.nd rfl rfl (by decide) rfl rfl
        (pa_cons (pe_op op_mod (pe_callTy call_int1 (by rfl) B.int boot_int <| pa_cons (pe_call GN hr (by rfl) DN.g DN.k DN.b .nil pass0 <| pa_cons (pv 0) <| pa_cons (pv 1) pa_nil) pa_nil) (pe_callB call_len_seq (by rfl) B.len boot_len <| pa_cons (pv 2) pa_nil)) <|
          pa_cons (pe_op op_mod (pe_callTy call_int1 (by rfl) B.int boot_int <| pa_cons (pe_call GN hr (by rfl) DN.g DN.k DN.b .nil pass0 <| pa_cons (pv 0) <| pa_cons (pe_op op_add (pv 1) pe_int) pa_nil) pa_nil) pe_int) pa_nil) (by rfl)) <|
      pss_cons (ps_set (i := 5) scBn.nd rfl (.inl rfl) <| pe_ix ix_list (pv 2) (pv 3) fun _ _ => rfl) <|
      pss_cons (ps_set (i := 6) scBn.nd rfl (.inl rfl) <| pe_ix ix_list (pe_lst <| pa_consT (pes_strop op_add_str (pv 5)) <| pat_cons (CwR.PET.of <| pe_op op_add_str (pv 5) pe_str) <| pat_cons (CwR.PET.of <| pe_op op_add_str (pv 5) pe_str) <| pat_cons (CwR.PET.of pe_str) <|
          pat_cons (CwR.pet_replC (y := (" " : Str)) (z := ("  " : Str)) (pv 5) (by decide +kernel)) <| pat_cons (CwR.PET.of <| pe_op op_add_str (pv 5) pe_str) <| pat_cons (CwR.PET.of <| pe_op op_add_str pe_str (pv 5)) pat_nil) (pv 4) fun _ _ => rfl) <|
      pss_one <| ps_ret <| pe_tup <| pa_cons (pe_op op_cat (pe_op op_cat (pe_slice sl_list (pv 2) po_none (po_some <| pv 3)) (pe_lst <| pa_cons (pv 6) pa_nil)) (pe_slice sl_list (pv 2) (po_some <| pe_op op_add (pv 3) pe_int) po_none)) <| pa_cons (pv 3) pa_nil, ?_⟩
    have hLa : ∀ {H' : Hp}, Same H H' → SqL K H' a (xs.map V.int) := fun s => s.seq ha
    have hn : ((sts.map V.str).length : Int) = (sts.length : Int) := by rw [List.length_map]
    refine ⟨.ref a, rfl, .int t, rfl, a, xs, t, rfl, ha, t0, by omega, fun H1 r s1 r0 r1 => .inl ⟨r, rfl, .ref l, rfl, l, _, rfl, .inl (.inl (.inl (s1 _ _ hl))), _, _, rfl, rfl, by show (0 : Int) < ((sts.map V.str).length : Int); omega, ?_⟩⟩
    refine ⟨.ref a, rfl, .int t, rfl, _, _, rfl, rfl, a, xs, _, rfl, hLa s1, by omega, by omega, fun H2 r2 s2 _ _ => .inl ⟨r2, rfl, _, _, rfl, rfl, by show (0 : Int) < 7; decide, _, _, rfl, ?_⟩⟩
    have s3 := s1.trans s2
    have hl3 := s3 _ _ hl
    have h1 : 0 ≤ r % ((sts.map V.str).length : Int) := Int.emod_nonneg _ (by omega)
    have h2 : r % ((sts.map V.str).length : Int) < (sts.map V.str).length := Int.emod_lt_of_pos _ (by omega)
    obtain ⟨i, ei⟩ := Int.eq_ofNat_of_zero_le h1
    have h3 : 0 ≤ r2 % 7 := Int.emod_nonneg _ (by decide)
    have h4 : r2 % 7 < 7 := Int.emod_lt_of_pos _ (by decide)
    obtain ⟨k, ek⟩ := Int.eq_ofNat_of_zero_le h3
    rw [ei] at h2
    have hi : i < sts.length := by omega
    have hk : k < 7 := by omega
    obtain ⟨one, hone⟩ : ∃ one, sts[i]? = some one := ⟨sts[i], List.getElem?_eq_getElem hi⟩
    have ho := hlen one (List.mem_of_getElem? hone)
    have hx1 : ∀ y : Str, y.length ≤ 10 → one.length + y.length ≤ sizeLine ∧ y.length + one.length ≤ sizeLine := fun y hy => by omega
    refine ⟨.ref l, rfl, .int (r % ((sts.map V.str).length : Int)), rfl, l, _, _, .str one, rfl, rfl, .inl (.inl hl3), by rw [ei]; exact atI_nat (by rw [List.getElem?_map, hone]; rfl), ?_⟩
    refine ⟨.str one, rfl, _, _, rfl, rfl, (hx1 (" " : Str) (by decide +kernel)).2, .str one, rfl, _, _, rfl, rfl, (hx1 (" " : Str) (by decide +kernel)).1, .str one, rfl, _, _, rfl, rfl, (hx1 (" 9" : Str) (by decide +kernel)).1,
      .str one, rfl, one, rfl, ?_, .str one, rfl, _, _, rfl, rfl, (hx1 ("," : Str) (by decide +kernel)).1, .str one, rfl, _, _, rfl, rfl, (hx1 ("x" : Str) (by decide +kernel)).2, by show 7 ≤ sizeLine; decide, fun lp nlp => ?_⟩
    · rw [show ("  " : Str).length = 2 by decide +kernel]
      omega
    have s4 := same_new (o := .lst [.str (bendS 0 one), .str (bendS 1 one), .str (bendS 2 one), .str (bendS 3 one), .str (bendS 4 one), .str (bendS 5 one), .str (bendS 6 one)]) s3 nlp
    refine ⟨.int (r2 % 7), rfl, lp, [.str (bendS 0 one), .str (bendS 1 one), .str (bendS 2 one), .str (bendS 3 one), .str (bendS 4 one), .str (bendS 5 one), .str (bendS 6 one)], _, .str (bendS k one), rfl, rfl, .inl (.inl upd_same), ?_, ?_⟩
    · rw [ek]
      refine atI_nat ?_
      match k, hk with
      | 0, _ => rfl
      | 1, _ => rfl
      | 2, _ => rfl
      | 3, _ => rfl
      | 4, _ => rfl
      | 5, _ => rfl
      | 6, _ => rfl
    have hl4 := s4 _ _ hl
    refine ⟨.ref l, rfl, _, rfl, _, rfl, l, _, rfl, .inl (.inl hl4), fun p np => ?_⟩
    have s5 := same_new (o := .lst (cutV (sts.map V.str) none (some (r % ((sts.map V.str).length : Int))))) s4 np
    refine ⟨.str (bendS k one), rfl, by show 1 ≤ sizeLine; decide, fun p2 np2 => ?_⟩
    have s6 := same_new (o := .lst [.str (bendS k one)]) s5 np2
    have ecut : cutV (sts.map V.str) none (some (r % ((sts.map V.str).length : Int))) = (sts.take i).map V.str := by
      rw [ei]
      have := cutT i (sts.map V.str)
      rw [← List.map_take] at this
      exact this
    have ecut2 : cutV (sts.map V.str) (some (r % ((sts.map V.str).length : Int) + 1)) none = (sts.drop (i + 1)).map V.str := by
      rw [ei]
      have := cutK (i + 1) (sts.map V.str)
      rw [← List.map_drop] at this
      exact this
    refine ⟨p, p2, cutV (sts.map V.str) none (some (r % ((sts.map V.str).length : Int))), [.str (bendS k one)], rfl, rfl, (same_upd np2) _ _ upd_same, upd_same, ?_, fun p3 np3 => ?_⟩
    · rw [ecut, List.length_map, List.length_take]
      simp only [List.length_singleton]
      omega
    have s7 := same_new (o := .lst (cutV (sts.map V.str) none (some (r % ((sts.map V.str).length : Int))) ++ [.str (bendS k one)])) s6 np3
    refine ⟨.ref l, rfl, _, rfl, _, _, rfl, rfl, _, rfl, l, _, rfl, .inl (.inl (s7 _ _ hl)), fun p4 np4 => ?_⟩
    have s8 := same_new (o := .lst (cutV (sts.map V.str) (some (r % ((sts.map V.str).length : Int) + 1)) none)) s7 np4
    refine ⟨p3, p4, cutV (sts.map V.str) none (some (r % ((sts.map V.str).length : Int))) ++ [.str (bendS k one)], cutV (sts.map V.str) (some (r % ((sts.map V.str).length : Int) + 1)) none, rfl, rfl, (same_upd np4) _ _ upd_same, upd_same, ?_, fun p5 np5 => ?_⟩
    · rw [ecut, ecut2, List.length_append, List.length_map, List.length_take, List.length_map, List.length_drop]
      simp only [List.length_singleton]
      omega
    have s9 := same_new (o := .lst (cutV (sts.map V.str) none (some (r % ((sts.map V.str).length : Int))) ++ [.str (bendS k one)] ++ cutV (sts.map V.str) (some (r % ((sts.map V.str).length : Int) + 1)) none)) s8 np5
    refine ⟨_, rfl, by show 2 ≤ sizeLine; decide, fun tt ntt => ?_⟩
    have s10 := same_new (o := .tup [.ref p5, .int (r % ((sts.map V.str).length : Int))]) s9 ntt
    refine q _ tt p5 (sts.take i ++ [bendS k one] ++ sts.drop (i + 1)) k i s10 hi (by rw [upd_same]; show some (HO.tup [V.ref p5, V.int (r % ((sts.map V.str).length : Int))]) = _; rw [ei]) ((same_upd ntt) _ _ ?_) ?_ ?_ ?_
    · rw [upd_same, ecut, ecut2]
      simp
    · unfold bentR
      simp only [List.map_append, List.map_take, List.map_drop, List.map_singleton, tl_bendS]
      have : (sts.map tl).getD i [] = tl one := by simp [List.getD, List.getElem?_map, hone]
      rw [this]
    · intro x hx
      rcases List.mem_append.mp hx with hx | hx
      · rcases List.mem_append.mp hx with hx | hx
        · have := hlen x (List.mem_of_mem_take hx)
          omega
        · rw [List.mem_singleton] at hx
          rw [hx, len_tl, tl_bendS]
          have := bend_len k (tl one)
          rw [len_tl] at ho
          omega
      · have := hlen x (List.mem_of_mem_drop hx)
        omega
    · simp only [List.length_append, List.length_take, List.length_drop, List.length_singleton]
      omega
end
end Kx
set_option maxRecDepth 100000
set_option maxHeartbeats 4000000
namespace L2
open PySem PySem.Spec PyProof.Rows
/-- a name whose slot is known as far as there is one -/
def tVarL (i : Nat) : TE := fun σ H Q => ∃ v, (i < σ.length → σ[i]? = some (some v)) ∧ Q v H
theorem pe_varL {X : Cx} {i : Nat} {x : Str} {pos : Pos} (hN : X.N[i]? = some x) (hv : Vis X.env.scope x) (hd : (x == ("__debug__" : Str)) = false := by decide) (hcd : (x == ("__classdict__" : Str)) = false := by decide) : PE X (.Name x pos) (tVarL i) := by
  refine ⟨fun pins s σ H Q I ⟨v, e, h⟩ => (pe_var (pos := pos) hN hv hd hcd).run pins s σ H Q I ⟨v, e ?_, h⟩⟩
  rw [I.len]
  obtain ⟨hi, _⟩ := List.getElem?_eq_some_iff.mp hN
  exact hi
end L2
namespace Kx
open PySem PySem.Spec PyProof.Rows L2 TL
abbrev sLn : Stmt := topS 39
theorem scLn : FnScope ["_law_ask", "error"] ["_law_ask"] (defScope sLn) := ⟨rfl, rfl, rfl, by decide +kernel, rfl, by decide +kernel, by decide +kernel⟩
/-- what _law_line makes of the lambda's reading -/
def TLine (C : Addr) : (XK → Hp → VK → Prop) → Hp → VK → Prop := fun tl H Q =>
  tl (fun cls d H' => cls = .ref C ∧ ∃ dd v, d = some dd ∧ H' dd = some (.xd [(("line" : Str), v)]) ∧ Q v H') H (fun _ H' => ∃ i : Int, V.int 1 = V.int i ∧ Q (.int (-i)) H')
/-- the facts of BadText for the except clause -/
structure BadC (K : PySem.W.Frag) (mg : Str → Option Value) (C : Addr) : Prop where
  gC : mg "BadText" = some (.ref C)
  xf : XfC K C
  noL : PySem.W.findIn K (.ref C) "line" = some none
  ex : PySem.W.exmOne K (.ref C) (.ref C) = some true
theorem line_gives {X : Cx} {g C : Addr} {cdg : Value} {q : Str} (Z : BadC X.K X.mg C) : LamX.GivesTo X ["_law_ask", "error"] "_law_line" (defScope sLn) g cdg (defBody sLn) "_law_ask" q (TLine C) := by
  intro f c' s H Q tl act hc h
  refine ⟨_, pss_cons (ps_try_as (X := (cxOf C8.CX0 X.prog X.w X.K X.mg X.base ["_law_ask", "error"] "_law_line" (defScope sLn) g cdg X.A X.stack s H C8.E0).nox) (i := 1) (c := .ref C)
      (tb := fun W D σ H => ∃ Ech : XK, (∀ cls d σ' H', Ech cls d H' → W cls d σ' H') ∧ σ[0]? = some (some (.ref f)) ∧ H c' = some (LamX.CodeO c' q) ∧ tl Ech H (fun _ H' => D.nx σ H'))
      (ts := fun a cls d => tRet (tXf a cls d C "line" (tVarL 1)))
      rfl rfl scLn.nd rfl rfl ⟨rfl, by decide, .inl Z.gC⟩ LamX.takes0 (fun W pn xe tk _ => ?_) (fun a oe cls d pn hz hf => pss_one (ps_ret (pe_xf Z.xf Z.noL hz hf (pe_varL (i := 1) rfl (.inl rfl)))))) (pss_one (ps_ret (pe_un un_neg pe_int))), ?_⟩
  · refine ⟨fun pins s' σ H' D I h' => ?_⟩
    obtain ⟨Ech, hW, h1, h2, h3⟩ := h'
    exact (pss_one (ps_expr (act W pn xe Ech _ _ tk hW))).run pins s' σ H' D I ⟨h1, h2, h3⟩
  · refine ⟨fun cls d H' => cls = .ref C ∧ ∃ dd v, d = some dd ∧ H' dd = some (.xd [(("line" : Str), v)]) ∧ Q v H', fun cls d σ' H' ⟨e1, dd, v, e2, e3, e4⟩ => ?_, rfl, hc, ?_⟩
    · subst e1
      subst e2
      refine ⟨true, Z.ex, fun _ a na => ⟨.ref a, fun hl => ?_, rfl, rfl, dd, _, v, rfl, e3, ?_, e4⟩, fun z => Bool.noConfusion z⟩
      · rw [List.getElem?_set_self (by simpa using hl)]
      · simp [List.lookup]
    · exact h
end Kx
set_option maxRecDepth 100000
set_option maxHeartbeats 4000000
namespace Kx
open PySem PySem.Spec PyProof.Rows L2 TL
/-! ### lengths -/
theorem tx_len {m : Nat} : ∀ {ls : List (List Nat)}, (∀ l ∈ ls, l.length ≤ m) → (tx ls).length ≤ ls.length * (m + 1)
  | [], _ => by simp [tx]
  | l :: r, h => by
    have h1 := h l (by simp)
    have ih := tx_len (m := m) (ls := r) fun x hx => h x (List.mem_cons_of_mem _ hx)
    have e : tx (l :: r) = l ++ [10] ++ tx r := by simp [tx]
    rw [e, List.length_cons, Nat.succ_mul]
    simp only [List.length_append, List.length_singleton]
    omega
theorem iL_len26 {n : Int} {it : List Int × Int} (h : Drw n it) : (iL it).length ≤ 26 := by
  obtain ⟨ns, k⟩ := it
  rw [iL_form ns k h.ne]
  have h1 := jn_len1 (ws := ns.map wd) (fun w hw => by
    obtain ⟨x, _, rfl⟩ := List.mem_map.mp hw
    rfl)
  have h2 : ns.length ≤ 8 := h.le
  simp only [List.length_append, List.length_cons, List.length_nil, List.length_map, wd_len] at h1 ⊢
  omega
theorem bentR_len {m k i : Nat} {ls : List (List Nat)} (h : ∀ l ∈ ls, l.length ≤ m) : ∀ l ∈ bentR k i ls, l.length ≤ 2 * m + 2 := by
  intro l hl
  unfold bentR at hl
  rcases List.mem_append.mp hl with hl | hl
  · rcases List.mem_append.mp hl with hl | hl
    · have := h l (List.mem_of_mem_take hl)
      omega
    · rw [List.mem_singleton] at hl
      rw [hl]
      have h1 := bend_len k (ls.getD i [])
      have h2 : (ls.getD i []).length ≤ m := by
        cases e : ls[i]? with
        | none => simp [List.getD, e]
        | some x =>
          have := h x (List.mem_of_getElem? e)
          simp [List.getD, e, this]
      omega
  · have := h l (List.mem_of_mem_drop hl)
    omega
theorem bentR_count {k i : Nat} {ls : List (List Nat)} (h : i < ls.length) : (bentR k i ls).length = ls.length := by
  unfold bentR
  simp only [List.length_append, List.length_take, List.length_drop, List.length_singleton]
  omega
theorem rows_len {n : Int} {its : List (List Int × Int)} (h : ∀ it ∈ its, Drw n it) : ∀ l ∈ fL n :: its.map iL, l.length ≤ 26 := by
  intro l hl
  rcases List.mem_cons.mp hl with e | hl
  · rw [e, fL_form]; simp [wd]
  · obtain ⟨it, hit, rfl⟩ := List.mem_map.mp hl
    exact iL_len26 (h it hit)
theorem movs_len (n : Int) (mvs : List (Int × Int)) : ∀ l ∈ fL n :: mvs.map mL, l.length ≤ 9 := by
  intro l hl
  rcases List.mem_cons.mp hl with e | hl
  · rw [e, fL_form]; simp [wd]
  · obtain ⟨p, hp, rfl⟩ := List.mem_map.mp hl
    rw [mL_form]; simp [wd]
theorem sts_len {m : Nat} {sts : List Str} {ls : List (List Nat)} (e : sts.map tl = ls) (h : ∀ l ∈ ls, l.length ≤ m) : ∀ x ∈ sts, x.length ≤ m := fun x hx => by
  rw [len_tl]
  exact h _ (by rw [← e]; exact List.mem_map_of_mem hx)
theorem sts_count {sts : List Str} {ls : List (List Nat)} (e : sts.map tl = ls) : sts.length = ls.length := by
  rw [← e, List.length_map]
theorem tl_cutL {z : Str} (h : z ≠ ⟨#[]⟩) : tl (cutS z none (some (-1))) = (tl z).dropLast := by
  unfold cutS
  rw [tl_mk, HT.sIx_none]
  have e : HT.sIx z.length z.length (some (-1)) = z.length - 1 := by
    show (if (-1 : Int) < 0 then ((-1 : Int) + (z.length : Int)).toNat else min (-1 : Int).toNat z.length) = _
    rw [if_pos (by decide)]
    omega
  rw [e, List.drop_zero, Nat.sub_zero, List.dropLast_eq_take, len_tl]
/-- a call that raises nothing -/
theorem passN {X : Cx} : Passes (L2.CX X.prog X.w) X (fun _ _ _ => False) := fun _ _ _ _ _ _ _ h => by
  obtain ⟨_, _, _, _, _, _, _, _, _, _, _, _, z⟩ := h
  exact z.elim
/-- what the text says of its names, with the law's own -/
structure Lw (P : Program) (K : PySem.W.Frag) (mg : Str → Option Value) extends Nm P K mg where
  BC : BadC K mg C
  fRL : Addr
  fdRL : FuncData
  DRL : Df K mg "read_layout" sRL ["text"] fRL fdRL
  fRM : Addr
  fdRM : FuncData
  DRM : Df K mg "read_transfers" sRM ["text"] fRM fdRM
  fCT : Addr
  fdCT : FuncData
  DCT : Df K mg "check_transfers" sCT ["servers", "transfers"] fCT fdCT
  fLT : Addr
  fdLT : FuncData
  DLT : Df K mg "layout_text" sLT ["layout"] fLT fdLT
  fTT : Addr
  fdTT : FuncData
  DTT : Df K mg "transfers_text" sTT ["servers", "transfers"] fTT fdTT
  fTx : Addr
  fdTx : FuncData
  DTx : Df K mg "_law_text" sTx ["_law_lines"] fTx fdTx
  fNr : Addr
  fdNr : FuncData
  DNr : Df K mg "_law_number" sNr ["_law_script", "_law_at"] fNr fdNr
  fIt : Addr
  fdIt : FuncData
  DIt : Df K mg "_law_items" sIt ["_law_script", "_law_at", "_law_servers", "_law_most"] fIt fdIt
  fMo : Addr
  fdMo : FuncData
  DMo : Df K mg "_law_transfers" sMo ["_law_script", "_law_at", "_law_servers", "_law_most"] fMo fdMo
  fBn : Addr
  fdBn : FuncData
  DBn : Df K mg "_law_bent" sBn ["_law_script", "_law_at", "_law_lines"] fBn fdBn
  fLn : Addr
  fdLn : FuncData
  DLn : Df K mg "_law_line" sLn ["_law_ask"] fLn fdLn
/-- _law_line(lambda: body) -/
theorem pe_line {X : Cx} (N : Lw X.prog X.K X.mg) {c Pt : Addr} {params : Arguments} {body : Expr} {scope : Scope} {t : XK → TE} {p lpos pos : Pos} (TB : LamX.TabB X.base X.mg c Pt) (hcode : X.env.code = .ref c) (hr : Room 8 X.A) (L : LamX.LamS X.env.scope scope) (hdef : defaultsOf params X.env = ([], []))
    (hbind : ∀ (q : Str) (cl : List (Str × Addr)) (pm cv ctv : Value), bindArgs (PySem.W.kla_fn "<lambda>" q params body scope cl pm cv ctv) ⟨[], []⟩ = pure [])
    (hbody : ∀ (A : Around) (outer : List Env) (s : Shared) (H : Hp) (E : XK) (f c' : Addr), Room 6 (A.deeper (LamX.lamEnv X scope s.heap.objs.size f c')) → PE (LamX.lamCx X A outer s H E scope f c') body (t E))
    (hg : Gl X "_law_line" := by rfl) : PE X (.Call (.Name "_law_line" p) [.Lambda params body scope lpos] [] pos) (LamX.tLam [(Pt, X.env.qual ++ "<lambda>")] (TLine N.C) t) := by
  obtain ⟨oc, od, kV, doc, pm, an, cdv, ct, osl, e, lk, hcg⟩ := N.DLn.F.ex
  have hb := N.DLn.b
  rw [e] at hb lk
  exact LamX.pe_lamcall (k := 6) hg N.DLn.g N.DLn.k lk hcg hb scLn rfl (.inl rfl) (line_gives N.BC) TB hcode (List.mem_singleton.mpr rfl) (fun p hp _ => by rw [List.mem_singleton] at hp; rw [hp]) hr L hdef hbind hbody
abbrev sLw : Stmt := topS 42
abbrev nLw : List Str := ["_law_script", "_law_servers", "_law_items_here", "_law_transfers_here", "_law_first", "_law_rows", "_law_moves", "_law_layout", "_law_bent_here", "_law_here", "_law_late", "_law_there", "_law_full", "_law_more", "_law_need", "_law_one", "_law_holders", "_law_sender", "_law_receiver"]
theorem scLw : FnScope nLw ["_law_script"] (defScope sLw) := ⟨rfl, rfl, rfl, by decide +kernel, rfl, by decide +kernel, by decide +kernel⟩
abbrev xLw (P : Program) (w : World) (K : PySem.W.Frag) (mg : Str → Option Value) (base : Heap) (f c : Addr) (A : Around) (outer : List Env) (s : Shared) (H : Hp) (E : XK) : Cx :=
  (cxOf CX0 P w K mg base nLw "law" (defScope sLw) f (.ref c) A outer s H E).nox
/-- what was drawn, and its lines -/
structure LC (n : Int) (its : List (List Int × Int)) (mvs : List (Int × Int)) (f0 : Str) (rs ms : List Str) : Prop where
  n2 : 2 ≤ n
  n8 : n ≤ 8
  hi : ∀ it ∈ its, Drw n it
  i1 : 1 ≤ its.length
  i8 : its.length ≤ 8
  hm : ∀ p ∈ mvs, Mvd n p
  m16 : mvs.length ≤ 16
  ef : tl f0 = fL n
  er : rs.map tl = fL n :: its.map iL
  em : ms.map tl = fL n :: mvs.map mL
/-- where it stands -/
structure LS (K : PySem.W.Frag) (H : Hp) (a : Addr) (xs : List Int) (F R M : Addr) (f0 : Str) (rs ms : List Str) : Prop where
  ha : SqL K H a (xs.map V.int)
  hF : H F = some (.lst [.str f0])
  hR : H R = some (.lst (rs.map V.str))
  hM : H M = some (.lst (ms.map V.str))
theorem LS.ext {K : PySem.W.Frag} {H H' : Hp} {a : Addr} {xs : List Int} {F R M : Addr} {f0 : Str} {rs ms : List Str} (h : LS K H a xs F R M f0 rs ms) (e : LamX.ExtN H H') : LS K H' a xs F R M f0 rs ms := by
  refine ⟨?_, e _ _ h.hF (fun ps z => by cases z), e _ _ h.hR (fun ps z => by cases z), e _ _ h.hM (fun ps z => by cases z)⟩
  rcases h.ha with (q | ⟨o, q⟩) | q
  · exact .inl (.inl (e _ _ q (fun ps z => by cases z)))
  · exact .inl (.inr ⟨o, e _ _ q (fun ps z => by cases z)⟩)
  · exact .inr q
theorem LS.same {K : PySem.W.Frag} {H H' : Hp} {a : Addr} {xs : List Int} {F R M : Addr} {f0 : Str} {rs ms : List Str} (h : LS K H a xs F R M f0 rs ms) (e : Same H H') : LS K H' a xs F R M f0 rs ms := h.ext (LamX.ExtN.of e)
end Kx
set_option maxRecDepth 100000
set_option maxHeartbeats 8000000
namespace Kx
open PySem PySem.Spec PyProof.Rows L2 TL
theorem tl_need4 : tl ("need" : Str) = NEED := tl_need
theorem tl_01 : tl ("0 > 1" : Str) = mL (0, 1) := by decide +kernel
theorem inr_inl {α β : Type} {x : α ⊕ β} {a : α} {b : β} {P : Prop} (h : x = .inl a) (g : x = .inr b) : P := by
  rw [h] at g
  cases g
theorem inl_eq {β : Type} {x : Nat ⊕ β} {a b : Nat} (h : x = .inl a) (g : x = .inl b) : b = a := by
  rw [h] at g
  exact (Sum.inl.inj g).symm
section
variable {P : Program} {w : World} {K : PySem.W.Frag} {mg : Str → Option Value} {base : Heap} {f c Pt : Addr} {A : Around} {outer : List Env} {s : Shared} {H0 : Hp} {E : XK}
/-- the law from the bent lines on -/
theorem partB (N : Lw P K mg) (TB : LamX.TabB base mg c Pt) (hr : Room 8 (xLw P w K mg base f c A outer s H0 E).A) :
    ∃ t, PSs (xLw P w K mg base f c A outer s H0 E) ((defBody sLw).drop 8) t ∧
      ∀ (Q : VK) (H : Hp) (a : Addr) (xs : List Int) (n : Int) (its : List (List Int × Int)) (mvs : List (Int × Int)) (I Tm F R M p : Addr) (f0 : Str) (rs ms : List Str) (y8 y9 y10 y11 y12 y13 y14 y15 y16 y17 y18 : Option V),
        LC n its mvs f0 rs ms → LS K H a xs F R M f0 rs ms → LamX.Tabs [(Pt, (xLw P w K mg base f c A outer s H0 E).env.qual ++ "<lambda>")] H → (∀ H', Q (.bl true) H') →
        t { nx := fun _ H' => Q .non H', rt := Q } [some (.ref a), some (.int n), some (.ref I), some (.ref Tm), some (.ref F), some (.ref R), some (.ref M), some (.ref p), y8, y9, y10, y11, y12, y13, y14, y15, y16, y17, y18] H := by
  have B := N.B
  have GRL : ∀ {w : World} {base : Heap}, FnOk P w K mg base (L2.CX P w) 6 N.fRL N.fdRL ["text"] (spRL N.C N.CL) := ok_rl N.toNm N.DRL
  have GRM : ∀ {w : World} {base : Heap}, FnOk P w K mg base (L2.CX P w) 3 N.fRM N.fdRM ["text"] (spRM N.C) := ok_rm N.toNm N.DRM
  have GTx : ∀ {w : World} {base : Heap}, FnOk P w K mg base CX0 1 N.fTx N.fdTx ["_law_lines"] (spTx K) := ok_tx N.DTx
  have GBn : FnOk P w K mg base CX0 2 N.fBn N.fdBn ["_law_script", "_law_at", "_law_lines"] (spBn K) := ok_bn N.DBn B N.DNr
  have hr1 : Room 1 (xLw P w K mg base f c A outer s H0 E).A := hr.mono (by decide)
  have hr2 : Room 2 (xLw P w K mg base f c A outer s H0 E).A := hr.mono (by decide)
  refine ⟨_,
    pss_cons (ps_asg (pe_call GBn hr2 (by rfl) N.DBn.g N.DBn.k N.DBn.b .nil pass0 <| pa_cons (pv 0) <| pa_cons pe_int <| pa_cons (pv 5) pa_nil) (pg_tup rfl <| pgs_cons (pg_name (i := 8) scLw.nd rfl (.inr rfl)) <| pgs_cons (pg_name (i := 9) scLw.nd rfl (.inl rfl)) pgs_nil)) <|
    pss_cons (ps_if (pt_cmpR op_ne (pe_line N (t := fun E => tCall (spRL N.C N.CL) [] E (tCons (tCall (spTx K) [] E0 (tCons (tVar 8) tNil)) tNil)) TB rfl hr (LamX.lamS_by (sc := defScope sLw) (by decide +kernel)) rfl (fun _ _ _ _ _ => rfl)
        (fun A outer s H E f c' hr6 => pe_call GRL hr6 (by rfl) N.DRL.g N.DRL.k N.DRL.b .nil (passes_call (takes_of rfl rfl rfl rfl) (fun _ _ _ _ h => h)) <| pa_cons (pe_call GTx (hr6.mono (by decide)) (by rfl) N.DTx.g N.DTx.k N.DTx.b .nil pass0 <| pa_cons (pv 8) pa_nil) pa_nil)) (pv 9) (nomark _)) (pss_one <| ps_ret pe_bl) pss_nil) <|
    pss_cons (ps_asg (pe_call GBn hr2 (by rfl) N.DBn.g N.DBn.k N.DBn.b .nil pass0 <| pa_cons (pv 0) <| pa_cons pe_int <| pa_cons (pv 6) pa_nil) (pg_tup rfl <| pgs_cons (pg_name (i := 10) scLw.nd rfl (.inr rfl)) <| pgs_cons (pg_name (i := 11) scLw.nd rfl (.inl rfl)) pgs_nil)) <|
    pss_cons (ps_if (pt_cmpR op_ne (pe_line N (t := fun E => tCall (spRM N.C) [] E (tCons (tCall (spTx K) [] E0 (tCons (tVar 10) tNil)) tNil)) TB rfl hr (LamX.lamS_by (sc := defScope sLw) (by decide +kernel)) rfl (fun _ _ _ _ _ => rfl)
        (fun A outer s H E f c' hr6 => pe_call GRM (hr6.mono (by decide)) (by rfl) N.DRM.g N.DRM.k N.DRM.b .nil (passes_call (takes_of rfl rfl rfl rfl) (fun _ _ _ _ h => h)) <| pa_cons (pe_call GTx (hr6.mono (by decide)) (by rfl) N.DTx.g N.DTx.k N.DTx.b .nil pass0 <| pa_cons (pv 10) pa_nil) pa_nil)) (pv 11) (nomark _)) (pss_one <| ps_ret pe_bl) pss_nil) <|
    pss_cons (ps_if (pt_cmpR op_ne (pe_line N (t := fun E => tCall (spRL N.C N.CL) [] E (tCons (tOp (fun x y H Q => ∃ i j, x = .str i ∧ y = .str j ∧ i.length + j.length ≤ sizeLine ∧ Q (.str (i ++ j)) H) (tCall (spTx K) [] E0 (tCons (tVar 5) tNil)) (tC (.str ("need" : Str)))) tNil)) TB rfl hr (LamX.lamS_by (sc := defScope sLw) (by decide +kernel)) rfl (fun _ _ _ _ _ => rfl)
        (fun A outer s H E f c' hr6 => pe_call GRL hr6 (by rfl) N.DRL.g N.DRL.k N.DRL.b .nil (passes_call (takes_of rfl rfl rfl rfl) (fun _ _ _ _ h => h)) <| pa_cons (pe_op op_add_str (pe_call GTx (hr6.mono (by decide)) (by rfl) N.DTx.g N.DTx.k N.DTx.b .nil pass0 <| pa_cons (pv 5) pa_nil) pe_str) pa_nil))
        (pe_callB call_len_seq (by rfl) B.len boot_len <| pa_cons (pv 5) pa_nil) (nomark _)) (pss_one <| ps_ret pe_bl) pss_nil) <|
    pss_cons (ps_if (pt_cmpR op_ne (pe_line N (t := fun E => tCall (spRL N.C N.CL) [] E (tCons (tOp (fun x y H Q => ∃ i j, x = .str i ∧ y = .str j ∧ i.length + j.length ≤ sizeLine ∧ Q (.str (i ++ j)) H) (tOp (rIxL K) (tVar 4) (tC (.int 0))) (tC (.str ("\n" : Str)))) tNil)) TB rfl hr (LamX.lamS_by (sc := defScope sLw) (by decide +kernel)) rfl (fun _ _ _ _ _ => rfl)
        (fun A outer s H E f c' hr6 => pe_call GRL hr6 (by rfl) N.DRL.g N.DRL.k N.DRL.b .nil (passes_call (takes_of rfl rfl rfl rfl) (fun _ _ _ _ h => h)) <| pa_cons (pe_op op_add_str (pe_ix ix_list (pv 4) pe_int fun _ _ => rfl) pe_str) pa_nil))
        pe_int (nomark _)) (pss_one <| ps_ret pe_bl) pss_nil) <|
    pss_cons (ps_if (pt_cmpR op_ne (pe_line N (t := fun E => tCall (spRM N.C) [] E (tCons (tSl rSlS (tCall (spTx K) [] E0 (tCons (tVar 6) tNil)) tNoPart (tPart (tUn (rU fun i => .int (-i)) (tC (.int 1))))) tNil)) TB rfl hr (LamX.lamS_by (sc := defScope sLw) (by decide +kernel)) rfl (fun _ _ _ _ _ => rfl)
        (fun A outer s H E f c' hr6 => pe_call GRM (hr6.mono (by decide)) (by rfl) N.DRM.g N.DRM.k N.DRM.b .nil (passes_call (takes_of rfl rfl rfl rfl) (fun _ _ _ _ h => h)) <| pa_cons (pe_slice sl_str (pe_call GTx (hr6.mono (by decide)) (by rfl) N.DTx.g N.DTx.k N.DTx.b .nil pass0 <| pa_cons (pv 6) pa_nil) po_none (po_some <| pe_un un_neg pe_int)) pa_nil))
        (pe_op op_sub (pe_callB call_len_seq (by rfl) B.len boot_len <| pa_cons (pv 6) pa_nil) pe_int) (nomark _)) (pss_one <| ps_ret pe_bl) pss_nil) <|
    pss_cons (ps_asg (pe_tup <| pa_cons (pe_call GTx hr1 (by rfl) N.DTx.g N.DTx.k N.DTx.b .nil pass0 <| pa_cons (pe_op op_cat (pv 4) <| pe_op op_rep (pe_slice sl_list (pv 5) (po_some pe_int) (po_some pe_int)) pe_int) pa_nil) <|
        pa_cons (pe_call GTx hr1 (by rfl) N.DTx.g N.DTx.k N.DTx.b .nil pass0 <| pa_cons (pe_op op_cat (pv 4) <| pe_op op_rep (pe_lst <| pa_cons pe_str pa_nil) pe_int) pa_nil) pa_nil) (pg_tup rfl <| pgs_cons (pg_name (i := 12) scLw.nd rfl (.inr rfl)) <| pgs_cons (pg_name (i := 13) scLw.nd rfl (.inr rfl)) pgs_nil)) <|
    pss_cons (ps_if (pt_cmpR op_ne (pe_line N (t := fun E => tCall (spRL N.C N.CL) [] E (tCons (tVar 12) tNil)) TB rfl hr (LamX.lamS_by (sc := defScope sLw) (by decide +kernel)) rfl (fun _ _ _ _ _ => rfl)
        (fun A outer s H E f c' hr6 => pe_call GRL hr6 (by rfl) N.DRL.g N.DRL.k N.DRL.b .nil (passes_call (takes_of rfl rfl rfl rfl) (fun _ _ _ _ h => h)) <| pa_cons (pv 12) pa_nil)) pe_int (nomark _)) (pss_one <| ps_ret pe_bl) pss_nil) <|
    pss_one <| ps_ret <| pe_cmpR op_eq (pe_line N (t := fun E => tCall (spRM N.C) [] E (tCons (tVar 13) tNil)) TB rfl hr (LamX.lamS_by (sc := defScope sLw) (by decide +kernel)) rfl (fun _ _ _ _ _ => rfl)
        (fun A outer s H E f c' hr6 => pe_call GRM (hr6.mono (by decide)) (by rfl) N.DRM.g N.DRM.k N.DRM.b .nil (passes_call (takes_of rfl rfl rfl rfl) (fun _ _ _ _ h => h)) <| pa_cons (pv 13) pa_nil)) pe_int (nomark _), ?_⟩
  intro Q H a xs n its mvs I Tm F R M p f0 rs ms y8 y9 y10 y11 y12 y13 y14 y15 y16 y17 y18 Z S T q
  have n1 : 1 ≤ n := by have := Z.n2; omega
  have n8 := Z.n8
  have hline : (1000 : Nat) < sizeLine := by decide
  have crs : rs.length = its.length + 1 := by rw [sts_count Z.er]; simp
  have cms : ms.length = mvs.length + 1 := by rw [sts_count Z.em]; simp
  have lrs := sts_len Z.er (rows_len Z.hi)
  have lms := sts_len Z.em (movs_len n mvs)
  have hi8 := Z.i8
  have hi1 := Z.i1
  have hm16 := Z.m16
  have ne_tbl : ∀ {o : HO} {xs : List V}, o = .lst xs → ∀ ps, o ≠ .tbl ps := fun e ps z => by rw [e] at z; cases z
  -- the bent rows
  refine ⟨.ref a, rfl, .ref R, rfl, a, xs, 150, R, rs, rfl, S.ha, by decide, by decide, S.hR, by omega, by omega, fun x hx => by have := lrs x hx; omega, fun H1 tt l2 sts2 k i s1 hi htt hl2 e2 hl100 hcount => ⟨tt, _, rfl, .inl (.inl htt), rfl, _, _, rfl, _, _, rfl, rfl, ?_⟩⟩
  replace S := S.same s1
  replace T := T.ext s1
  clear s1
  refine ⟨T, fun H2 x2 T2 => ?_⟩
  replace S := S.ext x2
  replace hl2 := x2 _ _ hl2 (ne_tbl rfl)
  clear x2 T
  have hRL : ∀ z : Str, tl z = tx (sts2.map tl) → readLay (tl z) = .inl i ∧ z.length ≤ 700 := fun z hz => by
    rw [e2, Z.er] at hz
    refine ⟨?_, ?_⟩
    · rw [hz]
      exact lay_bent k i n1 n8 Z.hi (by omega) (by simp; omega)
    · rw [len_tl, hz]
      have h1 := tx_len (bentR_len (k := k) (i := i) (rows_len Z.hi))
      have h2 : (bentR k i (fL n :: its.map iL)).length ≤ 9 := by
        rw [bentR_count (by simp; omega)]
        simp
        omega
      have h3 := Nat.mul_le_mul_right (2 * 26 + 2 + 1) h2
      omega
  refine ⟨.ref l2, rfl, l2, sts2, rfl, .inl (.inl hl2), hl100, by omega, fun H3 z s3 hz => ⟨z, rfl, (hRL z hz).2, fun n' its' H4 p' he _ _ => inr_inl (hRL z hz).1 he, fun k' H4 d he s4 hd => ?_⟩⟩
  obtain rfl := inl_eq (hRL z hz).1 he
  refine ⟨rfl, d, _, rfl, hd, _, rfl, rfl, _, rfl, iteNS rfl ?_⟩
  replace S := (S.same s3).same s4
  replace T := (T2.ext s3).ext s4
  clear hRL hl2 htt e2 hl100 hcount hz he hd s3 s4 T2
  -- the bent moves
  refine ⟨.ref a, rfl, .ref M, rfl, a, xs, 152, M, ms, rfl, S.ha, by decide, by decide, S.hM, by omega, by omega, fun x hx => by have := lms x hx; omega, fun H1 tt l2 sts2 k i s1 hi htt hl2 e2 hl100 hcount => ⟨tt, _, rfl, .inl (.inl htt), rfl, _, _, rfl, _, _, rfl, rfl, ?_⟩⟩
  replace S := S.same s1
  replace T := T.ext s1
  clear s1
  refine ⟨T, fun H2 x2 T2 => ?_⟩
  replace S := S.ext x2
  replace hl2 := x2 _ _ hl2 (ne_tbl rfl)
  clear x2 T
  have hRM : ∀ z : Str, tl z = tx (sts2.map tl) → readMv (tl z) = .inl i ∧ z.length ≤ 700 := fun z hz => by
    rw [e2, Z.em] at hz
    refine ⟨?_, ?_⟩
    · rw [hz]
      exact mv_bent k i n1 n8 Z.hm (by omega) (by simp; omega)
    · rw [len_tl, hz]
      have h1 := tx_len (bentR_len (k := k) (i := i) (movs_len n mvs))
      have h2 : (bentR k i (fL n :: mvs.map mL)).length ≤ 17 := by
        rw [bentR_count (by simp; omega)]
        simp
        omega
      have h3 := Nat.mul_le_mul_right (2 * 9 + 2 + 1) h2
      omega
  refine ⟨.ref l2, rfl, l2, sts2, rfl, .inl (.inl hl2), hl100, by omega, fun H3 z s3 hz => ⟨z, rfl, (hRM z hz).2, fun n' its' H4 p' L' rows' he _ _ _ _ => inr_inl (hRM z hz).1 he, fun k' H4 d he s4 hd => ?_⟩⟩
  obtain rfl := inl_eq (hRM z hz).1 he
  refine ⟨rfl, d, _, rfl, hd, _, rfl, rfl, _, rfl, iteNS rfl ?_⟩
  replace S := (S.same s3).same s4
  replace T := (T2.ext s3).ext s4
  clear hRM hl2 htt e2 hl100 hcount hz he hd s3 s4 T2
  -- signs behind the last line feed
  refine ⟨T, fun H2 x2 T2 => ?_⟩
  replace S := S.ext x2
  clear x2 T
  have hz0 : ∀ z : Str, tl z = tx (rs.map tl) → z.length ≤ 300 := fun z hz => by
    rw [Z.er] at hz
    rw [len_tl, hz]
    have h1 := tx_len (rows_len Z.hi)
    have h2 : (fL n :: its.map iL).length ≤ 9 := by simp; omega
    have h3 := Nat.mul_le_mul_right (26 + 1) h2
    omega
  have hRL : ∀ z : Str, tl z = tx (rs.map tl) → readLay (tl (z ++ ("need" : Str))) = .inl (its.length + 1) := fun z hz => by
    rw [tl_append, hz, Z.er, tl_need]
    exact lay_left n1 n8 Z.hi (by omega) (by decide) (by decide)
  have hneed : ("need" : Str).length = 4 := by decide +kernel
  refine ⟨.ref R, rfl, R, rs, rfl, .inl (.inl S.hR), fun x hx => by have := lrs x hx; omega, by omega, fun H3 z s3 hz => ⟨z, _, rfl, rfl, by have := hz0 z hz; rw [hneed]; omega, z ++ ("need" : Str), rfl, by rw [len_app, hneed]; have := hz0 z hz; omega, fun n' its' H4 p' he _ _ => inr_inl (hRL z hz) he, fun k' H4 d he s4 hd => ?_⟩⟩
  obtain rfl := inl_eq (hRL z hz) he
  replace S := (S.same s3).same s4
  replace T := (T2.ext s3).ext s4
  refine ⟨rfl, d, _, rfl, hd, .ref R, rfl, R, _, rfl, .inl (.inl (.inl S.hR)), rfl, _, rfl, iteNS (by rw [List.length_map, crs]) ?_⟩
  clear hRL hz0 hz he hd s3 s4 T2
  -- no item
  refine ⟨T, fun H2 x2 T2 => ?_⟩
  replace S := S.ext x2
  clear x2 T
  have hnl : ("\n" : Str).length = 1 := by decide +kernel
  have lf0 : f0.length ≤ 9 := by rw [len_tl, Z.ef, fL_form]; simp [wd]
  have hRL : readLay (tl (f0 ++ ("\n" : Str))) = .inl 1 := by
    rw [tl_append, tl_nl, Z.ef, show fL n ++ [10] = tx [fL n] by simp [tx]]
    exact lay_none n1 n8
  refine ⟨.ref F, rfl, F, _, 0, .str f0, rfl, rfl, .inl (.inl S.hF), atI_nat (j := 0) rfl, f0, _, rfl, rfl, by rw [hnl]; omega, f0 ++ ("\n" : Str), rfl, by rw [len_app, hnl]; omega, fun n' its' H4 p' he _ _ => inr_inl hRL he, fun k' H4 d he s4 hd => ?_⟩
  obtain rfl := inl_eq hRL he
  replace S := S.same s4
  replace T := T2.ext s4
  refine ⟨rfl, d, _, rfl, hd, rfl, _, rfl, iteNS rfl ?_⟩
  clear hRL he hd s4 T2
  -- without the last line feed
  refine ⟨T, fun H2 x2 T2 => ?_⟩
  replace S := S.ext x2
  clear x2 T
  have hz0 : ∀ z : Str, tl z = tx (ms.map tl) → z.length ≤ 300 := fun z hz => by
    rw [Z.em] at hz
    rw [len_tl, hz]
    have h1 := tx_len (movs_len n mvs)
    have h2 : (fL n :: mvs.map mL).length ≤ 17 := by simp; omega
    have h3 := Nat.mul_le_mul_right (9 + 1) h2
    omega
  have hRM : ∀ z : Str, tl z = tx (ms.map tl) → readMv (tl (cutS z none (some (-1)))) = .inl mvs.length ∧ (cutS z none (some (-1))).length ≤ 700 := fun z hz => by
    have hne : z ≠ ⟨#[]⟩ := fun e => by
      have h1 := congrArg List.length hz
      rw [e, Z.em] at h1
      simp [tx, tl] at h1
    refine ⟨?_, ?_⟩
    · rw [tl_cutL hne, hz, Z.em]
      exact mv_cut n1 n8 Z.hm (by omega)
    · rw [len_tl, tl_cutL hne, List.length_dropLast, ← len_tl]
      have := hz0 z hz
      omega
  refine ⟨.ref M, rfl, M, ms, rfl, .inl (.inl S.hM), fun x hx => by have := lms x hx; omega, by omega, fun H3 z s3 hz => ⟨1, rfl, -1, rfl, z, rfl, by have := hz0 z hz; omega, cutS z none (some (-1)), rfl, (hRM z hz).2, fun n' its' H4 p' L' rows' he _ _ _ _ => inr_inl (hRM z hz).1 he, fun k' H4 d he s4 hd => ?_⟩⟩
  obtain rfl := inl_eq (hRM z hz).1 he
  replace S := (S.same s3).same s4
  replace T := (T2.ext s3).ext s4
  refine ⟨rfl, d, _, rfl, hd, .ref M, rfl, M, _, rfl, .inl (.inl (.inl S.hM)), _, _, rfl, rfl, rfl, _, rfl, iteNS (by rw [List.length_map, cms]; congr 1; omega) ?_⟩
  clear hRM hz0 hz he hd s3 s4 T2
  -- eleven items, seventeen transfers
  obtain ⟨it0, itr, rfl⟩ : ∃ it0 itr, its = it0 :: itr := by
    cases its with
    | nil => simp at hi1
    | cons x r => exact ⟨x, r, rfl⟩
  obtain ⟨r0, r1, rr, rfl⟩ : ∃ r0 r1 rr, rs = r0 :: r1 :: rr := by
    match rs, crs with
    | r0 :: r1 :: rr, _ => exact ⟨r0, r1, rr, rfl⟩
    | [x], h => simp at h
    | [], h => simp at h
  have er1 : tl r1 = iL it0 := by
    have h := Z.er
    simp only [List.map_cons, List.cons.injEq] at h
    exact h.2.1
  have lr1 : r1.length ≤ 26 := lrs r1 (by simp)
  have hcut : cutV ((r0 :: r1 :: rr).map V.str) (some 1) (some 2) = [V.str r1] := by
    unfold cutV
    rw [show HT.sIx ((r0 :: r1 :: rr).map V.str).length 0 (some 1) = min 1 ((r0 :: r1 :: rr).map V.str).length from HT.sIx_nat _ 0 1, show HT.sIx ((r0 :: r1 :: rr).map V.str).length ((r0 :: r1 :: rr).map V.str).length (some 2) = min 2 ((r0 :: r1 :: rr).map V.str).length from HT.sIx_nat _ _ 2]
    rw [show min 1 ((r0 :: r1 :: rr).map V.str).length = 1 by simp, show min 2 ((r0 :: r1 :: rr).map V.str).length = 2 by simp]
    rfl
  refine ⟨.ref F, rfl, .ref R, rfl, 1, rfl, 2, rfl, R, _, rfl, .inl (.inl S.hR), fun p1 np1 => ?_⟩
  replace S := S.same (same_upd (o := .lst (cutV ((r0 :: r1 :: rr).map V.str) (some 1) (some 2))) np1)
  replace T := T.ext (same_upd (o := .lst (cutV ((r0 :: r1 :: rr).map V.str) (some 1) (some 2))) np1)
  refine ⟨p1, 11, _, rfl, rfl, upd_same, by decide, by decide, ?_, fun p2 np2 => ?_⟩
  · rw [hcut]
    show 11 ≤ sizeLine
    decide
  rw [hcut] at S T np2 ⊢
  replace S := S.same (same_upd (o := .lst (List.replicate (11 : Int).toNat [V.str r1]).flatten) np2)
  replace T := T.ext (same_upd (o := .lst (List.replicate (11 : Int).toNat [V.str r1]).flatten) np2)
  refine ⟨F, p2, [V.str f0], (List.replicate (11 : Int).toNat [V.str r1]).flatten, rfl, rfl, S.hF, upd_same, by show 12 ≤ sizeLine; decide, fun p3 np3 => ?_⟩
  replace S := S.same (same_upd (o := .lst ([V.str f0] ++ (List.replicate (11 : Int).toNat [V.str r1]).flatten)) np3)
  replace T := T.ext (same_upd (o := .lst ([V.str f0] ++ (List.replicate (11 : Int).toNat [V.str r1]).flatten)) np3)
  refine ⟨p3, f0 :: List.replicate 11 r1, rfl, .inl (.inl (by rw [upd_same]; rfl)), fun x hx => ?_, by simp, fun H1 zf s1 hzf => ?_⟩
  · rcases List.mem_cons.mp hx with e | hx
    · rw [e]; omega
    · rw [(List.mem_replicate.mp hx).2]; omega
  replace S := S.same s1
  replace T := T.ext s1
  have hF11 : tl zf = tx (fL n :: (List.replicate 11 it0).map iL) := by
    rw [hzf, List.map_cons, List.map_replicate, List.map_replicate, Z.ef, er1]
  refine ⟨.ref F, rfl, by show 1 ≤ sizeLine; decide, fun p4 np4 => ?_⟩
  replace S := S.same (same_upd (o := .lst [V.str ("0 > 1" : Str)]) np4)
  replace T := T.ext (same_upd (o := .lst [V.str ("0 > 1" : Str)]) np4)
  refine ⟨p4, 17, _, rfl, rfl, upd_same, by decide, by decide, by show 17 ≤ sizeLine; decide, fun p5 np5 => ?_⟩
  replace S := S.same (same_upd (o := .lst (List.replicate (17 : Int).toNat [V.str ("0 > 1" : Str)]).flatten) np5)
  replace T := T.ext (same_upd (o := .lst (List.replicate (17 : Int).toNat [V.str ("0 > 1" : Str)]).flatten) np5)
  refine ⟨F, p5, [V.str f0], (List.replicate (17 : Int).toNat [V.str ("0 > 1" : Str)]).flatten, rfl, rfl, S.hF, upd_same, by show 18 ≤ sizeLine; decide, fun p6 np6 => ?_⟩
  replace S := S.same (same_upd (o := .lst ([V.str f0] ++ (List.replicate (17 : Int).toNat [V.str ("0 > 1" : Str)]).flatten)) np6)
  replace T := T.ext (same_upd (o := .lst ([V.str f0] ++ (List.replicate (17 : Int).toNat [V.str ("0 > 1" : Str)]).flatten)) np6)
  refine ⟨p6, f0 :: List.replicate 17 ("0 > 1" : Str), rfl, .inl (.inl (by rw [upd_same]; rfl)), fun x hx => ?_, by simp, fun H2 zm s2 hzm => ?_⟩
  · rcases List.mem_cons.mp hx with e | hx
    · rw [e]; omega
    · rw [(List.mem_replicate.mp hx).2]; decide +kernel
  replace S := S.same s2
  replace T := T.ext s2
  have hM17 : tl zm = tx (fL n :: (List.replicate 17 ((0 : Int), (1 : Int))).map mL) := by
    rw [hzm, List.map_cons, List.map_replicate, List.map_replicate, Z.ef, tl_01]
  refine ⟨by show 2 ≤ sizeLine; decide, fun tt ntt => ⟨tt, _, rfl, .inl (.inl upd_same), rfl, _, _, rfl, _, _, rfl, rfl, ?_⟩⟩
  replace T := T.ext (same_upd (o := .tup [V.str zf, V.str zm]) ntt)
  have hd0 := Z.hi it0 (by simp)
  have hRL : readLay (tl zf) = .inl 11 := by
    rw [hF11]
    exact lay_full n1 n8 hd0
  have hRM : readMv (tl zm) = .inl 17 := by
    rw [hM17]
    exact mv_full Z.n2 n8
  have lzf : zf.length ≤ 700 := by
    rw [len_tl, hF11]
    have h1 := tx_len (rows_len (n := n) (its := List.replicate 11 it0) (fun it h => by rw [(List.mem_replicate.mp h).2]; exact hd0))
    have h2 : (fL n :: (List.replicate 11 it0).map iL).length = 12 := by simp
    rw [h2] at h1
    omega
  have lzm : zm.length ≤ 700 := by
    rw [len_tl, hM17]
    have h1 := tx_len (movs_len n (List.replicate 17 ((0 : Int), (1 : Int))))
    have h2 : (fL n :: (List.replicate 17 ((0 : Int), (1 : Int))).map mL).length = 18 := by simp
    rw [h2] at h1
    omega
  refine ⟨T, fun H3 x3 T3 => ?_⟩
  refine ⟨.str zf, rfl, zf, rfl, lzf, fun n' its' H4 p' he _ _ => inr_inl hRL he, fun k' H4 d he s4 hd => ?_⟩
  obtain rfl := inl_eq hRL he
  refine ⟨rfl, d, _, rfl, hd, rfl, _, rfl, iteNS rfl ?_⟩
  replace T := T3.ext s4
  refine ⟨T, fun H5 x5 T5 => ?_⟩
  refine ⟨.str zm, rfl, zm, rfl, lzm, fun n' its' H6 p' L' rows' he _ _ _ _ => inr_inl hRM he, fun k' H6 d he s6 hd => ?_⟩
  obtain rfl := inl_eq hRM he
  refine ⟨rfl, d, _, rfl, hd, rfl, ?_⟩
  show Q (.bl (decide (V.int ((17 : Nat) : Int) = V.int 17))) H6
  rw [decide_eq_true (show V.int ((17 : Nat) : Int) = V.int 17 from rfl)]
  exact q H6
end
end Kx
set_option maxRecDepth 100000
set_option maxHeartbeats 8000000
namespace L2
open PySem PySem.Spec PyProof.Rows
section
variable {X : Cx} {o e l tg : Expr} {to te tl : TE} {K : PySem.W.Frag}
/-- sep.join(..), pi_tup within a comprehension: the written part by its name -/
theorem pe_joinK {apos pos : Pos} (hK : X.K = K) (ho : PE X o to) (he : PE X e te) (hs : starEach [e] X.env = [(false, eval e X.env)] := by rfl) (hbase : attributeBase o "join" X.env (eval o X.env) = eval o X.env := by rfl) (hline : (apos.endLine == pos.line) = true := by rfl) :
    PE X (.Call (.Attribute o "join" apos) [e] [] pos) (tM1 (fun x xs H Q => ∃ a p, ∃ ys : List Str, x = .str a ∧ xs = [.ref p] ∧ (SqL K H p (ys.map V.str) ∨ SqT K H p (ys.map V.str)) ∧
      (ys.map (·.length)).sum + ys.length * a.length ≤ 16777216 ∧ Q (.str (Txt.join a ys)) H) to te) := by
  subst hK
  exact pe_join ho he hs hbase hline
theorem pi_tupK (hK : X.K = K) (hl : PE X l tl) : PI X tg l (iTup K tl) := by
  subst hK
  exact pi_tup hl
end
end L2
namespace Kx
open PySem PySem.Spec PyProof.Rows L2 TL
/-- the scope of the comprehension that an assignment adds last -/
def lcScope : Stmt → Scope
  | .Assign _ (.BinOp _ _ (.ListComp _ _ sc _) _) _ => sc
  | _ => { kind := .function, names := [], isGenerator := false, isCoroutine := false, more := [] }
/-- what stands from the draws on -/
structure SA (K : PySem.W.Frag) (Pt : Addr) (H : Hp) (a : Addr) (xs : List Int) (l : Addr) (rows : List V) (its : List (List Int × Int)) (l2 : Addr) (rows2 : List V) (ps : List (Int × Int)) : Prop where
  ha : SqL K H a (xs.map V.int)
  hT : ∀ q, LamX.Tabs [(Pt, q)] H
  hl : H l = some (.lst rows)
  hI : ItemsAt H rows its
  hl2 : H l2 = some (.lst rows2)
  hP : PairsAt H rows2 ps
theorem SA.same {K : PySem.W.Frag} {Pt : Addr} {H H' : Hp} {a : Addr} {xs : List Int} {l : Addr} {rows : List V} {its : List (List Int × Int)} {l2 : Addr} {rows2 : List V} {ps : List (Int × Int)} (x : SA K Pt H a xs l rows its l2 rows2 ps) (s : Same H H') : SA K Pt H' a xs l rows its l2 rows2 ps :=
  ⟨s.seq x.ha, fun q => (x.hT q).ext s, s _ _ x.hl, x.hI.same s, s _ _ x.hl2, x.hP.same s⟩
def rowS (it : List Int × Int) : Str := (("need " : Str) ++ Str.ofString (toString it.2)) ++ (" of " : Str) ++ Txt.join (" " : Str) (it.1.map fun x => Str.ofString (toString x))
theorem rowS_parts {n : Int} {it : List Int × Int} (h : Drw n it) (hn : n ≤ 8) : tl (("need " : Str) ++ Str.ofString (toString it.2)) = [110, 101, 101, 100, 32] ++ wd it.2 ∧ tl (("need " : Str) ++ Str.ofString (toString it.2) ++ (" of " : Str)) = [110, 101, 101, 100, 32] ++ wd it.2 ++ [32, 111, 102, 32] ∧ tl (rowS it) = iL it := by
  obtain ⟨ns, k⟩ := it
  obtain ⟨i1, i2, i3⟩ := h.itb hn
  simp only at i1 i2 i3
  have u1 : tl (("need " : Str) ++ Str.ofString (toString k)) = [110, 101, 101, 100, 32] ++ wd k := by rw [tl_append, tl_needs, tl_int i2 i3]
  have u2 : tl (("need " : Str) ++ Str.ofString (toString k) ++ (" of " : Str)) = [110, 101, 101, 100, 32] ++ wd k ++ [32, 111, 102, 32] := by rw [tl_append, u1, tl_ofs]
  refine ⟨u1, u2, ?_⟩
  show tl (("need " : Str) ++ Str.ofString (toString k) ++ (" of " : Str) ++ Txt.join (" " : Str) (ns.map fun x => Str.ofString (toString x))) = _
  rw [tl_append, u2, join_sp i1, iL_form ns k h.ne]
def movS (p : Int × Int) : Str := Str.ofString (toString p.1) ++ (" > " : Str) ++ Str.ofString (toString p.2)
theorem movS_parts {n : Int} {p : Int × Int} (h : Mvd n p) (hn : n ≤ 8) : tl (Str.ofString (toString p.1) ++ (" > " : Str)) = wd p.1 ++ [32, 62, 32] ∧ tl (movS p) = mL p := by
  obtain ⟨⟨h1, h2⟩, h3, h4⟩ := h.itb hn
  have u1 : tl (Str.ofString (toString p.1) ++ (" > " : Str)) = wd p.1 ++ [32, 62, 32] := by rw [tl_append, tl_int h1 h2, tl_gts]
  refine ⟨u1, ?_⟩
  unfold movS
  rw [tl_append, u1, tl_int h3 h4, mL_form]
def pD (p : Int × Int) : PyData := .tuple [.int p.1, .int p.2]
theorem can_ps : ∀ ps : List (Int × Int), PyData.canLayAll0 (ps.map pD) = true
  | [] => rfl
  | p :: r => by
    have h := can_ps r
    simp [PyData.canLayAll0, PyData.canLay0, pD, h]
theorem dep_ps : ∀ ps : List (Int × Int), PyData.depthAll (ps.map pD) ≤ 1
  | [] => by simp [PyData.depthAll]
  | p :: r => by
    have h := dep_ps r
    simp only [List.map_cons, PyData.depthAll, PyData.depth, pD]
    omega
def mvD (n : Int) (ps : List (Int × Int)) : PyData := .tuple [.int n, .list (ps.map pD)]
theorem mv_shaped (n : Int) (ps : List (Int × Int)) : SeqAt.shaped (mvD n ps) = true := by
  have h1 : (mvD n ps).canLay0 = true := by simp [mvD, PyData.canLay0, PyData.canLayAll0, can_ps]
  have h2 : (mvD n ps).depth ≤ 64 := by
    have := dep_ps ps
    simp only [mvD, PyData.depth, PyData.depthAll]
    omega
  unfold SeqAt.shaped
  rw [h1, decide_eq_true h2]
  rfl
theorem dp_pairs {K : PySem.W.Frag} {H : Hp} : ∀ {rows : List V} {ps : List (Int × Int)}, PairsAt H rows ps → DpAll K H rows (ps.map pD)
  | [], [], _ => .nil
  | [], _ :: _, h => by cases h.1
  | _ :: _, [], h => by cases h.1
  | v :: rows, p :: ps, h => by
    obtain ⟨a, e, q⟩ := h.2 0 v p rfl rfl
    subst e
    refine .cons (.tup (.inl (.inl q)) (.cons (.int _) (.cons (.int _) .nil))) (dp_pairs ⟨Nat.succ.inj h.1, fun i v' p' h1 h2 => h.2 (i + 1) v' p' h1 h2⟩)
abbrev scRows : Scope := lcScope ((defBody sLw).getD 3 (.Pass ⟨0, 0, 0, 0⟩))
section
variable {P : Program} {w : World} {K : PySem.W.Frag} {mg : Str → Option Value} {base : Heap} {f c Pt : Addr}
def spLw (K : PySem.W.Frag) (Pt : Addr) : Sp := fun vs H Q _ => ∃ (a : Addr) (xs : List Int), vs = [.ref a] ∧ SqL K H a (xs.map V.int) ∧ (∀ q, LamX.Tabs [(Pt, q)] H) ∧ ∀ H', Q (.bl true) H'
theorem ok_lw {oc : Value} {od an : Option Addr} {osl : Array (Option Value)} {kV doc pm ct : Value} (N : Lw P K mg) (TB : LamX.TabB base mg c Pt)
    (lk : K.lookup f = some ⟨oc, od, .func (PySem.W.fnOf "law" "law" (defArgs sLw) (defBody sLw) (defScope sLw) .none kV doc pm an (.ref c) ct), osl⟩) (hcd : PySem.W.codeIn K (.ref c) "law" = true) :
    FnOk P w K mg base CX0 9 f (PySem.W.fnOf "law" "law" (defArgs sLw) (defBody sLw) (defScope sLw) .none kV doc pm an (.ref c) ct) ["_law_script"] (spLw K Pt) := by
  have B := N.B
  have GRL : FnOk P w K mg base (L2.CX P w) 6 N.fRL N.fdRL ["text"] (spRL N.C N.CL) := ok_rl N.toNm N.DRL
  have GRM : FnOk P w K mg base (L2.CX P w) 3 N.fRM N.fdRM ["text"] (spRM N.C) := ok_rm N.toNm N.DRM
  have GTx : FnOk P w K mg base CX0 1 N.fTx N.fdTx ["_law_lines"] (spTx K) := ok_tx N.DTx
  have GNr : FnOk P w K mg base CX0 1 N.fNr N.fdNr ["_law_script", "_law_at"] (spNr K) := ok_nr N.DNr B
  have GIt : FnOk P w K mg base CX0 2 N.fIt N.fdIt ["_law_script", "_law_at", "_law_servers", "_law_most"] (spIt K) := ok_it N.DIt B N.DNr
  have GMo : FnOk P w K mg base CX0 2 N.fMo N.fdMo ["_law_script", "_law_at", "_law_servers", "_law_most"] (spMo K) := ok_mo N.DMo B N.DNr
  have GLT : FnOk P w K mg base CX0 2 N.fLT N.fdLT ["layout"] (spLT N.CL) := ok_lt N.toNm N.DLT
  have GTT : FnOk P w K mg base CX0 3 N.fTT N.fdTT ["servers", "transfers"] spTT := ok_tt N.toNm N.DTT N.DCT
  have GI : FnOk P w K mg base CX0 4 N.fI N.fdI ["self", "servers", "items"] (spInit N.CL) := ok_init N.FI B N.Z N.L N.DN N.DS N.DT
  have GE : FnOk P w K mg base CX0 1 N.fE N.fdE ["self", "other"] (spEqL N.CL) := ok_eq N.FE B N.L
  refine fn_of lk hcd scLw (fun vs H Q E h => ?_) (fun A outer s H vs Q E hr h => ?_)
  · obtain ⟨_, _, rfl, _⟩ := h
    rfl
  · obtain ⟨tB, hB, qB⟩ := partB (P := P) (w := w) (f := f) (A := A) (outer := outer) (s := s) (H0 := H) (E := E) N TB hr
    have main : ∃ t, PSs (xLw P w K mg base f c A outer s H E) (defBody sLw) t ∧ t { nx := fun _ H' => Q .non H', rt := Q } (L2.start nLw vs) H := by
      have hr1 : Room 1 (xLw P w K mg base f c A outer s H E).A := hr.mono (by decide)
      have hr2 : Room 2 (xLw P w K mg base f c A outer s H E).A := hr.mono (by decide)
      have hr3 : Room 3 (xLw P w K mg base f c A outer s H E).A := hr.mono (by decide)
      have hr5 : Room 5 (xLw P w K mg base f c A outer s H E).A := hr.mono (by decide)
      have hr6 : Room 6 (xLw P w K mg base f c A outer s H E).A := hr.mono (by decide)
      refine ⟨_, pss_cons (ps_set (i := 1) scLw.nd rfl (.inl rfl) <| pe_via <| pe_op op_add pe_int <| pe_op op_mod (pe_callTy call_int1 (by rfl) B.int boot_int <| pa_cons (pe_call GNr hr1 (by rfl) N.DNr.g N.DNr.k N.DNr.b .nil pass0 <| pa_cons (pv 0) <| pa_cons pe_int pa_nil) pa_nil) pe_int) <|
        pss_cons (ps_par (i := 2) (j := 3) (by rfl) scLw.nd rfl rfl (by decide) rfl rfl (pa_cons (pe_call GIt hr2 (by rfl) N.DIt.g N.DIt.k N.DIt.b .nil pass0 <| pa_cons (pv 0) <| pa_cons pe_int <| pa_cons (pv 1) <| pa_cons pe_int pa_nil) <|
          pa_cons (pe_call GMo hr2 (by rfl) N.DMo.g N.DMo.k N.DMo.b .nil pass0 <| pa_cons (pv 0) <| pa_cons pe_int <| pa_cons (pv 1) <| pa_cons pe_int pa_nil) pa_nil) (by rfl)) <|
        pss_cons (ps_set (i := 4) scLw.nd rfl (.inr rfl) <| pe_lst <| pa_cons (pe_op op_add_str pe_str (pe_callTy call_str_int (by rfl) B.str boot_str <| pa_cons (pv 1) pa_nil)) pa_nil) <|
        pss_cons (ps_set (i := 5) scLw.nd rfl (.inr rfl) <| pe_op op_cat (pv 4) <| pe_lc (own := [("_law_holders", 16), ("_law_need", 14)]) (g := gTup K 2 (gCons (gName 16) (gCons (gName 14) gNil))) rfl scLw.nd (pi_list (pv 2))
            (blkOk_by (own := [("_law_holders", 16), ("_law_need", 14)]) (N := nLw) (sc := defScope sLw) (by decide +kernel))
            (fun _ _ _ _ _ => pg_tup rfl (pgs_cons (pg_name (i := 16) scLw.nd rfl (Or.inl rfl)) (pgs_cons (pg_name (i := 14) scLw.nd rfl (Or.inl rfl)) pgs_nil))) (fun _ _ _ _ _ => pts_nil)
            (fun _ _ _ _ _ => pe_op op_add_str (pe_op op_add_str (pe_op op_add_str pe_str (pe_callTy call_str_int (by rfl) B.str boot_str <| pa_cons (pv 14) pa_nil)) pe_str) <| pe_joinK (K := K) rfl pe_str <|
              pe_lc (own := [("_law_one", 15)]) (g := gName 15) rfl scLw.nd (pi_tupK (K := K) rfl (pv 16)) (blkOk_by (own := [("_law_one", 15)]) (N := nLw) (sc := relS scRows (defScope sLw)) (by decide +kernel))
                (fun _ _ _ _ _ => pg_name (i := 15) scLw.nd rfl (Or.inl rfl)) (fun _ _ _ _ _ => pts_nil) (fun _ _ _ _ _ => pe_callTy call_str_int (by rfl) B.str boot_str <| pa_cons (pv 15) pa_nil))) <|
        pss_cons (ps_set (i := 6) scLw.nd rfl (.inr rfl) <| pe_op op_cat (pv 4) <| pe_lc (own := [("_law_sender", 17), ("_law_receiver", 18)]) (g := gTup K 2 (gCons (gName 17) (gCons (gName 18) gNil))) rfl scLw.nd (pi_list (pv 3))
            (blkOk_by (own := [("_law_sender", 17), ("_law_receiver", 18)]) (N := nLw) (sc := defScope sLw) (by decide +kernel))
            (fun _ _ _ _ _ => pg_tup rfl (pgs_cons (pg_name (i := 17) scLw.nd rfl (Or.inl rfl)) (pgs_cons (pg_name (i := 18) scLw.nd rfl (Or.inl rfl)) pgs_nil))) (fun _ _ _ _ _ => pts_nil)
            (fun _ _ _ _ _ => pe_op op_add_str (pe_op op_add_str (pe_callTy call_str_int (by rfl) B.str boot_str <| pa_cons (pv 17) pa_nil) pe_str) (pe_callTy call_str_int (by rfl) B.str boot_str <| pa_cons (pv 18) pa_nil))) <|
        pss_cons (ps_set (i := 7) scLw.nd rfl (.inl rfl) <| pe_make N.L.mkL GI hr5 (by rfl) N.L.g N.bI .nil pass0 <| pa_cons (pv 1) <| pa_cons (pv 2) pa_nil) <|
        pss_cons (ps_if (PW.pt <| pw_or (pt_cmpR op_ne (pe_call GLT hr2 (by rfl) N.DLT.g N.DLT.k N.DLT.b .nil pass0 <| pa_cons (pv 7) pa_nil) (pe_call GTx hr1 (by rfl) N.DTx.g N.DTx.k N.DTx.b .nil pass0 <| pa_cons (pv 5) pa_nil) (nomark _)) <|
            pw_or1 <| pt_cmpR op_ne (pe_call GTT hr3 (by rfl) N.DTT.g N.DTT.k N.DTT.b .nil pass0 <| pa_cons (pv 1) <| pa_cons (pe_callTy call_tuple_of (by rfl) B.tup boot_tuple <| pa_cons (pv 3) pa_nil) pa_nil) (pe_call GTx hr1 (by rfl) N.DTx.g N.DTx.k N.DTx.b .nil pass0 <| pa_cons (pv 6) pa_nil) (nomark _))
          (pss_one <| ps_ret pe_bl) pss_nil) <|
        pss_cons (ps_if (PW.pt <| pw_or (pt_cmpR (op_neI GE hr2 N.L.ne N.L.eq N.L.fe N.L.ob N.bE pass0) (pe_call GRL hr6 (by rfl) N.DRL.g N.DRL.k N.DRL.b .nil passN <| pa_cons (pe_call GTx hr1 (by rfl) N.DTx.g N.DTx.k N.DTx.b .nil pass0 <| pa_cons (pv 5) pa_nil) pa_nil) (pv 7) (nomark _)) <|
            pw_or1 <| pt_cmpR (op_neD hr.units) (pe_call GRM hr3 (by rfl) N.DRM.g N.DRM.k N.DRM.b .nil passN <| pa_cons (pe_call GTx hr1 (by rfl) N.DTx.g N.DTx.k N.DTx.b .nil pass0 <| pa_cons (pv 6) pa_nil) pa_nil) (pe_tup <| pa_cons (pv 1) <| pa_cons (pv 3) pa_nil) (nomark _))
          (pss_one <| ps_ret pe_bl) pss_nil) hB, ?_⟩
      obtain ⟨a, xs, rfl, ha, hT, q⟩ := h
      -- the number of servers
      refine ⟨fun v H1 => ∃ n : Int, v = .int n ∧ 2 ≤ n ∧ n ≤ 8 ∧ Same H H1, fun Q' hQ' => ?_, ?_⟩
      · refine ⟨.ref a, rfl, a, xs, 0, rfl, ha, by decide, by decide, fun H1 r s1 r0 r1 => .inl ⟨r, rfl, _, _, rfl, rfl, by show (0 : Int) < 7; decide, _, _, rfl, rfl, hQ' _ _ ⟨2 + r % 7, rfl, ?_, ?_, s1⟩⟩⟩
        · have : 0 ≤ r % 7 := Int.emod_nonneg _ (by decide)
          omega
        · have : r % 7 < 7 := Int.emod_lt_of_pos _ (by decide)
          omega
      rintro v H1 ⟨n, rfl, n2, n8, s1⟩
      have n1 : 1 ≤ n := by omega
      have ha1 : SqL K H1 a (xs.map V.int) := s1.seq ha
      -- the draws
      refine ⟨.ref a, rfl, .int n, rfl, a, xs, 1, n, 8, rfl, ha1, by decide, by decide, n1, n8, by decide, by decide, fun H2 l rows its s2 hl hI hd c1 c8 => ?_⟩
      refine ⟨.ref a, rfl, .int n, rfl, a, xs, 101, n, 16, rfl, s2.seq ha1, by decide, by decide, n2, n8, by decide, by decide, fun H3 l2 rows2 ps s3 hl2 hP hm c16 => ⟨_, _, rfl, ?_⟩⟩
      have S : SA K Pt H3 a xs l rows its l2 rows2 ps := ⟨s3.seq (s2.seq ha1), fun q => (((hT q).ext s1).ext s2).ext s3, s3 _ _ hl, hI.same s3, hl2, hP⟩
      clear hl hI hl2 hP s2 s3 s1 ha1
      have cr : rows.length = its.length := S.hI.1
      have cr2 : rows2.length = ps.length := S.hP.1
      -- the first line
      have tf0 : tl (("servers " : Str) ++ Str.ofString (toString n)) = fL n := by rw [tl_append, tl_servs, tl_int (by omega) (by omega), fL_form]
      refine ⟨.int n, rfl, n, rfl, log_int (by omega) (by omega), ("servers " : Str), Str.ofString (toString n), rfl, rfl, by rw [← len_app]; exact fit tf0 (by simp [fL_form, wd]), by show 1 ≤ sizeLine; decide, fun F nF => ?_⟩
      replace S := S.same (same_upd (o := .lst [.str (("servers " : Str) ++ Str.ofString (toString n))]) nF)
      have hF : upd H3 F (.lst [.str (("servers " : Str) ++ Str.ofString (toString n))]) F = some (.lst [.str (("servers " : Str) ++ Str.ofString (toString n))]) := upd_same
      generalize upd H3 F (.lst [.str (("servers " : Str) ++ Str.ofString (toString n))]) = H4 at S hF
      -- the rows
      refine ⟨.ref F, rfl, .ref l, rfl, l, rfl, ⟨_, .inl (.inl S.hl)⟩, fun D nD => ?_⟩
      refine lc_map (walk_list (xs := rows)) nD ((its.map rowS).map V.str) (by simp [cr]) (by omega) (fun H' s => .inl (.inl (s _ _ S.hl))) (fun j v x H5 H6 Q' hv s5 y q' => ?_) (fun H5 s5 e5 => ?_)
      · obtain ⟨e, hx⟩ := y
        subst e
        obtain ⟨it, hit⟩ : ∃ it, its[j]? = some it := by
          obtain ⟨hj, _⟩ := List.getElem?_eq_some_iff.mp hx
          exact ⟨its[j]'(by omega), List.getElem?_eq_getElem (by omega)⟩
        obtain ⟨b, rfl, hb⟩ := S.hI.2 j x it hx hit
        have ev : v = V.str (rowS it) := by
          rw [List.map_map, List.getElem?_map, hit] at hv
          exact (Option.some.inj hv).symm
        subst ev
        have hdr := hd it (List.mem_of_getElem? hit)
        obtain ⟨i1, i2, i3⟩ := hdr.itb n8
        have hns : it.1.length ≤ 8 := hdr.le
        obtain ⟨u1, u2, u3⟩ := rowS_parts hdr n8
        obtain ⟨h, hb1, hb2⟩ := hb.same s5
        have u4 := jn_len1 (ws := it.1.map wd) (fun w hw => by
          obtain ⟨x, _, rfl⟩ := List.mem_map.mp hw
          rfl)
        refine ⟨b, _, rfl, .inl (.inl hb1), rfl, _, _, rfl, _, _, rfl, rfl, rfl, .int it.2, rfl, it.2, rfl, log_int i2 i3, ("need " : Str), Str.ofString (toString it.2), rfl, rfl, by rw [← len_app]; exact fit u1 (by simp [wd]), _, (" of " : Str), rfl, rfl, by rw [← len_app]; exact fit u2 (by simp [wd]),
          ⟨_, rfl⟩, .ref h, rfl, h, rfl, ⟨_, .inl (.inl hb2)⟩, fun d nd => ?_⟩
        refine lc_map (walk_tup (xs := it.1.map V.int)) nd ((it.1.map fun x => Str.ofString (toString x)).map V.str) (by simp) (by rw [List.length_map]; omega) (fun H' s => .inl (.inl (s _ _ hb2))) (fun j2 v x H7 H8 Q2 hv2 s7 y2 q2 => ?_) (fun H7 s7 e7 => ?_)
        · obtain ⟨e, hx2⟩ := y2
          subst e
          obtain ⟨z, hz, ez⟩ := map_get hx2
          subst ez
          have ev : v = V.str (Str.ofString (toString z)) := by
            rw [List.map_map, List.getElem?_map, hz] at hv2
            exact (Option.some.inj hv2).symm
          subst ev
          have hz1 := i1 z (List.mem_of_getElem? hz)
          exact ⟨rfl, _, rfl, z, rfl, log_int hz1.1 hz1.2, q2 _ (Same.refl _)⟩
        · refine ⟨(" " : Str), d, _, rfl, rfl, .inl (.inl (.inl e7)), join_fit i1 hns, _, _, rfl, rfl, ?_, q' _ s7⟩
          rw [← len_app]
          exact fit u3 (by have := iL_len hdr; omega)
      replace S := S.same s5
      replace hF := s5 _ _ hF
      refine ⟨F, D, _, _, rfl, rfl, hF, e5, by simp; exact fit' (by omega), fun R nR => ?_⟩
      replace S := S.same (same_upd (o := .lst ([.str (("servers " : Str) ++ Str.ofString (toString n))] ++ (its.map rowS).map V.str)) nR)
      replace hF := (same_upd (o := .lst ([.str (("servers " : Str) ++ Str.ofString (toString n))] ++ (its.map rowS).map V.str)) nR) _ _ hF
      have hR : upd H5 R (.lst ([.str (("servers " : Str) ++ Str.ofString (toString n))] ++ (its.map rowS).map V.str)) R = some (.lst (((("servers " : Str) ++ Str.ofString (toString n)) :: its.map rowS).map V.str)) := upd_same
      generalize upd H5 R (.lst ([.str (("servers " : Str) ++ Str.ofString (toString n))] ++ (its.map rowS).map V.str)) = H6 at S hF hR
      clear e5 s5 nR nD
      -- the moves
      refine ⟨.ref F, rfl, .ref l2, rfl, l2, rfl, ⟨_, .inl (.inl S.hl2)⟩, fun D nD => ?_⟩
      refine lc_map (walk_list (xs := rows2)) nD ((ps.map movS).map V.str) (by simp [cr2]) (by omega) (fun H' s => .inl (.inl (s _ _ S.hl2))) (fun j v x H7 H8 Q' hv s7 y q' => ?_) (fun H7 s7 e7 => ?_)
      · obtain ⟨e, hx⟩ := y
        subst e
        obtain ⟨p, hp⟩ : ∃ p, ps[j]? = some p := by
          obtain ⟨hj, _⟩ := List.getElem?_eq_some_iff.mp hx
          exact ⟨ps[j]'(by omega), List.getElem?_eq_getElem (by omega)⟩
        obtain ⟨b, rfl, hb⟩ := S.hP.2 j x p hx hp
        have ev : v = V.str (movS p) := by
          rw [List.map_map, List.getElem?_map, hp] at hv
          exact (Option.some.inj hv).symm
        subst ev
        have hmv := hm p (List.mem_of_getElem? hp)
        obtain ⟨⟨i1, i2⟩, i3, i4⟩ := hmv.itb n8
        obtain ⟨u1, u2⟩ := movS_parts hmv n8
        have hb7 := s7 _ _ hb
        exact ⟨b, _, rfl, .inl (.inl hb7), rfl, _, _, rfl, _, _, rfl, rfl, rfl, .int p.1, rfl, p.1, rfl, log_int i1 i2, Str.ofString (toString p.1), (" > " : Str), rfl, rfl, by rw [← len_app]; exact fit u1 (by simp [wd]), .int p.2, rfl, p.2, rfl, log_int i3 i4, _, Str.ofString (toString p.2), rfl, rfl, by rw [← len_app]; exact fit u2 (by simp [mL_form, wd]), q' _ (Same.refl _)⟩
      replace S := S.same s7
      replace hF := s7 _ _ hF
      replace hR := s7 _ _ hR
      refine ⟨F, D, _, _, rfl, rfl, hF, e7, by simp; exact fit' (by omega), fun M nM => ?_⟩
      have sM := same_upd (o := .lst ([.str (("servers " : Str) ++ Str.ofString (toString n))] ++ (ps.map movS).map V.str)) nM
      replace S := S.same sM
      replace hF := sM _ _ hF
      replace hR := sM _ _ hR
      have hM : upd H7 M (.lst ([.str (("servers " : Str) ++ Str.ofString (toString n))] ++ (ps.map movS).map V.str)) M = some (.lst (((("servers " : Str) ++ Str.ofString (toString n)) :: ps.map movS).map V.str)) := upd_same
      clear sM
      generalize upd H7 M (.lst ([.str (("servers " : Str) ++ Str.ofString (toString n))] ++ (ps.map movS).map V.str)) = H8 at S hF hR hM
      clear e7 s7 nM nD
      have er : ((("servers " : Str) ++ Str.ofString (toString n)) :: its.map rowS).map tl = fL n :: its.map iL := by
        rw [List.map_cons, tf0, List.map_map]
        congr 1
        apply List.map_congr_left
        intro it hit
        exact (rowS_parts (hd it hit) n8).2.2
      have em : ((("servers " : Str) ++ Str.ofString (toString n)) :: ps.map movS).map tl = fL n :: ps.map mL := by
        rw [List.map_cons, tf0, List.map_map]
        congr 1
        apply List.map_congr_left
        intro p hp
        exact (movS_parts (hm p hp) n8).2
      have Z : LC n its ps (("servers " : Str) ++ Str.ofString (toString n)) ((("servers " : Str) ++ Str.ofString (toString n)) :: its.map rowS) ((("servers " : Str) ++ Str.ofString (toString n)) :: ps.map movS) := ⟨n2, n8, hd, c1, c8, hm, c16, tf0, er, em⟩
      have lrs := sts_len er (rows_len hd)
      have lms := sts_len em (movs_len n ps)
      have crs := sts_count er
      have cms := sts_count em
      simp only [List.length_cons, List.length_map] at crs cms
      have tr1 : (tx (fL n :: its.map iL)).length ≤ 300 := by
        have h1 := tx_len (rows_len hd)
        have h2 : (fL n :: its.map iL).length ≤ 9 := by simp; omega
        have h3 := Nat.mul_le_mul_right (26 + 1) h2
        omega
      have tm1 : (tx (fL n :: ps.map mL)).length ≤ 300 := by
        have h1 := tx_len (movs_len n ps)
        have h2 : (fL n :: ps.map mL).length ≤ 17 := by simp; omega
        have h3 := Nat.mul_le_mul_right (9 + 1) h2
        omega
      generalize hrs : (("servers " : Str) ++ Str.ofString (toString n)) :: its.map rowS = rs at Z er lrs hR
      generalize hms : (("servers " : Str) ++ Str.ofString (toString n)) :: ps.map movS = ms at Z em lms hM
      have rs40 : rs.length ≤ 40 := by rw [sts_count er]; simp; omega
      have ms40 : ms.length ≤ 40 := by rw [sts_count em]; simp; omega
      -- the layout
      refine ⟨.int n, rfl, .ref l, rfl, fun x dx nx ndx hdx => ?_⟩
      have sx := same_new (o := .ins N.CL dx []) (same_upd (o := .own x) ndx) (by rw [upd_ne (Ne.symm hdx)]; exact nx)
      refine ⟨x, dx, l, n, rows, its, rfl, upd_same, sx _ _ S.hl, S.hI.same sx, fun it hit => ⟨(hd it hit).ne, by have := (hd it hit).le; omega, (hd it hit).ok⟩, n1, n8, c1, by omega, fun H9 k9 hlay => ⟨rfl, ?_⟩⟩
      have s9 : Same H8 H9 := fun b o e => k9 b o (ne_of_none e nx) (sx _ _ e)
      replace S := S.same s9
      replace hF := s9 _ _ hF
      replace hR := s9 _ _ hR
      replace hM := s9 _ _ hM
      clear s9 k9 sx nx ndx
      -- the layout's text
      refine ⟨.ref x, rfl, x, n, its, rfl, hlay, n1, n8, hd, by omega, fun H10 z1 s10 hz1 => ⟨.ref R, rfl, R, rs, rfl, .inl (.inl (s10 _ _ hR)), fun x hx => by have := lrs x hx; omega, rs40, fun H11 z2 s11 hz2 => ⟨rfl, _, rfl, iteNS (by rw [ext_tl (hz1.trans ((congrArg tx er).symm.trans hz2.symm))]) ?_⟩⟩⟩
      have s12 := s10.trans s11
      replace S := S.same s12
      replace hF := s12 _ _ hF
      replace hR := s12 _ _ hR
      replace hM := s12 _ _ hM
      replace hlay := hlay.same s12
      clear s12 s10 s11 hz1 hz2
      -- the transfers' text
      refine ⟨.int n, rfl, .ref l2, rfl, l2, rows2, rfl, .inl ⟨.inl (.inl S.hl2), fun tt ntt => ?_⟩⟩
      have st := same_upd (o := .tup rows2) ntt
      refine ⟨n, tt, rows2, ps, rfl, upd_same, S.hP.same st, hm, c16, n1, n8, fun H12 z3 s12 hz3 => ⟨.ref M, rfl, M, ms, rfl, .inl (.inl (s12 _ _ (st _ _ hM))), fun x hx => by have := lms x hx; omega, ms40, fun H13 z4 s13 hz4 => ⟨rfl, _, rfl, iteNS (by rw [ext_tl (hz3.trans ((congrArg tx em).symm.trans hz4.symm))]) ?_⟩⟩⟩
      have s14 := (st.trans s12).trans s13
      replace S := S.same s14
      replace hF := s14 _ _ hF
      replace hR := s14 _ _ hR
      replace hM := s14 _ _ hM
      replace hlay := hlay.same s14
      clear s14 s12 s13 st hz3 hz4
      -- the layout read back
      have hRL : ∀ z : Str, tl z = tx (rs.map tl) → readLay (tl z) = .inr (n, its) ∧ z.length ≤ 700 := fun z hz => by
        rw [er] at hz
        refine ⟨?_, by rw [len_tl, hz]; omega⟩
        rw [hz]
        exact lay_back n1 n8 hd (by intro e; rw [e] at c1; simp at c1) (by omega)
      refine ⟨.ref R, rfl, R, rs, rfl, .inl (.inl hR), fun x hx => by have := lrs x hx; omega, rs40, fun H14 z5 s14 hz5 => ⟨z5, rfl, (hRL z5 hz5).2, fun n' its' H15 p' he s15 hlay' => ?_, fun k' H15 d he _ _ => inr_inl he (hRL z5 hz5).1⟩⟩
      have e2 : (n', its') = (n, its) := by
        rw [(hRL z5 hz5).1] at he
        exact (Sum.inr.inj he).symm
      cases e2
      have s16 := s14.trans s15
      replace S := S.same s16
      replace hF := s16 _ _ hF
      replace hR := s16 _ _ hR
      replace hM := s16 _ _ hM
      replace hlay := hlay.same s16
      obtain ⟨dx1, t1, fs1, rw1, q1, _⟩ := id hlay'
      obtain ⟨dx2, t2, fs2, rw2, q2, _⟩ := id hlay
      refine ⟨.ref x, rfl, p', x, dx1, fs1, dx2, fs2, rfl, rfl, q1, q2, p', x, n, its, rfl, hlay', hlay, fun H16 s17 => ⟨true, rfl, _, rfl, iteF ?_⟩⟩
      replace S := S.same s17
      replace hF := s17 _ _ hF
      replace hR := s17 _ _ hR
      replace hM := s17 _ _ hM
      clear q1 q2 hlay hlay' s16 s14 s15 s17 he hRL hz5
      -- the transfers read back
      have hRM : ∀ z : Str, tl z = tx (ms.map tl) → readMv (tl z) = .inr (n, ps) ∧ z.length ≤ 700 := fun z hz => by
        rw [em] at hz
        refine ⟨?_, by rw [len_tl, hz]; omega⟩
        rw [hz]
        exact mv_back n1 n8 hm c16
      refine ⟨.ref M, rfl, M, ms, rfl, .inl (.inl hM), fun x hx => by have := lms x hx; omega, ms40, fun H17 z6 s18 hz6 => ⟨z6, rfl, (hRM z6 hz6).2, fun n' ps' H18 p' L' rows' he s19 hp' hL' hP' => ?_, fun k' H18 d he _ _ => inr_inl he (hRM z6 hz6).1⟩⟩
      have e3 : (n', ps') = (n, ps) := by
        rw [(hRM z6 hz6).1] at he
        exact (Sum.inr.inj he).symm
      cases e3
      have s20 := s18.trans s19
      refine ⟨.int n, rfl, .ref l2, rfl, by show 2 ≤ sizeLine; decide, fun tt ntt => ?_⟩
      have s21 := same_new (o := .tup [.int n, .ref l2]) s20 ntt
      have s22 := same_upd (o := .tup [.int n, .ref l2]) ntt
      replace S := S.same s21
      replace hF := s21 _ _ hF
      replace hR := s21 _ _ hR
      replace hM := s21 _ _ hM
      refine ⟨mvD n ps, mvD n ps, .tup (.inl (.inl (s22 _ _ hp'))) (.cons (.int n) (.cons (.lst (.inl (.inl (s22 _ _ hL'))) (dp_pairs (hP'.same s22))) .nil)), .tup (.inl (.inl upd_same)) (.cons (.int n) (.cons (.lst (.inl (.inl S.hl2)) (dp_pairs S.hP)) .nil)), mv_shaped _ _, mv_shaped _ _, _, rfl, ?_⟩
      rw [eqv_self (mv_shaped n ps)]
      refine iteF ?_
      exact qB Q _ a xs n its ps l l2 F R M x _ rs ms _ _ _ _ _ _ _ _ _ _ _ Z ⟨S.ha, hF, hR, hM⟩ (S.hT _) q
    obtain ⟨t, h1, h2⟩ := main
    exact ⟨t, PSs.nox h1, h2⟩
end
end Kx
set_option maxRecDepth 100000
set_option maxHeartbeats 8000000
namespace Kx
open PySem PySem.Spec PyProof.Rows L2
theorem kit_self {K : PySem.W.Frag} {t : Value} : PySem.W.kitOne K t t = some true := by
  unfold PySem.W.kitOne
  rw [if_pos (beq_self_eq_true t)]
theorem exm_self {K : PySem.W.Frag} {S : Addr} (h1 : PySem.W.subIn K (.ref S) (.type "BaseException") = some true) (h2 : PySem.W.kitCls K (.ref S) (.ref S) = some true) : PySem.W.exmOne K (.ref S) (.ref S) = some true := by
  unfold PySem.W.exmOne
  rw [if_pos (by rw [h1]; rfl)]
  exact h2
/-- a def as the head has left it -/
structure At (K : PySem.W.Frag) (x : Str) (st : Stmt) (f : Addr) (fd : FuncData) : Prop where
  a : PySem.W.nsIn K mainGlobals x = some (some (.ref f))
  F : Fun K x x st f fd
theorem at_mk {K : PySem.W.Frag} {x : Str} {st : Stmt} {f : Addr} {od an : Option Addr} {sl : Array (Option Value)} {oc kV dc pm cd ct : Value} (a : PySem.W.nsIn K mainGlobals x = some (some (.ref f)))
    (l : K.lookup f = some ⟨oc, od, .func (PySem.W.fnOf x x (defArgs st) (defBody st) (defScope st) .none kV dc pm an cd ct), sl⟩) (c : PySem.W.codeIn K cd x = true) (k : PySem.W.keepIn K (.ref f) = true) :
    At K x st f (PySem.W.fnOf x x (defArgs st) (defBody st) (defScope st) .none kV dc pm an cd ct) := ⟨a, fun_mk l c k⟩
theorem At.df {K : PySem.W.Frag} {h : Heap} {mg : Str → Option Value} {x : Str} {st : Stmt} {ps : List Str} {f : Addr} {fd : FuncData} (A : At K x st f fd) (X : K.In h) (G : h.Ns mainGlobals mg)
    (hb : ∀ (kV doc pm : Value) (an : Option Addr) (cdv ct : Value) (us : List Value), us.length = ps.length → bindArgs (PySem.W.fnOf x x (defArgs st) (defBody st) (defScope st) .none kV doc pm an cdv ct) ⟨us, []⟩ = pure (ps.zip us)) : Df K mg x st ps f fd :=
  ⟨A.F, PySem.W.mg_of X G A.a, A.F.binds hb⟩
/-- the head's facts: the defs -/
structure Hds (K : PySem.W.Frag) where
  fN : Addr
  fdN : FuncData
  AN : At K "is_number" sNum fN fdN
  fS : Addr
  fdS : FuncData
  AS : At K "is_set" sSet fS fdS
  fT : Addr
  fdT : FuncData
  AT : At K "is_item" sItem fT fdT
  fK : Addr
  fdK : FuncData
  AK : At K "check_layout" sChk fK fdK
  fG : Addr
  fdG : FuncData
  AG : At K "digit_in" sDig fG fdG
  fII : Addr
  fdII : FuncData
  AII : At K "item_in" sII fII fdII
  fPI : Addr
  fdPI : FuncData
  API : At K "pair_in" sPI fPI fdPI
  fLO : Addr
  fdLO : FuncData
  ALO : At K "lines_of" sLO fLO fdLO
  fSI : Addr
  fdSI : FuncData
  ASI : At K "servers_in" sSI fSI fdSI
  fRL : Addr
  fdRL : FuncData
  ARL : At K "read_layout" sRL fRL fdRL
  fRM : Addr
  fdRM : FuncData
  ARM : At K "read_transfers" sRM fRM fdRM
  fCT : Addr
  fdCT : FuncData
  ACT : At K "check_transfers" sCT fCT fdCT
  fLT : Addr
  fdLT : FuncData
  ALT : At K "layout_text" sLT fLT fdLT
  fTT : Addr
  fdTT : FuncData
  ATT : At K "transfers_text" sTT fTT fdTT
  fTx : Addr
  fdTx : FuncData
  ATx : At K "_law_text" sTx fTx fdTx
  fNr : Addr
  fdNr : FuncData
  ANr : At K "_law_number" sNr fNr fdNr
  fIt : Addr
  fdIt : FuncData
  AIt : At K "_law_items" sIt fIt fdIt
  fMo : Addr
  fdMo : FuncData
  AMo : At K "_law_transfers" sMo fMo fdMo
  fBn : Addr
  fdBn : FuncData
  ABn : At K "_law_bent" sBn fBn fdBn
  fLn : Addr
  fdLn : FuncData
  ALn : At K "_law_line" sLn fLn fdLn
/-- the head's facts: free names, numbers, the two classes -/
structure Hcl (P : Program) (K : PySem.W.Frag) where
  z0 : PySem.W.nsIn K mainGlobals "isinstance" = some none
  z1 : PySem.W.nsIn K mainGlobals "int" = some none
  z2 : PySem.W.nsIn K mainGlobals "bool" = some none
  z3 : PySem.W.nsIn K mainGlobals "tuple" = some none
  z4 : PySem.W.nsIn K mainGlobals "list" = some none
  z5 : PySem.W.nsIn K mainGlobals "str" = some none
  z6 : PySem.W.nsIn K mainGlobals "all" = some none
  z7 : PySem.W.nsIn K mainGlobals "zip" = some none
  z8 : PySem.W.nsIn K mainGlobals "len" = some none
  z9 : PySem.W.nsIn K mainGlobals "enumerate" = some none
  z10 : PySem.W.nsIn K mainGlobals "range" = some none
  z11 : PySem.W.nsIn K mainGlobals "max" = some none
  z12 : PySem.W.nsIn K mainGlobals "super" = some none
  t8 : Tok
  n8 : PySem.W.nsIn K mainGlobals "MOST_SERVERS" = some (some (.int 8 t8))
  t10 : Tok
  n10 : PySem.W.nsIn K mainGlobals "MOST_ITEMS" = some (some (.int 10 t10))
  t16 : Tok
  n16 : PySem.W.nsIn K mainGlobals "MOST_TRANSFERS" = some (some (.int 16 t16))
  CL : Addr
  fI : Addr
  fE : Addr
  fdI : FuncData
  fdE : FuncData
  gL : PySem.W.nsIn K mainGlobals "Layout" = some (some (.ref CL))
  cl : Cls K CL
  nS : NoAttr K CL "servers"
  nE : NoAttr K CL "entries"
  mkL : Mk K CL fI
  cA : PySem.W.findIn K (.ref CL) "__class__" = some (some (.builtin "object.__class__"))
  cN : PySem.W.specialIn K (.builtin "object.__class__") "__get__" = some (some (.builtin "getset_descriptor.__get__"))
  cT : PySem.W.takesIn K (.builtin "object.__class__") = some true
  cM : PySem.W.mroIn K CL (.type "object") = some true
  ne : PySem.W.findIn K (.ref CL) "__ne__" = some (some (.builtin "object.__ne__"))
  eq : PySem.W.findIn K (.ref CL) "__eq__" = some (some (.ref fE))
  fe : PySem.W.isFn K (.ref fE) = true
  ob : PySem.W.subIn K (.ref CL) (.type "object") = some true
  FI : Fun K "__init__" "Layout.__init__" sInit fI fdI
  FE : Fun K "__eq__" "Layout.__eq__" sEq fE fdE
  C : Addr
  fB : Addr
  gC : PySem.W.nsIn K mainGlobals "BadText" = some (some (.ref C))
  cls : ∃ nm q N bs bm sn sub ab col dd k0 k1 k2 k3 k5, K.lookup C = some (excClassObj nm q C N bs bm true sn sub ab col dd k0 k1 k2 k3 k5 "ValueError.__new__") ∧ PySem.HandSPX.refsVE bm = true
  xi : PySem.W.excInitIn K C [.type "ValueError", .type "Exception", .type "BaseException", .type "object"] "ValueError.__new__" = true
  sa : PySem.W.findIn K (.ref C) "__setattr__" = some (some (.builtin "object.__setattr__"))
  noL : PySem.W.findIn K (.ref C) "line" = some none
  iC : PySem.W.findIn K (.ref C) "__init__" = some (some (.ref fB))
  tC : PySem.W.typeIn K (.ref fB) = some (.type "function")
  kC : PySem.W.keepIn K (.ref C) = true
  exC : PySem.W.subIn K (.ref C) (.type "BaseException") = some true
  veC : PySem.W.subIn K (.ref C) (.type "ValueError") = some true
  tyC : PySem.W.typeIn K (.ref C) = some (.type "type")
  seC : PySem.W.mroIn K C (.ref C) = some true
  sup : PySem.W.ks_superIn K C C "__init__" = some (some (.builtin "ValueError.__init__"))
  opq : PySem.W.nsIn K cStatics "thirdparty.any" = some none
  ga : PySem.W.findIn K (.ref C) "__getattribute__" = some (some (.builtin "BaseException.__getattribute__"))
  gg : PySem.W.findIn K (.ref C) "__getattr__" = some none
  hdC : PySem.W.hasDictIn K C = true
  kit : PySem.W.kitCls K (.ref C) (.ref C) = some true
  file : ∃ (s : Str), ((P.main.file : Str) == s) = true ∧ (P.main.scope.names.lookup ("super" : Str)).isSome = false ∧
    ∃ (oc : Value) (od : Option Addr) (doc pm : Value) (an : Option Addr) (cda : Addr) (ct : Value) (osl : Array (Option Value)) (cc : Addr) (cl : Value) (cld : Option Addr) (csl : Array (Option Value)) (ccl : Value) (cdd : Option Addr) (vs : Array Value) (ccs : Array (Option Value)) (tf : Tok),
      K.lookup fB = some ⟨oc, od, .func (PySem.W.ksFn "__init__" "BadText.__init__" BtX.iA [BtX.sUp, BtX.sSt] BtX.iS .none .none doc pm an (.ref cda) ct cc), osl⟩ ∧ PySem.W.codeIn K (.ref cda) "BadText.__init__" = true ∧
      K.lookup cc = some ⟨cl, cld, .cell (some (.ref C)), csl⟩ ∧ K.lookup cda = some ⟨ccl, cdd, .fields vs, ccs⟩ ∧ vs[2]? = some (.str s tf)
def hcl_mk {P : Program} {K : PySem.W.Frag} {t8 t10 t16 : Tok} {CL fI fE C fB : Addr} {odI anI odE anE : Option Addr} {slI slE : Array (Option Value)} {ocI kVI dcI pmI cdI ctI ocE kVE dcE pmE cdE ctE : Value}
    {nm q : Str} {N : Addr} {bs bm : List Value} {sn : List Str} {sub : List Value} {ab : Bool} {col : Option Bool} {dd : Option Addr} {k0 k1 k2 k3 k5 : Option Value}
    {sf : Str} {oc : Value} {od : Option Addr} {doc pm : Value} {an : Option Addr} {cda : Addr} {ct : Value} {osl : Array (Option Value)} {cc : Addr} {ccv : Value} {cld : Option Addr} {csl : Array (Option Value)} {ccl : Value} {cdd : Option Addr} {vs : Array Value} {ccs : Array (Option Value)} {tf : Tok}
    (z0 : PySem.W.nsIn K mainGlobals "isinstance" = some none) (z1 : PySem.W.nsIn K mainGlobals "int" = some none) (z2 : PySem.W.nsIn K mainGlobals "bool" = some none) (z3 : PySem.W.nsIn K mainGlobals "tuple" = some none) (z4 : PySem.W.nsIn K mainGlobals "list" = some none) (z5 : PySem.W.nsIn K mainGlobals "str" = some none) (z6 : PySem.W.nsIn K mainGlobals "all" = some none) (z7 : PySem.W.nsIn K mainGlobals "zip" = some none) (z8 : PySem.W.nsIn K mainGlobals "len" = some none) (z9 : PySem.W.nsIn K mainGlobals "enumerate" = some none) (z10 : PySem.W.nsIn K mainGlobals "range" = some none) (z11 : PySem.W.nsIn K mainGlobals "max" = some none) (z12 : PySem.W.nsIn K mainGlobals "super" = some none)
    (n8 : PySem.W.nsIn K mainGlobals "MOST_SERVERS" = some (some (.int 8 t8))) (n10 : PySem.W.nsIn K mainGlobals "MOST_ITEMS" = some (some (.int 10 t10))) (n16 : PySem.W.nsIn K mainGlobals "MOST_TRANSFERS" = some (some (.int 16 t16)))
    (gL : PySem.W.nsIn K mainGlobals "Layout" = some (some (.ref CL))) (pg : PySem.W.plainGet K CL Str.empty = true) (hd1 : PySem.W.hasDictIn K CL = true) (po : PySem.W.plainOver K CL = true) (sa1 : PySem.W.findIn K (.ref CL) "__setattr__" = some (some (.builtin "object.__setattr__")))
    (nS : PySem.W.findIn K (.ref CL) "servers" = some none) (nE : PySem.W.findIn K (.ref CL) "entries" = some none) (mk2 : PySem.W.findIn K (.ref CL) "__init__" = some (some (.ref fI))) (mk1 : PySem.W.makesIn K CL = true) (mk3 : PySem.W.isFn K (.ref fI) = true) (mk4 : PySem.W.keepIn K (.ref CL) = true)
    (cA : PySem.W.findIn K (.ref CL) "__class__" = some (some (.builtin "object.__class__"))) (cN : PySem.W.specialIn K (.builtin "object.__class__") "__get__" = some (some (.builtin "getset_descriptor.__get__"))) (cT : PySem.W.takesIn K (.builtin "object.__class__") = some true)
    (cM : PySem.W.mroIn K CL (.type "object") = some true) (ne : PySem.W.findIn K (.ref CL) "__ne__" = some (some (.builtin "object.__ne__"))) (eq : PySem.W.findIn K (.ref CL) "__eq__" = some (some (.ref fE))) (fe : PySem.W.isFn K (.ref fE) = true) (ob : PySem.W.subIn K (.ref CL) (.type "object") = some true)
    (lI : K.lookup fI = some ⟨ocI, odI, .func (PySem.W.fnOf "__init__" "Layout.__init__" (defArgs sInit) (defBody sInit) (defScope sInit) .none kVI dcI pmI anI cdI ctI), slI⟩) (cI : PySem.W.codeIn K cdI "Layout.__init__" = true) (kI : PySem.W.keepIn K (.ref fI) = true)
    (lE : K.lookup fE = some ⟨ocE, odE, .func (PySem.W.fnOf "__eq__" "Layout.__eq__" (defArgs sEq) (defBody sEq) (defScope sEq) .none kVE dcE pmE anE cdE ctE), slE⟩) (cE : PySem.W.codeIn K cdE "Layout.__eq__" = true) (kE : PySem.W.keepIn K (.ref fE) = true)
    (gC : PySem.W.nsIn K mainGlobals "BadText" = some (some (.ref C))) (cls1 : K.lookup C = some (excClassObj nm q C N bs bm true sn sub ab col dd k0 k1 k2 k3 k5 "ValueError.__new__")) (cls2 : PySem.HandSPX.refsVE bm = true)
    (xi : PySem.W.excInitIn K C [.type "ValueError", .type "Exception", .type "BaseException", .type "object"] "ValueError.__new__" = true) (sa : PySem.W.findIn K (.ref C) "__setattr__" = some (some (.builtin "object.__setattr__"))) (noL : PySem.W.findIn K (.ref C) "line" = some none)
    (iC : PySem.W.findIn K (.ref C) "__init__" = some (some (.ref fB))) (tC : PySem.W.typeIn K (.ref fB) = some (.type "function")) (kC : PySem.W.keepIn K (.ref C) = true) (exC : PySem.W.subIn K (.ref C) (.type "BaseException") = some true) (veC : PySem.W.subIn K (.ref C) (.type "ValueError") = some true)
    (tyC : PySem.W.typeIn K (.ref C) = some (.type "type")) (seC : PySem.W.mroIn K C (.ref C) = some true) (sup : PySem.W.ks_superIn K C C "__init__" = some (some (.builtin "ValueError.__init__"))) (opq : PySem.W.nsIn K cStatics "thirdparty.any" = some none)
    (ga : PySem.W.findIn K (.ref C) "__getattribute__" = some (some (.builtin "BaseException.__getattribute__"))) (gg : PySem.W.findIn K (.ref C) "__getattr__" = some none) (hdC : PySem.W.hasDictIn K C = true) (kit : PySem.W.kitCls K (.ref C) (.ref C) = some true)
    (fl3 : K.lookup fB = some ⟨oc, od, .func (PySem.W.ksFn "__init__" "BadText.__init__" BtX.iA [BtX.sUp, BtX.sSt] BtX.iS .none .none doc pm an (.ref cda) ct cc), osl⟩) (fl4 : PySem.W.codeIn K (.ref cda) "BadText.__init__" = true)
    (fl5 : K.lookup cc = some ⟨ccv, cld, .cell (some (.ref C)), csl⟩) (fl6 : K.lookup cda = some ⟨ccl, cdd, .fields vs, ccs⟩) (fl7 : vs[2]? = some (.str sf tf)) (fl1 : ((P.main.file : Str) == sf) = true) (fl2 : (P.main.scope.names.lookup ("super" : Str)).isSome = false) : Hcl P K :=
  { z0 := z0, z1 := z1, z2 := z2, z3 := z3, z4 := z4, z5 := z5, z6 := z6, z7 := z7, z8 := z8, z9 := z9, z10 := z10, z11 := z11, z12 := z12, t8 := t8, n8 := n8, t10 := t10, n10 := n10, t16 := t16, n16 := n16, CL := CL, fI := fI, fE := fE, fdI := _, fdE := _, gL := gL, cl := ⟨pg, hd1, po, sa1⟩, nS := nS, nE := nE, mkL := ⟨mk1, mk2, mk3, mk4⟩, cA := cA, cN := cN, cT := cT, cM := cM, ne := ne, eq := eq, fe := fe, ob := ob,
    FI := fun_mk lI cI kI, FE := fun_mk lE cE kE, C := C, fB := fB, gC := gC, cls := ⟨_, _, _, _, _, _, _, _, _, _, _, _, _, _, _, cls1, cls2⟩, xi := xi, sa := sa, noL := noL, iC := iC, tC := tC, kC := kC, exC := exC, veC := veC, tyC := tyC, seC := seC, sup := sup, opq := opq, ga := ga, gg := gg, hdC := hdC, kit := kit,
    file := ⟨_, fl1, fl2, _, _, _, _, _, _, _, _, _, _, _, _, _, _, _, _, _, fl3, fl4, fl5, fl6, fl7⟩ }
def lw_mk {P : Program} {K : PySem.W.Frag} {h : Heap} {mg : Str → Option Value} (X : K.In h) (G : h.Ns mainGlobals mg) (D : Hds K) (Z : Hcl P K) : Lw P K mg where
  CL := Z.CL
  C := Z.C
  fI := Z.fI
  fE := Z.fE
  fB := Z.fB
  fdI := Z.fdI
  fdE := Z.fdE
  B := ⟨PySem.W.mg_none_of X G Z.z0, PySem.W.mg_none_of X G Z.z1, PySem.W.mg_none_of X G Z.z2, PySem.W.mg_none_of X G Z.z3, PySem.W.mg_none_of X G Z.z4, PySem.W.mg_none_of X G Z.z5, PySem.W.mg_none_of X G Z.z6, PySem.W.mg_none_of X G Z.z7, PySem.W.mg_none_of X G Z.z8, PySem.W.mg_none_of X G Z.z9, PySem.W.mg_none_of X G Z.z10, PySem.W.mg_none_of X G Z.z11⟩
  Z := ⟨⟨_, PySem.W.mg_of X G Z.n8⟩, ⟨_, PySem.W.mg_of X G Z.n10⟩, ⟨_, PySem.W.mg_of X G Z.n16⟩⟩
  L := ⟨PySem.W.mg_of X G Z.gL, Z.cl, Z.nS, Z.nE, Z.mkL, Z.cA, Z.cN, Z.cT, Z.cM, Z.ne, Z.eq, Z.fe, Z.ob, kit_self⟩
  T := ⟨PySem.W.mg_of X G Z.gC, PySem.W.mg_none_of X G Z.z12, Z.cls, Z.xi, Z.sa, Z.noL, Z.iC, Z.tC, Z.kC, Z.exC, Z.veC, Z.tyC, Z.seC, Z.sup, Z.opq, Z.file⟩
  FI := Z.FI
  bI := Z.FI.binds fun _ _ _ _ _ _ us hl => match us, hl with | [_, _, _], _ => rfl
  FE := Z.FE
  bE := Z.FE.binds fun _ _ _ _ _ _ us hl => match us, hl with | [_, _], _ => rfl
  BC := ⟨PySem.W.mg_of X G Z.gC, ⟨Z.ga, Z.gg, Z.exC, Z.hdC⟩, Z.noL, exm_self Z.exC Z.kit⟩
  fN := D.fN
  fdN := D.fdN
  DN := D.AN.df X G fun _ _ _ _ _ _ us hl => match us, hl with | [_, _, _], _ => rfl
  fS := D.fS
  fdS := D.fdS
  DS := D.AS.df X G fun _ _ _ _ _ _ us hl => match us, hl with | [_, _], _ => rfl
  fT := D.fT
  fdT := D.fdT
  DT := D.AT.df X G fun _ _ _ _ _ _ us hl => match us, hl with | [_, _], _ => rfl
  fK := D.fK
  fdK := D.fdK
  DK := D.AK.df X G fun _ _ _ _ _ _ us hl => match us, hl with | [_], _ => rfl
  fG := D.fG
  fdG := D.fdG
  DG := D.AG.df X G fun _ _ _ _ _ _ us hl => match us, hl with | [_], _ => rfl
  fII := D.fII
  fdII := D.fdII
  DII := D.AII.df X G fun _ _ _ _ _ _ us hl => match us, hl with | [_, _], _ => rfl
  fPI := D.fPI
  fdPI := D.fdPI
  DPI := D.API.df X G fun _ _ _ _ _ _ us hl => match us, hl with | [_, _], _ => rfl
  fLO := D.fLO
  fdLO := D.fdLO
  DLO := D.ALO.df X G fun _ _ _ _ _ _ us hl => match us, hl with | [_], _ => rfl
  fSI := D.fSI
  fdSI := D.fdSI
  DSI := D.ASI.df X G fun _ _ _ _ _ _ us hl => match us, hl with | [_], _ => rfl
  fRL := D.fRL
  fdRL := D.fdRL
  DRL := D.ARL.df X G fun _ _ _ _ _ _ us hl => match us, hl with | [_], _ => rfl
  fRM := D.fRM
  fdRM := D.fdRM
  DRM := D.ARM.df X G fun _ _ _ _ _ _ us hl => match us, hl with | [_], _ => rfl
  fCT := D.fCT
  fdCT := D.fdCT
  DCT := D.ACT.df X G fun _ _ _ _ _ _ us hl => match us, hl with | [_, _], _ => rfl
  fLT := D.fLT
  fdLT := D.fdLT
  DLT := D.ALT.df X G fun _ _ _ _ _ _ us hl => match us, hl with | [_], _ => rfl
  fTT := D.fTT
  fdTT := D.fdTT
  DTT := D.ATT.df X G fun _ _ _ _ _ _ us hl => match us, hl with | [_, _], _ => rfl
  fTx := D.fTx
  fdTx := D.fdTx
  DTx := D.ATx.df X G fun _ _ _ _ _ _ us hl => match us, hl with | [_], _ => rfl
  fNr := D.fNr
  fdNr := D.fdNr
  DNr := D.ANr.df X G fun _ _ _ _ _ _ us hl => match us, hl with | [_, _], _ => rfl
  fIt := D.fIt
  fdIt := D.fdIt
  DIt := D.AIt.df X G fun _ _ _ _ _ _ us hl => match us, hl with | [_, _, _, _], _ => rfl
  fMo := D.fMo
  fdMo := D.fdMo
  DMo := D.AMo.df X G fun _ _ _ _ _ _ us hl => match us, hl with | [_, _, _, _], _ => rfl
  fBn := D.fBn
  fdBn := D.fdBn
  DBn := D.ABn.df X G fun _ _ _ _ _ _ us hl => match us, hl with | [_, _, _], _ => rfl
  fLn := D.fLn
  fdLn := D.fdLn
  DLn := D.ALn.df X G fun _ _ _ _ _ _ us hl => match us, hl with | [_], _ => rfl
/-- the law's promise at the head's heap -/
theorem law_at {l : PySem.W.OpenLaw} {w : World} {K : PySem.W.Frag} {h : Heap} {mg : Str → Option Value} {fa f c Pt : Addr} (X : K.In h) (G : h.Ns mainGlobals mg) (hfa : mg ("law" : Str) = some (.ref fa)) (D : Hds K) (Z : Hcl l.prog K)
    {oc : Value} {od an : Option Addr} {osl : Array (Option Value)} {kV doc pm ct : Value} (a : PySem.W.nsIn K mainGlobals "law" = some (some (.ref f)))
    (lk : K.lookup f = some ⟨oc, od, .func (PySem.W.fnOf "law" "law" (defArgs sLw) (defBody sLw) (defScope sLw) .none kV doc pm an (.ref c) ct), osl⟩) (hcd : PySem.W.codeIn K (.ref c) "law" = true)
    (hP : h.get? Pt = some (PySem.W.tabObj #[])) (nP : K.lookup Pt = none) (hc : PySem.W.codeHdIn K c Pt = true) : LamX.LawAtS l w K CX0 9 63 "_law_script" mg fa h := by
  have e := hfa.symm.trans (PySem.W.mg_of X G a)
  cases e
  have one : ∀ {Q : Addr × Addr → Prop}, Q (c, Pt) → ∀ p ∈ [(c, Pt)], Q p := fun q p hp => by
    rw [List.mem_singleton] at hp
    rw [hp]
    exact q
  refine ⟨PySem.W.fnOf "law" "law" (defArgs sLw) (defBody sLw) (defScope sLw) .none kV doc pm an (.ref c) ct, [(c, Pt)], spLw K Pt, one hP, one nP, one (PySem.W.codeHd_of_K X hc), fun s u => .of_eq rfl, fun H a ns _ _ hT hS => ⟨a, ns, rfl, hS, fun q p hp => ?_, fun _ => rfl⟩, fun base _ _ TB => ?_⟩
  · rw [List.mem_singleton] at hp
    rw [hp]
    exact LamX.TabS.nil (hT (c, Pt) (List.mem_singleton.mpr rfl))
  · exact ok_lw (lw_mk X G D Z) (TB (c, Pt) (List.mem_singleton.mpr rfl)) lk hcd
end Kx
set_option maxRecDepth 100000
open PySem PySem.W PyProof.Rows
set_option maxHeartbeats 0 in
theorem PySem.Challenge.cw_copylots_k32_whole_texts_holds : PySem.Challenge.rw_copylots_k32_whole_texts.Holds := by
  w_on; o_law
  k_head
  (case hw => w_witness2)
  k_fill
  refine LamX.walk_ofTs (l := PySem.Challenge.rw_copylots_k32_whole_texts) (n := 63) (k := 9) (x := "_law_script") (CX := fun _ => L2.CX0) rfl (by decide) (by kernel_rfl) ⟨rfl, by decide, by decide⟩ (fun w h Y => PySem.W.km_in_of Y) ?F (fun _ _ _ _ _ z => z)
  intro w mg fa h Y KX G hmg
  have hT := PySem.W.km_tabs_of Y
  refine' Kx.law_at (Pt := 377) KX G hmg ?D ?Z ?a ?lk ?hcd (hT 377 (by simp)) ?nP ?hcq
  case D =>
    refine' { fN := _, fdN := _, AN := Kx.at_mk ?aN ?lN ?cN ?kN, fS := _, fdS := _, AS := Kx.at_mk ?aS ?lS ?cS ?kS, fT := _, fdT := _, AT := Kx.at_mk ?aT ?lT ?cT ?kT, fK := _, fdK := _, AK := Kx.at_mk ?aK ?lK ?cK ?kK, fG := _, fdG := _, AG := Kx.at_mk ?aG ?lG ?cG ?kG, fII := _, fdII := _, AII := Kx.at_mk ?aII ?lII ?cII ?kII, fPI := _, fdPI := _, API := Kx.at_mk ?aPI ?lPI ?cPI ?kPI, fLO := _, fdLO := _, ALO := Kx.at_mk ?aLO ?lLO ?cLO ?kLO, fSI := _, fdSI := _, ASI := Kx.at_mk ?aSI ?lSI ?cSI ?kSI, fRL := _, fdRL := _, ARL := Kx.at_mk ?aRL ?lRL ?cRL ?kRL, fRM := _, fdRM := _, ARM := Kx.at_mk ?aRM ?lRM ?cRM ?kRM, fCT := _, fdCT := _, ACT := Kx.at_mk ?aCT ?lCT ?cCT ?kCT, fLT := _, fdLT := _, ALT := Kx.at_mk ?aLT ?lLT ?cLT ?kLT, fTT := _, fdTT := _, ATT := Kx.at_mk ?aTT ?lTT ?cTT ?kTT, fTx := _, fdTx := _, ATx := Kx.at_mk ?aTx ?lTx ?cTx ?kTx, fNr := _, fdNr := _, ANr := Kx.at_mk ?aNr ?lNr ?cNr ?kNr, fIt := _, fdIt := _, AIt := Kx.at_mk ?aIt ?lIt ?cIt ?kIt, fMo := _, fdMo := _, AMo := Kx.at_mk ?aMo ?lMo ?cMo ?kMo, fBn := _, fdBn := _, ABn := Kx.at_mk ?aBn ?lBn ?cBn ?kBn, fLn := _, fdLn := _, ALn := Kx.at_mk ?aLn ?lLn ?cLn ?kLn }
    (case aN => k_is); (case lN => k_is); (case cN => k_is); (case kN => k_is)
    (case aS => k_is); (case lS => k_is); (case cS => k_is); (case kS => k_is)
    (case aT => k_is); (case lT => k_is); (case cT => k_is); (case kT => k_is)
    (case aK => k_is); (case lK => k_is); (case cK => k_is); (case kK => k_is)
    (case aG => k_is); (case lG => k_is); (case cG => k_is); (case kG => k_is)
    (case aII => k_is); (case lII => k_is); (case cII => k_is); (case kII => k_is)
    (case aPI => k_is); (case lPI => k_is); (case cPI => k_is); (case kPI => k_is)
    (case aLO => k_is); (case lLO => k_is); (case cLO => k_is); (case kLO => k_is)
    (case aSI => k_is); (case lSI => k_is); (case cSI => k_is); (case kSI => k_is)
    (case aRL => k_is); (case lRL => k_is); (case cRL => k_is); (case kRL => k_is)
    (case aRM => k_is); (case lRM => k_is); (case cRM => k_is); (case kRM => k_is)
    (case aCT => k_is); (case lCT => k_is); (case cCT => k_is); (case kCT => k_is)
    (case aLT => k_is); (case lLT => k_is); (case cLT => k_is); (case kLT => k_is)
    (case aTT => k_is); (case lTT => k_is); (case cTT => k_is); (case kTT => k_is)
    (case aTx => k_is); (case lTx => k_is); (case cTx => k_is); (case kTx => k_is)
    (case aNr => k_is); (case lNr => k_is); (case cNr => k_is); (case kNr => k_is)
    (case aIt => k_is); (case lIt => k_is); (case cIt => k_is); (case kIt => k_is)
    (case aMo => k_is); (case lMo => k_is); (case cMo => k_is); (case kMo => k_is)
    (case aBn => k_is); (case lBn => k_is); (case cBn => k_is); (case kBn => k_is)
    (case aLn => k_is); (case lLn => k_is); (case cLn => k_is); (case kLn => k_is)
  case Z =>
    refine' Kx.hcl_mk ?z0 ?z1 ?z2 ?z3 ?z4 ?z5 ?z6 ?z7 ?z8 ?z9 ?z10 ?z11 ?z12 ?n8 ?n10 ?n16 ?gL ?pg ?hd1 ?po ?sa1 ?nS ?nE ?mk2 ?mk1 ?mk3 ?mk4 ?cA ?cN ?cT ?cM ?ne ?eq ?fe ?ob ?lI ?cI ?kI ?lE ?cE ?kE ?gC ?cls1 ?cls2 ?xi ?sa ?noL ?iC ?tC ?kC ?exC ?veC ?tyC ?seC ?sup ?opq ?ga ?gg ?hdC ?kit ?fl3 ?fl4 ?fl5 ?fl6 ?fl7 ?fl1 ?fl2
    (case z0 => k_is)
    (case z1 => k_is)
    (case z2 => k_is)
    (case z3 => k_is)
    (case z4 => k_is)
    (case z5 => k_is)
    (case z6 => k_is)
    (case z7 => k_is)
    (case z8 => k_is)
    (case z9 => k_is)
    (case z10 => k_is)
    (case z11 => k_is)
    (case z12 => k_is)
    (case n8 => k_is)
    (case n10 => k_is)
    (case n16 => k_is)
    (case gL => k_is)
    (case pg => k_is)
    (case hd1 => k_is)
    (case po => k_is)
    (case sa1 => k_is)
    (case nS => k_is)
    (case nE => k_is)
    (case mk2 => k_is)
    (case mk1 => k_is)
    (case mk3 => k_is)
    (case mk4 => k_is)
    (case cA => k_is)
    (case cN => k_is)
    (case cT => k_is)
    (case cM => k_is)
    (case ne => k_is)
    (case eq => k_is)
    (case fe => k_is)
    (case ob => k_is)
    (case lI => k_is)
    (case cI => k_is)
    (case kI => k_is)
    (case lE => k_is)
    (case cE => k_is)
    (case kE => k_is)
    (case gC => k_is)
    (case cls1 => k_is)
    (case cls2 => decide +kernel)
    (case xi => kernel_rfl)
    (case sa => k_is)
    (case noL => k_is)
    (case iC => k_is)
    (case tC => k_is)
    (case kC => k_is)
    (case exC => k_is)
    (case veC => k_is)
    (case tyC => k_is)
    (case seC => k_is)
    (case sup => ks_is)
    (case opq => k_is)
    (case ga => k_is)
    (case gg => k_is)
    (case hdC => k_is)
    (case kit => kernel_rfl)
    (case fl3 => k_is); (case fl4 => k_is); (case fl5 => k_is); (case fl6 => k_is); (case fl7 => rfl)
    (case fl1 => decide +kernel); (case fl2 => decide +kernel)
  (case a => k_is); (case lk => k_is); (case hcd => k_is); (case nP => kernel_rfl); (case hcq => kernel_rfl)

