import PyProof.Rows.All
import Wide.All
import OpenK.AllK
import Wide.FinOn
import PyProof.EqAt
import PyProof.EqKinds
import PyProof.TupleCall
import KE.KStateDown
import KE.SortData
import KE.DataMinMax
import KE.KSorted
import PyProof.ReprNest
import HandS.Base
import HandS.Call
import HandS.List
import HandS.Comp
import HandS.Ends
import HandS.Dict
import HandS.Iter
import HandS.Text
import HandS.StrMore
import HandS.Style
import HandS.Exc
import HandS.TryOnly
import HandS.ExcOwn
import HandS.ExcIs
import HandS.ExcValue
import HandS.IsInst
import HandS.More
import HandS.Words
import HandS.WordsList
import HandS.WordsExc
import HandS.Defaults
import HandS.Evl
import HandS.Zip
import HandS.SortOrd
import HandS.Strs
import HandS.RevTup
import HandS.Head0
import HandS.Head1
import HandS.Head2
import HandS.HeadEnd
import HandS.HeadHook1
import HandS.HeadHook2
import PySem.Challenge.RW_beadrings_k05_whole_one_way
set_option Elab.async false
set_option linter.all false
set_option maxRecDepth 100000
set_option maxHeartbeats 2000000
namespace Bd
open PySem PySem.Spec PyProof.Rows L2
/-! ### defs as bundles; G: what runs around is known to be no repr -/
abbrev BindsAll (fd : FuncData) (ps : List Str) : Prop := ∀ (s : Shared) (us : List Value), us.length = ps.length → BindsTo s fd ⟨us, []⟩ (ps.zip us)
theorem BindsAll.binds {K : PySem.W.Frag} {fd : FuncData} {ps : List Str} (h : BindsAll fd ps) : Binds K fd ps [] := fun s us _ hl => by
  rw [List.append_nil] at hl ⊢
  exact h s us hl
/-- the def named x keeps its promise (level k) -/
structure DefAt (P : Program) (w : World) (K : PySem.W.Frag) (mg : Str → Option Value) (base : Heap) (k : Nat) (x : Str) (ps : List Str) (sp : Sp) : Prop where
  out : ∃ f fd, FnOk P w K mg base (L2.CX P w) k f fd ps sp ∧ mg x = some (.ref f) ∧ PySem.W.keepIn K (.ref f) = true ∧ BindsAll fd ps
/-- as FnOk, called where no repr runs around -/
structure FnG (P : Program) (w : World) (K : PySem.W.Frag) (mg : Str → Option Value) (base : Heap) (k : Nat) (f : Addr) (fd : FuncData) (ps : List Str) (sp : Sp) : Prop where
  len : ∀ vs H Q E, sp vs H Q E → vs.length = ps.length
  run : ∀ (A : Around) (outer : List Env) (s : Shared) (H : Hp) (args : Args) (us : List Value) (vs : List V) (Q : VK) (E : XK), Room k A → A.guards = some [] → Env0 P w K mg base A outer s H → BindsTo s fd args (ps.zip us) → Vals vs us → sp vs H Q E →
    codeAny (model P w) A (.call (.ref f) args) (CR (L2.CX P w) outer P w H s Q E) s
structure DefG (P : Program) (w : World) (K : PySem.W.Frag) (mg : Str → Option Value) (base : Heap) (k : Nat) (x : Str) (ps : List Str) (sp : Sp) : Prop where
  out : ∃ f fd, FnG P w K mg base k f fd ps sp ∧ mg x = some (.ref f) ∧ PySem.W.keepIn K (.ref f) = true ∧ BindsAll fd ps
/-- where a def of the text stands -/
structure At (K : PySem.W.Frag) (mg : Str → Option Value) (x : Str) (ps : List Str) (st : Stmt) : Prop where
  out : ∃ f fd, FunD K x x (defArgs st) (defBody st) (defScope st) [] [] f fd ∧ mg x = some (.ref f) ∧ BindsAll fd ps
section
variable {P : Program} {w : World} {K : PySem.W.Frag} {mg : Str → Option Value} {base : Heap}
theorem At.def_ {x : Str} {N ps : List Str} {st : Stmt} {k : Nat} {sp : Sp} (F : At K mg x ps st) (S : FnScope N ps (defScope st)) (len : ∀ vs H Q E, sp vs H Q E → vs.length = ps.length)
    (hbody : ∀ (f : Addr) (cdv : Value) (A : Around) (outer : List Env) (s : Shared) (H : Hp) (vs : List V) (Q : VK) (E : XK), Room k (A.deeper (envOfC x (defScope st) s.heap.objs.size f cdv)) → sp vs H Q E →
      ∃ t, PSs (cxOf (L2.CX P w) P w K mg base N x (defScope st) f cdv A outer s H E) (defBody st) t ∧ t { nx := fun _ H' => Q .non H', rt := Q } (start N vs) H) : DefAt P w K mg base (k + 1) x ps sp := by
  obtain ⟨f, fd, F, m, b⟩ := F.out
  exact ⟨f, fd, F.ok S len (hbody f), m, F.kp, b⟩
theorem At.defG {x : Str} {N ps : List Str} {st : Stmt} {k : Nat} {sp : Sp} (F : At K mg x ps st) (S : FnScope N ps (defScope st)) (len : ∀ vs H Q E, sp vs H Q E → vs.length = ps.length)
    (hbody : ∀ (f : Addr) (cdv : Value) (A : Around) (outer : List Env) (s : Shared) (H : Hp) (vs : List V) (Q : VK) (E : XK), Room k (A.deeper (envOfC x (defScope st) s.heap.objs.size f cdv)) →
      (A.deeper (envOfC x (defScope st) s.heap.objs.size f cdv)).guards = some [] → sp vs H Q E →
      ∃ t, PSs (cxOf (L2.CX P w) P w K mg base N x (defScope st) f cdv A outer s H E) (defBody st) t ∧ t { nx := fun _ H' => Q .non H', rt := Q } (start N vs) H) : DefG P w K mg base (k + 1) x ps sp := by
  obtain ⟨f, fd, F, m, b⟩ := F.out
  refine ⟨f, fd, ⟨len, fun A outer s H args us vs Q E hr hg e0 hb r hsp => ?_⟩, m, F.kp, b⟩
  obtain ⟨oc, od, dV, kV, doc, pm, an, cdv, ct, osl, rfl, lk, hcd, _, _⟩ := F.ex
  have KX : K.In s.heap := e0.mod.kin.keeps fun b o e => (e0.bs b o e).1
  refine Att.call_fn KX (e0.mod.nolimit.keeps fun b o e => (e0.bs b o e).1) lk hcd hr.depth hb ?_ (fun s1 ic => ?_) S.co S.gen S.kind
  · refine List.all_eq_true.mpr fun y hy => ?_
    rcases S.par y.1 (List.of_mem_zip (show (y.1, y.2) ∈ ps.zip us from hy)).1 with q | q
    · rw [q]; rfl
    · rw [q]; rfl
  · obtain ⟨t, ht, hq⟩ := hbody f cdv A outer s H vs Q E (hr.deeper _) hg hsp
    have I := inv_start (CX := L2.CX P w) (E := E) S hr.hd e0 (len _ _ _ _ hsp) r ic
    refine wpAny_mono (ht.run [] s1 (start N vs) H _ I hq) (fun fl s' hs => ?_) fun e s' hs => hs
    cases fl with
    | ret u =>
      obtain ⟨v, σ', H', J, rv, q⟩ := hs
      exact ⟨v, H', J.os, J.bare, J.base, J.hok, rv, q⟩
    | next =>
      obtain ⟨σ', H', J, q⟩ := hs
      exact ⟨.non, H', J.os, J.bare, J.base, J.hok, rfl, q⟩
    | brk => obtain ⟨_, _, _, q⟩ := hs; exact False.elim q
    | cont => obtain ⟨_, _, _, q⟩ := hs; exact False.elim q
end
section
variable {X : Cx} {k : Nat} {x : Str} {ps : List Str} {sp : Sp} {E : L2.St → XK} {p pos : Pos} {e : Expr} {es : List Expr} {t : TA}
theorem pe_callD (D : DefAt X.prog X.w X.K X.mg X.base k x ps sp) (hr : Room k X.A) (hx : ∀ σ, PassesAt (L2.CX X.prog X.w) X σ (E σ)) (ha : PA X (e :: es) t) (hg : Gl X x := by rfl) (hdb : (x == ("__debug__" : Str)) = false := by decide)
    (he : starEach (e :: es) X.env = (false, eval e X.env) :: starEach es X.env := by rfl) (hpl : (backTo pos (starEach es X.env)).any (·.1) = false := by rfl) : PE X (.Call (.Name x p) (e :: es) [] pos) (tCallS sp E t) := by
  obtain ⟨f, fd, F, m, kp, b⟩ := D.out
  exact pe_callS F hr hg m kp b.binds hx ha hdb he hpl
theorem pe_callG (D : DefG X.prog X.w X.K X.mg X.base k x ps sp) (hr : Room k X.A) (hgu : X.A.guards = some []) (hx : ∀ σ, PassesAt (L2.CX X.prog X.w) X σ (E σ)) (ha : PA X (e :: es) t) (hg : Gl X x := by rfl) (hdb : (x == ("__debug__" : Str)) = false := by decide)
    (he : starEach (e :: es) X.env = (false, eval e X.env) :: starEach es X.env := by rfl) (hpl : (backTo pos (starEach es X.env)).any (·.1) = false := by rfl) : PE X (.Call (.Name x p) (e :: es) [] pos) (tCallS sp E t) := by
  obtain ⟨f, fd, F, m, kp, b⟩ := D.out
  constructor
  intro pins s σ H Q I h
  refine wpAny_Call_Name_kw (ld_glob I hg m ?_ hdb)
  refine PySem.W.callWith_K (h₀ := X.base) I.ok.mod.kin kp (thn (ha.run pos pins s σ H _ I h) fun us s1 hv => ?_) he hpl
  obtain ⟨vs, H1, I1, r, q⟩ := hv
  refine ⟨I1.kIn, wpAny_call (codeAny_mono (F.run X.A X.stack s1 H1 ⟨us, []⟩ us vs Q (E σ) hr hgu I1.env0 (b s1 us (by rw [← r.length]; exact F.len _ _ _ _ q)) r q) fun rr s' hq => ?_)⟩
  cases rr with
  | error e => exact hx σ pins H1 s1 e s' I1 hq
  | ok fl =>
    cases fl with
    | ret u => exact I1.after hq
    | next => exact False.elim hq
    | brk => exact False.elim hq
    | cont => exact False.elim hq
/-- nothing is let out by the callee -/
theorem pass_no : ∀ σ : L2.St, PassesAt (L2.CX X.prog X.w) X σ (fun _ _ _ => False) := fun σ pins H s e s' I c => by
  obtain ⟨_, _, _, _, _, _, _, _, _, _, _, _, z⟩ := c
  exact z.elim
/-- what a def's body lets out leaves the def -/
theorem pass_up {P : Program} {w : World} {K : PySem.W.Frag} {mg : Str → Option Value} {base : Heap} {N : List Str} {q : Str} {sc : Scope} {f : Addr} {cdv : Value} {A : Around} {outer : List Env} {s : Shared} {H : Hp} {E : XK} :
    ∀ σ : L2.St, PassesAt (L2.CX P w) (cxOf (L2.CX P w) P w K mg base N q sc f cdv A outer s H E) σ E :=
  fun σ => passAt (X := cxOf (L2.CX P w) P w K mg base N q sc f cdv A outer s H E) (W := fun c d _ H' => E c d H') (takes_of rfl rfl rfl rfl) σ
end
end Bd

namespace Bd
open PySem PySem.Spec PyProof.Rows L2
/-! ### texts by their codes -/
abbrev tx (l : List Nat) : Str := ⟨l.toArray⟩
theorem tx_list (z : Str) : tx z.cps.toList = z := Str.ext' (by simp)
theorem tx_len (l : List Nat) : (tx l).length = l.length := by show l.toArray.size = _; simp
theorem tx_cps (l : List Nat) : (tx l).cps.toList = l := by simp
theorem tx_add (l m : List Nat) : tx l ++ tx m = tx (l ++ m) := by
  refine str_eq_of_lists ?_
  show ((l.toArray ++ m.toArray).toList) = _
  simp
theorem tx_inj {l m : List Nat} (h : tx l = tx m) : l = m := by
  have := congrArg (fun z : Str => z.cps.toList) h
  simpa using this
theorem tx_injEq (l m : List Nat) : (tx l = tx m) = (l = m) := propext ⟨tx_inj, fun h => by rw [h]⟩
theorem scal_ss (x y : Str) : scal (.str x) (.str y) = true := rfl
theorem scal_ii (x y : Int) : scal (.int x) (.int y) = true := rfl
theorem scal_bb (x y : Bool) : scal (.bl x) (.bl y) = true := rfl
theorem scal_nn : scal .non .non = true := rfl
theorem tx_eq {l m : List Nat} : decide (V.str (tx l) = V.str (tx m)) = decide (l = m) := by
  by_cases e : l = m
  · subst e; simp
  · rw [decide_eq_false e, decide_eq_false fun q => e (tx_inj (V.str.inj q))]
/-! ### repr of a plain value -/
def shown : V → Str
  | .non => "None"
  | .bl b => if b then "True" else "False"
  | .int i => toString i
  | .str z => reprText z
  | _ => ""
def shows : V → Prop
  | .non => True
  | .bl _ => True
  | .int i => i.natAbs.log2 < 1920
  | .str z => (reprText z).length ≤ sizeLine
  | _ => False
def rRepr : List V → Hp → VK → Prop := fun xs H Q => ∃ v, xs = [v] ∧ shows v ∧ Q (.str (shown v)) H
section
variable {X : Cx}
theorem call_repr : CallR X (.builtin "repr") rRepr := by
  intro pins s σ H xs us Q I r h
  obtain ⟨v, rfl, hz, q⟩ := h
  obtain ⟨u, rfl, ru⟩ := vals1 r
  cases v with
  | non => cases (show u = Value.none from ru); exact PySem.P.repr_of_none ⟨.str _, H, I.tok _, ⟨_, rfl⟩, q⟩
  | bl b => cases (show u = Value.bool b from ru); exact PySem.P.repr_of_bool ⟨.str _, H, I.tok _, ⟨_, rfl⟩, q⟩
  | int i => obtain ⟨t, rfl⟩ := (show ∃ t, u = Value.int i t from ru); exact PySem.P.repr_of_int hz ⟨.str _, H, I.tok _, ⟨_, rfl⟩, q⟩
  | str z => obtain ⟨t, rfl⟩ := (show ∃ t, u = Value.str z t from ru); exact PySem.P.repr_of_str ⟨.str _, H, I.tok _, ⟨_, rfl⟩, q⟩ hz
  | byt b => exact hz.elim
  | flt b => exact hz.elim
  | ref a => exact hz.elim
  | ty n => exact hz.elim
/-! ### repr of data that is a list; what runs around is known to be no repr -/
def rReprL (K : PySem.W.Frag) : List V → Hp → VK → Prop := fun xs H Q => ∃ a d, xs = [.ref a] ∧ Dp K H (.ref a) d ∧ d.showable = true ∧ d.hasDict = false ∧ d.depth ≤ 50 ∧ d.shown.length ≤ sizeLine ∧ Q (.str d.shown) H
theorem call_reprL (hg : X.A.guards = some []) (hu : X.A.units + 64 < cLine) : CallR X (.builtin "repr") (rReprL X.K) := by
  intro pins s σ H xs us Q I r h
  obtain ⟨a, d, rfl, hd, h1, h2, h3, h4, q⟩ := h
  obtain ⟨u, rfl, ru⟩ := vals1 r
  obtain ⟨as, R⟩ := Dp.reads I d _ _ hd ru
  cases (show u = Value.ref a from ru)
  exact repr_of_reads' R h1 (fun z => by rw [h2] at z; cases z) hg (by omega) (fun _ _ e => e) (fun h' u tk k => ⟨.str _, H, I.kept (t' := tk) k, ⟨_, rfl⟩, q⟩) h4
/-! ### a text so many times -/
/-- a list so many times behind itself -/
def repW (n : Nat) (l : List Nat) : List Nat := (List.replicate n l).flatten
theorem repW_len (n : Nat) (l : List Nat) : (repW n l).length = n * l.length := by
  unfold repW
  rw [List.length_flatten, List.map_replicate, List.sum_replicate_nat]
def rMulS : R2 := fun x y H Q => ∃ z n, x = .str z ∧ y = .int n ∧ 0 ≤ n ∧ n ≤ 100000 ∧ z.length * n.toNat ≤ sizeLine ∧ Q (.str (tx (repW n.toNat z.cps.toList))) H
theorem foldl_cps (z : Str) : ∀ (n : Nat) (acc : Array Nat), ((List.replicate n z.cps).foldl (· ++ ·) acc).toList = acc.toList ++ (List.replicate n z.cps.toList).flatten
  | 0, acc => by simp
  | n + 1, acc => by
    rw [List.replicate_succ, List.foldl_cons, foldl_cps z n, List.replicate_succ, List.flatten_cons, Array.toList_append, List.append_assoc]
theorem mul_text (z : Str) (n : Int) (hn : 0 ≤ n) : Txt.mul z n = tx (repW n.toNat z.cps.toList) := by
  unfold repW
  unfold Txt.mul
  by_cases h1 : n < 1
  · have e : n = 0 := by omega
    subst e
    simp [Str.empty]
  · rw [if_neg h1]
    by_cases h2 : (n == 1 || z.length == 0) = true
    · rw [if_pos h2]
      simp only [Bool.or_eq_true, beq_iff_eq] at h2
      refine str_eq_of_lists ?_
      rcases h2 with e | e
      · subst e
        simp
      · have e2 : z.cps.toList = [] := by
          have : z.cps.toList.length = 0 := by rw [Array.length_toList]; exact e
          exact List.eq_nil_of_length_eq_zero this
        rw [e2]
        simp
    · rw [if_neg h2]
      refine str_eq_of_lists ?_
      show ((List.replicate n.toNat z.cps).foldl (· ++ ·) #[]).toList = _
      rw [foldl_cps]
      simp
theorem op_mul_str : OpR X (binaryOp .Mult) rMulS := by
  intro pins s σ H x y v u Q I rx ry h
  obtain ⟨z, n, rfl, rfl, h0, hn, hz, q⟩ := h
  obtain ⟨t, rfl⟩ := rx
  obtain ⟨t2, rfl⟩ := ry
  rw [← mul_text z n h0] at q
  refine SB.mul ⟨?_, fun h1 _ => ?_, fun _ _ => ?_⟩ fun t' k => ⟨.str _, H, I.tok _, ⟨_, rfl⟩, q⟩
  · have h2 : ¬ n < -(2 ^ 63 : Int) := by omega
    have h3 : ¬ n ≥ 2 ^ 63 := by omega
    rw [decide_eq_false h2, decide_eq_false h3]; rfl
  · have hs : (z.length : Int) * n ≤ (sizeLine : Nat) := by
      have : ((z.length * n.toNat : Nat) : Int) ≤ (sizeLine : Nat) := by exact_mod_cast hz
      rw [Int.natCast_mul, Int.toNat_of_nonneg h0] at this
      exact this
    have hS : ((sizeLine : Nat) : Int) ≤ 2 ^ 63 - 1 := by rw [sizeLine_eq]; decide
    have : (z.length : Int) ≤ (2 ^ 63 - 1) / n := (Int.le_ediv_iff_mul_le (by omega)).mpr (by omega)
    omega
  · unfold Builtin.Str.tooLong
    have : sizeLine ≤ 2 ^ 63 - 1 := by rw [sizeLine_eq]; decide
    first | exact decide_eq_false (by omega) | (simp; omega)
/-! ### a text from its end to its begin -/
def tRevS (te : TE) : TE := fun σ H Q => te σ H fun x H1 => ∃ z, x = .str z ∧ z.length ≤ sizeLine ∧ Q (.str (tx z.cps.toList.reverse)) H1
theorem picked_rev (z : Str) : (Builtin.Str.strSliceIndices none none (-1) z.length).filterMap (z.cps[·]?) = z.cps.toList.reverse := by
  have e : Builtin.Str.strSliceIndices none none (-1) z.length = sliceRange ((z.cps.size : Int) - 1) (-1) (-1) := rfl
  rw [e, PySem.W.krv_sliceRange, PySem.W.krv_range, List.filterMap_reverse, PySem.W.krv_all]
theorem pe_revS {e : Expr} {te : TE} {k : Nat} {p1 p2 p3 pos : Pos} (he : PE X e te) : PE X (.Subscript e (.Slice none none (some (.UnaryOp .USub (.Constant (.int 1) k p1) p2)) p3) pos) (tRevS te) := by
  refine ⟨fun pins s σ H Q I h => ?_⟩
  refine Subscript_ (thn (he.run pins s σ H _ I h) fun v s1 hv => ?_)
  obtain ⟨x, H1, I1, r1, z, ex, hz, q⟩ := hv
  subst ex
  obtain ⟨t, rfl⟩ := r1
  have hst : PO X (some (.UnaryOp .USub (.Constant (.int 1) k p1) p2)) (tPart (tUn (rU fun i => .int (-i)) (tC (.int 1)))) := po_some (pe_un un_neg pe_int)
  refine wpAny_Slice (thn (po_none.run pins s1 σ H1 (fun o G => o = none ∧ G = H1) I1 ⟨rfl, rfl⟩) fun vl s2 w2 => ?_)
  obtain ⟨l, G2, I2, pl, rfl, rfl⟩ := w2
  refine thn (po_none.run pins s2 σ G2 (fun o G => o = none ∧ G = G2) I2 ⟨rfl, rfl⟩) fun vu s3 w3 => ?_
  obtain ⟨u, G3, I3, pu, rfl, rfl⟩ := w3
  refine thn (hst.run pins s3 σ G3 (fun o G => o = some (-1) ∧ G = G3) I3 ⟨1, rfl, -1, rfl, rfl, rfl⟩) fun vs s4 w4 => ?_
  obtain ⟨o, G4, I4, ps, rfl, rfl⟩ := w4
  have I5 : Inv X pins σ G4 { s4 with heap := s4.heap.push { cls := .type "slice", data := .fields #[vl, vu, vs] } } := I4.kept (t' := s4.toks) fun b ob w => Heap.get?_push_of_some _ w
  have ns := Heap.IsSliceOf.new s4.heap vl vu vs
  obtain ⟨l0, rfl, e0⟩ := IsPart.raw pl
  obtain ⟨u0, rfl, e1⟩ := IsPart.raw pu
  obtain ⟨s0, rfl, e2⟩ := IsPart.raw ps
  obtain rfl : l0 = none := by cases l0 with | none => rfl | some w => cases e0
  obtain rfl : u0 = none := by cases u0 with | none => rfl | some w => cases e1
  obtain ⟨⟨i0, t0⟩, rfl⟩ : ∃ w, s0 = some w := by cases s0 with | none => cases e2 | some w => exact ⟨w, rfl⟩
  obtain rfl : i0 = -1 := by first | exact Option.some.inj e2 | exact (Option.some.inj e2).symm
  refine tail_any (ops := [.str z t, .ref s4.heap.objs.size]) (typeIs_str _ z t) F.slot_str_getitem.lookup ?_ (by with_unfolding_all rfl)
  refine wpAny_getItem_str_slice (l := none) (u := none) (st := some (-1, t0)) ns rfl ?_
  show Made.post (if ((-1 : Int) == 1 && (Builtin.Str.strSliceIndices none none (-1) z.length).length == z.length) = true then Made.val (.str z t) else Made.str ⟨((Builtin.Str.strSliceIndices none none (-1) z.length).filterMap (z.cps[·]?)).toArray⟩) (EP X pins σ Q) _
  rw [if_neg (by rw [show ((-1 : Int) == 1) = false from rfl]; exact Bool.false_ne_true), picked_rev]
  refine ⟨?_, .str _, G4, I5.tok _, ⟨_, rfl⟩, q⟩
  rw [tx_len, List.length_reverse, Array.length_toList]
  exact hz
end
end Bd

namespace Bd
open PySem PySem.Spec PyProof.Rows L2
/-! ### a caught refusal that is kept in a name behind the suite -/
/-- a refusal of the class cls (it has no dict), at a -/
def ExK (cls : Value) (a : Addr) : HO := .ext fun h => ∃ (oe : Obj) (vs : Array Value), h.get? a = some oe ∧ Zc cls none oe ∧ oe.data = .fields vs
theorem exK_ok {P : Program} {w : World} {H : Hp} {h : Heap} {a : Addr} {cls : Value} {oe : Obj} {vs : Array Value} (e : h.get? a = some oe) (z : Zc cls none oe) (d : oe.data = .fields vs) : ObjOk P w H h a (ExK cls a) :=
  ⟨⟨oe, vs, e, z, d⟩, ⟨oe, e⟩, fun _ _ ⟨o, v, q, r⟩ k => ⟨o, v, k o q, r⟩⟩
section
variable {X : Cx} {pins : List (Addr × Obj)} {σ : L2.St} {H : Hp} {s : Shared}
/-- an object that stands already, of no one's, is tracked from here on -/
theorem track {a : Addr} {o : HO} {oe : Obj} {vs : Array Value} (I : Inv X pins σ H s) (e : s.heap.get? a = some oe) (d : oe.data = .fields vs) (na : H a = none) (n0 : X.s_0.heap.get? a = none) (nL : a ≠ X.env.locals)
    (np : ∀ p ∈ X.pn ++ pins, p.1 ≠ a) (new : ObjOk X.prog X.w (upd H a o) s.heap a o) : Inv X pins σ (upd H a o) s := by
  have off : ∀ {b : Addr} {u : HO}, H b = some u → upd H a o b = some u := fun {b u} q => by rw [upd_ne (ne_of_none q na)]; exact q
  refine { ok := I.ok, os := I.os, bare := I.bare, base := ?_, loc := I.loc, cell := I.cell, free := ?_, freeC := fun x c q => ?_, pin := fun p hp => ?_, hok := I.hok.laidN (fun _ _ q => q) na new, len := I.len }
  · refine { keep := I.base.keep, slot := I.base.slot, free := fun b u q n hx => ?_, there := I.base.there, tups := fun b xs q => off (I.base.tups b xs q), frzs := fun b u xs q => off (I.base.frzs b u xs q), tbls := fun b ps q => ?_ }
    · have nb : b ≠ a := fun z => by rw [z, n0] at q; cases q
      rw [upd_ne nb]
      exact I.base.free b u q n hx
    · obtain ⟨m, r⟩ := I.base.tbls b ps q
      exact ⟨m, off r⟩
  · rw [upd_ne (Ne.symm nL)]
    exact I.free
  · have nc : c ≠ a := fun z => by
      obtain ⟨v, oc, ho, hd⟩ := I.cell x c q
      rw [z, e] at ho
      cases ho
      rw [d] at hd
      cases hd
    rw [upd_ne nc]
    exact I.freeC x c q
  · obtain ⟨p1, p2, p3⟩ := I.pin p hp
    exact ⟨p1, by rw [upd_ne (np p hp)]; exact p2, p3⟩
end
/-- the wish of «except x as n»: the refusal is kept, tracked, behind the suite -/
def wKeep (K : PySem.W.Frag) (c : Value) (i : Nat) (ts : Addr → Value → TS) (D : Ends) : WX := fun cls d σ H =>
  PySem.W.exmOne K cls c = some true ∧ d = none ∧ ∀ a, H a = none → ts a cls { nx := fun σ' H' => H' a = none → D.nx (σ'.set i none) (upd H' a (ExK cls a)), rt := fun _ _ => False, bk := fun _ _ => False, ct := fun _ _ => False } (σ.set i (some (.ref a))) H
section
variable {X : Cx} {x n : Str} {c : Value} {i : Nat} {body suite : List Stmt} {b1 : Stmt} {np pos pos' : Pos} {tb : WX → TS} {ts : Addr → Value → TS}
theorem ps_try_keep (hst : X.stack = X.env :: X.outer) (hfr : X.env.frame = some X.env.locals) (hex : X.ex = []) (hN : X.N.Nodup) (hi : X.N[i]? = some n) (hln : X.env.kindOf n = some .local) (hc : Names X x c)
    (hb : ∀ (W : WX) (pn : List (Addr × Obj)) (xe : Value → Shared → Prop), Takes (X.tr pn xe) W → PassesOwn (model X.prog X.w) X.A X.env xe → PSs (X.tr pn xe) body (tb W))
    (hsu : ∀ (a : Addr) (oe : Obj) (cls : Value) (pn : List (Addr × Obj)), PSs (X.suite a ((a, oe) :: pn)) (b1 :: suite) (ts a cls)) :
    PS X (.Try body [.ExceptHandler (some (.Name x np)) (some n) (b1 :: suite) pos'] [] [] pos) (fun D σ H => tb (wKeep X.K c i ts D) D σ H) := by
  constructor
  intro pins s σ H D I h
  have ok := I.ok
  have frm : X.A.frames = some (X.env :: X.outer) := by rw [ok.frames, hst]
  refine wpAny_Try_except ?_
  let after : Value → Shared → Prop := fun e t1 => wpAny (model X.prog X.w) X.A (noteFrame e X.env) (fun _ t2 => wpAny (model X.prog X.w) X.A (setFlight e none) (fun _ t3 => wpAny (model X.prog X.w) X.A (handleBy e X.env [.ExceptHandler (some (.Name x np)) (some n) (b1 :: suite) pos']) (SP X pins D) X.xe t3) X.xe t2) X.xe t1
  have catch_ : Takes (X.tr (X.pn ++ pins) after) (wKeep X.K c i ts D) := by
    rintro u t ⟨a, B, sI, pins', σ1, H1, cls, d, rfl, J0, nb, up, sky, na, os, ag, hm, rfl, hsuite⟩
    have J : Inv X pins σ1 H1 sI := J0.ofTry ok
    show wpAny (model X.prog X.w) X.A (noteFrame (.ref a) X.env) _ _ _
    refine Sky.land Zc.steady frm hfr (show Sky B (X.env :: X.outer) a (Zc cls none) X.env.locals t.heap from hst ▸ sky) fun h3 fl up3 => ?_
    have J3 : Inv X pins σ1 H1 { t with heap := h3 } := J.landed nb fl.1 (up.trans up3) os ag
    obtain ⟨oe, vs, he, hz, hd⟩ := fl.there
    have nfr : a ∉ frs (X.env :: X.outer) := fun hm' => by
      obtain ⟨_, o', e', hnf⟩ := fl.2.2.1.mem hm'
      rw [he] at e'
      cases e'
      exact hnf _ hd
    have nL : a ≠ X.env.locals := fun z => nfr (List.mem_filterMap.mpr ⟨X.env, .head _, by rw [hfr, z]⟩)
    have nF : a ∉ X.fs := fun hm' => by
      obtain ⟨e1, m1, q1⟩ := List.mem_filterMap.mp hm'
      exact nfr (List.mem_filterMap.mpr ⟨e1, .tail _ m1, q1⟩)
    have nI : sI.heap.get? a = none := by
      cases q : sI.heap.get? a with
      | none => rfl
      | some o =>
        have z := nb a o q (by rw [hst]; exact nfr)
        rw [fl.2.1] at z
        cases z
    have n0 : X.s_0.heap.get? a = none := by
      cases q : X.s_0.heap.get? a with
      | none => rfl
      | some o =>
        obtain ⟨o', z⟩ := J.base.there a o q (by rw [hex]; exact fun z => nomatch z)
        rw [nI] at z
        cases z
    have npin : ∀ p ∈ X.pn ++ pins, p.1 ≠ a := fun p hp z => by
      have w := (J.pin p hp).1
      rw [z, nI] at w
      cases w
    have S3 := J3.suite he hd na nL nF
    refine wpAny_handleBy_cons (codeAny_handlers_test ?_) (by intro q; cases q)
    have LT : PySem.W.Looks (model X.prog X.w) h3 (typeOf (.ref a)) cls := fun A Q E t' k q => wpAny_typeOf_ref (k _ _ he) (by rw [hz.1]; exact q)
    have LM := PySem.W.exm_one (M := model X.prog X.w) J3.kIn LT hm
    have named : ∀ {Q E : Value → Shared → Prop}, Q c { t with heap := h3 } → wpAny (model X.prog X.w) (X.A.mark (some (.ref a))) (eval (.Name x np) X.env) Q E { t with heap := h3 } := fun {Q E} q => by
      obtain ⟨hg, hdb, hm' | ⟨hm', hv, hnn⟩⟩ := hc
      · exact ld_glob (X := X.suite a ((a, oe) :: (X.pn ++ pins))) S3 hg hm' q hdb
      · exact ld_blt (X := X.suite a ((a, oe) :: (X.pn ++ pins))) S3 hg hm' hv q hnn hdb
    refine named (LM.here (codeAny_handlers_suite_as ?_))
    refine HandSPX.lands_againZ fl fun h4 fl4 up4 => ?_
    have J4 : Inv X pins σ1 H1 { t with heap := h4 } := J.landed nb fl4.1 ((up.trans up3).trans up4) os ag
    obtain ⟨oe4, vs4, he4, hz4, hd4⟩ := fl4.there
    have S4 := J4.suite he4 hd4 na nL nF
    refine store_ok (X := X.suite a ((a, oe4) :: (X.pn ++ pins))) (v := .ref a) S4 hN hi (.inl hln) rfl (fun s5 S5 => ?_) (.inr hln)
    refine wpAny_mono ((hsu a oe4 cls (X.pn ++ pins)).run [] s5 _ H1 _ S5 (hsuite a na)) (fun f s6 hsp => ?_) (fun _ _ z => False.elim z)
    cases f with
    | next =>
      obtain ⟨σ6, H6, S6, q6⟩ := hsp
      obtain ⟨e6, n6, _⟩ := S6.pin (a, oe4) (List.mem_append_left _ (.head _))
      have J6 := track (S6.unsuite ok) e6 hd4 n6 n0 nL npin (exK_ok e6 hz4 hd4)
      exact gone_ok J6 hN hi hln fun s7 J7 => ⟨_, _, J7, q6 n6⟩
    | brk => obtain ⟨_, _, _, z⟩ := hsp; exact z.elim
    | cont => obtain ⟨_, _, _, z⟩ := hsp; exact z.elim
    | ret u => obtain ⟨_, _, _, _, _, z⟩ := hsp; exact z.elim
  refine wpAny_mono ((hb _ (X.pn ++ pins) after catch_ PassesOwn.looking).run [] s σ H D (I.toTry _) h) (fun f s1 hsp => ?_) (fun e s1 he => he)
  cases f with
  | next =>
    obtain ⟨σ', H', J', q⟩ := hsp
    exact wpAny_execs_nil ⟨σ', H', J'.ofTry ok, q⟩
  | brk => obtain ⟨σ', H', J', q⟩ := hsp; exact ⟨σ', H', J'.ofTry ok, q⟩
  | cont => obtain ⟨σ', H', J', q⟩ := hsp; exact ⟨σ', H', J'.ofTry ok, q⟩
  | ret u => obtain ⟨v, σ', H', J', r, q⟩ := hsp; exact ⟨v, σ', H', J'.ofTry ok, r, q⟩
end
/-! ### isinstance of a kept refusal -/
def rIsK (K : PySem.W.Frag) : List V → Hp → VK → Prop := fun xs H Q => ∃ (a D : Addr) (c : V) (cv : Value) (b : Bool), xs = [.ref a, c] ∧ ClsV c cv ∧ H a = some (ExK (.ref D) a) ∧ ExcC K D ∧ PySem.W.kitOne K (.ref D) cv = some b ∧ Q (.bl b) H
theorem call_isK {X : Cx} : CallR X (.builtin "isinstance") (rIsK X.K) := by
  intro pins s σ H xs us Q I r h
  obtain ⟨a, D, c, cv, b, rfl, hcv, ha, C, e, q⟩ := h
  obtain ⟨u1, u2, rfl, r1, r2⟩ := vals2 r
  cases (show u1 = Value.ref a from r1)
  have ec := hcv.eq r2
  subst ec
  obtain ⟨⟨oe, vs, hget, ⟨hz1, hz2⟩, hv⟩, _, _⟩ := (show ObjOk X.prog X.w H s.heap a (ExK (.ref D) a) from I.hok a _ ha)
  have J : PySem.W.InstAt s.heap a oe D none := by
    obtain ⟨oc, od, oda, osl⟩ := oe
    simp only at hz1 hz2 hv
    subst hz1 hz2 hv
    exact ⟨hget, rfl, rfl, trivial⟩
  exact PySem.W.kia_one (PySem.W.handS_kitx_exc C.hg C.hk C.hs C.hd C.ha C.hn C.ht C.hm) I.kIn J e (fun z => nomatch z) fun tk => ⟨.bl b, H, I.kept (t' := tk) fun _ _ z => z, rfl, q⟩
end Bd

namespace Bd
open PySem PySem.Spec PyProof.Rows L2
/-! ### lists of texts: min, sorted; the greatest letter of a text -/
abbrev vS (l : List Nat) : V := .str (tx l)
theorem vS_eq {l m : List Nat} : decide (vS l = vS m) = decide (l = m) := tx_eq
theorem readsAll_vS {h : Heap} : ∀ {ws : List (List Nat)} {us : List Value}, Vals (ws.map vS) us → ReadsAll h us (ws.map fun l => PyData.str (tx l)) []
  | [], us, r => by rw [List.map_nil] at r; cases r; exact .nil
  | l :: ws, us, r => by
    rw [List.map_cons] at r
    cases r with
    | cons r1 r2 =>
      obtain ⟨t, rfl⟩ := r1
      exact .cons (as := []) (Reads.str _ _) (readsAll_vS r2)
theorem eachIs_vS {h : Heap} : ∀ {ws : List (List Nat)} {us : List Value}, Vals (ws.map vS) us → PySem.W.EachIs (fun v (l : List Nat) => ∃ as, Reads h v (.str (tx l)) as) us ws
  | [], us, r => by rw [List.map_nil] at r; cases r; exact .nil
  | l :: ws, us, r => by
    rw [List.map_cons] at r
    cases r with
    | cons r1 r2 =>
      obtain ⟨t, rfl⟩ := r1
      exact .cons ⟨[], Reads.str _ _⟩ (eachIs_vS r2)
theorem eachIs_rel : ∀ {ws : List (List Nat)} {us : List Value}, Vals (ws.map vS) us → PySem.W.EachIs (fun v (l : List Nat) => RelV (vS l) v) us ws
  | [], us, r => by rw [List.map_nil] at r; cases r; exact .nil
  | l :: ws, us, r => by
    rw [List.map_cons] at r
    cases r with
    | cons r1 r2 => exact .cons r1 (eachIs_rel r2)
theorem vals_each : ∀ {ws : List (List Nat)} {us : List Value}, PySem.W.EachIs (fun v (l : List Nat) => RelV (vS l) v) us ws → Vals (ws.map vS) us
  | [], us, e => by cases e; exact .nil
  | l :: ws, us, e => by
    cases e with
    | cons r1 r2 => exact .cons r1 (vals_each r2)
/-- the least of some words -/
def leastW (w : List Nat) (r : List (List Nat)) : List Nat := r.foldl (fun m y => if y < m then y else m) w
theorem minD_texts : ∀ (r : List (List Nat)) (w : List Nat), PySem.W.minD (.str (tx w)) (r.map fun l => PyData.str (tx l)) = .str (tx (leastW w r))
  | [], _ => rfl
  | y :: r, w => by
    have e : PySem.W.minD (.str (tx w)) ((y :: r).map fun l => PyData.str (tx l)) = PySem.W.minD (if PySem.W.dataLt (.str (tx y)) (.str (tx w)) then .str (tx y) else .str (tx w)) (r.map fun l => PyData.str (tx l)) := rfl
    rw [e, PySem.W.dataLt_str, tx_cps, tx_cps]
    show _ = PyData.str (tx (leastW (if y < w then y else w) r))
    rw [← minD_texts r]
    by_cases c : y < w
    · rw [if_pos c, if_pos (decide_eq_true c)]
    · rw [if_neg c, if_neg (by rw [decide_eq_false c]; exact Bool.false_ne_true)]
def rMinW (K : PySem.W.Frag) : List V → Hp → VK → Prop := fun xs H Q => ∃ a w r, xs = [.ref a] ∧ SqL K H a ((w :: r).map vS) ∧ Q (vS (leastW w r)) H
def rSortW (K : PySem.W.Frag) : List V → Hp → VK → Prop := fun xs H Q => ∃ (a : Addr) (ws : List (List Nat)), xs = [V.ref a] ∧ SqL K H a (ws.map vS) ∧
  ∀ (ys : List (List Nat)) (p : Addr), ys.Perm ws → ys.Pairwise (· ≤ ·) → H p = none → Q (.ref p) (upd H p (.lst (ys.map vS)))
def topC (c : Nat) (r : List Nat) : Nat := r.foldl max c
def rMaxS : List V → Hp → VK → Prop := fun xs H Q => ∃ c r, xs = [vS (c :: r)] ∧ Q (vS [topC c r]) H
section
variable {X : Cx}
theorem call_minW (hc : X.calm = true) (hu : X.A.units + 64 < cLine) : CallR X (.builtin "min") (rMinW X.K) := by
  intro pins s σ H vs us Q I r h
  obtain ⟨a, w, ws, rfl, hs, q⟩ := h
  obtain ⟨its, rv, hl, hz⟩ := I.list hs
  rw [Vals.ref1 r]
  have ra : ReadsAll s.heap its.toArray.toList (PyData.str (tx w) :: ws.map fun l => PyData.str (tx l)) [] := by
    have := readsAll_vS (h := s.heap) rv
    simpa using this
  have dep : ∀ l : List (List Nat), PyData.depthAll (l.map fun l => PyData.str (tx l)) = 0 := fun l => by
    induction l with
    | nil => rfl
    | cons y l ih => simp [PyData.depthAll, PyData.depth, ih]
  refine PySem.W.min_list_data (I.ok.hd hc) hl.isList ra ⟨fun x hx y hy => ?_, fun x hx => ?_⟩ ?_ fun i v h' tk bs _ rd k => ?_
  · have e : ∀ x ∈ PyData.str (tx w) :: ws.map (fun l => PyData.str (tx l)), ∃ l, x = PyData.str l := fun x hx => by
      rcases List.mem_cons.mp hx with e | hx
      · exact ⟨_, e⟩
      · obtain ⟨l, _, e⟩ := List.mem_map.mp hx
        exact ⟨_, e.symm⟩
    obtain ⟨l, rfl⟩ := e x hx
    obtain ⟨m, rfl⟩ := e y hy
    rfl
  · rcases List.mem_cons.mp hx with e | hx
    · rw [e]; exact fun z => nomatch z
    · obtain ⟨l, _, e⟩ := List.mem_map.mp hx
      rw [← e]; exact fun z => nomatch z
  · have := dep (w :: ws)
    rw [List.map_cons] at this
    rw [this]
    omega
  · rw [minD_texts] at rd
    cases rd
    exact ⟨vS (leastW w ws), H, I.kept (t' := tk) k, ⟨_, rfl⟩, q⟩
theorem call_sortW (hu : X.A.units + 64 < cLine) : CallR X (.builtin "sorted") (rSortW X.K) := by
  intro pins s σ H vs us Q I r h
  obtain ⟨a, ws, rfl, hs, q⟩ := h
  obtain ⟨its, rv, hl, hz⟩ := I.list hs
  rw [Vals.ref1 r]
  have hlen : its.length = ws.length := by have := rv.length; rw [List.length_map] at this; exact this.symm
  rw [List.length_map] at hz
  refine PySem.W.sorted_data (enc := fun l : List Nat => PyData.str (tx l)) (R := fun v (l : List Nat) => RelV (vS l) v) hl.isList (eachIs_rel rv) (eachIs_vS rv) (fun d hd e he => ?_) (PySem.W.Sortable.others fun b => ⟨(fun z => nomatch z), (fun xs z => nomatch z)⟩) hz (fun b _ => ?_) fun out hl2 eo => ?_
  · obtain ⟨l, _, rfl⟩ := List.mem_map.mp hd
    obtain ⟨m, _, rfl⟩ := List.mem_map.mp he
    rfl
  · show X.A.units + 2 + 0 < _
    omega
  · rw [PySem.W.dataLe_str] at eo
    simp only [tx_cps] at eo
    obtain ⟨ep, he'⟩ := PyProof.Rows.sortedAll_at s.heap its out.toArray
    have hp := List.mergeSort_perm ws (fun a b => decide (a ≤ b))
    have ho : (ws.mergeSort fun a b => decide (a ≤ b)).Pairwise (· ≤ ·) := by
      have := List.pairwise_mergeSort (le := fun a b : List Nat => decide (a ≤ b)) (fun a b c h1 h2 => decide_eq_true (List.le_trans (of_decide_eq_true h1) (of_decide_eq_true h2)))
        (fun a b => by
          rcases List.le_total a b with h | h
          · rw [decide_eq_true h]; rfl
          · rw [decide_eq_true h, Bool.or_true]) ws
      exact this.imp fun h => of_decide_eq_true h
    refine ⟨.ref _, upd H (s.heap.objs.size + 1) (.lst (_root_.List.map vS (ws.mergeSort fun a b => decide (a ≤ b)))), I.laid (t' := s.toks) (fun _ _ => PyProof.Rows.sortedAll_old) (Nat.le_succ _) ⟨?_, out, ep, vals_each eo, he'⟩, rfl, q _ _ hp ho (I.hok.fresh (Nat.le_succ _))⟩
    rw [List.length_map, hp.length_eq]
    exact hz
/-! max of a text: the greatest of its signs -/
theorem argBest_top (c : Nat) (r : List Nat) : ∀ k, k ≤ r.length → argBest (fun i j => decide ((c :: r).getD j 0 < (c :: r).getD i 0)) k ≤ k ∧ (c :: r).getD (argBest (fun i j => decide ((c :: r).getD j 0 < (c :: r).getD i 0)) k) 0 = topC c (r.take k)
  | 0, _ => ⟨Nat.le_refl _, rfl⟩
  | k + 1, hk => by
    obtain ⟨h1, h2⟩ := argBest_top c r k (by omega)
    have e : argBest (fun i j => decide ((c :: r).getD j 0 < (c :: r).getD i 0)) (k + 1) = if decide ((c :: r).getD (argBest (fun i j => decide ((c :: r).getD j 0 < (c :: r).getD i 0)) k) 0 < (c :: r).getD (k + 1) 0) = true then k + 1 else argBest (fun i j => decide ((c :: r).getD j 0 < (c :: r).getD i 0)) k := rfl
    have g : (c :: r).getD (k + 1) 0 = r[k] := by
      have hk' : k < r.length := hk
      simp [List.getD, List.getElem?_eq_getElem hk']
    have t : topC c (r.take (k + 1)) = max (topC c (r.take k)) r[k] := by
      unfold topC
      rw [List.take_succ_eq_append_getElem hk, List.foldl_append]
      rfl
    rw [e, t]
    by_cases q : topC c (r.take k) < r[k]
    · rw [h2, g, decide_eq_true q, if_pos rfl, g]
      exact ⟨Nat.le_refl _, by omega⟩
    · rw [h2, g, decide_eq_false q, if_neg Bool.false_ne_true, h2]
      exact ⟨by omega, by omega⟩
theorem call_maxS (hc : X.calm = true) : CallR X (.builtin "max") rMaxS := by
  intro pins s σ H vs us Q I r h
  obtain ⟨c, ws, rfl, q⟩ := h
  obtain ⟨u, rfl, t, rfl⟩ := vals1 r
  have hsz : (tx (c :: ws)).cps.size = ws.length + 1 := by simp
  refine call_max_walk (wpAny_pyIter_str fun o St W st => ?_)
  refine ⟨_, _, _, _, _, _, (fun i j => decide ((c :: ws).getD j 0 < (c :: ws).getD i 0)), rfl, W X.A.in1 (I.ok.hd hc), st, fun b hb => ?_, by omega, fun i j vi vj s' Q' E' hi hj hq => ?_, fun v h' tk hP k => ?_⟩
  · have e : b = s.heap.objs.size := by simpa using hb
    rw [e, Heap.size_push]
    exact Nat.lt_succ_self _
  · obtain ⟨ci, ti, gi, rfl⟩ := hi
    obtain ⟨cj, tj, gj, rfl⟩ := hj
    have ei : (c :: ws).getD i 0 = ci := by
      have : (c :: ws)[i]? = some ci := by simpa using gi
      rw [List.getD_eq_getElem?_getD, this]; rfl
    have ej : (c :: ws).getD j 0 = cj := by
      have : (c :: ws)[j]? = some cj := by simpa using gj
      rw [List.getD_eq_getElem?_getD, this]; rfl
    have hq : Q' (.bool (decide ((c :: ws).getD j 0 < (c :: ws).getD i 0))) s' := hq
    rw [ei, ej] at hq
    have e2 : decide (([cj] : List Nat) < [ci]) = decide (cj < ci) := by
      refine decide_eq_decide.mpr ⟨fun w => ?_, fun z => List.Lex.rel z⟩
      cases w with
      | rel w => exact w
      | cons w => cases w
    refine PySem.P.gt_str ?_
    show Q' (.bool (decide (([cj] : List Nat) < [ci]))) s'
    rw [e2]
    exact hq
  · obtain ⟨cb, tb, gb, rfl⟩ := hP
    rw [hsz] at gb
    obtain ⟨_, e2⟩ := argBest_top c ws ws.length (Nat.le_refl _)
    rw [List.take_length] at e2
    have e3 : cb = topC c ws := by
      rw [← e2]
      have : (c :: ws)[argBest (fun i j => decide ((c :: ws).getD j 0 < (c :: ws).getD i 0)) ws.length]? = some cb := by simpa using gb
      rw [List.getD_eq_getElem?_getD, this]; rfl
    subst e3
    refine ⟨vS [topC c ws], H, I.kept (t' := tk) fun b o e => k b o (fun hb => ?_) (Heap.get?_push_of_some _ e), ⟨_, rfl⟩, q⟩
    have e4 : b = s.heap.objs.size := by simpa using hb
    rw [e4] at e
    exact absurd (Heap.lt_size e) (Nat.lt_irrefl _)
end
end Bd

namespace Bd
open PySem PySem.Spec PyProof.Rows L2
/-! ### the head's facts with one more Bool -/
def hookB (n : Nat) (fa : List He.Fa) (fn : List He.DefD) (bx : PySem.W.Frag → Bool) : PySem.W.Hook where
  α := He.AlD × Bool
  obs := fun s => (He.obsDG n fa fn s.heap.get?, bx (He.frG s.heap.get? (He.asD s.heap.get? n)))
  val := fun _ => (He.valD fn, true)
  says := fun _ h => ∃ K : PySem.W.Frag, K.In h ∧ He.SaysD fa fn K ∧ bx K = true
  of := fun _ _ e => ⟨_, He.frG_in, congrArg Prod.fst e, congrArg Prod.snd e⟩
  keeps := fun _ _ _ ⟨K, hK, c, d⟩ k => ⟨K, PySem.W.Frag.In.keeps hK k, c, d⟩
def obB (n : Nat) (fa : List He.Fa) (fn : List He.DefD) (bx : PySem.W.Frag → Bool) (s : PySem.W.SharedT) : He.AlD × Bool :=
  (He.obsDG n fa fn (HandSHeadRun.getT s), bx (He.frG (HandSHeadRun.getT s) (He.asD (HandSHeadRun.getT s) n)))
theorem obB_eq (n : Nat) (fa : List He.Fa) (fn : List He.DefD) (bx : PySem.W.Frag → Bool) (s : PySem.W.SharedT) : obB n fa fn bx s = (hookB n fa fn bx).obs s.abs := by
  have e : HandSHeadRun.getT s = s.abs.heap.get? := funext (HandSHeadRun.getT_eq s)
  show (He.obsDG n fa fn (HandSHeadRun.getT s), bx (He.frG (HandSHeadRun.getT s) (He.asD (HandSHeadRun.getT s) n))) = _
  rw [e] <;> rfl
/-- the five classes of a refusal, asked by isinstance -/
def five : List Str := ["BadNumber", "BadRing", "BadWord", "NoRing", "TooMany"]
def excB (K : PySem.W.Frag) (D : Addr) : Bool :=
  decide (PySem.W.findIn K (.ref D) "__getattribute__" = some (some (.builtin "BaseException.__getattribute__"))) && (decide (PySem.W.findIn K (.ref D) "__getattr__" = some none) &&
  (decide (PySem.W.subIn K (.ref D) (.type "BaseException") = some true) && (PySem.W.hasDictIn K D && (decide (PySem.W.findIn K (.ref D) "__class__" = some (some (.builtin "object.__class__"))) &&
  (decide (PySem.W.specialIn K (.builtin "object.__class__") "__get__" = some (some (.builtin "getset_descriptor.__get__"))) && (decide (PySem.W.takesIn K (.builtin "object.__class__") = some true) && decide (PySem.W.mroIn K D (.type "object") = some true)))))))
theorem excB_ok {K : PySem.W.Frag} {D : Addr} (h : excB K D = true) : ExcC K D := by
  unfold excB at h
  simp only [Bool.and_eq_true, decide_eq_true_eq] at h
  obtain ⟨h1, h2, h3, h4, h5, h6, h7, h8⟩ := h
  exact ⟨h1, h2, h3, h4, h5, h6, h7, h8⟩
def isB (K : PySem.W.Frag) (x : Str) : Bool := excB K (He.ga K x) && (decide (PySem.W.kitOne K (.ref (He.ga K x)) (.type "ValueError") = some true) && five.all fun y => decide (PySem.W.kitOne K (.ref (He.ga K x)) (.ref (He.ga K y)) = some (decide (x = y))))
/-- what isinstance tells of a refusal of the class x -/
structure IsC (K : PySem.W.Frag) (x : Str) : Prop where
  ex : ExcC K (He.ga K x)
  ve : PySem.W.kitOne K (.ref (He.ga K x)) (.type "ValueError") = some true
  own : ∀ y ∈ five, PySem.W.kitOne K (.ref (He.ga K x)) (.ref (He.ga K y)) = some (decide (x = y))
theorem isB_ok {K : PySem.W.Frag} {x : Str} (h : isB K x = true) : IsC K x := by
  unfold isB at h
  simp only [Bool.and_eq_true, decide_eq_true_eq, List.all_eq_true] at h
  exact ⟨excB_ok h.1, h.2.1, fun y hy => h.2.2 y hy⟩
def bxAll (K : PySem.W.Frag) : Bool := five.all fun x => isB K x
def bxNo (_ : PySem.W.Frag) : Bool := true
end Bd

namespace Bd
open PySem PySem.Spec PyProof.Rows L2 Evl
/-! ### the built-in names that the text leaves as they are -/
structure Blt (mg : Str → Option Value) : Prop where
  len : mg "len" = none
  range : mg "range" = none
  isinstance : mg "isinstance" = none
  str : mg "str" = none
  int : mg "int" = none
  bool : mg "bool" = none
  list : mg "list" = none
  all : mg "all" = none
  min : mg "min" = none
  max : mg "max" = none
  sorted : mg "sorted" = none
  repr : mg "repr" = none
  enumerate : mg "enumerate" = none
  zip : mg "zip" = none
  sum : mg "sum" = none
  set : mg "set" = none
  reversed : mg "reversed" = none
  ValueError : mg "ValueError" = none
def bltNames : List Str := ["len", "range", "isinstance", "str", "int", "bool", "list", "all", "min", "max", "sorted", "repr", "enumerate", "zip", "sum", "set", "reversed", "ValueError"]
/-- a class of a refusal -/
structure Err (K : PySem.W.Frag) (mg : Str → Option Value) (x : Str) : Prop where
  g : mg x = some (.ref (He.ga K x))
  ex : PySem.W.excIn K (He.ga K x) He.veBase "ValueError.__new__" = true
  kp : PySem.W.keepIn K (.ref (He.ga K x)) = true
  sb : PySem.W.subIn K (.ref (He.ga K x)) (.type "BaseException") = some true
  ty : PySem.W.typeIn K (.ref (He.ga K x)) = some (.type "type")
  em : PySem.W.exmOne K (.ref (He.ga K x)) (.ref (He.ga K "BeadError")) = some true
/-! ### things of a known kind -/
inductive Thing (H : Hp) : V → Prop where
  | non : Thing H .non
  | bl (b : Bool) : Thing H (.bl b)
  | int (i : Int) : Thing H (.int i)
  | txt (l : List Nat) (h : l.length ≤ 1000) : Thing H (vS l)
  | lst {a : Addr} {xs : List V} (e : H a = some (.lst xs)) : Thing H (.ref a)
  | tup {a : Addr} {xs : List V} (e : H a = some (.tup xs)) : Thing H (.ref a)
  | dct {a : Addr} {kvs : List (Key × V)} (e : H a = some (.dK kvs)) : Thing H (.ref a)
theorem Thing.mono {H H' : Hp} {v : V} (t : Thing H v) (e : Ex H H') : Thing H' v := by
  cases t with
  | non => exact .non
  | bl b => exact .bl b
  | int i => exact .int i
  | txt l h => exact .txt l h
  | lst q => exact .lst (e _ _ q)
  | tup q => exact .tup (e _ _ q)
  | dct q => exact .dct (e _ _ q)
def isStr : V → Bool
  | .str _ => true
  | _ => false
def isInt : V → Bool
  | .int _ => true
  | .bl _ => true
  | _ => false
def isBl : V → Bool
  | .bl _ => true
  | _ => false
section
variable {K : PySem.W.Frag} {H : Hp} {v : V} {Q : VK}
theorem isi_str (t : Thing H v) (q : Q (.bl (isStr v)) H) : rIsi K [v, .ty "str"] H Q := by
  cases t with
  | non => exact ⟨_, _, _, _, _, rfl, .ty _, .base .non, kit_ty (r := false) (b := "str") (by decide +kernel), q⟩
  | bl b => exact ⟨_, _, _, _, _, rfl, .ty _, .base (.bl _), kit_ty (r := false) (b := "str") (by decide +kernel), q⟩
  | int i => exact ⟨_, _, _, _, _, rfl, .ty _, .base (.int _), kit_ty (r := false) (b := "str") (by decide +kernel), q⟩
  | txt l h => exact ⟨_, _, _, _, _, rfl, .ty _, .base (.str _), kit_ty (r := true) (b := "str") (by decide +kernel), q⟩
  | lst e => exact ⟨_, _, _, _, _, rfl, .ty _, .base (.lst e), kit_ty (r := false) (b := "str") (by decide +kernel), q⟩
  | tup e => exact ⟨_, _, _, _, _, rfl, .ty _, .base (.tup e), kit_ty (r := false) (b := "str") (by decide +kernel), q⟩
  | dct e => exact ⟨_, _, _, _, _, rfl, .ty _, .base (.dK e), kit_ty (r := false) (b := "str") (by decide +kernel), q⟩
theorem isi_int (t : Thing H v) (q : Q (.bl (isInt v)) H) : rIsi K [v, .ty "int"] H Q := by
  cases t with
  | non => exact ⟨_, _, _, _, _, rfl, .ty _, .base .non, kit_ty (r := false) (b := "int") (by decide +kernel), q⟩
  | bl b => exact ⟨_, _, _, _, _, rfl, .ty _, .base (.bl _), kit_ty (r := true) (b := "int") (by decide +kernel), q⟩
  | int i => exact ⟨_, _, _, _, _, rfl, .ty _, .base (.int _), kit_ty (r := true) (b := "int") (by decide +kernel), q⟩
  | txt l h => exact ⟨_, _, _, _, _, rfl, .ty _, .base (.str _), kit_ty (r := false) (b := "int") (by decide +kernel), q⟩
  | lst e => exact ⟨_, _, _, _, _, rfl, .ty _, .base (.lst e), kit_ty (r := false) (b := "int") (by decide +kernel), q⟩
  | tup e => exact ⟨_, _, _, _, _, rfl, .ty _, .base (.tup e), kit_ty (r := false) (b := "int") (by decide +kernel), q⟩
  | dct e => exact ⟨_, _, _, _, _, rfl, .ty _, .base (.dK e), kit_ty (r := false) (b := "int") (by decide +kernel), q⟩
theorem isi_bool (t : Thing H v) (q : Q (.bl (isBl v)) H) : rIsi K [v, .ty "bool"] H Q := by
  cases t with
  | non => exact ⟨_, _, _, _, _, rfl, .ty _, .base .non, kit_ty (r := false) (b := "bool") (by decide +kernel), q⟩
  | bl b => exact ⟨_, _, _, _, _, rfl, .ty _, .base (.bl _), kit_ty (r := true) (b := "bool") (by decide +kernel), q⟩
  | int i => exact ⟨_, _, _, _, _, rfl, .ty _, .base (.int _), kit_ty (r := false) (b := "bool") (by decide +kernel), q⟩
  | txt l h => exact ⟨_, _, _, _, _, rfl, .ty _, .base (.str _), kit_ty (r := false) (b := "bool") (by decide +kernel), q⟩
  | lst e => exact ⟨_, _, _, _, _, rfl, .ty _, .base (.lst e), kit_ty (r := false) (b := "bool") (by decide +kernel), q⟩
  | tup e => exact ⟨_, _, _, _, _, rfl, .ty _, .base (.tup e), kit_ty (r := false) (b := "bool") (by decide +kernel), q⟩
  | dct e => exact ⟨_, _, _, _, _, rfl, .ty _, .base (.dK e), kit_ty (r := false) (b := "bool") (by decide +kernel), q⟩
theorem isi_list {a : Addr} {xs : List V} (e : SqL K H a xs) (q : Q (.bl true) H) : rIsi K [.ref a, .ty "list"] H Q := by
  rcases e with (h | ⟨o, h⟩) | ⟨o, its, n, h1, h2, h3, h4, h5, h6⟩
  · exact ⟨_, _, _, _, _, rfl, .ty _, .base (.lst h), kit_ty (r := true) (b := "list") (by decide +kernel), q⟩
  · exact ⟨_, _, _, _, _, rfl, .ty _, .base (.frz h), kit_ty (r := true) (b := "list") (by decide +kernel), q⟩
  · exact ⟨_, _, _, _, _, rfl, .ty _, .kList h1 h2, kit_ty (r := true) (b := "list") (by decide +kernel), q⟩
end
/-! ### words -/
def letterB (c : Nat) : Bool := decide (97 ≤ c) && decide (c ≤ 104)
def wordB (l : List Nat) : Bool := decide (1 ≤ l.length) && decide (l.length ≤ 60) && l.all letterB
abbrev IsW (l : List Nat) : Prop := wordB l = true
def wordV : V → Bool
  | .str z => wordB z.cps.toList
  | _ => false
theorem wordV_vS (l : List Nat) : wordV (vS l) = wordB l := by simp [wordV]
theorem IsW.pos {l : List Nat} (h : IsW l) : 1 ≤ l.length := by
  simp only [IsW, wordB, Bool.and_eq_true, decide_eq_true_eq] at h
  exact h.1.1
theorem IsW.le {l : List Nat} (h : IsW l) : l.length ≤ 60 := by
  simp only [IsW, wordB, Bool.and_eq_true, decide_eq_true_eq] at h
  exact h.1.2
theorem IsW.let_ {l : List Nat} (h : IsW l) : ∀ c ∈ l, 97 ≤ c ∧ c ≤ 104 := fun c hc => by
  simp only [IsW, wordB, Bool.and_eq_true, decide_eq_true_eq, List.all_eq_true] at h
  have := h.2 c hc
  simp only [letterB, Bool.and_eq_true, decide_eq_true_eq] at this
  exact this
theorem IsW.mk {l : List Nat} (h1 : 1 ≤ l.length) (h2 : l.length ≤ 60) (h3 : ∀ c ∈ l, 97 ≤ c ∧ c ≤ 104) : IsW l := by
  simp only [IsW, wordB, Bool.and_eq_true, decide_eq_true_eq, List.all_eq_true, letterB]
  exact ⟨⟨h1, h2⟩, h3⟩
theorem letters_list : ("abcdefgh" : Str).cps.toList = [97, 98, 99, 100, 101, 102, 103, 104] := by decide
theorem letter_in (c : Nat) : decide (c ∈ ("abcdefgh" : Str).cps.toList) = letterB c := by
  rw [letters_list, letterB, ← Bool.decide_and]
  refine decide_eq_decide.mpr ⟨fun h => ?_, fun h => ?_⟩
  · simp only [List.mem_cons, List.not_mem_nil, or_false] at h
    omega
  · simp only [List.mem_cons, List.not_mem_nil, or_false]
    omega
theorem szl {n : Nat} (h : n ≤ 100000) : n ≤ sizeLine := by rw [sizeLine_eq]; omega
theorem szlt {n : Nat} (h : n < 100000) : n < sizeLine := by rw [sizeLine_eq]; omega
/-! ### slices of texts -/
theorem six_nat (n d i : Nat) : HT.sIx n d (some (i : Int)) = min i n := HT.sIx_nat n d i
theorem cut_to (l : List Nat) (i : Nat) : cutS (tx l) none (some (i : Int)) = tx (l.take i) := by
  unfold cutS
  rw [six_nat, HT.sIx_none, tx_cps, tx_len]
  simp [List.take_eq_take_iff]
theorem cut_from (l : List Nat) (i : Nat) : cutS (tx l) (some (i : Int)) none = tx (l.drop i) := by
  unfold cutS
  rw [six_nat, HT.sIx_none, tx_cps, tx_len]
  refine congrArg (fun z : List Nat => tx z) ?_
  by_cases h : i ≤ l.length
  · rw [Nat.min_eq_left h, List.take_of_length_le (by rw [List.length_drop]; exact Nat.le_refl _)]
  · rw [Nat.min_eq_right (by omega), List.drop_eq_nil_of_le (by omega), List.drop_eq_nil_of_le (by omega)]
    simp
theorem cut_mid (l : List Nat) (i j : Nat) : cutS (tx l) (some (i : Int)) (some (j : Int)) = tx ((l.drop i).take (j - i)) := by
  unfold cutS
  rw [six_nat, six_nat, tx_cps, tx_len]
  refine congrArg (fun z : List Nat => tx z) ?_
  by_cases h : i ≤ l.length
  · rw [Nat.min_eq_left h]
    by_cases h2 : j ≤ l.length
    · rw [Nat.min_eq_left h2]
    · rw [Nat.min_eq_right (show l.length ≤ j by omega), List.take_of_length_le (by rw [List.length_drop]; exact Nat.le_refl _), List.take_of_length_le (by rw [List.length_drop]; omega)]
  · rw [Nat.min_eq_right (show l.length ≤ i by omega), List.drop_eq_nil_of_le (Nat.le_refl _), List.drop_eq_nil_of_le (by omega)]
    simp
/-- a text turned -/
def turn (l : List Nat) (i : Nat) : List Nat := l.drop i ++ l.take i
theorem turn_len (l : List Nat) (i : Nat) : (turn l i).length = l.length := by
  unfold turn
  rw [List.length_append, List.length_drop, List.length_take]
  omega
theorem turn_mem {l : List Nat} {i c : Nat} (h : c ∈ turn l i) : c ∈ l := by
  unfold turn at h
  rcases List.mem_append.mp h with h | h
  · exact List.mem_of_mem_drop h
  · exact List.mem_of_mem_take h
theorem IsW.turn {l : List Nat} (h : IsW l) (i : Nat) : IsW (turn l i) :=
  IsW.mk (by rw [turn_len]; exact h.pos) (by rw [turn_len]; exact h.le) fun c hc => h.let_ c (turn_mem hc)
/-! ### comprehensions over texts -/
section
variable {K : PySem.W.Frag} {σ : L2.St} {H : Hp} {te tx' : TE} {t : TT}
theorem ev_callS {sp : Sp} {vs : List V} {E : L2.St → XK} {ta : TA} {z : V} (h : EvA ta σ H vs) (hs : ∀ H1, Ex H H1 → ∀ Q : VK, (∀ H2, Ex H1 H2 → Q z H2) → ∀ E : XK, sp vs H1 Q E) : Ev (tCallS sp E ta) σ H z := fun H1 e Q q =>
  h H1 e _ fun H2 e2 => hs H2 (e.trans e2) Q (fun H3 e3 => q H3 (e2.trans e3)) _
theorem el_lcS {j : Nat} {vs : List Nat} {l : List Nat} (f : Nat → Bool) (v : Nat → V) (h : Ev tx' σ H (vS l)) (hz : l.length ≤ 40000) (hw : ∀ x, wipe ((wipe σ vs).set j (some x)) vs = wipe σ vs)
    (ht : ∀ (i : Nat) (c : Nat) H1, Ex H H1 → l[i]? = some c → EvT t ((wipe σ vs).set j (some (vS [c]))) H1 (f i)) (he : ∀ (i : Nat) (c : Nat) H1, Ex H H1 → l[i]? = some c → f i = true → Ev te ((wipe σ vs).set j (some (vS [c]))) H1 (v i)) :
    EvL (tLc (iStr tx') (gName j) t te vs) σ H (given l.length f v) := fun H0 e Q q => h H0 e _ fun H1 e1 => ⟨tx l, rfl, fun D hD => by
  refine ⟨fun i m H' => m = l.length - i ∧ i ≤ l.length ∧ Cw H1 f v D i H', ⟨l.length, by simp, Nat.zero_le _, hD, Ex.new hD, upd_same⟩, ?_⟩
  rintro i m H' ⟨rfl, hi, p⟩
  by_cases hlt : i < l.length
  · refine .inr ⟨?_, fun H2 => Cw H1 f v D (i + 1) H2, fun H2 p2 => ⟨l.length - (i + 1), by omega, rfl, hlt, p2⟩, fun x H2 y => ?_⟩
    · show i < (tx l).length
      rw [tx_len]
      exact hlt
    · obtain ⟨rfl, c, hc, rfl⟩ := y
      have hc' : l[i]? = some c := by simpa using hc
      exact ⟨hw _, cw_turn p (by omega) (ht i c H1 (e.trans e1) hc') fun hf => he i c H1 (e.trans e1) hc' hf⟩
  · have : i = l.length := by omega
    subst this
    exact .inl ⟨by show (tx l).length ≤ l.length; rw [tx_len]; exact Nat.le_refl _, q D H' (fresh_back e1 p.1) (e1.trans p.2.1) p.2.2⟩⟩
end
/-- the law, called with the script: True -/
def sp_law (K : PySem.W.Frag) : Sp := fun vs H Q _ => ∃ (a : Addr) (ns : List Int), vs = [.ref a] ∧ SqL K H a (ns.map V.int) ∧ ns.length ≤ 63 ∧ ∀ H', Q (.bl true) H'
end Bd

namespace Bd
open PySem PySem.Spec PyProof.Rows L2 Evl
/-- int of a bool -/
theorem call_intB {X : Cx} : CallR X (.type "int") (fun xs H Q => ∃ k, xs = [.bl k] ∧ Q (.int (if k then 1 else 0)) H) := fun pins s σ H xs us Q I r h => by
  obtain ⟨k, e, q⟩ := h
  exact call_int1 pins s σ H xs us Q I r (.inr ⟨k, e, q⟩)
/-! ### new lists on the way -/
theorem el_cat {σ : L2.St} {H : Hp} {t1 t2 : TE} {xs ys : List V} (h1 : EvL t1 σ H xs) (h2 : EvL t2 σ H ys) (hz : xs.length + ys.length ≤ 100000) : EvL (tOp rCat t1 t2) σ H (xs ++ ys) := fun H1 e Q q =>
  h1 H1 e _ fun p H2 hp e2 hx => h2 H2 (e.trans e2) _ fun p' H3 hp' e3 hy => ⟨p, p', xs, ys, rfl, rfl, e3 p _ hx, hy, szl hz, fun r hr => q r _ (fresh_back (e2.trans e3) hr) ((e2.trans e3).trans (Ex.new hr)) upd_same⟩
theorem el_catV {σ : L2.St} {H : Hp} {i : Nat} {a : Addr} {t2 : TE} {xs ys : List V} (hv : σ[i]? = some (some (.ref a))) (hx : H a = some (.lst xs)) (h2 : EvL t2 σ H ys) (hz : xs.length + ys.length ≤ 100000) : EvL (tOp rCat (tVar i) t2) σ H (xs ++ ys) := fun H1 e Q q =>
  ⟨_, hv, h2 H1 e _ fun p' H3 hp' e3 hy => ⟨a, p', xs, ys, rfl, rfl, e3 a _ (e a _ hx), hy, szl hz, fun r hr => q r _ (fresh_back e3 hr) (e3.trans (Ex.new hr)) upd_same⟩⟩
/-- [..] * int(..) -/
theorem el_rep {σ : L2.St} {H : Hp} {t1 t2 : TE} {xs : List V} {b : Bool} (h1 : EvL t1 σ H xs) (h2 : Ev t2 σ H (.bl b)) (hz : xs.length ≤ 100000) :
    EvL (tOp rRep t1 (tCB (fun vs H Q => ∃ k, vs = [V.bl k] ∧ Q (.int (if k then 1 else 0)) H) (tCons t2 tNil))) σ H (if b then xs else []) := fun H1 e Q q =>
  h1 H1 e _ fun p H2 hp e2 hx => h2 H2 (e.trans e2) _ fun H3 e3 => ⟨b, rfl, p, _, xs, rfl, rfl, e3 p _ hx, by cases b <;> decide, by cases b <;> decide, szl (by cases b <;> simp <;> omega), fun r hr => by
    have e4 : (List.replicate ((if b = true then (1 : Int) else 0)).toNat xs).flatten = if b then xs else [] := by cases b <;> simp
    rw [e4]
    exact q r _ (fresh_back (e2.trans e3) hr) ((e2.trans e3).trans (Ex.new hr)) upd_same⟩
theorem ev_yes {σ : L2.St} {H : Hp} : EvT tYes σ H true := fun H1 _ _ q => q H1 (Ex.refl _)
/-! ### loops, by an invariant over turn, slots and heap -/
section
variable {K : PySem.W.Frag} {σ : L2.St} {H : Hp} {g : TG} {tb : TS} {D : Ends}
theorem for_L {tl : TE} {a : Addr} {xs : List V} (src : ∀ R : VK, R (.ref a) H → tl σ H R) (hx : SqL K H a xs) (Pv : Nat → L2.St → Hp → Prop) (h0 : Pv 0 σ H) (hl : ∀ i σ' H', i ≤ xs.length → Pv i σ' H' → SqL K H' a xs)
    (hs : ∀ i x σ' H', xs[i]? = some x → Pv i σ' H' → g x σ' H' fun σ2 H2 => tb { D with nx := Pv (i + 1), ct := Pv (i + 1), bk := D.nx } σ2 H2) (hd : ∀ σ' H', Pv xs.length σ' H' → D.nx σ' H') : tFor (iList K tl) g tb D σ H :=
  src _ ⟨a, rfl, ⟨xs, hx⟩, for_list Pv h0 hl hs hd⟩
theorem for_T {tl : TE} {H1 : Hp} {a : Addr} {xs : List V} (src : ∀ R : VK, R (.ref a) H1 → tl σ H R) (hx : SqT K H1 a xs) (Pv : Nat → L2.St → Hp → Prop) (h0 : Pv 0 σ H1) (hl : ∀ i σ' H', i ≤ xs.length → Pv i σ' H' → SqT K H' a xs)
    (hs : ∀ i x σ' H', xs[i]? = some x → Pv i σ' H' → g x σ' H' fun σ2 H2 => tb { D with nx := Pv (i + 1), ct := Pv (i + 1), bk := D.nx } σ2 H2) (hd : ∀ σ' H', Pv xs.length σ' H' → D.nx σ' H') : tFor (iTup K tl) g tb D σ H :=
  src _ ⟨a, rfl, ⟨xs, hx⟩, for_tup Pv h0 hl hs hd⟩
/-- for x in range(n) -/
theorem for_R1 {ta : TA} {n : Nat} (src : ∀ R : List V → Hp → Prop, R [.int (n : Int)] H → ta σ H R) (hn : n ≤ 1000000) (Pv : Nat → L2.St → Hp → Prop) (h0 : Pv 0 σ H)
    (hs : ∀ (i : Nat) σ' H', i < n → Pv i σ' H' → g (.int (i : Int)) σ' H' fun σ2 H2 => tb { D with nx := Pv (i + 1), ct := Pv (i + 1), bk := D.nx } σ2 H2) (hd : ∀ σ' H', Pv n σ' H' → D.nx σ' H') : tFor (iRng1 ta) g tb D σ H :=
  src _ ⟨(n : Int), rfl, by omega, by omega, for_range (lo := 0) (n := ((n : Int)).toNat) Pv h0 (fun i σ' H' hi p => by
    rw [Int.zero_add]
    exact hs i σ' H' (by omega) p) (by rw [Int.toNat_natCast]; exact hd)⟩
/-- for x in range(a, b) -/
theorem for_R2 {ta : TA} {lo n : Nat} (src : ∀ R : List V → Hp → Prop, R [.int (lo : Int), .int ((lo + n : Nat) : Int)] H → ta σ H R) (hn : lo + n ≤ 1000000) (Pv : Nat → L2.St → Hp → Prop) (h0 : Pv 0 σ H)
    (hs : ∀ (i : Nat) σ' H', i < n → Pv i σ' H' → g (.int ((lo + i : Nat) : Int)) σ' H' fun σ2 H2 => tb { D with nx := Pv (i + 1), ct := Pv (i + 1), bk := D.nx } σ2 H2) (hd : ∀ σ' H', Pv n σ' H' → D.nx σ' H') : tFor (iRng2 ta) g tb D σ H :=
  src _ ⟨(lo : Int), ((lo + n : Nat) : Int), rfl, ⟨by omega, by omega, by omega, by omega⟩, for_range (lo := (lo : Int)) (n := (((lo + n : Nat) : Int) - (lo : Int)).toNat) Pv h0 (fun i σ' H' hi p => by
    have e : (lo : Int) + (i : Int) = ((lo + i : Nat) : Int) := by omega
    rw [e]
    exact hs i σ' H' (by omega) p) (by rw [show (((lo + n : Nat) : Int) - (lo : Int)).toNat = n by omega]; exact hd)⟩
/-- for i, x in enumerate(a list): the turns -/
theorem for_enum {a : Addr} {xs : List V} (Pv : Nat → L2.St → Hp → Prop) (h0 : Pv 0 σ H) (hl : ∀ i σ' H', i ≤ xs.length → Pv i σ' H' → SqL K H' a xs)
    (hs : ∀ i x σ' H' p, xs[i]? = some x → Pv i σ' H' → H' p = none → g (.ref p) σ' (upd H' p (.tup [.int (i : Int), x])) fun σ2 H2 => tb { D with nx := Pv (i + 1), ct := Pv (i + 1), bk := D.nx } σ2 H2) (hd : ∀ σ' H', Pv xs.length σ' H' → D.nx σ' H') :
    ∃ W : Nat → Nat → L2.St → Hp → Prop, (∃ m, W 0 m σ H) ∧ ∀ i m σ H, W i m σ H →
      ((Ite K a).stop i H ∧ D.nx σ H) ∨ ((Ite K a).go i H ∧ ∃ N : L2.St → Hp → Prop, (∀ σ' H', N σ' H' → ∃ m', m' < m ∧ W (i + 1) m' σ' H') ∧ ∀ x H', (Ite K a).yld i H x H' → g x σ H' fun σ2 H2 => tb { D with nx := N, ct := N, bk := D.nx } σ2 H2) := by
  refine ⟨fun i m σ' H' => m = xs.length - i ∧ i ≤ xs.length ∧ Pv i σ' H', ⟨xs.length, by simp, Nat.zero_le _, h0⟩, ?_⟩
  rintro i m σ' H' ⟨rfl, hi, p⟩
  have q := hl i σ' H' hi p
  by_cases hlt : i < xs.length
  · refine .inr ⟨?_, Pv (i + 1), fun σ2 H2 p' => ⟨xs.length - (i + 1), by omega, rfl, hlt, p'⟩, fun x H2 y => ?_⟩
    · exact ⟨xs, xs[i], q, by simp [hlt]⟩
    · obtain ⟨T, v, rfl, nT, e, f⟩ := y
      rw [e]
      exact hs i v σ' H' T (f xs q) p nT
  · have e : i = xs.length := by omega
    subst e
    exact .inl ⟨⟨xs, q, Nat.le_refl _⟩, hd σ' H' p⟩
/-- while, by a measure; the test is evaluated at each turn -/
theorem while_L {c : TT} (Pv : L2.St → Hp → Prop) (μ : L2.St → Hp → Nat) (h0 : Pv σ H)
    (hs : ∀ σ' H', Pv σ' H' → ∃ b, EvT c σ' H' b ∧ (b = true → ∀ H1, Ex H' H1 → tb { D with nx := fun σ2 H2 => Pv σ2 H2 ∧ μ σ2 H2 < μ σ' H', ct := fun σ2 H2 => Pv σ2 H2 ∧ μ σ2 H2 < μ σ' H', bk := D.nx } σ' H1) ∧ (b = false → ∀ H1, Ex H' H1 → D.nx σ' H1)) : tWhile c tb D σ H := by
  refine ⟨fun m σ' H' => m = μ σ' H' ∧ Pv σ' H', ⟨_, rfl, h0⟩, ?_⟩
  rintro m σ' H' ⟨rfl, p⟩
  obtain ⟨b, hb, h1, h2⟩ := hs σ' H' p
  refine hb H' (Ex.refl _) _ fun H1 e => ?_
  cases b with
  | true => exact ⟨_, fun σ2 H2 w => ⟨_, w.2, rfl, w.1⟩, h1 rfl H1 e⟩
  | false => exact h2 rfl H1 e
end
end Bd

namespace Bd
open PySem PySem.Spec PyProof.Rows L2 Evl
/-! ### promises: the package's words, the law's draws -/
def badW (K : PySem.W.Frag) : Value := .ref (He.ga K "BadWord")
def badN (K : PySem.W.Frag) : Value := .ref (He.ga K "BadNumber")
def sp_is_word (_ : PySem.W.Frag) : Sp := fun vs H Q _ => ∃ v, vs = [v] ∧ Thing H v ∧ ∀ H', Ex H H' → Q (.bl (wordV v)) H'
def sp_need_word (K : PySem.W.Frag) : Sp := fun vs H Q E => ∃ v, vs = [v] ∧ Thing H v ∧ (wordV v = true → ∀ H', Ex H H' → Q .non H') ∧ (wordV v = false → ∀ H', Ex H H' → E (badW K) none H')
def turnsOf (l : List Nat) : List (List Nat) := (List.range l.length).map (turn l)
theorem turnsOf_len (l : List Nat) : (turnsOf l).length = l.length := by simp [turnsOf]
theorem Thing.word {H : Hp} {v : V} (t : Thing H v) (hw : wordV v = true) : ∃ l, v = vS l ∧ IsW l := by
  cases t with
  | txt l hl => exact ⟨l, rfl, by rw [wordV_vS] at hw; exact hw⟩
  | _ => cases hw
theorem Thing.ofW {H : Hp} {l : List Nat} (hw : IsW l) : Thing H (vS l) := .txt l (Nat.le_trans hw.le (by decide))
theorem letter_at {n : Int} (h0 : 0 ≤ n) (h8 : n < 8) : ∃ c, atI ("abcdefgh" : Str).cps.toList n = some c ∧ 97 ≤ c ∧ c ≤ 104 := by
  obtain ⟨j, rfl⟩ := Int.eq_ofNat_of_zero_le h0
  have hj : j < 8 := by omega
  refine ⟨97 + j, ?_, by omega, by omega⟩
  rw [letters_list]
  refine atI_nat ?_
  have : j = 0 ∨ j = 1 ∨ j = 2 ∨ j = 3 ∨ j = 4 ∨ j = 5 ∨ j = 6 ∨ j = 7 := by omega
  rcases this with rfl | rfl | rfl | rfl | rfl | rfl | rfl | rfl <;> rfl
theorem cut_last (l : List Nat) (h : 1 ≤ l.length) : cutS (tx l) none (some (-1)) = tx (l.take (l.length - 1)) := by
  have e : HT.sIx (tx l).length (tx l).length (some (-1)) = l.length - 1 := by
    rw [tx_len]
    unfold HT.sIx
    simp
    omega
  unfold cutS
  rw [e, HT.sIx_none, tx_cps]
  simp
theorem join_nil : ∀ ws : List (List Nat), Txt.join "" (ws.map tx) = tx ws.flatten := fun ws => by
  rw [show (Txt.join "" (ws.map tx)) = Str.join "" (ws.map tx) from TL.join_eq _ _]
  have e : ∀ ws : List (List Nat), Str.join "" (ws.map tx) = tx ws.flatten := by
    intro ws
    induction ws with
    | nil => rfl
    | cons w ws ih =>
      cases ws with
      | nil =>
        show tx w = tx ([w].flatten)
        simp
      | cons v r =>
        show tx w ++ "" ++ Str.join "" ((v :: r).map tx) = _
        rw [ih, show tx w ++ ("" : Str) = tx w from by rw [show ("" : Str) = tx [] from rfl, tx_add, List.append_nil], tx_add]
        rfl
  exact e ws
theorem flat_single (w : List Nat) : (w.map fun c => [c]).flatten = w := by
  induction w with
  | nil => rfl
  | cons c w ih => rw [List.map_cons, List.flatten_cons, ih]; rfl
theorem mem_rep {n c : Nat} {l : List Nat} (h : c ∈ repW n l) : c ∈ l := by
  unfold repW at h
  obtain ⟨z, hz, hc⟩ := List.mem_flatten.mp h
  rw [(List.mem_replicate.mp hz).2] at hc
  exact hc
theorem find_some {p : Nat → Bool} {n i : Nat} (hi : i < n) (hp : p i = true) (hl : ∀ j, j < i → p j = false) : (List.range n).find? p = some i :=
  List.find?_range_eq_some.mpr ⟨hp, List.mem_range.mpr hi, fun j hj => by rw [hl j hj]; rfl⟩
theorem find_none {p : Nat → Bool} {n : Nat} (hl : ∀ j, j < n → p j = false) : (List.range n).find? p = none :=
  List.find?_range_eq_none.mpr fun j hj => by rw [hl j hj]; rfl
theorem shows_W {l : List Nat} (h : IsW l) : shows (vS l) := by
  have h1 := StrLaws.reprText_len (tx l) (fun c hc => by
    rw [tx_cps] at hc
    have := h.let_ c hc
    have : (16 : Nat) ^ 8 = 4294967296 := by decide
    omega)
  have h2 := h.le
  have h3 : 10 * (tx l).length + 2 ≤ 100000 := by rw [tx_len]; omega
  exact szl (Nat.le_trans h1 h3)
theorem shows_small {n : Nat} (h : n ≤ 1000) : shows (.int (n : Int)) := by
  show (Int.natAbs (n : Int)).log2 < 1920
  rw [Int.natAbs_natCast]
  exact Nat.lt_of_le_of_lt (Nat.log2_le_self n) (by omega)
def sp_turnings (K : PySem.W.Frag) : Sp := fun vs H Q E => ∃ v, vs = [v] ∧ Thing H v ∧ (∀ l, v = vS l → IsW l → ∀ p H', H p = none → Ex H H' → H' p = some (.lst ((turnsOf l).map vS)) → Q (.ref p) H') ∧
  (wordV v = false → ∀ H', Ex H H' → E (badW K) none H')
def sp__law_mixed (_ : PySem.W.Frag) : Sp := fun vs H Q _ => ∃ c k : Int, vs = [.int c, .int k] ∧ (0 ≤ k ∧ k ≤ 100000) ∧ ∀ n : Int, 0 ≤ n → n < 536870912 → Q (.int n) H
def sp__law_number (K : PySem.W.Frag) : Sp := fun vs H Q _ => ∃ (a : Addr) (ns : List Int) (k : Int), vs = [.ref a, .int k] ∧ SqL K H a (ns.map V.int) ∧ (0 ≤ k ∧ k ≤ 100000) ∧ ∀ n : Int, 0 ≤ n → n < 536870912 → Q (.int n) H
def kindOf (x : Str) : Str := if x = "BadNumber" then "number" else if x = "BadRing" then "ring" else if x = "BadWord" then "word" else if x = "NoRing" then "none" else "many"
def sp__law_kind (K : PySem.W.Frag) : Sp := fun vs H Q _ => ∃ (a : Addr) (x : Str), vs = [.ref a] ∧ x ∈ five ∧ H a = some (ExK (.ref (He.ga K x)) a) ∧ ∀ H', Ex H H' → Q (.str (kindOf x)) H'
def sp__law_word (K : PySem.W.Frag) : Sp := fun vs H Q _ => ∃ (a : Addr) (ns : List Int) (k : Int), vs = [.ref a, .int k] ∧ SqL K H a (ns.map V.int) ∧ (0 ≤ k ∧ k ≤ 50000) ∧ ∀ l H', IsW l → Ex H H' → Q (vS l) H'
/-! k03 -/
/-- the first place from which on a word turned is the other -/
def byW (l m : List Nat) : Option Nat := (List.range l.length).find? fun i => decide (turn l i = m)
def optV : Option Nat → V
  | none => .non
  | some i => .int (i : Int)
/-- two things, of which each is a word, or not -/
def sp_turning_of (K : PySem.W.Frag) : Sp := fun vs H Q E => ∃ v u, vs = [v, u] ∧ Thing H v ∧ Thing H u ∧ (∀ l m, v = vS l → u = vS m → IsW l → IsW m → ∀ H', Ex H H' → Q (optV (byW l m)) H') ∧
  ((wordV v && wordV u) = false → ∀ H', Ex H H' → E (badW K) none H')
def sp_are_one (K : PySem.W.Frag) : Sp := fun vs H Q E => ∃ v u, vs = [v, u] ∧ Thing H v ∧ Thing H u ∧ (∀ l m, v = vS l → u = vS m → IsW l → IsW m → ∀ H', Ex H H' → Q (.bl (byW l m).isSome) H') ∧
  ((wordV v && wordV u) = false → ∀ H', Ex H H' → E (badW K) none H')
def sp__law_other (K : PySem.W.Frag) : Sp := fun vs H Q _ => ∃ (a : Addr) (ns : List Int) (k : Int) (l : List Nat), vs = [.ref a, .int k, vS l] ∧ SqL K H a (ns.map V.int) ∧ (0 ≤ k ∧ k ≤ 40000) ∧ IsW l ∧ ∀ m H', IsW m → Ex H H' → Q (vS m) H'
def sp__law_by (_ : PySem.W.Frag) : Sp := fun vs H Q _ => ∃ l m, vs = [vS l, vS m] ∧ IsW l ∧ IsW m ∧ ∀ H', Ex H H' → Q (optV (byW l m)) H'
def sp_k03_refused (_ : PySem.W.Frag) : Sp := fun vs H Q _ => ∃ (w : Int) (v u : V), vs = [.int w, v, u] ∧ Thing H v ∧ Thing H u ∧ (wordV v && wordV u) = false ∧ ∀ H', Ex H H' → Q (.bl true) H'
end Bd

namespace Bd
open PySem PySem.Spec PyProof.Rows L2 Evl
/-! ### turnings -/
theorem turn_zero (l : List Nat) : turn l 0 = l := by simp [turn]
theorem turn_full (l : List Nat) : turn l l.length = l := by simp [turn]
theorem turn_add {l : List Nat} {i j : Nat} (h : i + j ≤ l.length) : turn (turn l i) j = turn l (i + j) := by
  unfold turn
  have hd : (l.drop i).length = l.length - i := List.length_drop
  rw [List.drop_append_of_le_length (by omega), List.take_append_of_le_length (by omega), List.drop_drop, List.append_assoc]
  have : l.take (i + j) = l.take i ++ (l.drop i).take j := List.take_add
  rw [this]
theorem turn_over {l : List Nat} {i j : Nat} (hi : i ≤ l.length) (h : l.length ≤ i + j) (hj : j ≤ l.length) : turn (turn l i) j = turn l (i + j - l.length) := by
  have e : turn (turn l i) (l.length - i) = l := by
    rw [turn_add (by omega), show i + (l.length - i) = l.length by omega, turn_full]
  have e2 := turn_add (l := turn l i) (i := l.length - i) (j := i + j - l.length) (by rw [turn_len]; omega)
  rw [e] at e2
  rw [e2, show l.length - i + (i + j - l.length) = j by omega]
theorem turn_comm {l : List Nat} {i j : Nat} (hi : i ≤ l.length) (hj : j ≤ l.length) : turn (turn l i) j = turn (turn l j) i := by
  by_cases h : i + j ≤ l.length
  · rw [turn_add h, turn_add (by omega), Nat.add_comm]
  · rw [turn_over hi (by omega) hj, turn_over hj (by omega) hi, Nat.add_comm]
theorem turn_inj {l m : List Nat} {i : Nat} (hl : l.length = m.length) (hi : i ≤ l.length) (h : turn l i = turn m i) : l = m := by
  have a := turn_add (l := l) (i := i) (j := l.length - i) (by omega)
  have b := turn_add (l := m) (i := i) (j := l.length - i) (by omega)
  rw [show i + (l.length - i) = l.length by omega] at a b
  rw [turn_full] at a
  rw [hl, turn_full, ← hl] at b
  rw [← a, ← b, h]
theorem mem_turns {l y : List Nat} : y ∈ turnsOf l ↔ ∃ i, i < l.length ∧ turn l i = y := by
  unfold turnsOf
  rw [List.mem_map]
  exact ⟨fun ⟨i, hi, e⟩ => ⟨i, List.mem_range.mp hi, e⟩, fun ⟨i, hi, e⟩ => ⟨i, List.mem_range.mpr hi, e⟩⟩
theorem turns_turn {l : List Nat} {i : Nat} (hi : i < l.length) (y : List Nat) : y ∈ turnsOf (turn l i) ↔ y ∈ turnsOf l := by
  rw [mem_turns, mem_turns, turn_len]
  constructor
  · rintro ⟨j, hj, rfl⟩
    by_cases h : i + j < l.length
    · exact ⟨i + j, h, (turn_add (by omega)).symm⟩
    · exact ⟨i + j - l.length, by omega, (turn_over (by omega) (by omega) (by omega)).symm⟩
  · rintro ⟨j, hj, rfl⟩
    by_cases h : i ≤ j
    · exact ⟨j - i, by omega, by rw [turn_add (by omega), show i + (j - i) = j by omega]⟩
    · exact ⟨j + l.length - i, by omega, by rw [turn_over (by omega) (by omega) (by omega), show i + (j + l.length - i) - l.length = j by omega]⟩
/-! ### the least of some words -/
def IsMin (m : List Nat) (S : List (List Nat)) : Prop := m ∈ S ∧ ∀ y ∈ S, m ≤ y
theorem IsMin.uniq {m n : List Nat} {S T : List (List Nat)} (h : IsMin m S) (g : IsMin n T) (st : ∀ y, y ∈ S ↔ y ∈ T) : m = n :=
  List.le_antisymm (h.2 n ((st n).mpr g.1)) (g.2 m ((st m).mp h.1))
theorem leastW_min : ∀ (r : List (List Nat)) (w : List Nat), IsMin (leastW w r) (w :: r)
  | [], w => ⟨.head _, fun y hy => by rw [List.mem_singleton.mp hy]; exact List.le_refl _⟩
  | y :: r, w => by
    have e : leastW w (y :: r) = leastW (if y < w then y else w) r := rfl
    rw [e]
    obtain ⟨h1, h2⟩ := leastW_min r (if y < w then y else w)
    refine ⟨?_, fun z hz => ?_⟩
    · rcases List.mem_cons.mp h1 with h | h
      · rw [h]
        split
        · exact .tail _ (.head _)
        · exact .head _
      · exact .tail _ (.tail _ h)
    · have h3 := h2 _ (.head _)
      by_cases c : y < w
      · rw [if_pos c] at h3 h2 ⊢
        rcases List.mem_cons.mp hz with rfl | hz
        · exact List.le_trans h3 (List.le_of_lt c)
        · exact h2 z hz
      · rw [if_neg c] at h3 h2 ⊢
        rcases List.mem_cons.mp hz with rfl | hz
        · exact h3
        · rcases List.mem_cons.mp hz with rfl | hz
          · exact List.le_trans h3 (List.not_lt.mp c)
          · exact h2 z (.tail _ hz)
/-- the ring of a word -/
def ringW (l : List Nat) : List Nat := leastW l (turnsOf l)
theorem self_mem_turns {l : List Nat} (h : 1 ≤ l.length) : l ∈ turnsOf l := mem_turns.mpr ⟨0, h, turn_zero l⟩
theorem ringW_min {l : List Nat} (h : 1 ≤ l.length) : IsMin (ringW l) (turnsOf l) := by
  obtain ⟨h1, h2⟩ := leastW_min (turnsOf l) l
  refine ⟨?_, fun y hy => h2 y (.tail _ hy)⟩
  rcases List.mem_cons.mp h1 with e | e
  · rw [ringW, e]; exact self_mem_turns h
  · exact e
theorem ring_eq {l m : List Nat} {r : List (List Nat)} (h : 1 ≤ l.length) (e : turnsOf l = m :: r) : leastW m r = ringW l :=
  IsMin.uniq (leastW_min r m) (ringW_min h) fun y => by rw [← e]
theorem ring_turn {l : List Nat} {i : Nat} (hi : i < l.length) : ringW (turn l i) = ringW l :=
  IsMin.uniq (ringW_min (by rw [turn_len]; omega)) (ringW_min (by omega)) (turns_turn hi)
theorem ring_is_turn {l : List Nat} (h : 1 ≤ l.length) : ∃ i, i < l.length ∧ ringW l = turn l i := by
  obtain ⟨i, hi, e⟩ := mem_turns.mp (ringW_min h).1
  exact ⟨i, hi, e.symm⟩
theorem IsW.ring {l : List Nat} (h : IsW l) : IsW (ringW l) := by
  obtain ⟨i, _, e⟩ := ring_is_turn h.pos
  rw [e]
  exact h.turn i
theorem ring_ring {l : List Nat} (h : 1 ≤ l.length) : ringW (ringW l) = ringW l := by
  obtain ⟨i, hi, e⟩ := ring_is_turn h
  rw [e, ring_turn hi, e]
theorem ring_len {l : List Nat} (h : 1 ≤ l.length) : (ringW l).length = l.length := by
  obtain ⟨i, hi, e⟩ := ring_is_turn h
  rw [e, turn_len]
/-! ### the period -/
def perW (l : List Nat) : Nat := (((List.range' 1 l.length).find? fun i => decide (turn l i = l)).getD 0)
theorem per_turn {l : List Nat} {i : Nat} (hi : i ≤ l.length) : perW (turn l i) = perW l := by
  unfold perW
  rw [turn_len]
  have e : ∀ (L : List Nat), (∀ x ∈ L, x ≤ l.length) → (L.find? fun k => decide (turn (turn l i) k = turn l i)) = L.find? fun k => decide (turn l k = l) := by
    intro L
    induction L with
    | nil => intro _; rfl
    | cons k L ih =>
      intro h
      have hk := h k (.head _)
      have e2 : decide (turn (turn l i) k = turn l i) = decide (turn l k = l) := by
        refine decide_eq_decide.mpr ⟨fun q => ?_, fun q => ?_⟩
        · rw [turn_comm hi hk] at q
          exact turn_inj (turn_len l k) (by rw [turn_len]; exact hi) q
        · rw [turn_comm hi hk, q]
      rw [List.find?_cons, List.find?_cons, e2, ih fun x hx => h x (.tail _ hx)]
  rw [e _ fun x hx => by
    have := List.mem_range'_1.mp hx
    omega]
theorem per_some {l : List Nat} (h : 1 ≤ l.length) : ((List.range' 1 l.length).find? fun i => decide (turn l i = l)) = some (perW l) := by
  unfold perW
  cases e : (List.range' 1 l.length).find? fun i => decide (turn l i = l) with
  | some k => rfl
  | none =>
    have := List.find?_eq_none.mp e l.length (List.mem_range'_1.mpr ⟨h, by omega⟩)
    rw [decide_eq_true (turn_full l)] at this
    exact absurd rfl this
theorem per_le {l : List Nat} (h : 1 ≤ l.length) : 1 ≤ perW l ∧ perW l ≤ l.length ∧ turn l (perW l) = l := by
  have e := per_some h
  have h1 := List.mem_range'_1.mp (List.mem_of_find?_eq_some e)
  have h2 := List.find?_some e
  exact ⟨h1.1, by omega, of_decide_eq_true h2⟩
theorem per_first {l : List Nat} {k : Nat} (h1 : 1 ≤ k) (h2 : k ≤ l.length) (hk : turn l k = l) (no : ∀ j, 1 ≤ j → j < k → turn l j ≠ l) : perW l = k := by
  have e : (List.range' 1 l.length).find? (fun i => decide (turn l i = l)) = some k :=
    List.find?_range'_eq_some.mpr ⟨decide_eq_true hk, List.mem_range'_1.mpr ⟨h1, by omega⟩, fun j hj hjk => by rw [decide_eq_false (no j hj hjk)]; rfl⟩
  unfold perW
  rw [e]
  rfl
theorem leastW_snoc (w : List Nat) (r : List (List Nat)) (y : List Nat) : leastW w (r ++ [y]) = if y < leastW w r then y else leastW w r := by
  unfold leastW
  rw [List.foldl_append]
  rfl
theorem turns_take {l : List Nat} {i : Nat} (h : i < l.length) : (turnsOf l).take (i + 1) = (turnsOf l).take i ++ [turn l i] := by
  rw [List.take_succ_eq_append_getElem (by rw [turnsOf_len]; exact h)]
  simp [turnsOf]
/-! ### where a text stands in another one -/
def standsAt (l m : List Nat) (i : Nat) : Bool := decide (i + m.length ≤ l.length) && decide ((l.drop i).take m.length = m)
theorem subAt_tx (l m : List Nat) (i : Nat) : Builtin.Str.subAt (tx l) (tx m) i = decide ((l.drop i).take m.length = m) := by
  unfold Builtin.Str.subAt
  rw [tx_len]
  by_cases h : (l.drop i).take m.length = m
  · rw [decide_eq_true h, beq_iff_eq]
    refine Array.toList_inj.mp ?_
    rw [Array.toList_extract]
    simp only [List.extract_eq_take_drop]
    rw [show i + m.length - i = m.length by omega]
    exact h
  · rw [decide_eq_false h, beq_eq_false_iff_ne]
    intro e
    have := congrArg Array.toList e
    rw [Array.toList_extract] at this
    simp only [List.extract_eq_take_drop] at this
    rw [show i + m.length - i = m.length by omega] at this
    exact h this
theorem occ_full (x y : Str) (hi : Nat) : ∀ (L : List Nat) (st : Array Nat × Nat), 1 ≤ st.fst.size → (forIn L st (PySem.StrLaws.occBody x y hi 1)).run.fst = st.fst
  | [], _, _ => rfl
  | a :: L, st, h => by
    rw [List.forIn_cons]
    unfold PySem.StrLaws.occBody
    rw [if_neg (by omega)]
    exact occ_full x y hi L _ h
theorem occ_run (l m : List Nat) : ∀ (L : List Nat) (free : Nat), (∀ i ∈ L, free ≤ i) → (forIn L ((#[] : Array Nat), free) (PySem.StrLaws.occBody (tx l) (tx m) l.length 1)).run.fst.toList = (L.find? (standsAt l m)).toList
  | [], _, _ => rfl
  | a :: L, free, hf => by
    rw [List.forIn_cons, List.find?_cons]
    unfold PySem.StrLaws.occBody
    have ha := hf a (.head _)
    by_cases c : standsAt l m a = true
    · have c' := c
      simp only [standsAt, Bool.and_eq_true] at c'
      rw [← subAt_tx, decide_eq_true_eq] at c'
      rw [if_pos ⟨⟨⟨by simp, ha⟩, by rw [tx_len]; exact c'.1⟩, c'.2⟩, c]
      show (forIn L _ (PySem.StrLaws.occBody (tx l) (tx m) l.length 1)).run.fst.toList = _
      rw [occ_full _ _ _ _ _ (by simp)]
      rfl
    · rw [if_neg, Bool.eq_false_iff.mpr c]
      · exact occ_run l m L free fun i h => hf i (.tail _ h)
      · rintro ⟨⟨_, h1⟩, h2⟩
        rw [tx_len] at h1
        rw [subAt_tx] at h2
        exact c (by unfold standsAt; rw [decide_eq_true h1, h2]; rfl)
theorem occ_first (l m : List Nat) (lo : Nat) : Builtin.Str.occurrences (tx l) (tx m) lo l.length 1 = ((List.range' lo (l.length + 1 - lo)).find? (standsAt l m)).toList := by
  rw [PySem.StrLaws.occ_eq]
  exact occ_run l m _ lo fun i hi => (List.mem_range'_1.mp hi).1
theorem index_from {l m : List Nat} {lo k : Nat} (hlo : lo ≤ l.length) (h : (List.range' lo (l.length + 1 - lo)).find? (standsAt l m) = some k) : Txt.indexFrom (tx l) (tx m) (lo : Int) = some k := by
  unfold Txt.indexFrom
  have e : PySem.fromIndex (tx l).length (lo : Int) = lo := by
    rw [tx_len]
    unfold PySem.fromIndex
    first | (simp; omega) | omega
  rw [e, tx_len, occ_first, h]
  rfl
theorem index_start {l m : List Nat} {k : Nat} (h : (List.range (l.length + 1)).find? (standsAt l m) = some k) : Builtin.Str.occurrences (tx l) (tx m) 0 (tx l).length 1 = [k] := by
  rw [tx_len, occ_first, Nat.sub_zero, ← List.range_eq_range', h]
  rfl
/-- a word twice, and where it comes again -/
theorem twice_at {l : List Nat} {i : Nat} (hi : i ≤ l.length) : standsAt (l ++ l) l i = decide (turn l i = l) := by
  unfold standsAt
  rw [decide_eq_true (by rw [List.length_append]; omega), Bool.true_and]
  have e : ((l ++ l).drop i).take l.length = turn l i := by
    rw [List.drop_append_of_le_length hi, List.take_append, List.length_drop, List.take_of_length_le (by rw [List.length_drop]; omega)]
    unfold turn
    rw [show l.length - (l.length - i) = i by omega]
  rw [e]
theorem twice_index {l : List Nat} (h : 1 ≤ l.length) : Txt.indexFrom (tx (l ++ l)) (tx l) 1 = some (perW l) := by
  refine index_from (lo := 1) (by rw [List.length_append]; omega) ?_
  have e := per_some h
  rw [show (l ++ l).length + 1 - 1 = l.length + l.length by rw [List.length_append]; omega, ← List.range'_append_1, List.find?_append]
  have e2 : (List.range' 1 l.length).find? (standsAt (l ++ l) l) = some (perW l) := by
    rw [← e]
    have : ∀ L : List Nat, (∀ x ∈ L, x ≤ l.length) → L.find? (standsAt (l ++ l) l) = L.find? fun i => decide (turn l i = l) := by
      intro L
      induction L with
      | nil => intro _; rfl
      | cons k L ih =>
        intro hL
        rw [List.find?_cons, List.find?_cons, twice_at (hL k (.head _)), ih fun x hx => hL x (.tail _ hx)]
    exact this _ fun x hx => by
      have := List.mem_range'_1.mp hx
      omega
  rw [e2]
  rfl
end Bd

namespace Bd
open PySem PySem.Spec PyProof.Rows L2
/-! ### "".join(reversed(text)) -/
theorem norev_str : typeLookup (.type "str") "__reversed__" = pure none := by rw [typeLookup_type, builtinLookup_eq_fast]; kernel_rfl
theorem get_str : typeLookup (.type "str") "__getitem__" = pure (some (.builtin "str.__getitem__")) := by rw [typeLookup_type, builtinLookup_eq_fast]; kernel_rfl
theorem nolen_rv : typeLookup (.type "reversed") "__len__" = pure none := by rw [typeLookup_type, builtinLookup_eq_fast]; kernel_rfl
theorem hint_rv : typeLookup (.type "reversed") "__length_hint__" = pure (some (.builtin "reversed.__length_hint__")) := by rw [typeLookup_type, builtinLookup_eq_fast]; kernel_rfl
theorem slot_rv_hint : Slot "reversed" "__length_hint__" "reversed.__length_hint__" :=
  .of (owner := "reversed") (n := "__length_hint__") (by rw [typeLookup_type, builtinLookup_eq_fast]; kernel_rfl) (by decide +kernel) (by decide +kernel) (by decide +kernel)
    (by first | exact .inl (by decide +kernel) | exact .inr (by decide +kernel)) (by rw [isSubtype_type]; kernel_rfl)
theorem entry_rv_hint : entryFor table "reversed.__length_hint__" = some Builtin.«reversed.__length_hint__» := entryFor_of_tree (by kernel_rfl)
theorem args_rv_hint (a : Value) : argsOk "reversed.__length_hint__" ⟨[a], []⟩ := by
  unfold argsOk; rw [signature?_of (id := "reversed.__length_hint__") (n := ['_', '_', 't', 'n', 'i', 'h', '_', 'h', 't', 'g', 'n', 'e', 'l', '_', '_']) (o := ['d', 'e', 's', 'r', 'e', 'v', 'e', 'r']) (by kernel_rfl) RT.owner_rt]; kernel_rfl
def rsObj (z : Str) (t : Tok) (i : Int) : Obj := { cls := .type "reversed", data := .fields #[.str z t, rawInt i] }
def IsRs (h : Heap) (a : Addr) (z : Str) (t : Tok) (i : Int) : Prop := ∃ o, h.get? a = some o ∧ o.cls = .type "reversed" ∧ o.data = .fields #[.str z t, rawInt i]
theorem IsRs.at {h h' : Heap} {a : Addr} {z : Str} {t : Tok} {i : Int} (x : IsRs h a z t i) (e : ∀ o, h.get? a = some o → h'.get? a = some o) : IsRs h' a z t i := let ⟨o, ho, r⟩ := x; ⟨o, e _ ho, r⟩
section
variable {prog : Program} {w : World} {A : Around} {E : Value → Shared → Prop} {s : Shared}
theorem IsRs.typeIs {a : Addr} {z : Str} {t : Tok} {i : Int} (x : IsRs s.heap a z t i) : s.TypeIs (.ref a) "reversed" := let ⟨o, ho, hc, _⟩ := x; ⟨o, ho, hc⟩
theorem call_reversed_str {z : Str} {t : Tok} {Q : Value → Shared → Prop}
    (hlen : ∀ (A : Around) (E : Value → Shared → Prop) (s : Shared) (Q : Value → Shared → Prop), Q (.int z.length (s.toks + 1)) { s with toks := s.toks + 1 + 1 } → wpAny (model prog w) A (call (.builtin "len") [.str z t]) Q E s)
    (h : ∀ tk, Q (.ref s.heap.objs.size) { s with heap := s.heap.push (rsObj z t ((z.length : Int) - 1)), toks := tk }) : wpAny (model prog w) A (call (.type "reversed") [.str z t]) Q E s := by
  have hT : s.TypeIs (.str z t) "str" := typeIs_str _ _ _
  refine callType_codes (Q₁ := fun obj s₁ => s₁.TypeIs obj "reversed" ∧ Q obj s₁) RT.called_rt (F.typeCall_reversed_1 _) F.entry_object_init ?_ fun obj s₁ h₁ => ?_
  · refine codeAny_of_tree ?_
    show wpAny _ _ (do checkBuiltinCall "reversed.__new__" ⟨[.type "reversed", .str z t], []⟩; again (.builtin "reversed.__new__" ⟨[.type "reversed", .str z t], []⟩)) _ _ s
    refine wpAny_bind (wpAny_of_eq (F.newCall_reversed_1 _) (wpAny_pure ⟨plainId_quiet F.plain_reversed_new _, codeAny_builtin F.entry_reversed_new ?_⟩))
    rw [Around.under_plainId F.plain_reversed_new _]
    unfold Builtin.«reversed.__new__»
    refine wpAny_bind (wpAny_of_eq (newClass_reversed _) ?_)
    try dsimp only
    refine wpAny_bind (wpAny_of_eq (a := ()) (by first | rfl | kernel_rfl) ?_)
    try dsimp only
    refine wpAny_bind (wpAny_of_eq (a := ()) (by first | rfl | kernel_rfl) ?_)
    try dsimp only
    refine wpAny_bind (wpAny_specialOf hT norev_str ?_)
    try dsimp only
    refine wpAny_bind ?_
    wp_delta
    refine wpAny_bind (wpAny_isInstance (T := "str") (U := "dict") (b := false) hT (by rw [isSubtype_type]; kernel_rfl) ?_)
    try dsimp only
    try rw [if_neg Bool.false_ne_true]
    try dsimp only
    refine wpAny_bind (wpAny_specialOf hT get_str ?_)
    try dsimp only
    try rw [if_pos (by decide +kernel)]
    refine wpAny_pure ?_
    try dsimp only
    try rw [if_neg (by decide)]
    try dsimp only
    refine wpAny_bind (hlen _ _ _ _ ?_)
    refine wpAny_bind (wpAny_of_eq (a := some ((z.length : Nat) : Int)) rfl ?_)
    try dsimp only
    refine wpAny_bind ?_
    show wpAny _ _ (newObj (.type "reversed") (.fields #[.str z t, rawInt ((z.length : Int) - 1)])) _ _ _
    refine wpAny_newObj_type ?_
    exact wpAny_pure ⟨⟨_, Heap.get?_push_size _ rfl, rfl⟩, h _⟩
  · exact ⟨h₁.1, F.args_object_init_2 obj _, object_init_meets RT.called_rt.init.lookup RT.called_rt.made (by decide) prog w A.in1 _ s₁ ⟨h₁.1, rfl, h₁.2⟩⟩
theorem next_rs_item {it : Addr} {z : Str} {t : Tok} {i c : Nat} {Q : Option Value → Shared → Prop} (hit : IsRs s.heap it z t (i : Int)) (hx : z.cps[i]? = some c) (hsz : z.length ≤ sizeLine)
    (hQ : ∀ h' tk tc, IsRs h' it z t ((i : Int) - 1) → Heap.SameBut it s.heap h' → Q (some (.str ⟨#[c]⟩ tc)) { s with heap := h', toks := tk }) : wpAny (model prog w) A (pyNext (.ref it)) Q E s := by
  obtain ⟨o, ho, hc, hd⟩ := id hit
  have hi : i < z.length := (Array.getElem?_eq_some_iff.mp hx).1
  have hT : s.TypeIs (.str z t) "str" := typeIs_str _ _ _
  rw [sizeLine_eq] at hsz
  unfold pyNext
  refine wpAny_bind (wpAny_attempt (wpAny_callSpecial?_slot (name := Str.ofString "__next__") hit.typeIs RT.slot_rt_next
    (wpAny_call_entry RT.slot_rt_next hit.typeIs RT.entry_rt_next ?_ (RT.args_rt_next _))))
  unfold Builtin.«reversed.__next__»
  refine wpAny_bind (wpAny_of_eq (a := (Value.ref it, [])) rfl ?_)
  try dsimp only
  refine wpAny_bind (wpAny_field ho hd (x := .str z t) rfl ?_)
  try dsimp only
  refine wpAny_bind (wpAny_field ho hd (x := rawInt (i : Int)) rfl ?_)
  show wpAny _ _ (if (i : Int) < 0 then _ else _) _ _ s
  rw [if_neg (by omega)]
  try dsimp only
  refine wpAny_bind (wpAny_specialOf hT get_str ?_)
  try dsimp only
  try rw [if_neg (by decide)]
  try dsimp only
  refine wpAny_bind (wpAny_mkInt ?_)
  refine wpAny_bind (wpAny_attempt ?_)
  have e1 : decide ((i : Int) < -(2 ^ 63 : Int)) = false := decide_eq_false (by omega)
  have e2 : decide ((i : Int) ≥ 2 ^ 63) = false := decide_eq_false (by omega)
  refine PyProof.Rows.getItem_str (c := c) (by rw [e1, e2, Bool.or_false]) (by rw [show seqIndex? (i : Int) z.length = some i from seqIndex_of (by omega) (by omega)]; exact hx) ?_
  try dsimp only
  refine wpAny_bind (wpAny_field ho hd (x := rawInt (i : Int)) rfl ?_)
  try dsimp only
  refine wpAny_bind (wpAny_setField ho hd (by simp) ?_)
  first
  | refine wpAny_pure ⟨_, rfl, wpAny_pure (hQ _ _ _ ?_ (Heap.SameBut.update ..))⟩
  | refine wpAny_bind (wpAny_pure (wpAny_pure ⟨_, rfl, wpAny_pure (hQ _ _ _ ?_ (Heap.SameBut.update ..))⟩))
  exact ⟨_, Heap.get?_update_self _ ho (Obj.isFreed_of_fields (Obj.data_mapFields hd _)), (Obj.cls_mapFields ..).trans hc, by
    rw [Obj.data_mapFields hd]; simp⟩
theorem next_rs_end {it : Addr} {z : Str} {t : Tok} {Q : Option Value → Shared → Prop} (hh : A.handled = none) (hit : IsRs s.heap it z t (-1))
    (hQ : ∀ h', Heap.ExtBut it s.heap h' → Q none { s with heap := h' }) : wpAny (model prog w) A (pyNext (.ref it)) Q E s := by
  obtain ⟨o, ho, hc, hd⟩ := id hit
  unfold pyNext
  refine wpAny_bind (wpAny_attempt (wpAny_callSpecial?_slot (name := Str.ofString "__next__") hit.typeIs RT.slot_rt_next
    (wpAny_call_entry RT.slot_rt_next hit.typeIs RT.entry_rt_next ?_ (RT.args_rt_next _))))
  unfold Builtin.«reversed.__next__»
  refine wpAny_bind (wpAny_of_eq (a := (Value.ref it, [])) rfl ?_)
  try dsimp only
  refine wpAny_bind (wpAny_field ho hd (x := .str z t) rfl ?_)
  try dsimp only
  refine wpAny_bind (wpAny_field ho hd (x := rawInt (-1)) rfl ?_)
  show wpAny _ _ (if (-1 : Int) < 0 then _ else _) _ _ s
  rw [if_pos (by decide)]
  try dsimp only
  refine wpAny_bind (wpAny_rule ?_)
  refine wpAny_bind ?_
  wp_delta
  refine wpAny_bind (wpAny_setField ho hd (by simp) ?_)
  have ho2 := Heap.get?_update_self (Obj.mapFields (·.setIfInBounds 1 (rawInt (-1)))) ho (Obj.isFreed_of_fields (Obj.data_mapFields hd _))
  refine wpAny_setField (s := { s with heap := s.heap.update it (Obj.mapFields (·.setIfInBounds 1 (rawInt (-1)))) }) ho2 (Obj.data_mapFields hd _) (by simp) ?_
  try dsimp only
  first
  | show wpAny _ _ (newExc (.type "StopIteration") [] >>= _) _ _ _
  | (refine wpAny_bind ?_; show wpAny _ _ (newExc (.type "StopIteration") [] >>= _) _ _ _)
  | (refine wpAny_bind ?_; wp_delta; show wpAny _ _ (newExc (.type "StopIteration") [] >>= _) _ _ _)
  refine wpAny_bind ?_
  simp only [newExc, newTuple]
  refine wpAny_bind (wpAny_newObj_type ?_ (by size_fits))
  refine wpAny_bind (m := firstArgMember _ _) (wpAny_of_eq (a := Value.none) (by first | rfl | (simp only [firstArgMember]; rfl)) ?_)
  refine wpAny_newObj_type ?_ (by size_fits)
  simp only [raiseNew]
  refine wpAny_bind (wpAny_handled ?_)
  first | rw [show A.in1.handled = none from hh] | rw [hh]
  refine wpAny_bind (wpAny_pure (wpAny_throw ?_))
  refine wpAny_bind (wpAny_isInstance (T := "StopIteration") (b := true) ⟨_, Heap.get?_push_size _ rfl, rfl⟩ isSubtype_stop ?_)
  refine wpAny_pure (hQ _ ?_)
  refine ((?_ : Heap.ExtBut it s.heap _).push _).push _
  exact fun b ob hb e => (Heap.get?_update_other _ _ (Ne.symm hb)).trans ((Heap.get?_update_other _ _ (Ne.symm hb)).trans e)
theorem iter_rs {it : Addr} {z : Str} {t : Tok} {i : Int} {Q : Value → Shared → Prop} (hit : IsRs s.heap it z t i) (h : Q (.ref it) s) : wpAny (model prog w) A (pyIter (.ref it)) Q E s := by
  refine wpAny_pyIter_slot hit.typeIs RT.slot_rt_iter (wpAny_call_entry RT.slot_rt_iter hit.typeIs RT.entry_rt_iter ?_ (RT.args_rt_iter _))
  show wpAny _ _ (ret (.ref it)) _ _ s
  exact wpAny_pure ⟨_, rfl, "reversed", _, hit.typeIs, RT.slot_rt_next.lookup, h⟩
/-- the i-th sign from the end -/
def BackAt (z : Str) (i : Nat) (v : Value) : Prop := ∃ c t, z.cps[z.length - 1 - i]? = some c ∧ v = .str ⟨#[c]⟩ t
theorem walks_rs (hh : A.handled = none) (it : Addr) (z : Str) (t : Tok) (hz : z.length ≤ sizeLine) :
    Walks prog w A it [it] [it] z.length (BackAt z) (fun i h => IsRs h it z t ((z.length : Int) - 1 - i)) where
  sub := fun b hb => hb
  frame := fun _ _ _ st hk => st.at fun o e => hk it (by simp) o e
  item := fun i s Q E hi st hQ => by
    obtain ⟨c, hc⟩ : ∃ c, z.cps[z.length - 1 - i]? = some c := ⟨_, Array.getElem?_eq_getElem (show z.length - 1 - i < z.length by omega)⟩
    have e : (z.length : Int) - 1 - i = ((z.length - 1 - i : Nat) : Int) := by omega
    rw [e] at st
    refine next_rs_item st hc hz fun h' tk tc hit' hs' => ?_
    refine hQ _ h' tk ⟨c, tc, hc, rfl⟩ ?_ fun b o hb e => hs'.extBut b o (fun h => hb (by simp [h])) e
    have e2 : ((z.length - 1 - i : Nat) : Int) - 1 = (z.length : Int) - 1 - ((i + 1 : Nat) : Int) := by omega
    rw [← e2]
    exact hit'
  done := fun s Q E st hQ => by
    have e : (z.length : Int) - 1 - z.length = -1 := by omega
    rw [e] at st
    exact next_rs_end hh st fun h' he' => hQ h' s.toks fun b o hb e => he' b o (fun h => hb (by simp [h])) e
  self := fun _ _ _ _ st hQ => iter_rs st hQ
theorem collect_rs {it : Addr} {z : Str} {t : Tok} {Q : List Value → Shared → Prop} (hh : A.handled = none)
    (hlen : ∀ (A : Around) (E : Value → Shared → Prop) (s : Shared) (Q : Value → Shared → Prop), Q (.int z.length (s.toks + 1)) { s with toks := s.toks + 1 + 1 } → wpAny (model prog w) A (call (.builtin "len") [.str z t]) Q E s)
    (hit : IsRs s.heap it z t ((z.length : Int) - 1)) (hne : 1 ≤ z.length) (hz : z.length ≤ sizeLine)
    (hQ : ∀ (h' : Heap) (tk : Nat) (acc : Array Value), (∀ b o, b ≠ it → s.heap.get? b = some o → h'.get? b = some o) → ItemsOf (BackAt z) acc z.length → Q acc.toList { s with heap := h', toks := tk }) :
    wpAny (model prog w) A (collect (.ref it)) Q E s := by
  have W := (walks_rs (prog := prog) (w := w) (A := A.in1) hh it z t hz).toS
  obtain ⟨oi, hoi, _⟩ := id hit
  have hSI : s.heap.objs.size ≠ it := Nat.ne_of_gt (Heap.lt_size hoi)
  have hSf : s.heap.objs.size ∉ [it] := by simp only [List.mem_cons, List.not_mem_nil, or_false]; exact hSI
  have h63 := hz
  rw [sizeLine_eq] at h63
  have hst : (fun i (s : Shared) => IsRs s.heap it z t ((z.length : Int) - 1 - (i : Nat))) 0 s := by
    show IsRs s.heap it z t ((z.length : Int) - 1 - ((0 : Nat) : Int))
    rw [show (z.length : Int) - 1 - ((0 : Nat) : Int) = (z.length : Int) - 1 by omega]
    exact hit
  unfold collect
  refine wpAny_bind (wpAny_runValue (codeAny_builtin F.entry_proto_collect ?_))
  rw [Around.under_plainId F.plain_proto_collect _]
  show wpAny _ A.in1 (newList [] >>= fun l => again (.builtin "list.__iadd__" ⟨[l, .ref it], []⟩)) _ _ s
  refine wpAny_bind (wpAny_newObj_type ?_)
  refine wpAny_pure ⟨plainId_quiet F.plain_list_iadd _, codeAny_builtin F.entry_list_iadd ?_⟩
  rw [Around.under_plainId F.plain_list_iadd _]
  have hst₁ := W.frame 0 s (s.heap.push { cls := .type "list", data := .seq ([] : List Value).toArray }) s.toks hst (Nat.le_refl _) fun b _ o e => Heap.get?_push_of_some _ e
  have hT : ({ s with heap := s.heap.push { cls := .type "list", data := .seq ([] : List Value).toArray } } : Shared).TypeIs (.ref it) "reversed" := IsRs.typeIs (s := { s with heap := s.heap.push { cls := .type "list", data := .seq ([] : List Value).toArray } }) hst₁
  show wpAny _ A.in1 (Builtin.List.listExtendWith (.ref s.heap.objs.size) (.ref it) (.ref s.heap.objs.size)) _ _ _
  unfold Builtin.List.listExtendWith
  refine wpAny_bind (wpAny_typeOf hT ?_)
  have h1 : Builtin.List.listSameRef (.ref s.heap.objs.size) (.ref it) = false := by simp [Builtin.List.listSameRef, hSI]
  rw [if_neg (by rw [h1]; decide)]
  refine wpAny_bind (W.self 0 _ _ _ hst₁ ?_)
  refine wpAny_bind (wpAny_holding ?_)
  unfold Builtin.List.listLengthHint
  refine wpAny_bind (wpAny_specialOf hT nolen_rv ?_)
  show wpAny _ A.in1 (specialOf (Value.ref it) (Str.ofString "__length_hint__") >>= _) _ _ _
  refine wpAny_bind (wpAny_specialOf hT hint_rv ?_)
  generalize hid : ("reversed.__length_hint__" : String) = id0
  wp_delta
  rw [show splitId id0 = some ("reversed", "__length_hint__") from by subst hid; decide +kernel]
  subst hid
  refine wpAny_bind (wpAny_isInstance (b := true) hT (by rw [isSubtype_type]; kernel_rfl) ?_)
  rw [if_neg (by decide)]
  try dsimp only
  rw [if_neg (by decide +kernel)]
  refine wpAny_bind (wpAny_rule ?_)
  refine wpAny_bind (wpAny_of_eq (slot_rv_hint.bind _) ?_)
  try dsimp only
  refine wpAny_bind (wpAny_attempt (wpAny_call_entry slot_rv_hint hT entry_rv_hint ?_ (args_rv_hint _)))
  unfold Builtin.«reversed.__length_hint__»
  refine wpAny_bind (wpAny_of_eq (a := Value.ref it) rfl ?_)
  obtain ⟨o, ho, hc, hd⟩ := id hst₁
  refine wpAny_bind (wpAny_field ho hd (x := .str z t) rfl ?_)
  try dsimp only
  rw [if_neg (show ¬ (Value.str z t == Value.none) = true from fun q => nomatch q)]
  refine wpAny_bind (hlen _ _ _ _ ?_)
  refine wpAny_bind (wpAny_of_eq (a := some ((z.length : Nat) : Int)) rfl ?_)
  try dsimp only
  refine wpAny_bind (wpAny_field ho hd (x := rawInt ((z.length : Int) - 1 - ((0 : Nat) : Int))) rfl ?_)
  show wpAny _ _ (if (z.length : Int) < ((z.length : Int) - 1 - ((0 : Nat) : Int)) + 1 then _ else retInt _) _ _ _
  rw [if_neg (by omega)]
  refine wpAny_bind (wpAny_mkInt ?_)
  refine wpAny_pure ⟨_, rfl, ?_⟩
  generalize hk : (z.length : Int) - 1 - ((0 : Nat) : Int) + 1 = k
  have hk2 : 1 ≤ k ∧ k ≤ 16777216 := by omega
  clear hk
  have f1 : Builtin.List.listFitsIndex k = true := by
    unfold Builtin.List.listFitsIndex
    rw [decide_eq_true (show -(2 ^ 63 : Int) ≤ k by omega), decide_eq_true (show k < 2 ^ 63 by omega)]
    rfl
  have f2 : Builtin.List.listTooLong (Int.toNat k) = false := by
    unfold Builtin.List.listTooLong
    exact decide_eq_false (by rw [sizeLine_eq]; omega)
  have f3 : (k != 0) = true := by
    rw [bne_iff_ne]
    omega
  try dsimp only
  refine wpAny_bind (wpAny_of_eq (a := some k) rfl ?_)
  try dsimp only
  rw [f1, if_neg (by decide), if_neg (by omega), f2, if_neg (by decide), f3]
  refine wpAny_pure ?_
  rw [if_pos (by rfl)]
  refine wpAny_bind (wpAny_rule ?_)
  have hS₁ : (s.heap.push { cls := .type "list", data := .seq ([] : List Value).toArray }).get? s.heap.objs.size = some { cls := .type "list", data := .seq ([] : List Value).toArray } := Heap.get?_push_size _ rfl
  refine wpAny_bind ?_
  show wpAny _ A.in1 (updateSeq s.heap.objs.size (·.push .none) >>= fun _ => updateSeq s.heap.objs.size (·.pop)) _ _ _
  refine wpAny_bind (wpAny_updateSeq hS₁ rfl ?_)
  have hS₂ := Heap.get?_update_self (Obj.mapSeq (·.push Value.none)) hS₁ rfl
  refine wpAny_updateSeq hS₂ rfl ?_
  have hS₃ := Heap.get?_update_self (Obj.mapSeq (·.pop)) hS₂ rfl
  have oth : ∀ b o, b ≠ s.heap.objs.size → (s.heap.push { cls := .type "list", data := .seq ([] : List Value).toArray }).get? b = some o →
      (((s.heap.push { cls := .type "list", data := .seq ([] : List Value).toArray }).update s.heap.objs.size (Obj.mapSeq (·.push Value.none))).update s.heap.objs.size (Obj.mapSeq (·.pop))).get? b = some o :=
    fun b o hb e => (Heap.get?_update_other _ _ (Ne.symm hb)).trans ((Heap.get?_update_other _ _ (Ne.symm hb)).trans e)
  refine wpAny_pure ⟨plainId_quiet F.plain_extend_loop _, codeAny_extend_loopS W hz _ hSf _ z.length 0 _ _ _ rfl (Nat.zero_le _)
    (IsRs.at hst₁ fun o e => oth it o (Ne.symm hSI) e) hS₃ (ItemsOf.nil _) fun s' acc' c' hm hS' hacc => ?_⟩
  show wpAny _ A (load s.heap.objs.size >>= _) _ _ s'
  refine wpAny_bind (wpAny_load hS' ?_)
  refine wpAny_pure ?_
  rw [Moved.eq_with hm]
  refine hQ s'.heap s'.toks acc' (fun b o hb e => hm.heap b o (fun hmem => ?_) (oth b o (Nat.ne_of_lt (Heap.lt_size e)) (Heap.get?_push_of_some _ e))) hacc
  rcases List.mem_cons.mp hmem with e' | hmem
  · exact absurd (Heap.lt_size e) (by rw [e']; exact Nat.lt_irrefl _)
  · exact hb (List.mem_singleton.mp hmem)
theorem strs_back {z : Str} : ∀ {L : List Value} {l : List Nat}, L.length = l.length → (∀ (i : Nat) (v : Value), L[i]? = some v → ∃ c t, l[i]? = some c ∧ v = .str ⟨#[c]⟩ t) → StrsAre L (l.map fun c => tx [c])
  | [], [], _, _ => .nil
  | [], _ :: _, h, _ => nomatch h
  | _ :: _, [], h, _ => nomatch h
  | v :: L, c :: l, h, k => by
    obtain ⟨c', t, e, rfl⟩ := k 0 v rfl
    cases (Option.some.inj e)
    exact .cons _ t (strs_back (z := z) (Nat.succ.inj h) fun i v hv => k (i + 1) v hv)
theorem join_rs {it : Addr} {z x : Str} {t tx' : Tok} {Q : Value → Shared → Prop} (hh : A.handled = none)
    (hlen : ∀ (A : Around) (E : Value → Shared → Prop) (s : Shared) (Q : Value → Shared → Prop), Q (.int z.length (s.toks + 1)) { s with toks := s.toks + 1 + 1 } → wpAny (model prog w) A (call (.builtin "len") [.str z t]) Q E s)
    (hit : IsRs s.heap it z t ((z.length : Int) - 1)) (hne : 1 ≤ z.length) (hz : z.length ≤ sizeLine) (hok : z.length + z.length * x.length ≤ 16777216)
    (hq : ∀ h' t' k, (∀ b o, b ≠ it → s.heap.get? b = some o → h'.get? b = some o) → Q (.str (Txt.join x (z.cps.toList.reverse.map fun c => tx [c])) t') { s with heap := h', toks := k }) :
    wpAny (model prog w) A (call (.builtin "str.join") [.str x tx', .ref it]) Q E s := by
  refine wpAny_call (codeAny_call_builtin F.slot_str_join.plain F.entry_str_join (F.slot_str_join.check _ _ _ _ _ _ _ _ (typeIs_str _ _ _) (F.args_str_join_2 _ _) ?_))
  rw [join_tree_other]
  refine wpAny_bind (wpAny_typeOf (IsRs.typeIs (s := s) hit) ?_)
  show wpAny _ A.in1 ((pyIter (.ref it)).tryCatch _ >>= fun it => collect it >>= fun items => joinTail x items) _ _ s
  refine wpAny_bind (wpAny_tryCatch (iter_rs hit ?_))
  refine wpAny_bind (collect_rs hh hlen hit hne hz fun h' tk acc hk hacc => ?_)
  have hsz : z.cps.toList.length = z.length := by simp [Str.length]
  have hP : StrsAre acc.toList (z.cps.toList.reverse.map fun c => tx [c]) := by
    refine strs_back (z := z) ?_ fun i v hv => ?_
    · rw [List.length_reverse, hsz, Array.length_toList]
      exact hacc.1
    · obtain ⟨c, t, hc, rfl⟩ := hacc.2 i v (by simpa using hv)
      have hi : i < z.length := by
        have := (List.getElem?_eq_some_iff.mp hv).1
        rw [Array.length_toList, hacc.1] at this
        exact this
      refine ⟨c, t, ?_, rfl⟩
      rw [List.getElem?_reverse (by rw [hsz]; exact hi), hsz]
      simpa using hc
  obtain ⟨l, hl, ht⟩ := strsAre_values hP
  have hok2 : ((z.cps.toList.reverse.map fun c => tx [c]).map (·.length)).sum + (z.cps.toList.reverse.map fun c => tx [c]).length * x.length ≤ 16777216 := by
    have e1 : (z.cps.toList.reverse.map fun c => tx [c]).map (fun y => y.length) = z.cps.toList.reverse.map fun _ => 1 := by
      rw [List.map_map]
      refine List.map_congr_left fun c _ => ?_
      exact tx_len [c]
    rw [e1, List.map_const', List.sum_replicate_nat, List.length_map, List.length_reverse, hsz]
    omega
  rw [← ht] at hok2 hq
  rw [hl]
  have hok' := joinOk_of hok2
  unfold JoinOk at hok'
  rw [Bool.not_eq_true'] at hok'
  have g : Gives (joinTail x (strValues l)) (joinMade x l) := by
    have g0 := gives_joinTail x l hok'
    cases l with
    | nil => exact g0
    | cons p r => cases r with
      | nil => exact g0
      | cons q r' => exact g0
  exact g prog w A (wants Q E) _ (post_join l ⟨joinFit_length hok', fun t' k => hq h' t' k hk⟩)
end
/-- sep.join(reversed(text)) -/
def tJoinRev (to te : TE) : TE := fun σ H Q => to σ H fun x H1 => (∃ a, x = .str a) ∧ te σ H1 fun y H2 => ∃ (z a : Str), x = .str a ∧ y = .str z ∧ 1 ≤ z.length ∧ z.length + z.length * a.length ≤ 16777216 ∧ Q (.str (Txt.join a (z.cps.toList.reverse.map fun c => tx [c]))) H2
theorem pe_joinRev {X : Cx} {o e : Expr} {to te : TE} {apos pos p pos2 : Pos} (hc : X.calm = true) (ho : PE X o to) (he : PE X e te) (hm : X.mg "reversed" = none) (hg : Gl X "reversed" := by rfl)
    (hs1 : starEach [.Call (.Name "reversed" p) [e] [] pos2] X.env = [(false, eval (.Call (.Name "reversed" p) [e] [] pos2) X.env)] := by rfl)
    (hs : starEach [e] X.env = [(false, eval e X.env)] := by rfl)
    (hbase : attributeBase o "join" X.env (eval o X.env) = eval o X.env := by rfl) (hline : (apos.endLine == pos.line) = true := by rfl) :
    PE X (.Call (.Attribute o "join" apos) [.Call (.Name "reversed" p) [e] [] pos2] [] pos) (tJoinRev to te) := by
  refine ⟨fun pins s σ H Q I h => ?_⟩
  refine PySem.Call_method1 hbase hs1 hline (thn (ho.run pins s σ H _ I h) fun v s1 ⟨x, H1, I1, r1, q1⟩ => ?_)
  obtain ⟨⟨a, rfl⟩, q1⟩ := q1
  obtain ⟨t, rfl⟩ := _root_.id r1
  refine ⟨"str", _, F.plainAttrs_str, F.slot_str_join, F.type_str_join, typeIs_str _ _ _, (fun _ e => nomatch e), Calls.callWith_builtin rfl (Calls.evalArgs_plain (Calls.spliced_cons ?_))⟩
  refine wpAny_Call_Name_kw (ld_blt I1 hg hm boot_reversed ?_)
  refine PyProof.Rows.callWith_type1 ?_ hs rfl
  rw [hs]
  show wpAny _ _ (spliced [(false, eval e X.env)]) _ _ s1
  refine Calls.spliced_cons (thn (he.run pins s1 σ H1 _ I1 q1) fun u s2 ⟨y, H2, I2, r2, q2⟩ => ?_)
  refine Calls.spliced_nil ?_
  obtain ⟨z, a', ea, rfl, hne, hok, q2⟩ := q2
  cases ea
  obtain ⟨t2, rfl⟩ := _root_.id r2
  have hh : X.A.handled = none := I2.ok.hd hc
  have hz : z.length ≤ sizeLine := by rw [sizeLine_eq]; omega
  have hlen : ∀ (A : Around) (E : Value → Shared → Prop) (s : Shared) (Q : Value → Shared → Prop), Q (.int z.length (s.toks + 1)) { s with toks := s.toks + 1 + 1 } → wpAny (model X.prog X.w) A (call (.builtin "len") [.str z t2]) Q E s :=
    fun A E s Q hq => PyProof.Rows.len_str (by omega) hq
  refine call_reversed_str hlen fun tk => ?_
  refine Calls.spliced_nil ?_
  refine join_rs (s := { s2 with heap := s2.heap.push (rsObj z t2 ((z.length : Int) - 1)), toks := tk }) hh hlen ⟨_, Heap.get?_push_size _ rfl, rfl, rfl⟩ hne hz hok fun h' t' k hk => ?_
  exact ⟨.str _, H2, I2.kept (t' := k) fun b o eo => hk b o (Nat.ne_of_lt (Heap.lt_size eo)) (Heap.get?_push_of_some _ eo), ⟨t', rfl⟩, q2⟩
end Bd

namespace Bd
open PySem PySem.Spec PyProof.Rows L2 Evl
/-! ### promises: rings -/
def ringV : V → Bool
  | .str z => wordB z.cps.toList && decide (ringW z.cps.toList = z.cps.toList)
  | _ => false
theorem ringV_vS (l : List Nat) : ringV (vS l) = (wordB l && decide (ringW l = l)) := by simp [ringV]
def sp_ring_of (K : PySem.W.Frag) : Sp := fun vs H Q E => ∃ v, vs = [v] ∧ Thing H v ∧ (∀ l, v = vS l → IsW l → ∀ H', Ex H H' → Q (vS (ringW l)) H') ∧ (wordV v = false → ∀ H', Ex H H' → E (badW K) none H')
def sp_is_ring (_ : PySem.W.Frag) : Sp := fun vs H Q _ => ∃ v, vs = [v] ∧ Thing H v ∧ ∀ H', Ex H H' → Q (.bl (ringV v)) H'
def sp_period (K : PySem.W.Frag) : Sp := fun vs H Q E => ∃ v, vs = [v] ∧ Thing H v ∧ (∀ l, v = vS l → IsW l → ∀ H', Ex H H' → Q (.int (perW l : Nat)) H') ∧ (wordV v = false → ∀ H', Ex H H' → E (badW K) none H')
def sp__law_least (_ : PySem.W.Frag) : Sp := fun vs H Q _ => ∃ l, vs = [vS l] ∧ IsW l ∧ ∀ H', Ex H H' → Q (vS (ringW l)) H'
def sp__law_period (_ : PySem.W.Frag) : Sp := fun vs H Q _ => ∃ l, vs = [vS l] ∧ IsW l ∧ ∀ H', Ex H H' → Q (.int (perW l : Nat)) H'
def sp_k02_refused (_ : PySem.W.Frag) : Sp := fun vs H Q _ => ∃ (w : Int) (v : V), vs = [.int w, v] ∧ Thing H v ∧ wordV v = false ∧ ∀ H', Ex H H' → Q (.bl true) H'
theorem wordF {l : List Nat} (h : IsW l) {p : Prop} (z : wordV (vS l) = false) : p := by
  rw [wordV_vS, show wordB l = true from h] at z
  cases z
/-! mirrors -/
def sp_mirrored (K : PySem.W.Frag) : Sp := fun vs H Q E => ∃ v, vs = [v] ∧ Thing H v ∧ (∀ l, v = vS l → IsW l → ∀ H', Ex H H' → Q (vS l.reverse) H') ∧ (wordV v = false → ∀ H', Ex H H' → E (badW K) none H')
def sp_mirror_of (K : PySem.W.Frag) : Sp := fun vs H Q E => ∃ v, vs = [v] ∧ Thing H v ∧ (∀ l, v = vS l → IsW l → ∀ H', Ex H H' → Q (vS (ringW l.reverse)) H') ∧ (wordV v = false → ∀ H', Ex H H' → E (badW K) none H')
def sp_is_own_mirror (K : PySem.W.Frag) : Sp := fun vs H Q E => ∃ v, vs = [v] ∧ Thing H v ∧ (∀ l, v = vS l → IsW l → ∀ H', Ex H H' → Q (.bl (decide (ringW l.reverse = ringW l))) H') ∧ (wordV v = false → ∀ H', Ex H H' → E (badW K) none H')
def sp__law_drawn (K : PySem.W.Frag) : Sp := fun vs H Q _ => ∃ (a : Addr) (ns : List Int) (k : Int), vs = [.ref a, .int k] ∧ SqL K H a (ns.map V.int) ∧ (0 ≤ k ∧ k ≤ 40000) ∧ ∀ l H', IsW l → Ex H H' → Q (vS l) H'
theorem IsW.reverse {l : List Nat} (h : IsW l) : IsW l.reverse := IsW.mk (by rw [List.length_reverse]; exact h.pos) (by rw [List.length_reverse]; exact h.le) fun c hc => h.let_ c (List.mem_reverse.mp hc)
theorem turn_reverse {l : List Nat} {i : Nat} (hi : i ≤ l.length) : turn l.reverse (l.length - i) = (turn l i).reverse := by
  unfold turn
  rw [List.reverse_append, List.drop_reverse, List.take_reverse, show l.length - (l.length - i) = i by omega]
theorem ring_reverse {l : List Nat} (h : 1 ≤ l.length) : ringW (ringW l).reverse = ringW l.reverse := by
  obtain ⟨i, hi, e⟩ := ring_is_turn h
  rw [e, ← turn_reverse (by omega)]
  by_cases z : i = 0
  · subst z
    rw [Nat.sub_zero, ← List.length_reverse (as := l), turn_full]
  · exact ring_turn (by rw [List.length_reverse]; omega)
theorem join_signs (w : List Nat) : Txt.join "" (w.map fun c => tx [c]) = tx w := by
  have := join_nil (w.map fun c => [c])
  rw [List.map_map, flat_single] at this
  exact this
theorem own_due {l : List Nat} (h : 1 ≤ l.length) : decide (ringW (ringW l.reverse).reverse = ringW (ringW l.reverse)) = decide (ringW l.reverse = ringW l) := by
  have hr : 1 ≤ l.reverse.length := by rw [List.length_reverse]; exact h
  rw [ring_reverse hr, List.reverse_reverse, ring_ring hr]
  exact decide_eq_decide.mpr ⟨fun h => h.symm, fun h => h.symm⟩
end Bd

namespace Bd
open PySem PySem.Spec PyProof.Rows L2 Evl
/-! ### lists of texts as data -/
def dS (ws : List Str) : List PyData := ws.map .str
theorem dpAll_S {K : PySem.W.Frag} {H : Hp} : ∀ ws : List Str, DpAll K H (ws.map V.str) (dS ws)
  | [] => .nil
  | z :: ws => .cons (.str z) (dpAll_S ws)
theorem dp_S {K : PySem.W.Frag} {H : Hp} {a : Addr} {ws : List Str} (h : SqL K H a (ws.map V.str)) : Dp K H (.ref a) (.list (dS ws)) := .lst h (dpAll_S ws)
theorem map_vS (ws : List (List Nat)) : ws.map vS = (ws.map tx).map V.str := by rw [List.map_map]; rfl
theorem dp_W {K : PySem.W.Frag} {H : Hp} {a : Addr} {ws : List (List Nat)} (h : SqL K H a (ws.map vS)) : Dp K H (.ref a) (.list (dS (ws.map tx))) := dp_S (by rw [← map_vS]; exact h)
def shortS (z : Str) : Prop := z.length ≤ 100 ∧ ∀ c ∈ z.cps.toList, c < 1000
theorem strOk_of {z : Str} (h : shortS z) : PyData.strOk z = true := by
  unfold PyData.strOk
  rw [← Array.all_toList, List.all_eq_true]
  intro c hc
  have := h.2 c hc
  exact decide_eq_true (by omega)
theorem layAll_S : ∀ {ws : List Str}, (∀ z ∈ ws, shortS z) → PyData.canLayAll0 (dS ws) = true ∧ PyData.depthAll (dS ws) = 0 ∧ PyData.weightAll (dS ws) ≤ 101 * ws.length
  | [], _ => ⟨rfl, rfl, Nat.le_refl _⟩
  | z :: ws, h => by
    obtain ⟨h1, h2, h3⟩ := layAll_S (ws := ws) fun y hy => h y (.tail _ hy)
    have hz := h z (.head _)
    refine ⟨?_, ?_, ?_⟩
    · show (PyData.strOk z && PyData.canLayAll0 (dS ws)) = true
      rw [strOk_of hz, h1]; rfl
    · show max 0 (PyData.depthAll (dS ws)) = 0
      rw [h2]; rfl
    · show z.cps.size + 1 + PyData.weightAll (dS ws) ≤ 101 * (ws.length + 1)
      have : z.cps.size ≤ 100 := hz.1
      omega
theorem lay_S {ws : List Str} (h : ∀ z ∈ ws, shortS z) (hn : ws.length ≤ 10000) : (PyData.list (dS ws)).layable0 = true := by
  obtain ⟨h1, h2, h3⟩ := layAll_S h
  unfold PyData.layable0
  simp only [Bool.and_eq_true, decide_eq_true_eq]
  refine ⟨⟨by simp only [PyData.canLay0]; exact h1, ?_⟩, ?_⟩
  · simp only [PyData.depth, h2]; omega
  · simp only [PyData.weight]
    have : (2 : Nat) ^ 20 = 1048576 := by decide
    omega
theorem showAll_S : ∀ ws : List Str, PyData.showableAll (dS ws) = true ∧ PyData.hasDictAll (dS ws) = false ∧ PyData.intsShortAll 13 (dS ws) = true
  | [] => ⟨rfl, rfl, rfl⟩
  | z :: ws => by
    obtain ⟨h1, h2, h3⟩ := showAll_S ws
    exact ⟨by show (true && PyData.showableAll (dS ws)) = true; rw [h1]; rfl, by show (false || PyData.hasDictAll (dS ws)) = false; rw [h2]; rfl, by show (true && PyData.intsShortAll 13 (dS ws)) = true; rw [h3]; rfl⟩
theorem shaped_S {ws : List Str} (h : ∀ z ∈ ws, shortS z) (hn : ws.length ≤ 10000) : SeqAt.shaped (.list (dS ws)) = true := SeqAt.shaped_of_layable (lay_S h hn)
theorem reprL_S {K : PySem.W.Frag} {H : Hp} {a : Addr} {ws : List Str} {Q : VK} (h : SqL K H a (ws.map V.str)) (hs : ∀ z ∈ ws, shortS z) (hn : ws.length ≤ 10000) (q : Q (.str (PyData.list (dS ws)).shown) H) : rReprL K [.ref a] H Q := by
  obtain ⟨h1, h2, h3⟩ := showAll_S ws
  obtain ⟨_, h4, _⟩ := layAll_S hs
  refine ⟨a, _, rfl, dp_S h, by simp only [PyData.showable]; exact h1, by simp only [PyData.hasDict]; exact h2, by simp only [PyData.depth, h4]; omega, ?_, q⟩
  have := shown_le13 (lay_S hs hn) (by simp only [PyData.intsShort]; exact h3)
  rw [sizeLine_eq]
  omega
theorem eqvAll_S : ∀ ws vs : List Str, PyData.eqvAll (dS ws) (dS vs) = decide (ws = vs)
  | [], [] => rfl
  | [], _ :: _ => rfl
  | _ :: _, [] => rfl
  | z :: ws, y :: vs => by
    show ((z == y) && PyData.eqvAll (dS ws) (dS vs)) = _
    rw [eqvAll_S ws vs]
    by_cases e : z = y
    · subst e
      by_cases e2 : ws = vs
      · subst e2; simp
      · rw [decide_eq_false e2, decide_eq_false (fun q => e2 (List.cons.inj q).2), Bool.and_false]
    · rw [decide_eq_false (fun q => e (List.cons.inj q).1), beq_eq_false_iff_ne.mpr e, Bool.false_and]
theorem eqv_S (ws vs : List Str) : PyData.eqv (.list (dS ws)) (.list (dS vs)) = decide (ws = vs) := by
  simp only [PyData.eqv]
  exact eqvAll_S ws vs
theorem short_W {l : List Nat} (h : IsW l) : shortS (tx l) := ⟨by rw [tx_len]; have := h.le; omega, fun c hc => by
  rw [tx_cps] at hc
  have := h.let_ c hc
  omega⟩
theorem short_Ws {ws : List (List Nat)} (h : ∀ l ∈ ws, IsW l) : ∀ z ∈ ws.map tx, shortS z := fun z hz => by
  obtain ⟨l, hl, rfl⟩ := List.mem_map.mp hz
  exact short_W (h l hl)
theorem tx_map_inj {ws vs : List (List Nat)} : (ws.map tx = vs.map tx) ↔ ws = vs :=
  List.map_inj_right fun _ _ e => tx_inj e
/-- == of two lists of texts -/
theorem eqD_S {K : PySem.W.Frag} {H : Hp} {a b : Addr} {ws vs : List Str} {Q : VK} (h1 : SqL K H a (ws.map V.str)) (h2 : SqL K H b (vs.map V.str)) (s1 : ∀ z ∈ ws, shortS z) (s2 : ∀ z ∈ vs, shortS z) (n1 : ws.length ≤ 10000) (n2 : vs.length ≤ 10000)
    (q : Q (.bl (decide (ws = vs))) H) : rEqD K (.ref a) (.ref b) H Q := ⟨_, _, dp_S h1, dp_S h2, shaped_S s1 n1, shaped_S s2 n2, by rw [eqv_S]; exact q⟩
theorem neD_S {K : PySem.W.Frag} {H : Hp} {a b : Addr} {ws vs : List Str} {Q : VK} (h1 : SqL K H a (ws.map V.str)) (h2 : SqL K H b (vs.map V.str)) (s1 : ∀ z ∈ ws, shortS z) (s2 : ∀ z ∈ vs, shortS z) (n1 : ws.length ≤ 10000) (n2 : vs.length ≤ 10000)
    (q : Q (.bl (!decide (ws = vs))) H) : rNeD K (.ref a) (.ref b) H Q := ⟨_, _, dp_S h1, dp_S h2, shaped_S s1 n1, shaped_S s2 n2, by rw [eqv_S]; exact q⟩
end Bd

namespace Bd
open PySem PySem.Spec PyProof.Rows L2 Evl
/-! ### primes (Lyndon words) -/
abbrev gt (l : List Nat) (x : Nat) : Nat := l.getD x 0
theorem gt_some {l : List Nat} {x : Nat} (h : x < l.length) : l[x]? = some (gt l x) := by
  unfold gt
  rw [List.getD_eq_getElem?_getD, List.getElem?_eq_getElem h]; rfl
theorem gt_elem {l : List Nat} {x : Nat} (h : x < l.length) : gt l x = l[x] := by
  have := gt_some h
  rw [List.getElem?_eq_getElem h] at this
  exact (Option.some.inj this).symm
theorem gt_drop (l : List Nat) (r y : Nat) : gt (l.drop r) y = gt l (r + y) := by
  unfold gt
  rw [List.getD_eq_getElem?_getD, List.getD_eq_getElem?_getD, List.getElem?_drop]
theorem gt_take {l : List Nat} {n y : Nat} (h : y < n) : gt (l.take n) y = gt l y := by
  unfold gt
  rw [List.getD_eq_getElem?_getD, List.getD_eq_getElem?_getD, List.getElem?_take_of_lt h]
theorem gt_appL {l m : List Nat} {y : Nat} (h : y < l.length) : gt (l ++ m) y = gt l y := by
  unfold gt
  rw [List.getD_eq_getElem?_getD, List.getD_eq_getElem?_getD, List.getElem?_append_left h]
theorem lt_at {l m : List Nat} {t : Nat} (hl : t < l.length) (hm : t < m.length) (h1 : ∀ y, y < t → gt l y = gt m y) (h2 : gt l t < gt m t) : l < m :=
  List.lt_iff_exists.mpr (.inr ⟨t, hl, hm, fun y hy => by
    have := h1 y hy
    rw [gt_elem (by omega), gt_elem (by omega)] at this
    exact this, by rw [gt_elem hl, gt_elem hm] at h2; exact h2⟩)
theorem of_lt {l m : List Nat} (h : l < m) (hn : m.length ≤ l.length) : ∃ t, t < m.length ∧ (∀ y, y < t → gt l y = gt m y) ∧ gt l t < gt m t := by
  rcases List.lt_iff_exists.mp h with ⟨_, h2⟩ | ⟨t, h1, h2, h3, h4⟩
  · omega
  · exact ⟨t, h2, fun y hy => by rw [gt_elem (by omega), gt_elem (by omega)]; exact h3 y hy, by rw [gt_elem h1, gt_elem h2]; exact h4⟩
theorem take_le (l : List Nat) (n : Nat) : l.take n ≤ l := (List.take_prefix n l).le
theorem app_le (l m : List Nat) : l ≤ l ++ m := (List.prefix_append l m).le
theorem nlt {l m : List Nat} (h : l ≤ m) (g : m < l) : False := h g
theorem lt_le_trans {a b c : List Nat} (h : a < b) (g : b ≤ c) : a < c := Decidable.byContradiction fun z => List.le_trans g (List.not_lt.mp z) h
structure Lyn (l : List Nat) : Prop where
  ne : l ≠ []
  at_ : ∀ r, 0 < r → r < l.length → ∃ t, r + t < l.length ∧ (∀ y, y < t → gt l y = gt l (r + y)) ∧ gt l t < gt l (r + t)
def Prm (l : List Nat) : Prop := ∀ k, 1 ≤ k → k < l.length → l < turn l k
theorem Lyn.suffix {l : List Nat} (h : Lyn l) {r : Nat} (h0 : 0 < r) (hr : r < l.length) : l < l.drop r := by
  obtain ⟨t, h1, h2, h3⟩ := h.at_ r h0 hr
  exact lt_at (t := t) (by omega) (by rw [List.length_drop]; omega) (fun y hy => by rw [gt_drop]; exact h2 y hy) (by rw [gt_drop]; exact h3)
theorem Lyn.prm {l : List Nat} (h : Lyn l) : Prm l := fun k h0 hk => by
  obtain ⟨t, h1, h2, h3⟩ := h.at_ k h0 hk
  unfold turn
  exact lt_at (t := t) (by omega) (by rw [List.length_append, List.length_drop]; omega) (fun y hy => by rw [gt_appL (by rw [List.length_drop]; omega), gt_drop]; exact h2 y hy)
    (by rw [gt_appL (by rw [List.length_drop]; omega), gt_drop]; exact h3)
theorem app_lt_left {a b c : List Nat} : a ++ b < a ++ c ↔ b < c := by
  induction a with
  | nil => rfl
  | cons x a ih => rw [List.cons_append, List.cons_append, List.cons_lt_cons_self]; exact ih
theorem app_lt_right {a b c d : List Nat} (hl : a.length = b.length) (h : a ++ c < b ++ d) (hc : c = d) : a < b := by
  induction a generalizing b with
  | nil =>
    cases b with
    | nil => rw [hc] at h; exact absurd h (List.lt_irrefl _)
    | cons y b => simp at hl
  | cons x a ih =>
    cases b with
    | nil => simp at hl
    | cons y b =>
      rw [List.cons_append, List.cons_append] at h
      rcases List.cons_lt_cons_iff.mp h with h1 | ⟨h1, h2⟩
      · exact List.cons_lt_cons_iff.mpr (.inl h1)
      · exact List.cons_lt_cons_iff.mpr (.inr ⟨h1, ih (by simpa using hl) h2⟩)
theorem Prm.lyn {l : List Nat} (h : Prm l) (ne : l ≠ []) : Lyn l := by
  refine ⟨ne, fun r h0 hr => ?_⟩
  have key : l < l.drop r := by
    by_cases c : l.drop r < l
    · -- a border is left
      exfalso
      rcases List.lt_iff_exists.mp c with ⟨e, hlen⟩ | ⟨t, h1, h2, h3, h4⟩
      · -- drop r is a prefix: l = b x = y b
        have e1 : l = l.drop r ++ l.drop (l.length - r) := by
          have e2 : (l.drop r).length = l.length - r := List.length_drop ..
          rw [e2] at e
          have := List.take_append_drop (l.length - r) l
          rw [← e] at this
          exact this.symm
        have p1 := h r h0 hr
        have p2 := h (l.length - r) (by omega) (by omega)
        unfold turn at p1 p2
        have x1 : l.drop (l.length - r) < l.take r := by
          have p1' : l.drop r ++ l.drop (l.length - r) < l.drop r ++ l.take r := by rw [← e1]; exact p1
          exact app_lt_left.mp p1'
        have x2 : l.take r < l.drop (l.length - r) := by
          have e3 : l.take (l.length - r) = l.drop r := by
            rw [List.length_drop] at e
            exact e.symm
          rw [e3] at p2
          have p2' : l.take r ++ l.drop r < l.drop (l.length - r) ++ l.drop r := by rw [List.take_append_drop]; exact p2
          exact app_lt_right (by rw [List.length_take, List.length_drop]; omega) p2' rfl
        exact List.lt_asymm x1 x2
      · have p1 := h r h0 hr
        unfold turn at p1
        have : l.drop r ++ l.take r < l := lt_at (t := t) (by rw [List.length_append]; omega) h2 (fun y hy => by
          rw [gt_appL (by omega), gt_elem (by omega), gt_elem (by omega)]; exact h3 y hy) (by rw [gt_appL (by omega), gt_elem (by omega), gt_elem (by omega)]; exact h4)
        exact List.lt_asymm p1 this
    · have hle : l ≤ l.drop r := c
      by_cases e : l = l.drop r
      · have := congrArg List.length e
        rw [List.length_drop] at this
        omega
      · exact Decidable.byContradiction fun g => e (List.le_antisymm hle (List.not_lt.mp g))
  obtain ⟨t, h1, h2, h3⟩ := of_lt key (by rw [List.length_drop]; omega)
  rw [List.length_drop] at h1
  exact ⟨t, by omega, fun y hy => by have := h2 y hy; rw [gt_drop] at this; exact this, by rw [gt_drop] at h3; exact h3⟩
/-! the parting of a word -/
structure Good (l : List Nat) (ps : List (List Nat)) : Prop where
  flat : ps.flatten = l
  lyn : ∀ p ∈ ps, Lyn p
  dec : ps.Pairwise fun a b => b ≤ a
theorem short_end {p1 : List Nat} : ∀ {ps : List (List Nat)}, (∀ p ∈ ps, p ≤ p1) → ∀ n, 0 < n → n ≤ ps.flatten.length → ∃ k, k < n ∧ (ps.flatten.take n).drop k ≤ p1
  | [], _, n, h0, hn => by simp at hn; omega
  | q :: qs, h, n, h0, hn => by
    by_cases c : n ≤ q.length
    · refine ⟨0, h0, ?_⟩
      rw [List.drop_zero, List.flatten_cons, List.take_append_of_le_length c]
      exact List.le_trans (take_le q n) (h q (.head _))
    · rw [List.flatten_cons, List.length_append] at hn
      obtain ⟨k, hk, hle⟩ := short_end (p1 := p1) (ps := qs) (fun p hp => h p (.tail _ hp)) (n - q.length) (by omega) (by omega)
      refine ⟨q.length + k, by omega, ?_⟩
      rw [List.flatten_cons, List.take_append, List.take_of_length_le (by omega), ← List.drop_drop, List.drop_left]
      exact hle
theorem Good.first_le {l : List Nat} {p q : List Nat} {ps qs : List (List Nat)} (h : Good l (p :: ps)) (g : Good l (q :: qs)) : q.length ≤ p.length := by
  refine Nat.le_of_not_lt fun c => ?_
  have hq := g.lyn q (.head _)
  have hd := (List.pairwise_cons.mp h.dec).1
  have e1 : p ++ ps.flatten = q ++ qs.flatten := by rw [← List.flatten_cons, ← List.flatten_cons, h.flat, g.flat]
  have hlen : q.length ≤ p.length + ps.flatten.length := by
    have := congrArg List.length e1
    rw [List.length_append, List.length_append] at this
    omega
  have e2 : q = p ++ ps.flatten.take (q.length - p.length) := by
    have := congrArg (List.take q.length) e1
    rw [List.take_append, List.take_left, List.take_of_length_le (by omega)] at this
    exact this.symm
  obtain ⟨k, hk, hle⟩ := short_end hd (q.length - p.length) (by omega) (by omega)
  have hp : p ≠ [] := (h.lyn p (.head _)).ne
  have hp1 : 1 ≤ p.length := List.length_pos_iff.mpr hp
  have hs : q < q.drop (p.length + k) := hq.suffix (by omega) (by omega)
  have e3 : q.drop (p.length + k) = (ps.flatten.take (q.length - p.length)).drop k := by
    rw [← List.drop_drop]
    congr 1
    generalize q.length - p.length = m at e2
    rw [e2, List.drop_left]
  rw [e3] at hs
  have : p ≤ q := by rw [e2]; exact app_le _ _
  exact nlt (List.le_trans hle this) hs
theorem Good.tail {l : List Nat} {p : List Nat} {ps : List (List Nat)} (h : Good l (p :: ps)) : Good ps.flatten ps := ⟨rfl, fun x hx => h.lyn x (.tail _ hx), (List.pairwise_cons.mp h.dec).2⟩
theorem Good.uniq : ∀ {l : List Nat} {ps qs : List (List Nat)}, Good l ps → Good l qs → ps = qs
  | l, [], [], _, _ => rfl
  | l, [], q :: qs, h, g => by
    have e := g.flat
    rw [← h.flat] at e
    have := (g.lyn q (.head _)).ne
    rw [List.flatten_cons, List.flatten_nil] at e
    exact absurd (List.append_eq_nil_iff.mp e).1 this
  | l, p :: ps, [], h, g => by
    have e := h.flat
    rw [← g.flat] at e
    have := (h.lyn p (.head _)).ne
    rw [List.flatten_cons, List.flatten_nil] at e
    exact absurd (List.append_eq_nil_iff.mp e).1 this
  | l, p :: ps, q :: qs, h, g => by
    have e1 : p ++ ps.flatten = q ++ qs.flatten := by rw [← List.flatten_cons, ← List.flatten_cons, h.flat, g.flat]
    obtain ⟨e2, e3⟩ := List.append_inj e1 (Nat.le_antisymm (g.first_le h) (h.first_le g))
    rw [e2, Good.uniq h.tail (e3 ▸ g.tail)]
theorem Good.one {l : List Nat} (h : Lyn l) : Good l [l] := ⟨by simp, fun p hp => by rw [List.mem_singleton.mp hp]; exact h, List.pairwise_singleton _ _⟩
theorem Good.single {l : List Nat} {ps : List (List Nat)} (h : Good l ps) : ps.length = 1 ↔ Lyn l := by
  constructor
  · intro e
    match ps, e with
    | [p], _ =>
      have := h.flat
      rw [List.flatten_cons, List.flatten_nil, List.append_nil] at this
      rw [← this]
      exact h.lyn p (.head _)
  · intro hl
    rw [h.uniq (Good.one hl)]
    rfl
/-! the run from a place on -/
structure Run (l : List Nat) (b j p : Nat) : Prop where
  p1 : 1 ≤ p
  pj : b + p ≤ j
  jl : j ≤ l.length
  per : ∀ x, p ≤ x → b + x < j → gt l (b + x) = gt l (b + (x - p))
  lyn : ∀ r, 0 < r → r < p → ∃ t, r + t < p ∧ (∀ y, y < t → gt l (b + y) = gt l (b + (r + y))) ∧ gt l (b + t) < gt l (b + (r + t))
theorem Run.start {l : List Nat} {b : Nat} (h : b < l.length) : Run l b (b + 1) 1 :=
  ⟨Nat.le_refl _, Nat.le_refl _, h, fun x h1 h2 => by omega, fun r h1 h2 => by omega⟩
theorem Run.pers {l : List Nat} {b j p : Nat} (h : Run l b j p) : ∀ q x, b + (x + q * p) < j → gt l (b + (x + q * p)) = gt l (b + x)
  | 0, x, _ => by rw [Nat.zero_mul, Nat.add_zero]
  | q + 1, x, hj => by
    have e : x + (q + 1) * p = x + q * p + p := by rw [Nat.add_mul, Nat.one_mul, Nat.add_assoc]
    rw [e] at hj ⊢
    rw [h.per _ (by omega) hj, Nat.add_sub_cancel]
    exact h.pers q x (by omega)
theorem Run.same {l : List Nat} {b j p : Nat} (h : Run l b j p) (hj : j < l.length) (e : gt l (j - p) = gt l j) : Run l b (j + 1) p := by
  have := h.pj
  refine ⟨h.p1, by omega, hj, fun x h1 h2 => ?_, h.lyn⟩
  by_cases c : b + x < j
  · exact h.per x h1 c
  · have e2 : b + x = j := by omega
    have e3 : b + (x - p) = j - p := by omega
    rw [e2, e3, e]
theorem Run.more {l : List Nat} {b j p : Nat} (h : Run l b j p) (hj : j < l.length) (e : gt l (j - p) < gt l j) : Run l b (j + 1) (j + 1 - b) := by
  have hp := h.pj
  have h1 := h.p1
  refine ⟨by omega, by omega, hj, fun x h1 h2 => by omega, fun r h0 hr => ?_⟩
  have hm := Nat.mod_add_div r p
  have hm2 := Nat.mod_lt r (show 0 < p by omega)
  generalize hr0 : r % p = r0 at hm hm2
  generalize hq : r / p = q at hm
  rw [Nat.mul_comm] at hm
  by_cases c : r0 = 0
  · -- begins with a whole one
    subst c
    have hq1 : 1 ≤ q := by
      refine Nat.one_le_iff_ne_zero.mpr fun z => ?_
      rw [z] at hm
      omega
    refine ⟨j - b - r, by omega, fun y hy => ?_, ?_⟩
    · have := h.pers q y (by omega)
      rw [← this]
      congr 2
      omega
    · have e2 : b + (r + (j - b - r)) = j := by omega
      rw [e2]
      have e3 : (q - 1) * p + p = q * p := by
        obtain ⟨q', rfl⟩ : ∃ q', q = q' + 1 := ⟨q - 1, by omega⟩
        rw [Nat.add_sub_cancel, Nat.add_mul, Nat.one_mul]
      have := h.pers (q - 1) (j - b - r) (by omega)
      have e4 : b + (j - b - r + (q - 1) * p) = j - p := by omega
      rw [e4] at this
      rw [← this]
      exact e
  · obtain ⟨t0, g1, g2, g3⟩ := h.lyn r0 (by omega) hm2
    have shift : ∀ y, b + (r + y) < j → gt l (b + (r + y)) = gt l (b + (r0 + y)) := fun y hy => by
      have := h.pers q (r0 + y) (by omega)
      rw [← this]
      congr 2
      omega
    by_cases c2 : b + (r + t0) < j
    · exact ⟨t0, by omega, fun y hy => by rw [shift y (by omega)]; exact g2 y hy, by rw [shift t0 c2]; exact g3⟩
    · have hq1 : 1 ≤ q := by
        refine Nat.one_le_iff_ne_zero.mpr fun z => ?_
        rw [z] at hm
        omega
      refine ⟨j - b - r, by omega, fun y hy => by rw [shift y (by omega)]; exact g2 y (by omega), ?_⟩
      have e2 : b + (r + (j - b - r)) = j := by omega
      rw [e2]
      have e3 : (q - 1) * p + p = q * p := by
        obtain ⟨q', rfl⟩ : ∃ q', q = q' + 1 := ⟨q - 1, by omega⟩
        rw [Nat.add_sub_cancel, Nat.add_mul, Nat.one_mul]
      have := h.pers (q - 1) (r0 + (j - b - r)) (by omega)
      have e4 : b + (r0 + (j - b - r) + (q - 1) * p) = j - p := by omega
      rw [e4] at this
      have h5 : gt l (b + (j - b - r)) ≤ gt l (b + (r0 + (j - b - r))) := by
        by_cases c3 : j - b - r < t0
        · exact Nat.le_of_eq (g2 _ c3)
        · have : j - b - r = t0 := by omega
          rw [this]
          exact Nat.le_of_lt g3
      omega
/-- where a run has come to its end -/
def Stop (l : List Nat) (j p : Nat) : Prop := j = l.length ∨ gt l j < gt l (j - p)
abbrev stretch (l : List Nat) (b p : Nat) : List Nat := (l.drop b).take p
theorem stretch_len {l : List Nat} {b p : Nat} (h : b + p ≤ l.length) : (stretch l b p).length = p := by
  unfold stretch
  rw [List.length_take, List.length_drop]
  omega
theorem stretch_gt {l : List Nat} {b p x : Nat} (h : x < p) : gt (stretch l b p) x = gt l (b + x) := by
  unfold stretch
  rw [gt_take h, gt_drop]
theorem Run.lynW {l : List Nat} {b j p : Nat} (h : Run l b j p) : Lyn (stretch l b p) := by
  have hp := h.pj
  have hl := h.jl
  have h1 := h.p1
  have e := stretch_len (l := l) (b := b) (p := p) (by omega)
  refine ⟨fun z => by rw [z] at e; simp at e; omega, fun r h0 hr => ?_⟩
  rw [e] at hr ⊢
  obtain ⟨t, g1, g2, g3⟩ := h.lyn r h0 hr
  exact ⟨t, g1, fun y hy => by rw [stretch_gt (by omega), stretch_gt (by omega)]; exact g2 y hy, by rw [stretch_gt (by omega), stretch_gt (by omega)]; exact g3⟩
theorem Run.block {l : List Nat} {b j p m : Nat} (h : Run l b j p) (hm : b + m * p + p ≤ j) : stretch l (b + m * p) p = stretch l b p := by
  have hl := h.jl
  have hp := h.pj
  refine List.ext_getElem (by rw [stretch_len (by omega), stretch_len (by omega)]) fun x h1 h2 => ?_
  rw [stretch_len (by omega)] at h1
  rw [← gt_elem, ← gt_elem, stretch_gt h1, stretch_gt h1]
  have := h.pers m x (by omega)
  rw [← this]
  congr 1
  omega
/-- what comes behind a run is not greater -/
theorem Run.behind {l : List Nat} {b j p m : Nat} (h : Run l b j p) (st : Stop l j p) (h1 : b + m * p ≤ j) (h2 : j < b + m * p + p) (hm : 1 ≤ m) (n : Nat) : (l.drop (b + m * p)).take n ≤ stretch l b p := by
  have hl := h.jl
  have hp := h.pj
  have lw := stretch_len (l := l) (b := b) (p := p) (by omega)
  obtain ⟨d, hd⟩ : ∃ d, j = b + m * p + d := ⟨j - (b + m * p), by omega⟩
  have pre : ∀ x, x < d → gt l (b + m * p + x) = gt l (b + x) := fun x hx => by
    have := h.pers m x (by omega)
    rw [← this]
    congr 1
    omega
  have short : ∀ k, k ≤ d → (l.drop (b + m * p)).take k ≤ stretch l b p := fun k hk => by
    have e : (l.drop (b + m * p)).take k = (stretch l b p).take k := by
      refine List.ext_getElem (by rw [List.length_take, List.length_drop, List.length_take, lw]; omega) fun x q1 q2 => ?_
      have hx : x < k := by rw [List.length_take] at q1; omega
      rw [← gt_elem, ← gt_elem, gt_take hx, gt_take hx, gt_drop, stretch_gt (by omega)]
      exact pre x (by omega)
    rw [e]
    exact take_le _ _
  by_cases c : n ≤ d
  · exact short n c
  · rcases st with e | e
    · have e2 : (l.drop (b + m * p)).take n = (l.drop (b + m * p)).take d := by
        rw [List.take_of_length_le (by rw [List.length_drop]; omega), List.take_of_length_le (by rw [List.length_drop]; omega)]
      rw [e2]
      exact short d (Nat.le_refl _)
    · by_cases c2 : j = l.length
      · have e2 : (l.drop (b + m * p)).take n = (l.drop (b + m * p)).take d := by
          rw [List.take_of_length_le (by rw [List.length_drop]; omega), List.take_of_length_le (by rw [List.length_drop]; omega)]
        rw [e2]
        exact short d (Nat.le_refl _)
      · refine List.le_of_lt (lt_at (t := d) (by rw [List.length_take, List.length_drop]; omega) (by rw [lw]; omega) (fun x hx => ?_) ?_)
        · rw [gt_take (by omega), gt_drop, stretch_gt (by omega)]
          exact pre x hx
        · rw [gt_take (by omega), gt_drop, stretch_gt (by omega)]
          have e3 : (m - 1) * p + p = m * p := by
            obtain ⟨q', rfl⟩ : ∃ q', m = q' + 1 := ⟨m - 1, by omega⟩
            rw [Nat.add_sub_cancel, Nat.add_mul, Nat.one_mul]
          have := h.pers (m - 1) d (by omega)
          have e4 : b + (d + (m - 1) * p) = j - p := by omega
          rw [e4] at this
          rw [← this, show b + m * p + d = j by omega]
          exact e
theorem Good.snoc {l w : List Nat} {ps : List (List Nat)} (h : Good l ps) (hw : Lyn w) (le : ∀ x ∈ ps, w ≤ x) : Good (l ++ w) (ps ++ [w]) :=
  ⟨by rw [List.flatten_append, h.flat]; simp, fun p hp => by
    rcases List.mem_append.mp hp with hp | hp
    · exact h.lyn p hp
    · rw [List.mem_singleton.mp hp]; exact hw, List.pairwise_append.mpr ⟨h.dec, List.pairwise_singleton _ _, fun x hx y hy => by rw [List.mem_singleton.mp hy]; exact le x hx⟩⟩
theorem take_more (l : List Nat) (b n : Nat) : l.take (b + n) = l.take b ++ stretch l b n := by
  unfold stretch
  rw [List.take_add]
end Bd

namespace Bd
open PySem PySem.Spec PyProof.Rows L2 Evl
section
variable {K : PySem.W.Frag} {σ : L2.St} {H : Hp} {te : TE} {t : TT}
/-- [.. for x in range(lo, hi) if ..] -/
theorem el_lcR2 {ta : TA} {j : Nat} {vs : List Nat} {lo hi : Int} (f : Nat → Bool) (v : Nat → V) (h : EvA ta σ H [.int lo, .int hi]) (hn : 0 ≤ lo ∧ lo ≤ 40000 ∧ 0 ≤ hi ∧ hi ≤ 40000) (hw : ∀ x, wipe ((wipe σ vs).set j (some x)) vs = wipe σ vs)
    (ht : ∀ (i : Nat) H1, Ex H H1 → lo + (i : Int) < hi → EvT t ((wipe σ vs).set j (some (.int (lo + (i : Int))))) H1 (f i)) (he : ∀ (i : Nat) H1, Ex H H1 → lo + (i : Int) < hi → f i = true → Ev te ((wipe σ vs).set j (some (.int (lo + (i : Int))))) H1 (v i)) :
    EvL (tLc (iRng2 ta) (gName j) t te vs) σ H (given (hi - lo).toNat f v) := fun H0 e Q q => h H0 e _ fun H1 e1 => ⟨lo, hi, rfl, by omega, fun Dl hD =>
  lc_range (lo := lo) (n := (hi - lo).toNat) (Cw H1 f v Dl) ⟨hD, Ex.new hD, upd_same⟩ (fun i H' hi' p =>
    ⟨hw _, cw_turn p (by omega) (ht i H1 (e.trans e1) (by omega)) (fun hf => he i H1 (e.trans e1) (by omega) hf)⟩) (fun H' p => q Dl H' (fresh_back e1 p.1) (e1.trans p.2.1) p.2.2)⟩
/-- [.. for x, y in zip(xs, ys) if ..] -/
theorem lc_zip {ta : TA} {a : Addr} {xs ys : List V} {j k : Nat} {vs : List Nat} (f : Nat → Bool) (v : Nat → V) (src : ∀ R : List V → Hp → Prop, (∀ b H1, Ex H H1 → SqL K H1 b ys → R [.ref a, .ref b] H1) → ta σ H R) (hx : SqL K H a xs) (hz : xs.length ≤ 40000)
    (hw : ∀ x y, wipe (((wipe σ vs).set j (some x)).set k (some y)) vs = wipe σ vs)
    (ht : ∀ (i : Nat) (x y : V) H1, Ex H H1 → xs[i]? = some x → ys[i]? = some y → EvT t (((wipe σ vs).set j (some x)).set k (some y)) H1 (f i))
    (he : ∀ (i : Nat) (x y : V) H1, Ex H H1 → xs[i]? = some x → ys[i]? = some y → f i = true → Ev te (((wipe σ vs).set j (some x)).set k (some y)) H1 (v i))
    {Q : VK} (q : ∀ p H2, H p = none → Ex H H2 → H2 p = some (.lst (given (min xs.length ys.length) f v)) → Q (.ref p) H2) :
    tLc (iZip K ta) (gTup K 2 (gCons (gName j) (gCons (gName k) gNil))) t te vs σ H Q := src _ fun b H1 e1 hy => ⟨a, b, xs, ys, rfl, ex_l e1 hx, hy, fun D hD => by
  refine ⟨fun i m H' => m = min xs.length ys.length - i ∧ i ≤ min xs.length ys.length ∧ Cw H1 f v D i H', ⟨_, rfl, Nat.zero_le _, hD, Ex.new hD, upd_same⟩, ?_⟩
  rintro i m H' ⟨rfl, hi, p⟩
  have hx' := ex_l (e1.trans p.2.1) hx
  have hy' := ex_l p.2.1 hy
  by_cases hlt : i < min xs.length ys.length
  · have g1 : xs[i]? = some (xs[i]'(by omega)) := List.getElem?_eq_getElem (by omega)
    have g2 : ys[i]? = some (ys[i]'(by omega)) := List.getElem?_eq_getElem (by omega)
    refine .inr ⟨⟨xs, ys, _, _, hx', hy', g1, g2⟩, fun H2 => Cw H1 f v D (i + 1) H2, fun H2 p2 => ⟨_, by omega, rfl, hlt, p2⟩, fun x H2 y => ?_⟩
    obtain ⟨T, x1, y1, rfl, hT, rfl, k1, k2⟩ := y
    have ex1 := k1 _ hx'
    have ey1 := k2 _ hy'
    refine ⟨T, [x1, y1], rfl, SqT.of upd_same, rfl, x1, _, rfl, y1, _, rfl, rfl, hw x1 y1, ?_⟩
    have p2 : Cw H1 f v D i (upd H' T (.tup [x1, y1])) := ⟨p.1, p.2.1.trans (Ex.new hT), Ex.new hT _ _ p.2.2⟩
    exact cw_turn p2 (by omega) (ht i x1 y1 H1 e1 ex1 ey1) fun hf => he i x1 y1 H1 e1 ex1 ey1 hf
  · have : i = min xs.length ys.length := by omega
    subst this
    exact .inl ⟨⟨xs, ys, hx', hy', by omega⟩, q D H' (fresh_back e1 p.1) (e1.trans p.2.1) p.2.2⟩⟩
end
end Bd

namespace Bd
open PySem PySem.Spec PyProof.Rows L2 Evl
/-! ### promises: words parted -/
def primeB (l : List Nat) : Bool := decide (∀ k, k < l.length → 1 ≤ k → l < turn l k)
theorem primeB_iff {l : List Nat} : primeB l = true ↔ Prm l := by
  unfold primeB
  rw [decide_eq_true_eq]
  exact ⟨fun h k h1 h2 => h k h2 h1, fun h k h1 h2 => h k h2 h1⟩
def primeV : V → Bool
  | .str z => wordB z.cps.toList && primeB z.cps.toList
  | _ => false
theorem primeV_vS (l : List Nat) : primeV (vS l) = (wordB l && primeB l) := by simp [primeV]
theorem primeV_no {v : V} (h : wordV v = false) : primeV v = false := by
  cases v with
  | str z => show (wordB z.cps.toList && _) = false; rw [show wordB z.cps.toList = false from h]; rfl
  | _ => rfl
theorem Good.prime {l : List Nat} {ps : List (List Nat)} (h : Good l ps) (wl : 1 ≤ l.length) : decide ((ps.length : Int) = 1) = primeB l := by
  rw [Bool.eq_iff_iff, decide_eq_true_eq, primeB_iff]
  constructor
  · intro e
    exact (h.single.mp (by omega)).prm
  · intro e
    have := h.single.mpr (e.lyn (List.length_pos_iff.mp wl))
    omega
theorem Good.word {l : List Nat} {ps : List (List Nat)} (h : Good l ps) (wl : IsW l) : ∀ p ∈ ps, IsW p ∧ primeB p = true := fun p hp => by
  have hs : ∀ c ∈ p, c ∈ l := fun c hc => by rw [← h.flat]; exact List.mem_flatten.mpr ⟨p, hp, hc⟩
  have hl : p.length ≤ l.length := by
    rw [← h.flat]
    exact (List.sublist_flatten_of_mem hp).length_le
  have := wl.le
  exact ⟨IsW.mk (List.length_pos_iff.mpr (h.lyn p hp).ne) (by omega) fun c hc => wl.let_ c (hs c hc), primeB_iff.mpr (h.lyn p hp).prm⟩
theorem Good.len {l : List Nat} {ps : List (List Nat)} (h : Good l ps) : ps.length ≤ l.length := by
  rw [← h.flat]
  have : ∀ qs : List (List Nat), (∀ q ∈ qs, Lyn q) → qs.length ≤ qs.flatten.length := by
    intro qs
    induction qs with
    | nil => intro _; exact Nat.le_refl _
    | cons q qs ih =>
      intro hq
      have h1 := List.length_pos_iff.mpr (hq q (.head _)).ne
      have h2 := ih fun x hx => hq x (.tail _ hx)
      rw [List.flatten_cons, List.length_append, List.length_cons]
      omega
  exact this ps h.lyn
def sp_run_from (_ : PySem.W.Frag) : Sp := fun vs H Q _ => ∃ (l : List Nat) (b : Nat), vs = [vS l, .int (b : Int)] ∧ IsW l ∧ b < l.length ∧
  ∀ j p, Run l b j p → Stop l j p → ∀ T H', H T = none → Ex H H' → H' T = some (.tup [.int (p : Int), .int ((j - p : Nat) : Int)]) → Q (.ref T) H'
def sp_parts_of (K : PySem.W.Frag) : Sp := fun vs H Q E => ∃ v, vs = [v] ∧ Thing H v ∧ (∀ l, v = vS l → IsW l → ∀ ps, Good l ps → ∀ p H', H p = none → Ex H H' → H' p = some (.lst (ps.map vS)) → Q (.ref p) H') ∧
  (wordV v = false → ∀ H', Ex H H' → E (badW K) none H')
def sp_is_prime (_ : PySem.W.Frag) : Sp := fun vs H Q _ => ∃ v, vs = [v] ∧ Thing H v ∧ ∀ H', Ex H H' → Q (.bl (primeV v)) H'
def sp__law_is_prime (_ : PySem.W.Frag) : Sp := fun vs H Q _ => ∃ l, vs = [vS l] ∧ IsW l ∧ ∀ H', Ex H H' → Q (.bl (primeB l)) H'
def sp__law_right (_ : PySem.W.Frag) : Sp := fun vs H Q _ => ∃ l, vs = [vS l] ∧ IsW l ∧ ∀ H', Ex H H' → Q (.bl true) H'
def sp_k04_refused (_ : PySem.W.Frag) : Sp := fun vs H Q _ => ∃ (v : V), vs = [v] ∧ Thing H v ∧ wordV v = false ∧ ∀ H', Ex H H' → Q (.bl true) H'
theorem at_gt {l : List Nat} {x : Nat} (h : x < l.length) : atI l (x : Int) = some (gt l x) := atI_nat (gt_some h)
theorem lt_one4 (c d : Nat) : decide (([c] : List Nat) < [d]) = decide (c < d) :=
  decide_eq_decide.mpr ⟨fun w => (by
    cases w with
    | rel w => exact w
    | cons w => cases w), fun z => List.Lex.rel z⟩
/-- how far a loop with a place in slot k is from an end -/
def farN (k n : Nat) (σ : L2.St) : Nat := match σ[k]? with
  | some (some (.int j)) => n - j.toNat
  | _ => 0
theorem cutV1 (xs : List V) : cutV xs (some 1) none = xs.drop 1 := by
  unfold cutV
  rw [show (some (1 : Int)) = some ((1 : Nat) : Int) from rfl, HT.sIx_nat, HT.sIx_none]
  cases xs with
  | nil => rfl
  | cons x xs =>
    rw [show min 1 (x :: xs).length = 1 by rw [List.length_cons]; omega, List.take_of_length_le (by rw [List.length_drop]; omega)]
theorem Good.step {l : List Nat} {ps : List (List Nat)} (g : Good l ps) {i : Nat} {a b : List Nat} (ha : ps[i]? = some a) (hb : (ps.drop 1)[i]? = some b) : decide (a < b) = false := by
  rw [List.getElem?_drop] at hb
  obtain ⟨h1, rfl⟩ := List.getElem?_eq_some_iff.mp ha
  obtain ⟨h2, rfl⟩ := List.getElem?_eq_some_iff.mp hb
  exact decide_eq_false (List.pairwise_iff_getElem.mp g.dec i (1 + i) h1 h2 (by omega))
end Bd

namespace Bd
open PySem PySem.Spec PyProof.Rows L2 Evl
/-! ### all ways of parting a word -/
def waysN : Nat → List Nat → List (List (List Nat))
  | 0, _ => []
  | n + 1, l => if l = [] then [[]] else (List.range l.length).flatMap fun s => (waysN n (l.drop (s + 1))).map (l.take (s + 1) :: ·)
theorem ways_in : ∀ {n : Nat} {l : List Nat}, l.length < n → ∀ ws, ws ∈ waysN n l ↔ ws.flatten = l ∧ ∀ w ∈ ws, w ≠ []
  | 0, l, h => absurd h (Nat.not_lt_zero _)
  | n + 1, l, h => fun ws => by
    unfold waysN
    by_cases c : l = []
    · subst c
      rw [if_pos rfl, List.mem_singleton]
      constructor
      · rintro rfl
        exact ⟨rfl, fun w hw => nomatch hw⟩
      · rintro ⟨h1, h2⟩
        cases ws with
        | nil => rfl
        | cons w ws =>
          rw [List.flatten_cons] at h1
          exact absurd (List.append_eq_nil_iff.mp h1).1 (h2 w (.head _))
    · rw [if_neg c, List.mem_flatMap]
      have hp := List.length_pos_iff.mpr c
      constructor
      · rintro ⟨s, hs, hw⟩
        have hs2 := List.mem_range.mp hs
        obtain ⟨vs, hv, rfl⟩ := List.mem_map.mp hw
        obtain ⟨h1, h2⟩ := (ways_in (n := n) (l := l.drop (s + 1)) (by rw [List.length_drop]; omega) vs).mp hv
        refine ⟨by rw [List.flatten_cons, h1, List.take_append_drop], fun w hw => ?_⟩
        rcases List.mem_cons.mp hw with rfl | hw
        · exact fun z => by
            have := congrArg List.length z
            rw [List.length_take, List.length_nil] at this
            omega
        · exact h2 w hw
      · rintro ⟨h1, h2⟩
        cases ws with
        | nil => exact absurd h1.symm c
        | cons w ws =>
          have hw := List.length_pos_iff.mpr (h2 w (.head _))
          rw [List.flatten_cons] at h1
          have hl := congrArg List.length h1
          rw [List.length_append] at hl
          refine ⟨w.length - 1, List.mem_range.mpr (by omega), List.mem_map.mpr ⟨ws, ?_, ?_⟩⟩
          · refine (ways_in (n := n) (by rw [List.length_drop]; omega) ws).mpr ⟨?_, fun x hx => h2 x (.tail _ hx)⟩
            rw [← h1, show w.length - 1 + 1 = w.length by omega, List.drop_left]
          · rw [← h1, show w.length - 1 + 1 = w.length by omega, List.take_left]
theorem ways_nodup : ∀ {n : Nat} {l : List Nat}, (waysN n l).Nodup
  | 0, l => List.Pairwise.nil
  | n + 1, l => by
    unfold waysN
    by_cases c : l = []
    · rw [if_pos c]; exact List.pairwise_singleton _ _
    · rw [if_neg c]
      refine List.pairwise_flatMap.mpr ⟨fun s _ => ?_, ?_⟩
      · rw [List.pairwise_map]
        exact (ways_nodup (n := n) (l := l.drop (s + 1))).imp fun h e => h (List.cons.inj e).2
      · refine List.pairwise_iff_getElem.mpr fun i j hi hj hij x hx y hy e => ?_
        rw [List.getElem_range] at hx hy
        rw [List.length_range] at hi hj
        obtain ⟨x', _, rfl⟩ := List.mem_map.mp hx
        obtain ⟨y', _, rfl⟩ := List.mem_map.mp hy
        have := congrArg List.length (List.cons.inj e).1
        rw [List.length_take, List.length_take] at this
        omega
def stepsB (ws : List (List Nat)) : Bool := (List.range (min ws.length (ws.drop 1).length)).all fun i => !decide ((ws.getD i []) < ((ws.drop 1).getD i []))
def goodB (ws : List (List Nat)) : Bool := stepsB ws && ws.all primeB
theorem stepsB_iff {ws : List (List Nat)} : stepsB ws = true ↔ ∀ i (h : i + 1 < ws.length), ws[i + 1] ≤ ws[i] := by
  unfold stepsB
  rw [List.all_eq_true]
  constructor
  · intro h i hi
    have := h i (List.mem_range.mpr (by rw [List.length_drop]; omega))
    rw [List.getD_eq_getElem?_getD, List.getD_eq_getElem?_getD, List.getElem?_drop, List.getElem?_eq_getElem (by omega), List.getElem?_eq_getElem (by omega)] at this
    have e : 1 + i = i + 1 := Nat.add_comm 1 i
    simp only [Option.getD_some, e] at this
    intro z
    rw [decide_eq_true z] at this
    cases this
  · intro h i hi
    have hi2 := List.mem_range.mp hi
    rw [List.length_drop] at hi2
    rw [List.getD_eq_getElem?_getD, List.getD_eq_getElem?_getD, List.getElem?_drop, List.getElem?_eq_getElem (by omega), List.getElem?_eq_getElem (by omega)]
    have e : 1 + i = i + 1 := Nat.add_comm 1 i
    simp only [Option.getD_some, e]
    rw [decide_eq_false (h i (by omega))]
    rfl
theorem steps_pw : ∀ {ws : List (List Nat)}, (∀ i (h : i + 1 < ws.length), ws[i + 1] ≤ ws[i]) → ws.Pairwise fun a b => b ≤ a
  | [], _ => .nil
  | [a], _ => List.pairwise_singleton _ _
  | a :: b :: r, h => by
    have ih := steps_pw (ws := b :: r) fun i hi => h (i + 1) (by simp at hi ⊢; omega)
    have h0 : b ≤ a := h 0 (by simp)
    refine List.pairwise_cons.mpr ⟨fun x hx => ?_, ih⟩
    rcases List.mem_cons.mp hx with rfl | hx
    · exact h0
    · exact List.le_trans ((List.pairwise_cons.mp ih).1 x hx) h0
theorem good_iff {l : List Nat} {ps ws : List (List Nat)} (g : Good l ps) (hf : ws.flatten = l) (hn : ∀ w ∈ ws, w ≠ []) : goodB ws = true ↔ ws = ps := by
  unfold goodB
  rw [Bool.and_eq_true, List.all_eq_true, stepsB_iff]
  constructor
  · rintro ⟨h1, h2⟩
    exact Good.uniq ⟨hf, fun p hp => (primeB_iff.mp (h2 p hp)).lyn (hn p hp), steps_pw h1⟩ g
  · rintro rfl
    exact ⟨fun i hi => List.pairwise_iff_getElem.mp g.dec i (i + 1) (by omega) hi (by omega), fun p hp => primeB_iff.mpr (g.lyn p hp).prm⟩
theorem only {α : Type} {L : List α} {a : α} (nd : L.Nodup) (h : ∀ x, x ∈ L ↔ x = a) : L = [a] := by
  match L, nd, h with
  | [], _, h => exact nomatch (h a).mpr rfl
  | [x], _, h => rw [(h x).mp (.head _)]
  | x :: y :: r, nd, h =>
    have e1 := (h x).mp (.head _)
    have e2 := (h y).mp (.tail _ (.head _))
    have := (List.pairwise_cons.mp nd).1 y (.head _)
    rw [e1, e2] at this
    exact absurd rfl this
/-- of all ways one alone is good -/
theorem ways_good {n : Nat} {l : List Nat} {ps : List (List Nat)} (h : l.length < n) (g : Good l ps) : (waysN n l).filter goodB = [ps] := by
  refine only (List.Pairwise.sublist List.filter_sublist ways_nodup) fun x => ?_
  rw [List.mem_filter]
  constructor
  · rintro ⟨h1, h2⟩
    obtain ⟨h3, h4⟩ := (ways_in h x).mp h1
    exact (good_iff g h3 h4).mp h2
  · rintro rfl
    have hn : ∀ w ∈ x, w ≠ [] := fun w hw => (g.lyn w hw).ne
    exact ⟨(ways_in h x).mpr ⟨g.flat, hn⟩, (good_iff g g.flat hn).mpr rfl⟩
theorem ways_small {n : Nat} {l : List Nat} (h : l.length < n) : ∀ ws ∈ waysN n l, ws.length ≤ l.length ∧ ∀ w ∈ ws, w ≠ [] ∧ ∀ c ∈ w, c ∈ l := fun ws hws => by
  obtain ⟨h1, h2⟩ := (ways_in h ws).mp hws
  refine ⟨?_, fun w hw => ⟨h2 w hw, fun c hc => by rw [← h1]; exact List.mem_flatten.mpr ⟨w, hw, hc⟩⟩⟩
  rw [← h1]
  clear h1 hws
  induction ws with
  | nil => exact Nat.le_refl _
  | cons q qs ih =>
    have h3 := List.length_pos_iff.mpr (h2 q (.head _))
    have h4 := ih fun x hx => h2 x (.tail _ hx)
    rw [List.flatten_cons, List.length_append, List.length_cons]
    omega
theorem ways_len : ∀ {n : Nat} {l : List Nat}, (waysN n l).length ≤ 2 ^ l.length
  | 0, l => Nat.zero_le _
  | n + 1, l => by
    unfold waysN
    by_cases c : l = []
    · rw [if_pos c, c]; exact Nat.le_refl _
    · rw [if_neg c, List.length_flatMap]
      have key : ∀ m, m ≤ l.length → ((List.range m).map fun s => ((waysN n (l.drop (s + 1))).map (l.take (s + 1) :: ·)).length).sum + 2 ^ (l.length - m) ≤ 2 ^ l.length := by
        intro m
        induction m with
        | zero => intro _; simp
        | succ m ih =>
          intro hm
          have h1 := ih (by omega)
          have h2 := ways_len (n := n) (l := l.drop (m + 1))
          rw [List.length_drop] at h2
          rw [List.range_succ, List.map_append, List.sum_append, List.map_singleton, List.sum_singleton, List.length_map]
          have h3 : 2 ^ (l.length - m) = 2 ^ (l.length - (m + 1)) + 2 ^ (l.length - (m + 1)) := by
            rw [show l.length - m = l.length - (m + 1) + 1 by omega, Nat.pow_succ]
            omega
          omega
      exact Nat.le_trans (Nat.le_add_right _ _) (key l.length (Nat.le_refl _))
/-! the last part is the least end -/
theorem Good.last {q : List Nat} : ∀ {ps : List (List Nat)} {l : List Nat}, Good l (ps ++ [q]) → ∀ k, k < l.length → q ≤ l.drop k
  | [], l, g, k, hk => by
    have e := g.flat
    rw [List.nil_append, List.flatten_cons, List.flatten_nil, List.append_nil] at e
    subst e
    by_cases c : k = 0
    · subst c
      exact List.le_refl _
    · exact List.le_of_lt ((g.lyn q (.head _)).suffix (by omega) hk)
  | p :: ps, l, g, k, hk => by
    have e := g.flat
    rw [List.cons_append, List.flatten_cons] at e
    have gt_ : Good (ps ++ [q]).flatten (ps ++ [q]) := Good.tail g
    by_cases c : k < p.length
    · rw [← e, List.drop_append_of_le_length (by omega)]
      have h1 : q ≤ p := (List.pairwise_cons.mp g.dec).1 q (List.mem_append_right _ (.head _))
      have h2 : p ≤ p.drop k := by
        by_cases c0 : k = 0
        · subst c0; exact List.le_refl _
        · exact List.le_of_lt ((g.lyn p (.head _)).suffix (by omega) c)
      exact List.le_trans (List.le_trans h1 h2) (app_le _ _)
    · have hl := congrArg List.length e
      rw [List.length_append] at hl
      have := Good.last gt_ (k - p.length) (by omega)
      rw [← e, List.drop_append, List.drop_eq_nil_of_le (by omega), List.nil_append]
      exact this
theorem Good.ends {l q : List Nat} {ps : List (List Nat)} (g : Good l (ps ++ [q])) : IsMin q ((List.range l.length).map fun k => l.drop k) := by
  have e := g.flat
  rw [List.flatten_append, List.flatten_cons, List.flatten_nil, List.append_nil] at e
  have hq := List.length_pos_iff.mpr (g.lyn q (List.mem_append_right _ (.head _))).ne
  have hl := congrArg List.length e
  rw [List.length_append] at hl
  refine ⟨List.mem_map.mpr ⟨ps.flatten.length, List.mem_range.mpr (by omega), by rw [← e, List.drop_left]⟩, fun y hy => ?_⟩
  obtain ⟨k, hk, rfl⟩ := List.mem_map.mp hy
  exact g.last k (List.mem_range.mp hk)
end Bd

namespace Bd
open PySem PySem.Spec PyProof.Rows L2 Evl
/-! ### promises: k05 -/
/-- the values are lists of texts as they stand in the heap -/
def LL (H : Hp) (rs : List V) (wss : List (List (List Nat))) : Prop := rs.length = wss.length ∧ ∀ (i : Nat) ws, wss[i]? = some ws → ∃ r, rs[i]? = some (.ref r) ∧ H r = some (.lst (ws.map vS))
theorem LL.mono {H H' : Hp} {rs : List V} {wss : List (List (List Nat))} (h : LL H rs wss) (e : Ex H H') : LL H' rs wss :=
  ⟨h.1, fun i ws hi => by obtain ⟨r, h1, h2⟩ := h.2 i ws hi; exact ⟨r, h1, e _ _ h2⟩⟩
theorem LL.nil {H : Hp} : LL H [] [] := ⟨rfl, fun i ws h => nomatch h⟩
theorem LL.app {H : Hp} {rs ts : List V} {wss vss : List (List (List Nat))} (h : LL H rs wss) (g : LL H ts vss) : LL H (rs ++ ts) (wss ++ vss) := by
  refine ⟨by rw [List.length_append, List.length_append, h.1, g.1], fun i ws hi => ?_⟩
  by_cases c : i < wss.length
  · rw [List.getElem?_append_left c] at hi
    obtain ⟨r, h1, h2⟩ := h.2 i ws hi
    exact ⟨r, by rw [List.getElem?_append_left (by rw [h.1]; exact c)]; exact h1, h2⟩
  · rw [List.getElem?_append_right (by omega)] at hi
    obtain ⟨r, h1, h2⟩ := g.2 _ ws hi
    exact ⟨r, by rw [List.getElem?_append_right (by rw [h.1]; omega), h.1]; exact h1, h2⟩
theorem LL.one {H : Hp} {r : Addr} {ws : List (List Nat)} (h : H r = some (.lst (ws.map vS))) : LL H [.ref r] [ws] :=
  ⟨rfl, fun i vs hi => by
    match i, hi with
    | 0, hi => exact ⟨r, rfl, by rw [← Option.some.inj hi]; exact h⟩⟩
def sp_ways_n (n : Nat) (_ : PySem.W.Frag) : Sp := fun vs H Q _ => ∃ l, vs = [vS l] ∧ l.length < n ∧ l.length ≤ 12 ∧ (∀ c ∈ l, 97 ≤ c ∧ c ≤ 104) ∧ ∀ p rs H', H p = none → Ex H H' → H' p = some (.lst rs) → LL H' rs (waysN n l) → Q (.ref p) H'
def sp__law_ways (K : PySem.W.Frag) : Sp := sp_ways_n 12 K
def sp__law_good (K : PySem.W.Frag) : Sp := fun vs H Q _ => ∃ (a : Addr) (ws : List (List Nat)), vs = [.ref a] ∧ H a = some (.lst (ws.map vS)) ∧ ws.length ≤ 60 ∧ (∀ w ∈ ws, IsW w) ∧ ∀ H', Ex H H' → Q (.bl (goodB ws)) H'
/-- as LL, none of them being D -/
def LLx (D : Addr) (H : Hp) (rs : List V) (wss : List (List (List Nat))) : Prop := rs.length = wss.length ∧ ∀ (i : Nat) ws, wss[i]? = some ws → ∃ r, rs[i]? = some (.ref r) ∧ r ≠ D ∧ H r = some (.lst (ws.map vS))
theorem LLx.ll {D : Addr} {H : Hp} {rs : List V} {wss : List (List (List Nat))} (h : LLx D H rs wss) : LL H rs wss :=
  ⟨h.1, fun i ws hi => by obtain ⟨r, h1, _, h2⟩ := h.2 i ws hi; exact ⟨r, h1, h2⟩⟩
theorem LLx.nil {D : Addr} {H : Hp} : LLx D H [] [] := ⟨rfl, fun i ws h => nomatch h⟩
theorem LLx.snoc {D r : Addr} {H H4 : Hp} {o : HO} {ts : List V} {wss : List (List (List Nat))} {ws : List (List Nat)} (h : LLx D H ts wss) (e : Ex H H4) (hr : H4 r = some (.lst (ws.map vS))) (hn : r ≠ D) :
    LLx D (upd H4 D o) (ts ++ [.ref r]) (wss ++ [ws]) := by
  refine ⟨by rw [List.length_append, List.length_append, h.1]; rfl, fun i vs hi => ?_⟩
  by_cases c : i < wss.length
  · rw [List.getElem?_append_left c] at hi
    obtain ⟨q, h1, h2, h3⟩ := h.2 i vs hi
    exact ⟨q, by rw [List.getElem?_append_left (by rw [h.1]; exact c)]; exact h1, h2, by rw [upd_ne h2]; exact e _ _ h3⟩
  · rw [List.getElem?_append_right (by omega)] at hi
    have hi0 : i - wss.length = 0 := by
      have := (List.getElem?_eq_some_iff.mp hi).1
      rw [List.length_singleton] at this
      omega
    rw [hi0] at hi
    obtain rfl := Option.some.inj hi
    exact ⟨r, by rw [List.getElem?_append_right (by rw [h.1]; omega), h.1, hi0]; rfl, hn, by rw [upd_ne hn]; exact hr⟩
theorem given_W (n : Nat) (f : Nat → Bool) (g : Nat → List Nat) : given n f (fun i => vS (g i)) = (((List.range n).filter f).map fun i => tx (g i)).map V.str := by
  unfold given
  rw [List.map_map]
  rfl
theorem given_none (n : Nat) (f : Nat → Bool) (g : Nat → Str) : decide ((((List.range n).filter f).map g) = []) = (List.range n).all fun i => !f i := by
  rw [Bool.eq_iff_iff, decide_eq_true_eq, List.map_eq_nil_iff, List.filter_eq_nil_iff, List.all_eq_true]
  exact ⟨fun h i hi => by simpa using h i hi, fun h i hi => by simpa using h i hi⟩
theorem getD_of {ws : List (List Nat)} {i : Nat} {w : List Nat} (h : ws[i]? = some w) : ws.getD i [] = w := by rw [List.getD_eq_getElem?_getD, h]; rfl
theorem vS_at {ws : List (List Nat)} {i : Nat} {x : V} (h : (ws.map vS)[i]? = some x) : ∃ w, x = vS w ∧ ws[i]? = some w ∧ w ∈ ws := by
  rw [List.getElem?_map] at h
  obtain ⟨w, hw, rfl⟩ := Option.map_eq_some_iff.mp h
  exact ⟨w, rfl, hw, List.mem_of_getElem? hw⟩
theorem short_given {ws : List (List Nat)} {n : Nat} {f : Nat → Bool} (hw : ∀ w ∈ ws, IsW w) : ∀ z ∈ ((List.range n).filter f).map (fun i => tx (ws.getD i [])), shortS z := fun z hz => by
  obtain ⟨i, _, rfl⟩ := List.mem_map.mp hz
  cases e : ws[i]? with
  | none => rw [List.getD_eq_getElem?_getD, e]; exact ⟨by decide, by decide⟩
  | some w => rw [getD_of e]; exact short_W (hw w (List.mem_of_getElem? e))
theorem given_small {n m : Nat} {f : Nat → Bool} {g : Nat → Str} (h : n ≤ m) : (((List.range n).filter f).map g).length ≤ m := by
  rw [List.length_map]
  have := List.length_filter_le f (List.range n)
  rw [List.length_range] at this
  omega
theorem all_primes (ws : List (List Nat)) : ((List.range ws.length).all fun i => !!primeB (ws.getD i [])) = ws.all primeB := by
  rw [Bool.eq_iff_iff, List.all_eq_true, List.all_eq_true]
  constructor
  · intro h w hw
    obtain ⟨i, hi, rfl⟩ := List.getElem_of_mem hw
    have := h i (List.mem_range.mpr hi)
    rw [getD_of (List.getElem?_eq_getElem hi)] at this
    simpa using this
  · intro h i hi
    have hi2 := List.mem_range.mp hi
    rw [getD_of (List.getElem?_eq_getElem hi2), h _ (List.getElem_mem hi2)]
    rfl
theorem flat_le {α : Type} {f : Nat → List α} {m : Nat} (h : ∀ s, (f s).length ≤ m) : ∀ i, ((List.range i).flatMap f).length ≤ i * m
  | 0 => Nat.zero_le _
  | i + 1 => by
    have := flat_le h i
    have := h i
    rw [List.range_succ, List.flatMap_append, List.length_append, Nat.add_mul, Nat.one_mul]
    simp only [List.flatMap_cons, List.flatMap_nil, List.append_nil]
    omega
theorem ways_4096 {n : Nat} {l : List Nat} (h : l.length ≤ 12) : (waysN n l).length ≤ 4096 :=
  Nat.le_trans ways_len (Nat.le_trans (Nat.pow_le_pow_right (by decide) h) (by decide))
theorem flat_succ {α : Type} (f : Nat → List α) (i : Nat) : (List.range (i + 1)).flatMap f = (List.range i).flatMap f ++ f i := by
  rw [List.range_succ, List.flatMap_append]
  simp
def dLL (wss : List (List (List Nat))) : List PyData := wss.map fun ws => .list (dS (ws.map tx))
theorem dp_LL {K : PySem.W.Frag} {H : Hp} : ∀ {rs : List V} {wss : List (List (List Nat))}, LL H rs wss → DpAll K H rs (dLL wss)
  | [], [], _ => .nil
  | [], _ :: _, h => nomatch h.1
  | _ :: _, [], h => nomatch h.1
  | v :: rs, ws :: wss, h => by
    obtain ⟨r, h1, h2⟩ := h.2 0 ws rfl
    cases (Option.some.inj h1)
    exact .cons (dp_W (SqL.of h2)) (dp_LL ⟨Nat.succ.inj h.1, fun i vs hi => h.2 (i + 1) vs hi⟩)
theorem shaped_one {ps : List (List Nat)} (hw : ∀ w ∈ ps, IsW w) : SeqAt.shaped (.list (dLL [ps])) = true := by
  obtain ⟨h1, h2, _⟩ := layAll_S (short_Ws hw)
  unfold SeqAt.shaped dLL
  simp only [List.map_cons, List.map_nil, PyData.canLay0, PyData.canLayAll0, PyData.depth, PyData.depthAll, h1, h2]
  decide
theorem eqv_one (ps : List (List Nat)) : PyData.eqv (.list (dLL [ps])) (.list (dLL [ps])) = true := by
  have := eqv_S (ps.map tx) (ps.map tx)
  rw [decide_eq_true rfl] at this
  unfold dLL
  simp only [List.map_cons, List.map_nil]
  rw [PyData.eqv, PyData.eqvAll, this, PyData.eqvAll]
  rfl
theorem ways_words {n : Nat} {l : List Nat} (h : l.length < n) (wl : IsW l) : ∀ ws ∈ waysN n l, ws.length ≤ 60 ∧ ∀ w ∈ ws, IsW w := fun ws hws => by
  obtain ⟨h1, h2⟩ := ways_small h ws hws
  have := wl.le
  refine ⟨by omega, fun w hw => ?_⟩
  obtain ⟨h3, h4⟩ := h2 w hw
  have h5 : w.length ≤ l.length := by
    rw [← ((ways_in h ws).mp hws).1]
    exact (List.sublist_flatten_of_mem hw).length_le
  exact IsW.mk (List.length_pos_iff.mpr h3) (by omega) fun c hc => wl.let_ c (h4 c hc)
theorem IsW.take {l : List Nat} (h : IsW l) {n : Nat} (hn : 1 ≤ n) : IsW (l.take n) := IsW.mk (by have := h.pos; rw [List.length_take]; omega) (by have := h.le; rw [List.length_take]; omega) fun c hc => h.let_ c (List.mem_of_mem_take hc)
theorem Good.isOne {p : List Nat} {ps qs : List (List Nat)} {l : List Nat} (g : Good l ps) (hp : p ∈ ps) (h : Good p qs) : qs = [p] := h.uniq (Good.one (g.lyn p hp))
theorem Good.ne {l : List Nat} {ps : List (List Nat)} (g : Good l ps) (hl : 1 ≤ l.length) : ∃ qs q, ps = qs ++ [q] := by
  have : ps ≠ [] := fun c => by
    have := g.flat
    rw [c] at this
    rw [← this] at hl
    exact absurd hl (by decide)
  exact ⟨ps.dropLast, ps.getLast this, (List.dropLast_concat_getLast this).symm⟩
theorem given_all5 {n : Nat} {v : Nat → V} : given n (fun _ => true) v = (List.range n).map v := by
  unfold given
  rw [List.filter_eq_self.mpr (fun _ _ => rfl)]
theorem At.def0 {P : Program} {w : World} {K : PySem.W.Frag} {mg : Str → Option Value} {base : Heap} {x : Str} {ps : List Str} {st : Stmt} {sp : Sp} (F : At K mg x ps st) (h : ∀ vs H Q E, sp vs H Q E → False) : DefAt P w K mg base 0 x ps sp := by
  obtain ⟨f, fd, F, m, b⟩ := F.out
  exact ⟨f, fd, ⟨fun vs H Q E z => (h vs H Q E z).elim, fun _ _ _ H _ _ vs Q E _ _ _ _ z => (h vs H Q E z).elim⟩, m, F.kp, b⟩
end Bd

namespace Bd
open PySem PySem.Spec PyProof.Rows L2
/-! ### the law's own end, from the promise of its def -/
theorem law_start {K : PySem.W.Frag} {H : Hp} {a : Addr} {ns : List Int} (hl : ns.length ≤ 63) (hS : SqL K H a (ns.map V.int)) : sp_law K [.ref a] H (fun v _ => v = .bl true) fun _ _ _ => False :=
  ⟨a, ns, rfl, hS, hl, fun _ => rfl⟩
/-- the abstract heap at the law's entry: the script alone, locked -/
def onlyS (a : Addr) (vs : List Value) (ns : List Int) : Hp := fun b => if b = a then some (.frz { cls := .type "list", data := .seq vs.toArray } (.lst (ns.map V.int))) else none
theorem run_end {P : Program} {w : World} {K : PySem.W.Frag} {mg mb : Str → Option Value} {fa a : Addr} {x : Str} {sp : Sp} {s1 : Shared} {vs : List Value} {ns : List Int}
    (KX : K.In s1.heap) (hns : s1.heap.Ns mainGlobals mg) (hb : s1.heap.Ns builtinsNs mb) (hbb : ∀ x : Str, x ≠ "__name__" → mb x = bootBuiltins x) (hlim : s1.heap.NoLimit) (hg : s1.gens = #[])
    (ha : s1.heap.get? a = some { cls := .type "list", data := .seq vs.toArray }) (hi : IntsAre vs ns) (hl : ns.length ≤ sizeLine)
    (F : ∀ base : Heap, K.In base → base.Ns mainGlobals mg → ∃ fd : FuncData, BindsAll fd [x] ∧ ∀ (H : Hp) (us : List Value) (vs : List V) (Q : VK) (E : XK), Env0 P w K mg base callerA [] s1 H → BindsTo s1 fd ⟨us, []⟩ ([x].zip us) → Vals vs us → sp vs H Q E →
      codeAny (model P w) callerA (.call (.ref fa) ⟨us, []⟩) (CR (L2.CX P w) [] P w H s1 Q E) s1)
    (hsp : ∀ H : Hp, Only H → SqL K H a (ns.map V.int) → sp [.ref a] H (fun v _ => v = .bl true) fun _ _ _ => False) :
    codeAny (model P w) callerA (.call (.ref fa) ⟨[.ref a], []⟩) (fun r s' => r = .ok (.ret (.bool true)) ∧ OldK s1.heap s'.heap ∧ s'.os = s1.os ∧ AllBare s'.gens) s1 := by
  have rv := vals_ints hi
  have lenV := hi.length
  -- whatever is tracked is the script
  have main : ∀ H : Hp, Only H → SqL K H a (ns.map V.int) → HOk P w H s1.heap → (∀ b, H b ≠ none → b = a ∧ K.lookup a = none) →
      codeAny (model P w) callerA (.call (.ref fa) ⟨[.ref a], []⟩) (fun r s' => r = .ok (.ret (.bool true)) ∧ OldK s1.heap s'.heap ∧ s'.os = s1.os ∧ AllBare s'.gens) s1 := by
    intro H hO hS hok only
    have out : ∀ {b : Addr} {o : Obj}, s1.heap.get? b = some o → (b ≠ a ∨ K.lookup a ≠ none) → (hidT s1.heap H).get? b = some o := fun {b o} e n => hidT_get e (by
      cases q : H b with
      | none => rfl
      | some u =>
        obtain ⟨z1, z2⟩ := only b (by rw [q]; exact fun z => nomatch z)
        rcases n with n | n
        · exact absurd z1 n
        · exact absurd z2 n)
    have ns_ : ∀ {b : Addr} {m : Str → Option Value}, s1.heap.Ns b m → (hidT s1.heap H).Ns b m := fun {b m} h => by
      obtain ⟨o, es, ep, e, d, r⟩ := h
      refine ⟨o, es, ep, out e (.inl fun z => ?_), d, r⟩
      rw [z, ha] at e
      cases e
      have d' : Data.seq vs.toArray _ = Data.dict es ep := d
      cases d'
    have hK : K.In (hidT s1.heap H) := fun b o e => out (KX b o e) (by
      by_cases z : b = a
      · exact .inr (by rw [← z, e]; exact fun z => nomatch z)
      · exact .inl z)
    have hM : Mod K mg (hidT s1.heap H) := ⟨hK, ns_ hns, ⟨mb, ns_ hb, hbb⟩, by obtain ⟨mc, h1, h2⟩ := hlim; exact ⟨mc, ns_ h1, h2⟩⟩
    have e0 : Env0 P w K mg (hidT s1.heap H) callerA [] s1 H := ⟨rfl, hM, fun b o e => of_hidT e, Nat.le_of_eq (hidT_size _ _), trivial, fun b hb => absurd (show b ∈ ([] : List Addr) from hb) (by simp), hok, .of_eq hg⟩
    obtain ⟨fd, hbd, run⟩ := F _ hK (ns_ hns)
    refine codeAny_mono (run H [.ref a] [.ref a] (fun v _ => v = .bl true) (fun _ _ _ => False) e0 (hbd s1 [.ref a] rfl) (.cons rfl .nil) (hsp H hO hS)) fun r s' h => ?_
    cases r with
    | error e =>
      obtain ⟨_, _, _, _, _, _, _, _, _, _, _, _, z⟩ := h
      exact z.elim
    | ok fl =>
      cases fl with
      | next => exact False.elim h
      | brk => exact False.elim h
      | cont => exact False.elim h
      | ret u =>
        obtain ⟨v, H', os, bare, un, hok', r', rfl⟩ := h
        obtain rfl : u = Value.bool true := r'
        refine ⟨rfl, OldK.of_keep fun b o e => ?_, os, bare⟩
        rcases hO b with q | ⟨ob, xs, q⟩
        · exact un.keep b o e q (fun z => nomatch z) (fun z => nomatch z)
        · obtain ⟨e1, _⟩ := hok b _ q
          obtain ⟨e2, _⟩ := hok' b _ (un.frzs b ob _ q)
          rw [e] at e1
          cases e1
          exact e2
  by_cases hk : K.lookup a = none
  · refine main (onlyS a vs ns) (fun b => ?_) (.inl (.inr ⟨_, if_pos rfl⟩)) (fun b u z => ?_) (fun b z => ⟨?_, hk⟩)
    · by_cases q : b = a
      · exact .inr ⟨_, _, if_pos q⟩
      · exact .inl (if_neg q)
    · by_cases q : b = a
      · subst q
        have z' := (if_pos rfl).symm.trans z
        cases z'
        exact ⟨ha, by rw [List.length_map]; exact hl, vs, _, rv, ha⟩
      · have z' := (if_neg q).symm.trans z
        cases z'
    · exact Classical.byContradiction fun q => z (if_neg q)
  · obtain ⟨o, ho⟩ := Option.ne_none_iff_exists'.mp hk
    have e := KX a o ho
    rw [ha] at e
    cases e
    exact main (fun _ => none) (fun _ => .inl rfl) (.inr ⟨_, vs.toArray, _, ho, rfl, rfl, rfl, by rw [List.size_toArray, lenV]; exact hl, by simpa using rv⟩) (fun b u z => by cases z) (fun b z => absurd rfl z)
section
variable {l : PySem.W.OpenLaw} {n k : Nat} {q : Program} {loose : List Str} {XP : (Str → Option Value) → Heap → Prop} {YP : World → Heap → Prop} {d : DefRec} {x : Str}
theorem walk_end (hn : l.most = some n) (hn2 : n ≤ sizeLine) (hdf : d.params.defaults = []) (hr : Room k callerA)
    (F : ∀ (w : World) (mg : Str → Option Value) (h : Heap), YP w h → h.Ns mainGlobals mg → ∃ (K : PySem.W.Frag) (sp : Sp), K.In h ∧ d.name = "law" ∧
      (∀ (H : Hp) (a : Addr) (ns : List Int), ns.length ≤ n → Only H → SqL K H a (ns.map V.int) → sp [.ref a] H (fun v _ => v = .bl true) fun _ _ _ => False) ∧
      ∀ base : Heap, K.In base → base.Ns mainGlobals mg → DefAt l.prog w K mg base k "law" [x] sp) :
    PySem.W.WalkO q loose XP YP l.row.toRowW d [] (fun f vs => PySem.call f vs) := by
  refine Att.attach_call hn hdf fun w s0 s1 mg mb fa o pm cd doc a vs ns G Y ho hd hcd hmg hobj hints hlen hg => ?_
  obtain ⟨K, sp, KX, hname, hsp, hF⟩ := F w mg _ Y G.T.g
  rw [hname] at hmg
  refine run_end (x := x) KX G.T.g G.T.b G.T.builtins G.T.nolimit hg hobj hints (Nat.le_trans hlen hn2) (fun base hK hN => ?_) fun H hO hS => hsp H a ns hlen hO hS
  obtain ⟨f, fd, ok, m, _, b⟩ := (hF base hK hN).out
  rw [hmg] at m
  cases m
  exact ⟨fd, b, fun H us vs Q E e0 hb r h => ok.run callerA [] s1 H ⟨us, []⟩ us vs Q E hr e0 hb r h⟩
theorem walk_endG (hn : l.most = some n) (hn2 : n ≤ sizeLine) (hdf : d.params.defaults = []) (hr : Room k callerA)
    (F : ∀ (w : World) (mg : Str → Option Value) (h : Heap), YP w h → h.Ns mainGlobals mg → ∃ (K : PySem.W.Frag) (sp : Sp), K.In h ∧ d.name = "law" ∧
      (∀ (H : Hp) (a : Addr) (ns : List Int), ns.length ≤ n → Only H → SqL K H a (ns.map V.int) → sp [.ref a] H (fun v _ => v = .bl true) fun _ _ _ => False) ∧
      ∀ base : Heap, K.In base → base.Ns mainGlobals mg → DefG l.prog w K mg base k "law" [x] sp) :
    PySem.W.WalkO q loose XP YP l.row.toRowW d [] (fun f vs => PySem.call f vs) := by
  refine Att.attach_call hn hdf fun w s0 s1 mg mb fa o pm cd doc a vs ns G Y ho hd hcd hmg hobj hints hlen hg => ?_
  obtain ⟨K, sp, KX, hname, hsp, hF⟩ := F w mg _ Y G.T.g
  rw [hname] at hmg
  refine run_end (x := x) KX G.T.g G.T.b G.T.builtins G.T.nolimit hg hobj hints (Nat.le_trans hlen hn2) (fun base hK hN => ?_) fun H hO hS => hsp H a ns hlen hO hS
  obtain ⟨f, fd, ok, m, _, b⟩ := (hF base hK hN).out
  rw [hmg] at m
  cases m
  exact ⟨fd, b, fun H us vs Q E e0 hb r h => ok.run callerA [] s1 H ⟨us, []⟩ us vs Q E hr rfl e0 hb r h⟩
end
end Bd

namespace Bd
open PySem PySem.Spec PyProof.Rows L2
def topS (i : Nat) : Stmt := PySem.Challenge.pw_beadrings_k05_whole_one_way.main.body.getD i (.Pass ⟨0, 0, 0, 0⟩)
abbrev s_is_word : Stmt := topS 6
theorem sc_is_word : FnScope ["thing", "sign"] ["thing"] (defScope s_is_word) := ⟨rfl, rfl, rfl, by decide +kernel, rfl, by decide +kernel, by decide +kernel⟩
abbrev s_need_word : Stmt := topS 7
theorem sc_need_word : FnScope ["thing"] ["thing"] (defScope s_need_word) := ⟨rfl, rfl, rfl, by decide +kernel, rfl, by decide +kernel, by decide +kernel⟩
abbrev s_run_from : Stmt := topS 9
theorem sc_run_from : FnScope ["word", "begin", "behind", "same"] ["word", "begin"] (defScope s_run_from) := ⟨rfl, rfl, rfl, by decide +kernel, rfl, by decide +kernel, by decide +kernel⟩
abbrev s_parts_of : Stmt := topS 10
theorem sc_parts_of : FnScope ["word", "found", "begin", "size", "same"] ["word"] (defScope s_parts_of) := ⟨rfl, rfl, rfl, by decide +kernel, rfl, by decide +kernel, by decide +kernel⟩
abbrev s__law_mixed : Stmt := topS 12
theorem sc__law_mixed : FnScope ["_law_cell", "_law_k", "_law_number_here"] ["_law_cell", "_law_k"] (defScope s__law_mixed) := ⟨rfl, rfl, rfl, by decide +kernel, rfl, by decide +kernel, by decide +kernel⟩
abbrev s__law_number : Stmt := topS 13
theorem sc__law_number : FnScope ["_law_script", "_law_k", "_law_cell"] ["_law_script", "_law_k"] (defScope s__law_number) := ⟨rfl, rfl, rfl, by decide +kernel, rfl, by decide +kernel, by decide +kernel⟩
abbrev s__law_word : Stmt := topS 14
theorem sc__law_word : FnScope ["_law_script", "_law_at", "_law_number_here", "_law_few", "_law_size", "_law_word_here", "_law_k", "_law_again", "_law_place"] ["_law_script", "_law_at"] (defScope s__law_word) := ⟨rfl, rfl, rfl, by decide +kernel, rfl, by decide +kernel, by decide +kernel⟩
abbrev s__law_is_prime : Stmt := topS 15
theorem sc__law_is_prime : FnScope ["_law_word_here", "_law_k"] ["_law_word_here"] (defScope s__law_is_prime) := ⟨rfl, rfl, rfl, by decide +kernel, rfl, by decide +kernel, by decide +kernel⟩
abbrev s__law_ways : Stmt := topS 16
theorem sc__law_ways : FnScope ["_law_word_here", "_law_found", "_law_size", "_law_others"] ["_law_word_here"] (defScope s__law_ways) := ⟨rfl, rfl, rfl, by decide +kernel, rfl, by decide +kernel, by decide +kernel⟩
abbrev s__law_good : Stmt := topS 17
theorem sc__law_good : FnScope ["_law_way", "_law_one", "_law_two"] ["_law_way"] (defScope s__law_good) := ⟨rfl, rfl, rfl, by decide +kernel, rfl, by decide +kernel, by decide +kernel⟩
abbrev s_law : Stmt := topS 18
theorem sc_law : FnScope ["_law_script", "_law_k", "_law_word_here", "_law_few", "_law_way", "_law_found", "_law_whole", "_law_one", "_law_place"] ["_law_script"] (defScope s_law) := ⟨rfl, rfl, rfl, by decide +kernel, rfl, by decide +kernel, by decide +kernel⟩
end Bd
open PySem PySem.Spec L2 Evl in
local macro_rules | `(tactic| walk_at "bd") => `(tactic| (try simp only [Bd.tJoinRev, L2.tSeq, L2.tAsg, L2.tRet, L2.tRetN, L2.tNext, L2.tIfS, L2.tIf, L2.tOp, L2.tUn, L2.rI, L2.rI0, L2.rU, L2.tVar, L2.tC, L2.gName, L2.gCons, L2.gNil, L2.gTup, L2.start, L2.tOr, L2.tAnd, L2.tNot, L2.tB, L2.tTest, L2.tChain, L2.tCB, L2.tCons, L2.tNil, L2.tAndV, L2.tOrV, L2.tNotV, L2.tCallS, L2.tLst, L2.tTup, L2.tSl, L2.tPart, L2.tNoPart, L2.rSlS, L2.tDrop, L2.tBM, L2.tBM0, L2.tyV, L2.rEq, L2.rNe, L2.rIxS, L2.tBreak, L2.tCont, L2.tAug, L2.ipI, L2.tPar, L2.tYes, L2.rIsB, L2.rNotB, L2.tM1, L2.tM0, Bd.repW_len, Bd.tRevS, Bd.rMulS, Bd.rRepr, Bd.rMaxS, L2.cxOf, Bd.scal_ss, Bd.scal_ii, Bd.scal_bb, Bd.scal_nn, Bd.tx_injEq, List.map_cons, List.map_nil, List.length_cons, List.length_nil, List.cons_append, List.nil_append, List.getElem?_cons_zero, List.getElem?_cons_succ, Option.some.injEq, L2.V.int.injEq, L2.V.str.injEq, L2.V.ref.injEq, L2.V.bl.injEq, List.cons.injEq, and_true, true_and, exists_eq_left', exists_eq_left, exists_eq_right, exists_and_left, exists_eq, exists_eq', and_assoc, L2.tDNewK, List.replicate, List.set_cons_zero, List.set_cons_succ, Int.reduceLT, Int.reduceLE, Int.reduceNeg, Int.reduceToNat, Nat.reduceAdd, Nat.reduceSub, Nat.zero_add, Bd.tx_len, Bd.tx_cps, Bd.tx_add, Nat.sub_zero, Nat.sub_self, reduceCtorEq, decide_false, decide_true, Bool.not_true, Bool.not_false, Bool.false_eq_true, if_true, if_false, and_self, L2.wipe, Nat.add_one_sub_one]))
open PySem PySem.Spec L2 Evl in
local macro_rules | `(tactic| walk_at "sz") => `(tactic| (refine Bd.szl ?_; (try simp only [Bd.tx_len, List.length_append, List.length_take, List.length_drop, List.length_reverse, Bd.turn_len, List.length_cons, List.length_nil, List.length_replicate, Bd.repW_len]); first | done | omega | (simp; omega)))
namespace Bd
open PySem PySem.Spec PyProof.Rows L2 Evl
section
variable {P : Program} {w : World} {K : PySem.W.Frag} {mg : Str → Option Value} {base : Heap}
theorem d_is_word (A : At K mg "is_word" ["thing"] s_is_word) (B : Blt mg) {t_MOST_LETTERS : Tok} (gl_MOST_LETTERS : mg "MOST_LETTERS" = some (.int 60 t_MOST_LETTERS)) {t_LETTERS : Tok} (gl_LETTERS : mg "LETTERS" = some (.str "abcdefgh" t_LETTERS)) : DefAt P w K mg base 1 "is_word" ["thing"] (sp_is_word K) := by
  have nd := sc_is_word.nd
  refine A.def_ sc_is_word (fun vs H Q E h => ?_) (fun f cdv A0 outer s H vs Q E hr h => ⟨_, (pss_cons (ps_if (PW.pt (pw_or (pt_not (pt_val (pe_callB call_isi rfl B.isinstance (by decide +kernel) (pa_cons (pv 0) (pa_cons (pe_bltn (v := .ty "str") rfl B.str (by decide +kernel) rfl) pa_nil))))) (pw_or1 (pt_not (pt_chain op_le op_le pe_int (pe_callB call_len_str rfl B.len (by decide +kernel) (pa_cons (pv 0) pa_nil)) (pe_glob (v := .int 60) rfl gl_MOST_LETTERS ⟨_, rfl⟩)))))) (pss_one (ps_ret pe_bl)) pss_nil)
      (pss_one (ps_ret (pe_callB (cr_all rfl) rfl B.all (by decide +kernel) (pa_cons (pe_lc (own := [("sign", 1)]) (g := (gName 1)) (tt := tYes) rfl nd (pi_str (pv 0)) (blkOk_by (own := [("sign", 1)]) (N := ["thing", "sign"]) (sc := defScope s_is_word) (by decide +kernel)) (fun _ _ _ _ _ => (pg_name (i := 1) nd rfl (Or.inl rfl))) (fun _ _ _ _ _ => pts_nil) (fun _ _ _ _ _ => (pe_cmpR op_in_sign (pv 1) (pe_glob (v := .str "abcdefgh") rfl gl_LETTERS ⟨_, rfl⟩) rfl))) pa_nil))))), ?_⟩)
  · obtain ⟨_, rfl, _⟩ := h; rfl
  · obtain ⟨v, rfl, th, q⟩ := h
    walk_at "bd"
    refine isi_str th ⟨_, rfl, ?_⟩
    cases th with
    | txt l hl =>
      have q1 : ∀ b H', Ex H H' → b = wordB l → Q (.bl b) H' := fun b H' e eb => by rw [eb, ← wordV_vS]; exact q H' e
      refine iteF ⟨_, rfl, szl (by rw [tx_len]; omega), ?_⟩
      rw [tx_len]
      by_cases h1 : (1 : Int) ≤ (l.length : Int)
      · rw [decide_eq_true h1, if_pos rfl]
        by_cases h2 : (l.length : Int) ≤ 60
        · rw [decide_eq_true h2]
          refine iteF ?_
          refine el_lcS (l := l) (fun _ => true) (fun i => .bl (letterB (l.getD i 0))) (ev_var rfl) (by omega) (fun _ => rfl) (fun _ _ _ _ _ => ev_yes) (fun i c H1 e hc _ => ?_) H (Ex.refl _) _ fun p H2 hp e2 e3 => ?_
          · intro H2 e2 Q' q'
            walk_at "bd"
            rw [letter_in]
            have : l.getD i 0 = c := by rw [List.getD_eq_getElem?_getD, hc]; rfl
            rw [← this]
            exact q' H2 (Ex.refl _)
          · have eg : given l.length (fun _ => true) (fun i => V.bl (letterB (l.getD i 0))) = (l.map letterB).map V.bl := by
              unfold given
              rw [List.filter_eq_self.mpr (fun _ _ => rfl), List.map_map]
              refine List.ext_getElem (by simp) fun i h3 h4 => ?_
              have h5 : i < l.length := by simpa using h4
              simp [List.getElem?_eq_getElem h5]
            rw [eg] at e3
            refine ⟨p, _, rfl, SqL.of e3, ?_⟩
            refine q1 _ H2 e2 ?_
            have h1' : 1 ≤ l.length := by omega
            have h2' : l.length ≤ 60 := by omega
            simp only [wordB, decide_eq_true h1', decide_eq_true h2', Bool.true_and, List.all_map]
            rfl
        · rw [decide_eq_false h2]
          refine iteT (q1 _ H (Ex.refl _) ?_)
          have h2' : ¬ l.length ≤ 60 := by omega
          simp only [wordB, decide_eq_false h2', Bool.and_false, Bool.false_and]
      · rw [decide_eq_false h1]
        refine iteF (q1 _ H (Ex.refl _) ?_)
        have h1' : ¬ 1 ≤ l.length := by omega
        simp only [wordB, decide_eq_false h1', Bool.false_and]
    | non => exact iteT (q H (Ex.refl _))
    | bl b => exact iteT (q H (Ex.refl _))
    | int i => exact iteT (q H (Ex.refl _))
    | lst e => exact iteT (q H (Ex.refl _))
    | tup e => exact iteT (q H (Ex.refl _))
    | dct e => exact iteT (q H (Ex.refl _))
end
section
variable {P : Program} {w : World} {K : PySem.W.Frag} {mg : Str → Option Value} {base : Heap}
theorem d_need_word (A : At K mg "need_word" ["thing"] s_need_word) (B : Blt mg) (e_BadWord : Err K mg "BadWord") (D_is_word : DefAt P w K mg base 1 "is_word" ["thing"] (sp_is_word K)) : DefAt P w K mg base 2 "need_word" ["thing"] (sp_need_word K) := by
  have nd := sc_need_word.nd
  refine A.def_ sc_need_word (fun vs H Q E h => ?_) (fun f cdv A0 outer s H vs Q E hr h => ⟨_, (pss_one (ps_if (pt_not (pt_val (pe_callD D_is_word (hr.mono (by decide)) pass_no (pa_cons (pv 0) pa_nil)))) (pss_one (ps_raise rfl (takes_of rfl rfl rfl rfl) (pmk_own PySem.F.excBase_ValueError e_BadWord.ex e_BadWord.g e_BadWord.kp (raises_own e_BadWord.sb e_BadWord.ty) rfl))) pss_nil)), ?_⟩)
  · obtain ⟨_, rfl, _⟩ := h; rfl
  · obtain ⟨v, rfl, th, q1, q2⟩ := h
    walk_at "bd"
    refine ⟨v, rfl, th, fun H' e => ⟨_, rfl, ?_⟩⟩
    cases hw : wordV v with
    | true => exact iteF (q1 hw H' e)
    | false => exact iteT (q2 hw H' e)
end
section
variable {P : Program} {w : World} {K : PySem.W.Frag} {mg : Str → Option Value} {base : Heap}
theorem d_run_from (A : At K mg "run_from" ["word", "begin"] s_run_from) (B : Blt mg) : DefAt P w K mg base 1 "run_from" ["word", "begin"] (sp_run_from K) := by
  have nd := sc_run_from.nd
  refine A.def_ sc_run_from (fun vs H Q E h => ?_) (fun f cdv A0 outer s H vs Q E hr h => ⟨_, (pss_cons (ps_set (i := 2) nd rfl (Or.inl rfl) (pe_op op_add (pv 1) pe_int))
      (pss_cons (ps_set (i := 3) nd rfl (Or.inl rfl) (pv 1))
      (pss_cons (ps_while (passes_of rfl) (PW.pt (pw_and (pt_cmpR op_lt (pv 2) (pe_callB call_len_str rfl B.len (by decide +kernel) (pa_cons (pv 0) pa_nil)) (nomark _)) (pw_and1 (pt_cmpR op_le_str (pe_ix ix_str (pv 0) (pv 3) (fun _ _ => rfl)) (pe_ix ix_str (pv 0) (pv 2) (fun _ _ => rfl)) (nomark _))))) (pss_cons (ps_set (i := 3) nd rfl (Or.inl rfl) (pe_ifExp (pt_cmpR op_lt_str (pe_ix ix_str (pv 0) (pv 3) (fun _ _ => rfl)) (pe_ix ix_str (pv 0) (pv 2) (fun _ _ => rfl)) (nomark _)) (pv 1) (pe_op op_add (pv 3) pe_int)))
      (pss_one (ps_aug (i := 2) nd rfl (Or.inl rfl) pe_int ip_add))))
      (pss_one (ps_ret (pe_tup (pa_cons (pe_op op_sub (pv 2) (pv 3)) (pa_cons (pv 3) pa_nil)))))))), ?_⟩)
  · obtain ⟨_, _, rfl, _⟩ := h; rfl
  · obtain ⟨l, b, rfl, wl, hb, q⟩ := h
    have h60 := wl.le
    walk_at "bd"
    refine while_L (fun σ' H' => ∃ (j p : Nat), σ' = [some (vS l), some (.int (b : Int)), some (.int (j : Int)), some (.int ((j - p : Nat) : Int))] ∧ Run l b j p ∧ Ex H H') (fun σ' _ => farN 2 l.length σ') ⟨b + 1, 1, by rw [Nat.add_sub_cancel]; rfl, Run.start hb, Ex.refl _⟩ (fun σ' H' w => ?_)
    obtain ⟨j, p, rfl, run, e1⟩ := w
    have hj := run.jl
    have hp := run.pj
    have hp1 := run.p1
    refine ⟨decide (j < l.length) && decide (gt l (j - p) ≤ gt l j), fun H2 e2 Q' q' => ?_, fun hbt H1 e2 => ?_, fun hbf H1 e2 => ?_⟩
    · walk_at "bd"
      refine ⟨szl (by omega), ?_⟩
      by_cases c : j < l.length
      · rw [decide_eq_true (show (j : Int) < (l.length : Int) by omega)]
        rw [decide_eq_true c, Bool.true_and] at q'
        refine iteT ⟨szl (by omega), gt l (j - p), at_gt (by omega), szl (by omega), gt l j, at_gt c, ?_⟩
        have e : (!decide (([gt l j] : List Nat) < [gt l (j - p)])) = decide (gt l (j - p) ≤ gt l j) := by
          rw [lt_one4]
          by_cases z : gt l j < gt l (j - p)
          · rw [decide_eq_true z, decide_eq_false (by omega)]; rfl
          · rw [decide_eq_false z, decide_eq_true (by omega)]; rfl
        have := q' _ (Ex.refl _)
        rw [← e] at this
        exact this
      · rw [decide_eq_false (show ¬ (j : Int) < (l.length : Int) by omega)]
        rw [decide_eq_false c, Bool.false_and] at q'
        exact iteF (q' _ (Ex.refl _))
    · rw [Bool.and_eq_true, decide_eq_true_eq, decide_eq_true_eq] at hbt
      obtain ⟨c, hle⟩ := hbt
      walk_at "bd"
      refine ⟨szl (by omega), gt l (j - p), at_gt (by omega), szl (by omega), gt l j, at_gt c, ?_⟩
      rw [lt_one4]
      have far : ∀ (z : Option V), farN 2 l.length [some (vS l), some (.int (b : Int)), some (.int ((j : Int) + 1)), z] < farN 2 l.length [some (vS l), some (.int (b : Int)), some (.int (j : Int)), some (.int ((j - p : Nat) : Int))] := fun z => by
        show l.length - ((j : Int) + 1).toNat < l.length - ((j : Int)).toNat
        omega
      by_cases z : gt l (j - p) < gt l j
      · rw [decide_eq_true z]
        exact iteT ⟨⟨j + 1, by omega, j + 1 - b, by omega, run.more c z, e1.trans e2⟩, far _⟩
      · rw [decide_eq_false z]
        exact iteF ⟨⟨j + 1, by omega, p, by omega, run.same c (by omega), e1.trans e2⟩, far _⟩
    · have st : Stop l j p := by
        unfold Stop
        rw [Bool.and_eq_false_iff, decide_eq_false_iff_not, decide_eq_false_iff_not] at hbf
        rcases hbf with h | h
        · exact .inl (by omega)
        · exact .inr (by omega)
      walk_at "bd"
      refine ⟨szl (by decide), fun T hT => ?_⟩
      have := q j p run st T (upd H1 T (.tup [V.int ((j : Int) - ((j - p : Nat) : Int)), V.int ((j - p : Nat) : Int)])) (fresh_back (e1.trans e2) hT) ((e1.trans e2).trans (Ex.new hT)) (by
        rw [upd_same, show (j : Int) - ((j - p : Nat) : Int) = (p : Int) by omega])
      exact this
end
section
variable {P : Program} {w : World} {K : PySem.W.Frag} {mg : Str → Option Value} {base : Heap}
theorem d_parts_of (A : At K mg "parts_of" ["word"] s_parts_of) (B : Blt mg) (D_need_word : DefAt P w K mg base 2 "need_word" ["thing"] (sp_need_word K)) (D_run_from : DefAt P w K mg base 1 "run_from" ["word", "begin"] (sp_run_from K)) : DefAt P w K mg base 3 "parts_of" ["word"] (sp_parts_of K) := by
  have nd := sc_parts_of.nd
  refine A.def_ sc_parts_of (fun vs H Q E h => ?_) (fun f cdv A0 outer s H vs Q E hr h => ⟨_, (pss_cons (ps_expr (pe_callD D_need_word (hr.mono (by decide)) pass_up (pa_cons (pv 0) pa_nil)))
      (pss_cons (ps_set (i := 1) nd rfl (Or.inl rfl) (pe_lst pa_nil))
      (pss_cons (ps_set (i := 2) nd rfl (Or.inl rfl) pe_int)
      (pss_cons (ps_while (passes_of rfl) (pt_cmpR op_lt (pv 2) (pe_callB call_len_str rfl B.len (by decide +kernel) (pa_cons (pv 0) pa_nil)) (nomark _)) (pss_cons (ps_asg (pe_callD D_run_from (hr.mono (by decide)) pass_no (pa_cons (pv 0) (pa_cons (pv 2) pa_nil))) (pg_tup (n := 2) rfl (pgs_cons (pg_name (i := 3) nd rfl (Or.inl rfl)) (pgs_cons (pg_name (i := 4) nd rfl (Or.inl rfl)) pgs_nil))))
      (pss_one (ps_while (passes_of rfl) (pt_cmpR op_le (pv 2) (pv 4) (nomark _)) (pss_cons (ps_expr (pe_bm PySem.F.plainAttrs_list PySem.F.slot_list_append PySem.F.type_list_append mt_append (pv 1) (pa_cons (pe_slice sl_str (pv 0) (po_some (pv 2)) (po_some (pe_op op_add (pv 2) (pv 3)))) pa_nil)))
      (pss_one (ps_aug (i := 2) nd rfl (Or.inl rfl) (pv 3) ip_add)))))))
      (pss_one (ps_ret (pv 1))))))), ?_⟩)
  · obtain ⟨_, rfl, _⟩ := h; rfl
  · obtain ⟨v, rfl, tv, q1, q2⟩ := h
    walk_at "bd"
    refine ⟨v, rfl, tv, fun hw H1 e1 => ⟨szl (by decide), fun p np => ?_⟩, fun hw H1 e1 => q2 hw H1 e1⟩
    obtain ⟨l, rfl, wl⟩ := tv.word hw
    have h60 := wl.le
    refine while_L (fun σ' H' => ∃ (b : Nat) (ps : List (List Nat)) (y3 y4 : Option V), σ' = [some (vS l), some (.ref p), some (.int (b : Int)), y3, y4] ∧ b ≤ l.length ∧ Good (l.take b) ps ∧ (∀ x ∈ ps, ∀ n, (l.drop b).take n ≤ x) ∧ Ex H1 H' ∧ H' p = some (.lst (ps.map vS)))
      (fun σ' _ => farN 2 l.length σ') ⟨0, [], none, none, rfl, Nat.zero_le _, ⟨rfl, (fun _ h => nomatch h), .nil⟩, (fun _ h => nomatch h), Ex.new np, upd_same⟩ (fun σ' H' w => ?_)
    obtain ⟨b, ps, y3, y4, rfl, hb, g, bd, e2, hf⟩ := w
    refine ⟨decide (b < l.length), fun H2 e3 Q' q' => ?_, fun hbt H2 e3 => ?_, fun hbf H2 e3 => ?_⟩
    · walk_at "bd"
      refine ⟨szl (by omega), ?_⟩
      have := q' _ (Ex.refl _)
      rw [show decide ((b : Int) < (l.length : Int)) = decide (b < l.length) from decide_eq_decide.mpr (by omega)]
      exact this
    · have hlt : b < l.length := of_decide_eq_true hbt
      walk_at "bd"
      refine ⟨l, b, rfl, wl, hlt, fun j z run st T H3 hT e4 hTt => ?_⟩
      walk_at "bd"
      refine ⟨_, SqT.of hTt, rfl, _, _, rfl, _, _, rfl, rfl, ?_⟩
      have hz1 := run.p1
      have hzj := run.pj
      have hjl := run.jl
      have hw : Lyn (stretch l b z) := run.lynW
      have h3 : H3 p = some (.lst (ps.map vS)) := e4 _ _ (e3 _ _ hf)
      refine while_L (fun σ' H' => ∃ (m : Nat) (qs : List (List Nat)), σ' = [some (vS l), some (.ref p), some (.int ((b + m * z : Nat) : Int)), some (.int (z : Int)), some (.int ((j - z : Nat) : Int))] ∧ b + m * z ≤ j ∧ Good (l.take (b + m * z)) qs ∧ (∀ x ∈ qs, stretch l b z ≤ x) ∧ Ex H1 H' ∧ H' p = some (.lst (qs.map vS)))
        (fun σ' _ => farN 2 l.length σ') ⟨0, ps, by rw [Nat.zero_mul, Nat.add_zero], by omega, by rw [Nat.zero_mul, Nat.add_zero]; exact g, fun x hx => bd x hx z, (e2.trans e3).trans e4, h3⟩ (fun σ' H' w => ?_)
      obtain ⟨m, qs, rfl, hm, gq, wq, e5, hq⟩ := w
      refine ⟨decide (b + m * z ≤ j - z), fun H4 e6 Q' q' => ?_, fun hbt H4 e6 => ?_, fun hbf H4 e6 => ?_⟩
      · walk_at "bd"
        have := q' _ (Ex.refl _)
        rw [show decide (((b + m * z : Nat) : Int) ≤ ((j - z : Nat) : Int)) = decide (b + m * z ≤ j - z) from decide_eq_decide.mpr (by omega)]
        exact this
      · have hle := of_decide_eq_true hbt
        have hmz : (m + 1) * z = m * z + z := by rw [Nat.add_mul, Nat.one_mul]
        have hlen := gq.len
        rw [List.length_take] at hlen
        walk_at "bd"
        rw [show ((b + m * z : Nat) : Int) + (z : Int) = ((b + (m + 1) * z : Nat) : Int) by rw [hmz]; omega, cut_mid]
        have blk := run.block (m := m) (by omega)
        refine ⟨.inl ⟨_, SqL.of (e6 _ _ hq)⟩, szl (by omega), p, _, _, rfl, rfl, e6 _ _ hq, szlt (by rw [List.length_map]; omega), ?_⟩
        rw [show b + (m + 1) * z - (b + m * z) = z by omega]
        have eb : (l.drop (b + m * z)).take z = stretch l b z := blk
        rw [eb]
        refine ⟨⟨m + 1, rfl, by omega, qs ++ [stretch l b z], ?_, fun x hx => ?_, (e5.trans e6).mut np, ?_⟩, ?_⟩
        · rw [show b + (m + 1) * z = b + m * z + z by omega, take_more]
          have : stretch l (b + m * z) z = stretch l b z := blk
          rw [this]
          exact gq.snoc hw wq
        · rcases List.mem_append.mp hx with hx | hx
          · exact wq x hx
          · rw [List.mem_singleton.mp hx]; exact List.le_refl _
        · rw [upd_same, List.map_append]
          rfl
        · show l.length - (((b + (m + 1) * z : Nat) : Int)).toNat < l.length - (((b + m * z : Nat) : Int)).toNat
          omega
      · have hgt : ¬ b + m * z ≤ j - z := of_decide_eq_false hbf
        have hm1 : 1 ≤ m := Nat.one_le_iff_ne_zero.mpr fun c => by rw [c, Nat.zero_mul] at hgt; omega
        have hmz : z ≤ m * z := Nat.le_mul_of_pos_left z hm1
        refine ⟨⟨b + m * z, qs, _, _, rfl, by omega, gq, fun x hx n => ?_, e5.trans e6, e6 _ _ hq⟩, ?_⟩
        · exact List.le_trans (run.behind st hm (by omega) hm1 n) (wq x hx)
        · show l.length - (((b + m * z : Nat) : Int)).toNat < l.length - (((b : Nat) : Int)).toNat
          omega
    · have e : b = l.length := by have := of_decide_eq_false hbf; omega
      subst e
      rw [List.take_length] at g
      walk_at "bd"
      exact q1 l rfl wl ps g p H2 (fresh_back e1 np) (e1.trans (e2.trans e3)) (e3 _ _ hf)
end
section
variable {P : Program} {w : World} {K : PySem.W.Frag} {mg : Str → Option Value} {base : Heap}
theorem d__law_mixed (A : At K mg "_law_mixed" ["_law_cell", "_law_k"] s__law_mixed) (B : Blt mg) : DefAt P w K mg base 1 "_law_mixed" ["_law_cell", "_law_k"] (sp__law_mixed K) := by
  have nd := sc__law_mixed.nd
  refine A.def_ sc__law_mixed (fun vs H Q E h => ?_) (fun f cdv A0 outer s H vs Q E hr h => ⟨_, (pss_cons (ps_set (i := 2) nd rfl (Or.inl rfl) (pe_op op_mod (pe_op op_mul (pe_op op_add (pe_op op_add (pe_op op_add (pe_op op_mod (pv 0) pe_int) (pe_op op_mul (pe_op op_mul pe_int (pv 1)) (pv 1))) (pe_op op_mul pe_int (pv 1))) pe_int) pe_int) pe_int))
      (pss_one (ps_ret (pe_op op_fdiv (pe_op op_mod (pe_op op_mul (pv 2) (pe_op op_add (pe_op op_mod (pv 2) pe_int) pe_int)) pe_int) pe_int)))), ?_⟩)
  · obtain ⟨_, _, rfl, _⟩ := h; rfl
  · obtain ⟨c, k, rfl, ⟨hk0, hk1⟩, q⟩ := h
    walk_at "bd"
    have h1 : 7919 * k * k ≥ 0 := Int.mul_nonneg (by omega) hk0
    generalize 7919 * k * k = z at *
    refine ⟨.inl (by decide), .inl (by omega), .inl (by decide), .inr (by decide), ?_⟩
    generalize hn : (c % 1000000007 + z + 31 * k + 17) * 48271 % 2147483647 = n
    have n0 : 0 ≤ n := by omega
    have n1 : n < 2147483647 := by omega
    refine ⟨.inl (by omega), ⟨by decide, by decide⟩, ?_⟩
    generalize n * (n % 65521 + 16807) = m
    exact q _ (by omega) (by omega)
end
section
variable {P : Program} {w : World} {K : PySem.W.Frag} {mg : Str → Option Value} {base : Heap}
theorem d__law_number (A : At K mg "_law_number" ["_law_script", "_law_k"] s__law_number) (B : Blt mg) (D__law_mixed : DefAt P w K mg base 1 "_law_mixed" ["_law_cell", "_law_k"] (sp__law_mixed K)) : DefAt P w K mg base 2 "_law_number" ["_law_script", "_law_k"] (sp__law_number K) := by
  have nd := sc__law_number.nd
  refine A.def_ sc__law_number (fun vs H Q E h => ?_) (fun f cdv A0 outer s H vs Q E hr h => ⟨_, (pss_cons (ps_set (i := 2) nd rfl (Or.inl rfl) pe_int)
      (pss_cons (ps_if (pt_cmpR op_gt (pe_callB call_len_seq rfl B.len (by decide +kernel) (pa_cons (pv 0) pa_nil)) pe_int (nomark _)) (pss_one (ps_set (i := 2) nd rfl (Or.inl rfl) (pe_ix ix_list (pv 0) (pe_op op_mod (pv 1) (pe_callB call_len_seq rfl B.len (by decide +kernel) (pa_cons (pv 0) pa_nil))) (fun _ _ => rfl)))) pss_nil)
      (pss_one (ps_ret (pe_callD D__law_mixed (hr.mono (by decide)) pass_no (pa_cons (pv 2) (pa_cons (pv 1) pa_nil))))))), ?_⟩)
  · obtain ⟨_, _, _, rfl, _⟩ := h; rfl
  · obtain ⟨a, ns, k, rfl, hS, hk, q⟩ := h
    walk_at "bd"
    refine ⟨_, .inl hS, ?_⟩
    have mixed : ∀ c : Int, sp__law_mixed K [V.int c, V.int k] H Q fun x x_1 x_2 => False := fun c => ⟨c, k, rfl, hk, q⟩
    by_cases h0 : (0 : Int) < ((ns.map V.int).length : Int)
    · rw [decide_eq_true h0, if_pos rfl]
      refine ⟨_, .inl hS, h0, ?_⟩
      have hl : (ns.map V.int).length = ns.length := List.length_map _
      have hm : (k % ((ns.map V.int).length : Int)).toNat < ns.length := by
        have := Int.emod_lt_of_pos k h0
        have := Int.emod_nonneg k (show ((ns.map V.int).length : Int) ≠ 0 by omega)
        omega
      refine ⟨a, _, _, V.int (ns[(k % ((ns.map V.int).length : Int)).toNat]), rfl, rfl, hS, ?_, mixed _⟩
      have := atI_nat (xs := ns.map V.int) (j := (k % ((ns.map V.int).length : Int)).toNat) (v := V.int (ns[(k % ((ns.map V.int).length : Int)).toNat])) (by rw [List.getElem?_map, List.getElem?_eq_getElem hm]; rfl)
      rw [Int.toNat_of_nonneg (Int.emod_nonneg k (by omega))] at this
      exact this
    · rw [decide_eq_false h0]
      exact iteF (mixed 0)
end
theorem four_sizes {n : Int} (n0 : 0 ≤ n) : ∃ sz : Nat, 1 ≤ sz ∧ sz ≤ 60 ∧ atI [V.int (1 + n / 32 % 12), V.int (1 + n / 32 % 60), V.int 60, V.int (1 + n / 32 % 5)] (n / 2000 % 4) = some (.int (sz : Int)) := by
  have h : n / 2000 % 4 = ((0 : Nat) : Int) ∨ n / 2000 % 4 = ((1 : Nat) : Int) ∨ n / 2000 % 4 = ((2 : Nat) : Int) ∨ n / 2000 % 4 = ((3 : Nat) : Int) := by omega
  rcases h with h | h | h | h
  · exact ⟨(1 + n / 32 % 12).toNat, by omega, by omega, by rw [h]; refine atI_nat ?_; show some (V.int (1 + n / 32 % 12)) = _; rw [show (((1 + n / 32 % 12).toNat : Nat) : Int) = 1 + n / 32 % 12 by omega]⟩
  · exact ⟨(1 + n / 32 % 60).toNat, by omega, by omega, by rw [h]; refine atI_nat ?_; show some (V.int (1 + n / 32 % 60)) = _; rw [show (((1 + n / 32 % 60).toNat : Nat) : Int) = 1 + n / 32 % 60 by omega]⟩
  · exact ⟨60, by omega, by omega, by rw [h]; exact atI_nat rfl⟩
  · exact ⟨(1 + n / 32 % 5).toNat, by omega, by omega, by rw [h]; refine atI_nat ?_; show some (V.int (1 + n / 32 % 5)) = _; rw [show (((1 + n / 32 % 5).toNat : Nat) : Int) = 1 + n / 32 % 5 by omega]⟩
section
variable {P : Program} {w : World} {K : PySem.W.Frag} {mg : Str → Option Value} {base : Heap}
theorem d__law_word (A : At K mg "_law_word" ["_law_script", "_law_at"] s__law_word) (B : Blt mg) (D__law_number : DefAt P w K mg base 2 "_law_number" ["_law_script", "_law_k"] (sp__law_number K)) : DefAt P w K mg base 3 "_law_word" ["_law_script", "_law_at"] (sp__law_word K) := by
  have nd := sc__law_word.nd
  refine A.def_ sc__law_word (fun vs H Q E h => ?_) (fun f cdv A0 outer s H vs Q E hr h => ⟨_, (pss_cons (ps_set (i := 2) nd rfl (Or.inl rfl) (pe_callD D__law_number (hr.mono (by decide)) pass_no (pa_cons (pv 0) (pa_cons (pv 1) pa_nil))))
      (pss_cons (ps_set (i := 3) nd rfl (Or.inr rfl) (pe_op op_add pe_int (pe_op op_mod (pe_op op_fdiv (pv 2) pe_int) pe_int)))
      (pss_cons (ps_set (i := 4) nd rfl (Or.inl rfl) (pe_ix ix_list (pe_lst (pa_cons (pe_op op_add pe_int (pe_op op_mod (pe_op op_fdiv (pv 2) pe_int) pe_int)) (pa_cons (pe_op op_add pe_int (pe_op op_mod (pe_op op_fdiv (pv 2) pe_int) pe_int)) (pa_cons pe_int (pa_cons (pe_op op_add pe_int (pe_op op_mod (pe_op op_fdiv (pv 2) pe_int) pe_int)) pa_nil))))) (pe_op op_mod (pe_op op_fdiv (pv 2) pe_int) pe_int) (fun _ _ => rfl)))
      (pss_cons (ps_set (i := 5) nd rfl (Or.inl rfl) (pe_join pe_str (pe_lc (own := [("_law_k", 6)]) (g := (gName 6)) (tt := tYes) rfl nd (pi_range1 rfl B.range (pa_cons (pv 4) pa_nil)) (blkOk_by (own := [("_law_k", 6)]) (N := ["_law_script", "_law_at", "_law_number_here", "_law_few", "_law_size", "_law_word_here", "_law_k", "_law_again", "_law_place"]) (sc := defScope s__law_word) (by decide +kernel)) (fun _ _ _ _ _ => (pg_name (i := 6) nd rfl (Or.inl rfl))) (fun _ _ _ _ _ => pts_nil) (fun _ _ _ _ _ => (pe_ix ix_str pe_str (pe_op op_mod (pe_op op_fdiv (pe_callD D__law_number (hr.mono (by decide)) pass_no (pa_cons (pv 0) (pa_cons (pe_op op_add (pe_op op_add (pv 1) pe_int) (pv 6)) pa_nil))) pe_int) (pv 3)) (fun _ _ => rfl))))))
      (pss_cons (ps_if (pt_cmpR op_eq (pe_op op_mod (pv 2) pe_int) pe_int (nomark _)) (pss_one (ps_set (i := 5) nd rfl (Or.inl rfl) (pe_slice sl_str (pe_op op_mul_str (pe_slice sl_str (pv 5) po_none (po_some (pe_op op_add pe_int (pe_op op_mod (pe_op op_fdiv (pv 2) pe_int) pe_int)))) pe_int) po_none (po_some (pv 4))))) pss_nil)
      (pss_cons (ps_if (pt_cmpR op_eq (pe_op op_mod (pv 2) pe_int) pe_int (nomark _)) (pss_cons (ps_set (i := 7) nd rfl (Or.inl rfl) (pe_slice sl_str (pe_op op_mul_str (pe_slice sl_str (pv 5) po_none (po_some (pe_op op_add pe_int (pe_op op_mod (pe_op op_fdiv (pv 2) pe_int) pe_int)))) pe_int) po_none (po_some (pv 4))))
      (pss_cons (ps_set (i := 8) nd rfl (Or.inl rfl) (pe_op op_mod (pe_op op_fdiv (pv 2) pe_int) (pv 4)))
      (pss_one (ps_set (i := 5) nd rfl (Or.inl rfl) (pe_op op_add_str (pe_op op_add_str (pe_slice sl_str (pv 7) po_none (po_some (pv 8))) (pe_ix ix_str pe_str (pe_op op_mod (pe_op op_fdiv (pv 2) pe_int) pe_int) (fun _ _ => rfl))) (pe_slice sl_str (pv 7) (po_some (pe_op op_add (pv 8) pe_int)) po_none)))))) pss_nil)
      (pss_one (ps_ret (pv 5))))))))), ?_⟩)
  · obtain ⟨_, _, _, rfl, _⟩ := h; rfl
  · obtain ⟨a, ns, k, rfl, hS, ⟨hk0, hk1⟩, q⟩ := h
    walk_at "bd"
    refine ⟨a, ns, k, rfl, hS, ⟨hk0, by omega⟩, fun n n0 n1 => ?_⟩
    walk_at "bd"
    refine ⟨⟨by decide, by decide⟩, ⟨by decide, by decide⟩, ⟨by decide, by decide⟩, ⟨by decide, by decide⟩, szl (by decide), fun p np => ⟨⟨by decide, by decide⟩, ?_⟩⟩
    obtain ⟨sz, s1, s60, hsz⟩ := four_sizes n0
    refine ⟨p, _, _, .int (sz : Int), rfl, rfl, SqL.of upd_same, hsz, ?_⟩
    have eH : Ex H (upd H p (.lst [V.int (1 + n / 32 % 12), V.int (1 + n / 32 % 60), V.int 60, V.int (1 + n / 32 % 5)])) := Ex.new np
    generalize upd H p (.lst [V.int (1 + n / 32 % 12), V.int (1 + n / 32 % 60), V.int 60, V.int (1 + n / 32 % 5)]) = H1 at *
    walk_at "bd"
    refine ⟨_, rfl, (sz : Int), rfl, by omega, by omega, fun D hD => lc_range (lo := 0) (n := ((sz : Nat) : Int).toNat) (fun i H' => Ex H1 H' ∧ ∃ w : List Nat, w.length = i ∧ (∀ c ∈ w, 97 ≤ c ∧ c ≤ 104) ∧ H' D = some (.lst (w.map fun c => vS [c]))) ⟨Ex.new hD, [], rfl, by simp, upd_same⟩ (fun i H' hi w => ?_) (fun H' w => ?_)⟩
    · obtain ⟨e2, w, wl, wc, hw⟩ := w
      walk_at "bd"
      refine ⟨a, ns, k + 1 + (0 + (i : Int)), rfl, ex_l (eH.trans e2) hS, ⟨by omega, by omega⟩, fun m m0 m1 => ⟨m, rfl, ⟨by decide, by decide⟩, by omega, szl (by decide), ?_⟩⟩
      have f1 := Int.emod_nonneg (m / 3) (show 1 + n / 4 % 8 ≠ 0 by omega)
      have f2 := Int.emod_lt_of_pos (m / 3) (show 0 < 1 + n / 4 % 8 by omega)
      obtain ⟨c, hc, c1, c2⟩ := letter_at (n := m / 3 % (1 + n / 4 % 8)) f1 (by omega)
      refine ⟨c, hc, _, hw, szlt (by rw [List.length_map]; omega), e2.mut hD, w ++ [c], by simp [wl], fun d hd => ?_, ?_⟩
      · rcases List.mem_append.mp hd with hd | hd
        · exact wc d hd
        · rw [List.mem_singleton.mp hd]; exact ⟨c1, c2⟩
      · rw [upd_same, List.map_append]
        rfl
    · obtain ⟨e2, w, wl, wc, hw⟩ := w
      rw [Int.toNat_natCast] at wl
      have e3 := eH.trans e2
      have hw2 : H' D = some (.lst ((w.map fun c => tx [c]).map V.str)) := by
        rw [hw, List.map_map]
        rfl
      refine ⟨D, rfl, w.map fun c => tx [c], .inl (SqL.of hw2), ?_, ?_⟩
      · have : (w.map fun c => tx [c]).map (fun x => x.length) = w.map fun _ => 1 := by
          rw [List.map_map]
          refine List.map_congr_left fun c _ => ?_
          exact tx_len [c]
        rw [this, List.map_const', List.sum_replicate_nat, List.length_map]
        show w.length * 1 + w.length * 0 ≤ 16777216
        omega
      · have ej : Txt.join "" (w.map fun c => tx [c]) = tx w := by
          have := join_nil (w.map fun c => [c])
          rw [List.map_map, flat_single] at this
          exact this
        rw [ej]
        have ite_ : ∀ {c A B : Prop} [Decidable c], A → B → (if c then A else B) := fun ha hb => by split; exact ha; exact hb
        have fr : ∀ {z : List Nat}, z.length = sz → (∀ c ∈ z, 97 ≤ c ∧ c ≤ 104) → Q (vS z) H' := fun h1 h3 => q _ H' (IsW.mk (by omega) (by omega) h3) e3
        -- a stretch again and again
        have again : ∀ (v : List Nat) (j : Nat), v.length = sz → (∀ c ∈ v, 97 ≤ c ∧ c ≤ 104) → ((repW 60 (v.take (j + 1))).take sz).length = sz ∧ ∀ c ∈ (repW 60 (v.take (j + 1))).take sz, 97 ≤ c ∧ c ≤ 104 := fun v j hv hc => by
          refine ⟨?_, fun c h => hc c (List.mem_of_mem_take (mem_rep (List.mem_of_mem_take h)))⟩
          rw [List.length_take, repW_len, List.length_take]
          have : 1 ≤ min (j + 1) v.length := by omega
          omega
        obtain ⟨j9, e9⟩ : ∃ j : Nat, 1 + n / 9000 % 9 = ((j + 1 : Nat) : Int) := ⟨(n / 9000 % 9).toNat, by omega⟩
        obtain ⟨j4, e4⟩ : ∃ j : Nat, 1 + n / 9000 % 4 = ((j + 1 : Nat) : Int) := ⟨(n / 9000 % 4).toNat, by omega⟩
        have b1 := Int.emod_nonneg (n / 40000) (show (sz : Int) ≠ 0 by omega)
        have b2 := Int.emod_lt_of_pos (n / 40000) (show (0 : Int) < (sz : Int) by omega)
        obtain ⟨pl, ep⟩ := Int.eq_ofNat_of_zero_le b1
        have hpl : pl < sz := by omega
        obtain ⟨c, hc, c1, c2⟩ := letter_at (n := n / 7 % 8) (by omega) (by omega)
        have one : (⟨#[c]⟩ : Str) = tx [c] := rfl
        have z0 : (0 : Int) < (sz : Int) := by omega
        have d1 : CDiv n 9000 := ⟨by decide, by decide⟩
        have d2 : CDiv n 40000 := ⟨by decide, by decide⟩
        have d3 : CDiv n 7 := ⟨by decide, by decide⟩
        have d4 : ("abcdefgh" : Str).length ≤ sizeLine := szl (by decide)
        simp only [e9, e4, ep, show ((pl : Int) + 1) = ((pl + 1 : Nat) : Int) from rfl, cut_to, cut_from, tx_cps, d1, d2, d3, d4, z0, true_and]
        -- one letter of v otherwise
        have other : ∀ (v : List Nat), v.length = sz → (∀ c ∈ v, 97 ≤ c ∧ c ≤ 104) → Q (.str (tx (v.take pl) ++ ⟨#[c]⟩ ++ tx (v.drop (pl + 1)))) H' := fun v hv hcv => by
          rw [one, tx_add, tx_add]
          refine fr ?_ fun d hd => ?_
          · simp only [List.length_append, List.length_take, List.length_drop, List.length_cons, List.length_nil]
            omega
          · simp only [List.mem_append, List.mem_singleton] at hd
            rcases hd with (hd | hd) | hd
            · exact hcv d (List.mem_of_mem_take hd)
            · omega
            · exact hcv d (List.mem_of_mem_drop hd)
        obtain ⟨w9l, w9c⟩ := again w j9 wl wc
        obtain ⟨w94l, w94c⟩ := again _ j4 w9l w9c
        obtain ⟨w4l, w4c⟩ := again w j4 wl wc
        have sml : ∀ (v : List Nat) (j : Nat), v.length = sz → (tx (v.take j)).length ≤ 60 := fun v j hv => by rw [tx_len, List.length_take]; omega
        have g60 : ∀ (v : List Nat) (j : Nat), v.length = sz → (tx (v.take j)).length * 60 ≤ sizeLine := fun v j hv => szl (by have := sml v j hv; omega)
        have h60 : ∀ (v : List Nat) (j : Nat), v.length = sz → 60 * (v.take j).length ≤ sizeLine := fun v j hv => szl (by rw [List.length_take]; omega)
        have sm2 : ∀ (v : List Nat), v.length = sz → (tx v).length ≤ sizeLine := fun v hv => szl (by rw [tx_len]; omega)
        have add1 : ∀ (v : List Nat), v.length = sz → (tx (v.take pl)).length + 1 ≤ sizeLine := fun v hv => szl (by rw [tx_len, List.length_take]; omega)
        have add2 : ∀ (v : List Nat), v.length = sz → (tx (v.take pl) ++ (⟨#[c]⟩ : Str)).length + (tx (v.drop (pl + 1))).length ≤ sizeLine := fun v hv => szl (by
          rw [one, tx_add, tx_len, tx_len, List.length_append, List.length_take, List.length_drop]
          show _ + 1 + _ ≤ _
          omega)
        refine ite_ ?_ (ite_ ?_ (fr wl wc))
        · refine ⟨sm2 w wl, g60 w _ wl, h60 w _ wl, ?_⟩
          refine ite_ ⟨sm2 _ w9l, g60 _ _ w9l, h60 _ _ w9l, sm2 _ w94l, c, hc, add1 _ w94l, sm2 _ w94l, add2 _ w94l, other _ w94l w94c⟩ (fr w9l w9c)
        · exact ⟨sm2 _ wl, g60 _ _ wl, h60 _ _ wl, sm2 _ w4l, c, hc, add1 _ w4l, sm2 _ w4l, add2 _ w4l, other _ w4l w4c⟩
end
section
variable {P : Program} {w : World} {K : PySem.W.Frag} {mg : Str → Option Value} {base : Heap}
theorem d__law_is_prime (A : At K mg "_law_is_prime" ["_law_word_here"] s__law_is_prime) (B : Blt mg) : DefAt P w K mg base 1 "_law_is_prime" ["_law_word_here"] (sp__law_is_prime K) := by
  have nd := sc__law_is_prime.nd
  refine A.def_ sc__law_is_prime (fun vs H Q E h => ?_) (fun f cdv A0 outer s H vs Q E hr h => ⟨_, (pss_one (ps_ret (pe_cmpR (op_eqD hr.units) (pe_lc (own := [("_law_k", 1)]) (g := (gName 1)) rfl nd (pi_range2 rfl B.range (pa_cons pe_int (pa_cons (pe_callB call_len_str rfl B.len (by decide +kernel) (pa_cons (pv 0) pa_nil)) pa_nil))) (blkOk_by (own := [("_law_k", 1)]) (N := ["_law_word_here", "_law_k"]) (sc := defScope s__law_is_prime) (by decide +kernel)) (fun _ _ _ _ _ => (pg_name (i := 1) nd rfl (Or.inl rfl))) (fun _ _ _ _ _ => (pts_one (pt_cmpR op_le_str (pe_op op_add_str (pe_slice sl_str (pv 0) (po_some (pv 1)) po_none) (pe_slice sl_str (pv 0) po_none (po_some (pv 1)))) (pv 0) (nomark _)))) (fun _ _ _ _ _ => (pv 1))) (pe_lst pa_nil) (nomark _)))), ?_⟩)
  · obtain ⟨_, rfl, _⟩ := h; rfl
  · obtain ⟨l, rfl, wl, q⟩ := h
    have h60 := wl.le
    have hp := wl.pos
    walk_at "bd"
    refine el_lcR2 (lo := 1) (hi := (l.length : Int)) (fun i => !decide (l < turn l (i + 1))) (fun i => .int (1 + (i : Int))) (fun H2 e2 R r => ?_) ⟨by omega, by omega, by omega, by omega⟩ (fun _ => rfl) (fun i H2 e2 hi => ?_) (fun i H2 e2 hi _ => ?_) H (Ex.refl _) _ fun p H2 hp2 e2 e3 => ?_
    · walk_at "bd"
      exact ⟨szl (by omega), r _ (Ex.refl _)⟩
    · intro H3 e3 Q' q'
      walk_at "bd"
      rw [show (1 : Int) + (i : Int) = ((i + 1 : Nat) : Int) by omega, cut_from, cut_to]
      walk_at "bd"
      refine ⟨szl (by omega), szl (by omega), szl (by rw [List.length_drop, List.length_take]; omega), ?_⟩
      exact q' _ (Ex.refl _)
    · intro H3 e3 Q' q'
      walk_at "bd"
      exact q' _ (Ex.refl _)
    · refine ⟨szl (by decide), fun p2 n2 => ?_⟩
      have e4 := Ex.new (o := .lst []) n2 p _ e3
      have dI : ∀ ns : List Int, DpAll K (upd H2 p2 (.lst [])) (ns.map V.int) (ns.map PyData.int) := fun ns => by
        induction ns with
        | nil => exact .nil
        | cons n ns ih => exact .cons (.int n) ih
      have sh : ∀ ns : List Int, SeqAt.shaped (.list (ns.map PyData.int)) = true := fun ns => by
        have h1 : PyData.canLayAll0 (ns.map PyData.int) = true ∧ PyData.depthAll (ns.map PyData.int) = 0 := by
          induction ns with
          | nil => exact ⟨rfl, rfl⟩
          | cons n ns ih => exact ⟨by show (true && PyData.canLayAll0 (ns.map PyData.int)) = true; rw [ih.1]; rfl, by show max 0 (PyData.depthAll (ns.map PyData.int)) = 0; rw [ih.2]; rfl⟩
        unfold SeqAt.shaped
        simp only [PyData.canLay0, PyData.depth, h1.1, h1.2]
        decide
      have eg : given ((l.length : Int) - 1).toNat (fun i => !decide (l < turn l (i + 1))) (fun i => V.int (1 + (i : Int))) = (((List.range ((l.length : Int) - 1).toNat).filter fun i => !decide (l < turn l (i + 1))).map fun i : Nat => (1 + (i : Int))).map V.int := by
        unfold given
        rw [List.map_map]
        rfl
      rw [eg] at e4
      refine ⟨_, _, .lst (SqL.of e4) (dI _), .lst (xs := []) (SqL.of upd_same) .nil, sh _, by decide, ?_⟩
      have q0 := q _ (e2.trans (Ex.new (o := .lst []) n2))
      have fin : PyData.eqv (.list ((((List.range ((l.length : Int) - 1).toNat).filter fun i => !decide (l < turn l (i + 1))).map fun i : Nat => (1 + (i : Int))).map PyData.int)) (.list []) = primeB l := by
        have e5 : ∀ xs : List PyData, PyData.eqv (.list xs) (.list []) = decide (xs = []) := fun xs => by
          cases xs with
          | nil => rfl
          | cons x xs => simp [PyData.eqv, PyData.eqvAll]
        rw [e5, Bool.eq_iff_iff, decide_eq_true_eq, List.map_eq_nil_iff, List.map_eq_nil_iff, List.filter_eq_nil_iff, primeB_iff]
        constructor
        · intro h k h1 h2
          have := h (k - 1) (List.mem_range.mpr (by omega))
          rw [show k - 1 + 1 = k by omega] at this
          simpa using this
        · intro h i hi
          have hi2 := List.mem_range.mp hi
          rw [decide_eq_true (h (i + 1) (by omega) (by omega))]
          decide
      rw [fin]
      exact q0
end
section
variable {P : Program} {w : World} {K : PySem.W.Frag} {mg : Str → Option Value} {base : Heap}
theorem r__law_ways (A : At K mg "_law_ways" ["_law_word_here"] s__law_ways) (B : Blt mg) : ∀ n, DefAt P w K mg base n "_law_ways" ["_law_word_here"] (sp_ways_n n K) := by
  have nd := sc__law_ways.nd
  intro n
  induction n with
  | zero => exact A.def0 (fun vs H Q E h => by obtain ⟨l, _, h, _⟩ := h; exact absurd h (Nat.not_lt_zero _))
  | succ n D__law_ways =>
  refine A.def_ sc__law_ways (fun vs H Q E h => ?_) (fun f cdv A0 outer s H vs Q E hr h => ⟨_, (pss_cons (ps_if (pt_cmpR op_eq (pv 0) pe_str (nomark _)) (pss_one (ps_ret (pe_lst (pa_cons (pe_lst pa_nil) pa_nil)))) pss_nil)
      (pss_cons (ps_set (i := 1) nd rfl (Or.inl rfl) (pe_lst pa_nil))
      (pss_cons (ps_for (passes_of rfl) rfl (pi_range2 rfl B.range (pa_cons pe_int (pa_cons (pe_op op_add (pe_callB call_len_str rfl B.len (by decide +kernel) (pa_cons (pv 0) pa_nil)) pe_int) pa_nil))) (pg_name (i := 2) nd rfl (Or.inr rfl)) (pss_one (ps_set (i := 1) nd rfl (Or.inl rfl) (pe_op op_cat (pv 1) (pe_lc (own := [("_law_others", 3)]) (g := (gName 3)) (tt := tYes) rfl nd (pi_list (pe_callD D__law_ways hr pass_no (pa_cons (pe_slice sl_str (pv 0) (po_some (pv 2)) po_none) pa_nil))) (blkOk_by (own := [("_law_others", 3)]) (N := ["_law_word_here", "_law_found", "_law_size", "_law_others"]) (sc := defScope s__law_ways) (by decide +kernel)) (fun _ _ _ _ _ => (pg_name (i := 3) nd rfl (Or.inl rfl))) (fun _ _ _ _ _ => pts_nil) (fun _ _ _ _ _ => (pe_op op_cat (pe_lst (pa_cons (pe_slice sl_str (pv 0) po_none (po_some (pv 2))) pa_nil)) (pv 3))))))))
      (pss_one (ps_ret (pv 1)))))), ?_⟩)
  · obtain ⟨_, rfl, _⟩ := h; rfl
  · obtain ⟨l, rfl, hl, h12, hc, q⟩ := h
    walk_at "bd"
    by_cases c : l = []
    · subst c
      rw [decide_eq_true (show tx [] = ("" : Str) from rfl)]
      refine iteT ⟨szl (by decide), fun p1 n1 => ⟨szl (by decide), fun p2 n2 => ?_⟩⟩
      have h1 : (upd (upd H p1 (.lst [])) p2 (.lst [.ref p1])) p1 = some (.lst (([] : List (List Nat)).map vS)) := Ex.new n2 _ _ upd_same
      refine q p2 _ _ (fresh_back (Ex.new n1) n2) ((Ex.new n1).trans (Ex.new n2)) upd_same ?_
      rw [waysN, if_pos rfl]
      exact LL.one h1
    · have hne : ¬ tx l = ("" : Str) := fun z => c (tx_inj (l := l) (m := []) z)
      rw [decide_eq_false hne]
      have hp := List.length_pos_iff.mpr c
      refine iteF ⟨szl (by decide), fun p0 n0 => ?_⟩
      refine for_R2 (lo := 1) (n := l.length) (fun R r => ?_) (by omega) (fun i σ' H' => ∃ (f : Addr) (rs : List V) (y2 : Option V), σ' = [some (vS l), some (.ref f), y2, none] ∧ H f = none ∧ Ex H H' ∧ H' f = some (.lst rs) ∧ LL H' rs ((List.range i).flatMap fun s => (waysN n (l.drop (s + 1))).map (l.take (s + 1) :: ·)))
        ⟨p0, [], none, rfl, n0, Ex.new n0, upd_same, LL.nil⟩ (fun i σ' H' hi w => ?_) (fun σ' H' w => ?_)
      · walk_at "bd"
        exact ⟨szl (by omega), by rw [show (l.length : Int) + 1 = ((1 + l.length : Nat) : Int) by omega]; exact r⟩
      · obtain ⟨f, rs, y2, rfl, nf, e1, hf, ll⟩ := w
        walk_at "bd"
        have hd12 : (l.drop (i + 1)).length ≤ 12 := by rw [List.length_drop]; omega
        have e1i : (1 + i : Nat) = i + 1 := Nat.add_comm 1 i
        rw [e1i]
        have call : ∀ R : VK, (∀ p ts H2, Ex H' H2 → H2 p = some (.lst ts) → LL H2 ts (waysN n (l.drop (i + 1))) → R (.ref p) H2) → tCallS (sp_ways_n n K) (fun σ x x_1 x_2 => False) (tCons (tSl rSlS (tVar 0) (tPart (tVar 2)) tNoPart) tNil) [some (vS l), some (.ref f), some (.int ((i + 1 : Nat) : Int)), none] H' R := fun R r => by
          walk_at "bd"
          rw [cut_from]
          exact ⟨szl (by omega), l.drop (i + 1), rfl, by rw [List.length_drop]; omega, hd12, fun c hc' => hc c (List.mem_of_mem_drop hc'), fun p ts H2 hp2 e2 h2 lt => r p ts H2 e2 h2 lt⟩
        refine call _ fun p ts H2 e2 h2 lt => ?_
        refine ⟨p, rfl, ⟨ts, SqL.of h2⟩, fun D hD => ?_⟩
        have hlen := lt.1
        have h4 := ways_4096 (n := n) hd12
        refine lc_list (xs := ts) (fun k H' => Ex H2 H' ∧ ∃ us, H' D = some (.lst us) ∧ LLx D H' us (((waysN n (l.drop (i + 1))).take k).map (l.take (i + 1) :: ·))) ⟨Ex.new hD, [], upd_same, LLx.nil⟩ (fun k H' _ w => SqL.of (w.1 _ _ h2)) (fun k x H' hx w => ?_) (fun H' w => ?_)
        · obtain ⟨e3, us, hus, lx⟩ := w
          have hk := (List.getElem?_eq_some_iff.mp hx).1
          have hws : (waysN n (l.drop (i + 1)))[k]? = some ((waysN n (l.drop (i + 1)))[k]'(by omega)) := List.getElem?_eq_getElem (by omega)
          obtain ⟨r, hr1, hr2⟩ := lt.2 k _ hws
          generalize (waysN n (l.drop (i + 1)))[k]'(by omega) = vs at hws hr2
          have : x = .ref r := Option.some.inj (hx.symm.trans hr1)
          subst this
          have hvl := (ways_small (n := n) (l := l.drop (i + 1)) (by rw [List.length_drop]; omega) vs (List.mem_of_getElem? hws)).1
          walk_at "bd"
          rw [cut_to]
          have lxl := lx.1
          rw [List.length_map, List.length_take] at lxl
          refine ⟨szl (by omega), szl (by decide), fun p3 n3 => ?_⟩
          have x3 := Ex.new (o := .lst [vS (l.take (i + 1))]) n3
          refine ⟨p3, r, [vS (l.take (i + 1))], _, rfl, rfl, upd_same, x3 _ _ (e3 _ _ hr2), szl (by rw [List.length_map, List.length_singleton]; rw [List.length_drop] at hvl; omega), fun p4 n4 => ?_⟩
          have x4 := Ex.new (o := .lst ([vS (l.take (i + 1))] ++ vs.map vS)) n4
          have x34 := x3.trans x4
          have hD4 : p4 ≠ D := fun z => by
            have := x3 _ _ hus
            rw [← z] at this
            rw [this] at n4
            cases n4
          refine ⟨us, x34 _ _ hus, szlt (by omega), (e3.trans x34).mut hD, us ++ [.ref p4], upd_same, ?_⟩
          have e5 : (waysN n (l.drop (i + 1))).take (k + 1) = (waysN n (l.drop (i + 1))).take k ++ [vs] := by
            obtain ⟨hk2, rfl⟩ := List.getElem?_eq_some_iff.mp hws
            rw [List.take_succ_eq_append_getElem hk2]
          rw [e5, List.map_append, List.map_singleton]
          exact lx.snoc x34 upd_same hD4
        · obtain ⟨e3, us, hus, lx⟩ := w
          rw [hlen, List.take_length] at lx
          refine ⟨f, D, rs, us, rfl, rfl, e3 _ _ (e2 _ _ hf), hus, ?_, fun f2 nf2 => ⟨f2, rfl, ?_, ?_, rs ++ us, upd_same, ?_⟩⟩
          · have l1 := ll.1
            have l2 := lx.1
            rw [List.length_map] at l2
            have := flat_le (f := fun s => (waysN n (l.drop (s + 1))).map (l.take (s + 1) :: ·)) (m := 4096) (fun s => by rw [List.length_map]; exact ways_4096 (by rw [List.length_drop]; omega)) i
            exact szl (by omega)
          · exact fresh_back ((e1.trans e2).trans e3) nf2
          · exact (((e1.trans e2).trans e3).trans (Ex.new nf2))
          · rw [flat_succ]
            exact ((ll.mono (e2.trans e3)).app lx.ll).mono (Ex.new nf2)
      · obtain ⟨f, rs, y2, rfl, nf, e1, hf, ll⟩ := w
        refine ⟨_, rfl, q f rs H' nf e1 hf ?_⟩
        rw [waysN, if_neg c]
        exact ll
theorem d__law_ways (A : At K mg "_law_ways" ["_law_word_here"] s__law_ways) (B : Blt mg) : DefAt P w K mg base 12 "_law_ways" ["_law_word_here"] (sp__law_ways K) := r__law_ways A B 12
end
section
variable {P : Program} {w : World} {K : PySem.W.Frag} {mg : Str → Option Value} {base : Heap}
theorem d__law_good (A : At K mg "_law_good" ["_law_way"] s__law_good) (B : Blt mg) (D__law_is_prime : DefAt P w K mg base 1 "_law_is_prime" ["_law_word_here"] (sp__law_is_prime K)) : DefAt P w K mg base 2 "_law_good" ["_law_way"] (sp__law_good K) := by
  have nd := sc__law_good.nd
  refine A.def_ sc__law_good (fun vs H Q E h => ?_) (fun f cdv A0 outer s H vs Q E hr h => ⟨_, (pss_cons (ps_if (pt_cmpR (op_neD hr.units) (pe_lc (own := [("_law_one", 1), ("_law_two", 2)]) (g := (gTup K 2 (gCons (gName 1) (gCons (gName 2) gNil)))) rfl nd (pi_zip rfl B.zip (pa_cons (pv 0) (pa_cons (pe_slice sl_list (pv 0) (po_some pe_int) po_none) pa_nil))) (blkOk_by (own := [("_law_one", 1), ("_law_two", 2)]) (N := ["_law_way", "_law_one", "_law_two"]) (sc := defScope s__law_good) (by decide +kernel)) (fun _ _ _ _ _ => (pg_tup (n := 2) rfl (pgs_cons (pg_name (i := 1) nd rfl (Or.inl rfl)) (pgs_cons (pg_name (i := 2) nd rfl (Or.inl rfl)) pgs_nil)))) (fun _ _ _ _ _ => (pts_one (pt_cmpR op_lt_str (pv 1) (pv 2) (nomark _)))) (fun _ _ _ _ _ => (pv 1))) (pe_lst pa_nil) (nomark _)) (pss_one (ps_ret pe_bl)) pss_nil)
      (pss_one (ps_ret (pe_cmpR (op_eqD hr.units) (pe_lc (own := [("_law_one", 1)]) (g := (gName 1)) rfl nd (pi_list (pv 0)) (blkOk_by (own := [("_law_one", 1)]) (N := ["_law_way", "_law_one", "_law_two"]) (sc := defScope s__law_good) (by decide +kernel)) (fun _ _ _ _ _ => (pg_name (i := 1) nd rfl (Or.inl rfl))) (fun _ _ _ _ _ => (pts_one (pt_not (pt_val (pe_callD D__law_is_prime (hr.mono (by decide)) pass_no (pa_cons (pv 1) pa_nil)))))) (fun _ _ _ _ _ => (pv 1))) (pe_lst pa_nil) (nomark _))))), ?_⟩)
  · obtain ⟨_, _, rfl, _⟩ := h; rfl
  · obtain ⟨a, ws, rfl, ha, hn, hw, q⟩ := h
    walk_at "bd"
    refine lc_zip (xs := ws.map vS) (ys := (ws.drop 1).map vS) (fun i => decide (ws.getD i [] < (ws.drop 1).getD i [])) (fun i => vS (ws.getD i [])) (fun R r => ?_) (SqL.of ha) (by rw [List.length_map]; omega) (fun _ _ => rfl) (fun i x y H7 e7 hx hy => ?_) (fun i x y H7 e7 hx hy hf => ?_) fun r7 H7 hr7 e7 k7 => ?_
    · walk_at "bd"
      refine ⟨a, _, rfl, SqL.of ha, fun b nb => r b _ (Ex.new nb) (SqL.of ?_)⟩
      rw [upd_same, cutV1, List.map_drop]
    · obtain ⟨u, rfl, hu, _⟩ := vS_at hx
      obtain ⟨v, rfl, hv, _⟩ := vS_at hy
      intro H8 e8 Q' q'
      walk_at "bd"
      rw [getD_of hu, getD_of hv] at q'
      exact q' _ (Ex.refl _)
    · obtain ⟨u, rfl, hu, _⟩ := vS_at hx
      intro H8 e8 Q' q'
      walk_at "bd"
      rw [getD_of hu] at q'
      exact q' _ (Ex.refl _)
    rw [given_W, List.length_map, List.length_map] at k7
    refine ⟨szl (by decide), fun p8 n8 => neD_S (vs := []) (SqL.of (Ex.new n8 _ _ k7)) (SqL.of upd_same) (short_given hw) (fun _ h => nomatch h) (given_small (by omega)) (by decide) ?_⟩
    rw [given_none]
    have es : ((List.range (min ws.length (ws.drop 1).length)).all fun i => !decide (ws.getD i [] < (ws.drop 1).getD i [])) = stepsB ws := rfl
    rw [es]
    have e8 := e7.trans (Ex.new (o := .lst []) n8)
    refine ⟨_, rfl, ?_⟩
    cases hs : stepsB ws with
    | false =>
      have := q _ e8
      unfold goodB at this
      rw [hs, Bool.false_and] at this
      exact iteT this
    | true =>
      refine iteF ?_
      have ha8 := e8 _ _ ha
      generalize upd H7 p8 (.lst []) = H8 at *
      refine el_lcL (xs := ws.map vS) (fun i => !primeB (ws.getD i [])) (fun i => vS (ws.getD i [])) (ev_var rfl) (SqL.of ha8) (by rw [List.length_map]; omega) (fun _ => rfl) (fun i x H4 e4 hx => ?_) (fun i x H2 e2 hx hf => ?_) H8 (Ex.refl _) _ fun r10 H10 hr10 e10 k10 => ?_
      · obtain ⟨u, rfl, hu, mu⟩ := vS_at hx
        intro H5 e5 Q' q'
        walk_at "bd"
        rw [getD_of hu] at q'
        exact ⟨u, rfl, hw u mu, fun H6 e6 => ⟨_, rfl, q' _ e6⟩⟩
      · obtain ⟨u, rfl, hu, mu⟩ := vS_at hx
        intro H5 e5 Q' q'
        walk_at "bd"
        rw [getD_of hu] at q'
        exact q' _ (Ex.refl _)
      rw [given_W, List.length_map] at k10
      refine ⟨szl (by decide), fun p11 n11 => eqD_S (vs := []) (SqL.of (Ex.new n11 _ _ k10)) (SqL.of upd_same) (short_given hw) (fun _ h => nomatch h) (given_small (by omega)) (by decide) ?_⟩
      rw [given_none, all_primes]
      have := q _ (e8.trans (e10.trans (Ex.new (o := .lst []) n11)))
      unfold goodB at this
      rw [hs, Bool.true_and] at this
      exact this
end
section
variable {P : Program} {w : World} {K : PySem.W.Frag} {mg : Str → Option Value} {base : Heap}
theorem d_law (A : At K mg "law" ["_law_script"] s_law) (B : Blt mg) (D__law_word : DefAt P w K mg base 3 "_law_word" ["_law_script", "_law_at"] (sp__law_word K)) (D_parts_of : DefAt P w K mg base 3 "parts_of" ["word"] (sp_parts_of K)) (D__law_ways : DefAt P w K mg base 12 "_law_ways" ["_law_word_here"] (sp__law_ways K)) (D__law_good : DefAt P w K mg base 2 "_law_good" ["_law_way"] (sp__law_good K)) (D__law_number : DefAt P w K mg base 2 "_law_number" ["_law_script", "_law_k"] (sp__law_number K)) : DefAt P w K mg base 13 "law" ["_law_script"] (sp_law K) := by
  have nd := sc_law.nd
  refine A.def_ sc_law (fun vs H Q E h => ?_) (fun f cdv A0 outer s H vs Q E hr h => ⟨_, (pss_cons (ps_for (passes_of rfl) rfl (pi_range1 rfl B.range (pa_cons (pe_op op_add pe_int (pe_callB (call_min2 rfl) rfl B.min (by decide +kernel) (pa_cons pe_int (pa_cons (pe_callB call_len_seq rfl B.len (by decide +kernel) (pa_cons (pv 0) pa_nil)) pa_nil)))) pa_nil)) (pg_name (i := 1) nd rfl (Or.inl rfl)) (pss_cons (ps_set (i := 2) nd rfl (Or.inr rfl) (pe_callD D__law_word (hr.mono (by decide)) pass_no (pa_cons (pv 0) (pa_cons (pe_op op_mul pe_int (pv 1)) pa_nil))))
      (pss_cons (ps_set (i := 3) nd rfl (Or.inl rfl) (pe_slice sl_str (pv 2) po_none (po_some (pe_op op_add pe_int (pe_op op_mod (pe_callD D__law_number (hr.mono (by decide)) pass_no (pa_cons (pv 0) (pa_cons (pe_op op_add (pe_op op_mul pe_int (pv 1)) pe_int) pa_nil))) pe_int)))))
      (pss_cons (ps_if (pt_cmpR (op_neD hr.units) (pe_lc (own := [("_law_way", 4)]) (g := (gName 4)) rfl nd (pi_list (pe_callD D__law_ways (hr.mono (by decide)) pass_no (pa_cons (pv 3) pa_nil))) (blkOk_by (own := [("_law_way", 4)]) (N := ["_law_script", "_law_k", "_law_word_here", "_law_few", "_law_way", "_law_found", "_law_whole", "_law_one", "_law_place"]) (sc := defScope s_law) (by decide +kernel)) (fun _ _ _ _ _ => (pg_name (i := 4) nd rfl (Or.inl rfl))) (fun _ _ _ _ _ => (pts_one (pt_val (pe_callD D__law_good (hr.mono (by decide)) pass_no (pa_cons (pv 4) pa_nil))))) (fun _ _ _ _ _ => (pv 4))) (pe_lst (pa_cons (pe_callD D_parts_of (hr.mono (by decide)) pass_up (pa_cons (pv 3) pa_nil)) pa_nil)) (nomark _)) (pss_one (ps_ret pe_bl)) pss_nil)
      (pss_cons (ps_set (i := 5) nd rfl (Or.inl rfl) (pe_callD D_parts_of (hr.mono (by decide)) pass_up (pa_cons (pv 2) pa_nil)))
      (pss_cons (ps_set (i := 6) nd rfl (Or.inl rfl) (pe_lst pa_nil))
      (pss_cons (ps_for (passes_of rfl) rfl (pi_list (pv 5)) (pg_name (i := 7) nd rfl (Or.inl rfl)) (pss_one (ps_set (i := 6) nd rfl (Or.inl rfl) (pe_op op_cat (pv 6) (pe_callD D_parts_of (hr.mono (by decide)) pass_up (pa_cons (pv 7) pa_nil))))))
      (pss_one (ps_if (PW.pt (pw_or (pt_cmpR (op_neD hr.units) (pv 6) (pv 5) (nomark _)) (pw_or1 (pt_cmpR op_ne (pe_ix ix_list (pv 5) (pe_un un_neg pe_int) (fun _ _ => rfl)) (pe_callB (call_minW rfl hr.units) rfl B.min (by decide +kernel) (pa_cons (pe_lc (own := [("_law_place", 8)]) (g := (gName 8)) (tt := tYes) rfl nd (pi_range1 rfl B.range (pa_cons (pe_callB call_len_str rfl B.len (by decide +kernel) (pa_cons (pv 2) pa_nil)) pa_nil)) (blkOk_by (own := [("_law_place", 8)]) (N := ["_law_script", "_law_k", "_law_word_here", "_law_few", "_law_way", "_law_found", "_law_whole", "_law_one", "_law_place"]) (sc := defScope s_law) (by decide +kernel)) (fun _ _ _ _ _ => (pg_name (i := 8) nd rfl (Or.inl rfl))) (fun _ _ _ _ _ => pts_nil) (fun _ _ _ _ _ => (pe_slice sl_str (pv 2) (po_some (pv 8)) po_none))) pa_nil)) (nomark _))))) (pss_one (ps_ret pe_bl)) pss_nil)))))))))
      (pss_one (ps_ret pe_bl))), ?_⟩)
  · obtain ⟨_, _, rfl, _⟩ := h; rfl
  · obtain ⟨a, ns, rfl, hS, hl, q⟩ := h
    walk_at "bd"
    refine for_R1 (n := 1 + min 12 ns.length) (fun R r => ?_) (by omega) (fun i σ' H' => (∃ y1 y2 y3 y5 y6 y7, σ' = [some (.ref a), y1, y2, y3, none, y5, y6, y7, none]) ∧ Ex H H') ⟨⟨_, _, _, _, _, _, rfl⟩, Ex.refl _⟩ (fun i σ' H' hi w => ?_) (fun σ' H' w => ?_)
    · walk_at "bd"
      refine ⟨_, .inl hS, ?_⟩
      have e : (1 : Int) + (if ((ns.map V.int).length : Int) < 12 then ((ns.map V.int).length : Int) else 12) = ((1 + min 12 ns.length : Nat) : Int) := by
        rw [List.length_map]
        split <;> omega
      rw [e]
      exact r
    · obtain ⟨⟨y1, y2, y3, y5, y6, y7, rfl⟩, e1⟩ := w
      have hS1 := ex_l e1 hS
      walk_at "bd"
      refine ⟨.inl (by decide), a, ns, _, rfl, hS1, ⟨by omega, by omega⟩, fun l H2 wl e2 => ?_⟩
      have hS2 := ex_l e2 hS1
      have hp := wl.pos
      have h60 := wl.le
      walk_at "bd"
      refine ⟨.inl (by decide), a, ns, _, rfl, hS2, ⟨by omega, by omega⟩, fun n n0 n1 => ⟨n, rfl, szl (by omega), ?_⟩⟩
      obtain ⟨m, hm, hm9⟩ : ∃ m : Nat, 1 + n % 9 = ((m + 1 : Nat) : Int) ∧ m < 9 := ⟨(n % 9).toNat, by omega, by omega⟩
      rw [hm, cut_to]
      have wf : IsW (l.take (m + 1)) := wl.take (by omega)
      have hfl : (l.take (m + 1)).length ≤ 9 := by rw [List.length_take]; omega
      generalize l.take (m + 1) = w9 at *
      refine ⟨_, rfl, w9, rfl, by omega, by omega, fun c hc => wf.let_ c hc, fun p ts H3 hp3 e3 h3 lt => ?_⟩
      refine ⟨p, rfl, ⟨ts, SqL.of h3⟩, fun D hD => ?_⟩
      have hlen := lt.1
      refine lc_list (xs := ts) (fun k H' => Ex H3 H' ∧ ∃ us, H' D = some (.lst us) ∧ us.length ≤ k ∧ LLx D H' us (((waysN 12 w9).take k).filter goodB)) ⟨Ex.new hD, [], upd_same, Nat.zero_le _, LLx.nil⟩ (fun k H' _ w => SqL.of (w.1 _ _ h3)) (fun k x H' hx w => ?_) (fun H4 w => ?_)
      · obtain ⟨e4, us, hus, hul, lx⟩ := w
        have hk := (List.getElem?_eq_some_iff.mp hx).1
        have hws : (waysN 12 w9)[k]? = some ((waysN 12 w9)[k]'(by omega)) := List.getElem?_eq_getElem (by omega)
        obtain ⟨r, hr1, hr2⟩ := lt.2 k _ hws
        generalize (waysN 12 w9)[k]'(by omega) = vs at hws hr2
        have : x = .ref r := Option.some.inj (hx.symm.trans hr1)
        subst this
        have hrD : r ≠ D := fun z => by rw [z, hD] at hr2; cases hr2
        obtain ⟨hv1, hv2⟩ := ways_words (n := 12) (l := w9) (by omega) wf vs (List.mem_of_getElem? hws)
        have h4096 := ways_4096 (n := 12) (l := w9) (by omega)
        walk_at "bd"
        refine ⟨r, vs, rfl, e4 _ _ hr2, hv1, hv2, fun H5 e5 => ⟨_, rfl, ?_⟩⟩
        have e6 : (waysN 12 w9).take (k + 1) = (waysN 12 w9).take k ++ [vs] := by
          obtain ⟨hk2, rfl⟩ := List.getElem?_eq_some_iff.mp hws
          rw [List.take_succ_eq_append_getElem hk2]
        rw [e6, List.filter_append]
        cases hg : goodB vs with
        | true =>
          refine iteT ⟨us, e5 _ _ hus, szlt (by omega), (e4.trans e5).mut hD, us ++ [.ref r], upd_same, by rw [List.length_append]; exact Nat.add_le_add hul (Nat.le_refl 1), ?_⟩
          rw [show [vs].filter goodB = [vs] by rw [List.filter_cons, hg]; rfl]
          exact lx.snoc e5 (e5 _ _ (e4 _ _ hr2)) hrD
        | false =>
          refine iteF ⟨e4.trans e5, us, e5 _ _ hus, by omega, ?_⟩
          rw [show [vs].filter goodB = [] by rw [List.filter_cons, hg]; rfl, List.append_nil]
          exact ⟨lx.1, fun i ws hi => by obtain ⟨r, h1, h2, h3⟩ := lx.2 i ws hi; exact ⟨r, h1, h2, e5 _ _ h3⟩⟩
      · obtain ⟨e4, us, hus, hul, lx⟩ := w
        rw [hlen, List.take_length] at lx
        refine ⟨_, rfl, Thing.ofW wf, fun l' el wl' pf gf p5 H5 hp5 e5 h5 => ⟨szl (by decide), fun p6 n6 => ?_⟩, fun z => wordF wf z⟩
        obtain rfl := tx_inj (V.str.inj el)
        rw [ways_good (by omega) gf] at lx
        have pfw : ∀ w ∈ pf, IsW w := fun w hw => (gf.word wf w hw).1
        have x6 := Ex.new (o := .lst [.ref p5]) n6
        have e46 := e5.trans x6
        refine ⟨.list (dLL [pf]), .list (dLL [pf]), .lst (SqL.of (e46 _ _ hus)) (dp_LL (lx.ll.mono e46)), .lst (SqL.of upd_same) (dp_LL (LL.one (x6 _ _ h5))), shaped_one pfw, shaped_one pfw, ?_⟩
        rw [eqv_one]
        have e06 := (((e1.trans e2).trans e3).trans e4).trans e46
        generalize upd H5 p6 (.lst [.ref p5]) = H6 at *
        refine ⟨_, rfl, iteF ⟨_, rfl, Thing.ofW wl, fun l' el wl' ps g p7 H7 hp7 e7 h7 => ⟨szl (by decide), fun p8 n8 => ?_⟩, fun z => wordF wl z⟩⟩
        obtain rfl := tx_inj (V.str.inj el)
        have x8 := Ex.new (o := .lst []) n8
        have h78 := x8 _ _ h7
        have h8 : (upd H7 p8 (.lst [])) p8 = some (.lst []) := upd_same
        have gl := g.len
        have gw := g.word wl
        generalize upd H7 p8 (.lst []) = H8 at *
        refine for_L (K := K) (a := p7) (xs := ps.map vS) (fun R r => ⟨_, rfl, r⟩) (SqL.of h78) (fun k σ' H' => ∃ w y7, σ' = [some (.ref a), some (.int (i : Int)), some (vS l), some (vS w9), none, some (.ref p7), some (.ref w), y7, none] ∧ Ex H8 H' ∧ H' w = some (.lst ((ps.take k).map vS))) ⟨p8, _, rfl, Ex.refl _, h8⟩ (fun k σ' H' _ w => by obtain ⟨_, _, _, e, _⟩ := w; exact SqL.of (e _ _ h78)) (fun k x σ' H' hx w => ?_) (fun σ' H' w => ?_)
        · obtain ⟨w, y7, rfl, e9, hw⟩ := w
          rw [List.getElem?_map] at hx
          obtain ⟨u, hu, rfl⟩ := Option.map_eq_some_iff.mp hx
          have mu := List.mem_of_getElem? hu
          walk_at "bd"
          refine ⟨_, rfl, Thing.ofW (gw u mu).1, fun l' el wl' us g' p9 H9 hp9 e9' h9 => ?_, fun z => wordF (gw u mu).1 z⟩
          obtain rfl := tx_inj (V.str.inj el)
          obtain rfl := g.isOne mu g'
          refine ⟨w, p9, _, _, rfl, rfl, e9' _ _ hw, h9, szl (by rw [List.length_map, List.length_map, List.length_take, List.length_singleton]; omega), fun p10 n10 => ⟨p10, rfl, ?_, ?_⟩⟩
          · exact (e9.trans e9').trans (Ex.new n10)
          · rw [upd_same]
            obtain ⟨hk2, rfl⟩ := List.getElem?_eq_some_iff.mp hu
            rw [List.take_succ_eq_append_getElem hk2, List.map_append]
        · obtain ⟨w, y7, rfl, e9, hw⟩ := w
          rw [List.length_map, List.take_length] at hw
          walk_at "bd"
          have hn : (ps.map tx).length ≤ 10000 := by rw [List.length_map]; omega
          refine neD_S (ws := ps.map tx) (vs := ps.map tx) (by rw [← map_vS]; exact SqL.of hw) (by rw [← map_vS]; exact SqL.of (e9 _ _ h78)) (short_Ws fun w hw => (gw w hw).1) (short_Ws fun w hw => (gw w hw).1) hn hn ?_
          rw [decide_eq_true rfl]
          refine ⟨_, rfl, iteF ?_⟩
          obtain ⟨qs, qq, rfl⟩ := g.ne hp
          have hends := g.ends
          refine ⟨p7, _, _, vS qq, rfl, rfl, SqL.of (e9 _ _ h78), by rw [List.map_append]; exact atI_last _ _, ?_⟩
          refine el_lcR1 (n := l.length) (fun _ => true) (fun k => vS (l.drop k)) (fun H2 e2 Q' q' => ?_) ⟨by omega, by omega⟩ (fun _ => rfl) (fun _ _ _ _ => ev_yes) (fun k H2 e2 hk _ => ?_) H' (Ex.refl _) _ fun pm Hm hpm em km => ?_
          · walk_at "bd"
            exact ⟨szl (by omega), q' _ (Ex.refl _)⟩
          · intro H3 e3 Q' q'
            walk_at "bd"
            rw [cut_from]
            exact ⟨szl (by omega), q' _ (Ex.refl _)⟩
          · rw [given_all5, Int.toNat_natCast] at km
            have km' : Hm pm = some (.lst (((List.range l.length).map fun k => l.drop k).map vS)) := by rw [km, List.map_map]; rfl
            obtain ⟨w0, r0, hwr⟩ : ∃ w0 r0, ((List.range l.length).map fun k => l.drop k) = w0 :: r0 := by
              cases hz : (List.range l.length).map fun k => l.drop k with
              | nil =>
                have := congrArg List.length hz
                rw [List.length_map, List.length_range, List.length_nil] at this
                omega
              | cons w0 r0 => exact ⟨w0, r0, rfl⟩
            rw [hwr] at km' hends
            refine ⟨pm, w0, r0, rfl, SqL.of km', rfl, ?_⟩
            have : leastW w0 r0 = qq := (leastW_min r0 w0).uniq hends fun _ => Iff.rfl
            rw [this, decide_eq_true rfl]
            exact iteF (e06.trans ((e7.trans x8).trans (e9.trans em)))
    · obtain ⟨⟨y1, y2, y3, y5, y6, y7, rfl⟩, e1⟩ := w
      exact q H'
end
end Bd
namespace Bd
open PySem PySem.Spec PyProof.Rows L2 Evl
def dd (x : Str) (i : Nat) : He.DefD := ⟨(x, none), x, x, defArgs (topS i), defBody (topS i), defScope (topS i), [], []⟩
def fn : List He.DefD := [dd "is_word" 6, dd "need_word" 7, dd "run_from" 9, dd "parts_of" 10, dd "_law_mixed" 12, dd "_law_number" 13, dd "_law_word" 14, dd "_law_is_prime" 15, dd "_law_ways" 16, dd "_law_good" 17, dd "law" 18]
def fa : List He.Fa := ([.str "LETTERS" "abcdefgh", .int "MOST_LETTERS" 60, .glo "is_word", .glo "need_word", .glo "run_from", .glo "parts_of", .glo "_law_mixed", .glo "_law_number", .glo "_law_word", .glo "_law_is_prime", .glo "_law_ways", .glo "_law_good", .glo "law", .glo "BeadError", .exc "BeadError", .exm "BeadError" "BeadError" true, .glo "BadWord", .exc "BadWord", .exm "BadWord" "BeadError" true, .free "len", .free "range", .free "isinstance", .free "str", .free "int", .free "bool", .free "list", .free "all", .free "min", .free "max", .free "sorted"] : List He.Fa) ++ ([.free "repr", .free "enumerate", .free "zip", .free "sum", .free "set", .free "reversed", .free "ValueError"] : List He.Fa)
abbrev R : PySem.W.OpenRow := PySem.W.OpenLaw.row PySem.Challenge.rw_beadrings_k05_whole_one_way
abbrev hk : PySem.W.Hook := hookB 4 fa fn bxNo
def ob := obB 4 fa fn bxNo
theorem ob_eq (s : PySem.W.SharedT) : ob s = hk.obs s.abs := obB_eq 4 fa fn bxNo s
def loose : List PySem.Str := (["BeadError", "BadWord", "LETTERS", "MOST_LETTERS", "is_word", "need_word", "run_from", "parts_of", "_law_mixed", "_law_number", "_law_word", "_law_is_prime", "_law_ways", "_law_good"] : List PySem.Str)
set_option maxHeartbeats 0 in
theorem run (w : World) : HandSHeadRun.RunEq R (PySem.W.view R.prog [18]) hk ob 6000 loose w := by
  intro os
  kernel_rfl
theorem facts {P : Program} {w : World} {K : PySem.W.Frag} {mg : Str → Option Value} {base : Heap} (X : K.In base) (G : base.Ns mainGlobals mg) (c : He.SaysD fa fn K) (cb : bxNo K = true) : DefAt P w K mg base 13 "law" ["_law_script"] (sp_law K) := by
  have gl : ∀ (i : Nat) {x : Str}, fa[i]? = some (.glo x) → mg x = some (.ref (He.ga K x)) := fun i x e => He.glo_ok X G (c.fact i e)
  have fr : ∀ (i : Nat) {x : Str}, fa[i]? = some (.free x) → mg x = none := fun i x e => He.free_ok X G (c.fact i e)
  have B : Blt mg := ⟨fr 19 rfl, fr 20 rfl, fr 21 rfl, fr 22 rfl, fr 23 rfl, fr 24 rfl, fr 25 rfl, fr 26 rfl, fr 27 rfl, fr 28 rfl, fr 29 rfl, fr 30 rfl, fr 31 rfl, fr 32 rfl, fr 33 rfl, fr 34 rfl, fr 35 rfl, fr 36 rfl⟩
  have er : ∀ (i : Nat) {x : Str}, fa[i]? = some (.glo x) → fa[i + 1]? = some (.exc x) → fa[i + 2]? = some (.exm x "BeadError" true) → Err K mg x := fun i x e1 e2 e3 => by
    obtain ⟨q1, q2, q3, q4⟩ := He.exc_ok (c.fact (i + 1) e2)
    exact ⟨gl i e1, q1, q2, q3, q4, He.exm_ok (c.fact (i + 2) e3)⟩
  obtain ⟨t_LETTERS, gl_LETTERS⟩ := He.str_ok X G (c.fact 0 (f := .str "LETTERS" "abcdefgh") rfl)
  obtain ⟨t_MOST_LETTERS, gl_MOST_LETTERS⟩ := He.int_ok X G (c.fact 1 (f := .int "MOST_LETTERS" 60) rfl)
  have e_BeadError : Err K mg "BeadError" := er 13 rfl rfl rfl
  have e_BadWord : Err K mg "BadWord" := er 16 rfl rfl rfl
  have A_is_word : At K mg "is_word" ["thing"] s_is_word := by
    obtain ⟨fd, F⟩ := c.def_ 0 (d := dd "is_word" 6) rfl
    exact ⟨_, fd, F, gl 2 rfl, fun s us hl => FunD.bindsA F (fun _ _ _ _ _ _ us hl => match us, hl with | [_], _ => rfl) s us hl⟩
  have D_is_word : DefAt P w K mg base 1 "is_word" ["thing"] (sp_is_word K) := d_is_word A_is_word B gl_MOST_LETTERS gl_LETTERS
  have A_need_word : At K mg "need_word" ["thing"] s_need_word := by
    obtain ⟨fd, F⟩ := c.def_ 1 (d := dd "need_word" 7) rfl
    exact ⟨_, fd, F, gl 3 rfl, fun s us hl => FunD.bindsA F (fun _ _ _ _ _ _ us hl => match us, hl with | [_], _ => rfl) s us hl⟩
  have D_need_word : DefAt P w K mg base 2 "need_word" ["thing"] (sp_need_word K) := d_need_word A_need_word B e_BadWord D_is_word
  have A_run_from : At K mg "run_from" ["word", "begin"] s_run_from := by
    obtain ⟨fd, F⟩ := c.def_ 2 (d := dd "run_from" 9) rfl
    exact ⟨_, fd, F, gl 4 rfl, fun s us hl => FunD.bindsA F (fun _ _ _ _ _ _ us hl => match us, hl with | [_, _], _ => rfl) s us hl⟩
  have D_run_from : DefAt P w K mg base 1 "run_from" ["word", "begin"] (sp_run_from K) := d_run_from A_run_from B
  have A_parts_of : At K mg "parts_of" ["word"] s_parts_of := by
    obtain ⟨fd, F⟩ := c.def_ 3 (d := dd "parts_of" 10) rfl
    exact ⟨_, fd, F, gl 5 rfl, fun s us hl => FunD.bindsA F (fun _ _ _ _ _ _ us hl => match us, hl with | [_], _ => rfl) s us hl⟩
  have D_parts_of : DefAt P w K mg base 3 "parts_of" ["word"] (sp_parts_of K) := d_parts_of A_parts_of B D_need_word D_run_from
  have A__law_mixed : At K mg "_law_mixed" ["_law_cell", "_law_k"] s__law_mixed := by
    obtain ⟨fd, F⟩ := c.def_ 4 (d := dd "_law_mixed" 12) rfl
    exact ⟨_, fd, F, gl 6 rfl, fun s us hl => FunD.bindsA F (fun _ _ _ _ _ _ us hl => match us, hl with | [_, _], _ => rfl) s us hl⟩
  have D__law_mixed : DefAt P w K mg base 1 "_law_mixed" ["_law_cell", "_law_k"] (sp__law_mixed K) := d__law_mixed A__law_mixed B
  have A__law_number : At K mg "_law_number" ["_law_script", "_law_k"] s__law_number := by
    obtain ⟨fd, F⟩ := c.def_ 5 (d := dd "_law_number" 13) rfl
    exact ⟨_, fd, F, gl 7 rfl, fun s us hl => FunD.bindsA F (fun _ _ _ _ _ _ us hl => match us, hl with | [_, _], _ => rfl) s us hl⟩
  have D__law_number : DefAt P w K mg base 2 "_law_number" ["_law_script", "_law_k"] (sp__law_number K) := d__law_number A__law_number B D__law_mixed
  have A__law_word : At K mg "_law_word" ["_law_script", "_law_at"] s__law_word := by
    obtain ⟨fd, F⟩ := c.def_ 6 (d := dd "_law_word" 14) rfl
    exact ⟨_, fd, F, gl 8 rfl, fun s us hl => FunD.bindsA F (fun _ _ _ _ _ _ us hl => match us, hl with | [_, _], _ => rfl) s us hl⟩
  have D__law_word : DefAt P w K mg base 3 "_law_word" ["_law_script", "_law_at"] (sp__law_word K) := d__law_word A__law_word B D__law_number
  have A__law_is_prime : At K mg "_law_is_prime" ["_law_word_here"] s__law_is_prime := by
    obtain ⟨fd, F⟩ := c.def_ 7 (d := dd "_law_is_prime" 15) rfl
    exact ⟨_, fd, F, gl 9 rfl, fun s us hl => FunD.bindsA F (fun _ _ _ _ _ _ us hl => match us, hl with | [_], _ => rfl) s us hl⟩
  have D__law_is_prime : DefAt P w K mg base 1 "_law_is_prime" ["_law_word_here"] (sp__law_is_prime K) := d__law_is_prime A__law_is_prime B
  have A__law_ways : At K mg "_law_ways" ["_law_word_here"] s__law_ways := by
    obtain ⟨fd, F⟩ := c.def_ 8 (d := dd "_law_ways" 16) rfl
    exact ⟨_, fd, F, gl 10 rfl, fun s us hl => FunD.bindsA F (fun _ _ _ _ _ _ us hl => match us, hl with | [_], _ => rfl) s us hl⟩
  have D__law_ways : DefAt P w K mg base 12 "_law_ways" ["_law_word_here"] (sp__law_ways K) := d__law_ways A__law_ways B
  have A__law_good : At K mg "_law_good" ["_law_way"] s__law_good := by
    obtain ⟨fd, F⟩ := c.def_ 9 (d := dd "_law_good" 17) rfl
    exact ⟨_, fd, F, gl 11 rfl, fun s us hl => FunD.bindsA F (fun _ _ _ _ _ _ us hl => match us, hl with | [_], _ => rfl) s us hl⟩
  have D__law_good : DefAt P w K mg base 2 "_law_good" ["_law_way"] (sp__law_good K) := d__law_good A__law_good B D__law_is_prime
  have A_law : At K mg "law" ["_law_script"] s_law := by
    obtain ⟨fd, F⟩ := c.def_ 10 (d := dd "law" 18) rfl
    exact ⟨_, fd, F, gl 12 rfl, fun s us hl => FunD.bindsA F (fun _ _ _ _ _ _ us hl => match us, hl with | [_], _ => rfl) s us hl⟩
  have D_law : DefAt P w K mg base 13 "law" ["_law_script"] (sp_law K) := d_law A_law B D__law_word D_parts_of D__law_ways D__law_good D__law_number
  exact D_law
end Bd
open PySem PySem.W PySem.Calls PyProof.Rows
set_option maxRecDepth 100000 in
set_option maxHeartbeats 0 in
theorem PySem.Challenge.cw_beadrings_k05_whole_one_way_holds : PySem.Challenge.rw_beadrings_k05_whole_one_way.Holds := by
  w_on; o_law
  refine HandSHeadRun.head_any (r := OpenLaw.row PySem.Challenge.rw_beadrings_k05_whole_one_way) (q := view (OpenLaw.row PySem.Challenge.rw_beadrings_k05_whole_one_way).prog [18]) (H := Bd.hk) (ob := Bd.ob) (M := 6000) (loose := Bd.loose) (d := HandSHeadRun.topDef (OpenLaw.row PySem.Challenge.rw_beadrings_k05_whole_one_way).prog 18) (kwd := []) Bd.ob_eq
    (by kernel_rfl) (fun s => by kernel_rfl) Bd.run (by kernel_rfl) (by kernel_rfl) (by kernel_rfl) (by rfl) (by first | assumption | decide +kernel) (by decide +kernel) ⟨rfl, rfl, rfl, rfl, rfl, by decide +kernel⟩ ?hw ?hc
  case hw => w_witness2
  case hc =>
    refine Bd.walk_end (l := PySem.Challenge.rw_beadrings_k05_whole_one_way) (n := 63) (k := 13) (x := "_law_script") rfl (by decide) (by kernel_rfl) ⟨rfl, by decide, by decide⟩ ?F
    intro w mg h Y G
    obtain ⟨K, KX, c, cb⟩ := Y
    exact ⟨K, Bd.sp_law K, KX, (by kernel_rfl), fun H a ns hl _ hS => Bd.law_start hl hS, fun base hK hN => Bd.facts hK hN c cb⟩
