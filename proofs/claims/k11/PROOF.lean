import PyProof.Rows.All
import Wide.All
import OpenK.AllK
import Wide.FinOn
import PyProof.EqAt
import PyProof.EqKinds
import PyProof.TupleCall
import KE.KStateDown
import KE.SortData
import KE.DataMinMax
import KE.KSorted
import PyProof.ReprNest
import HandS.Base
import HandS.Call
import HandS.List
import HandS.Comp
import HandS.Ends
import HandS.Dict
import HandS.Iter
import HandS.Text
import HandS.StrMore
import HandS.Style
import HandS.Exc
import HandS.TryOnly
import HandS.ExcOwn
import HandS.ExcIs
import HandS.ExcValue
import HandS.IsInst
import HandS.More
import HandS.Words
import HandS.WordsList
import HandS.WordsExc
import HandS.Defaults
import HandS.Evl
import HandS.Zip
import HandS.SortOrd
import HandS.Strs
import HandS.SetFor
import HandS.RevTup
import HandS.Sort
import HandS.MapSum
import HandS.Replace
import HandS.Head0
import HandS.Head1
import HandS.Head2
import HandS.HeadEnd
import HandS.HeadHook1
import HandS.HeadHook2
import PySem.Challenge.RW_beadrings_k11_refused
set_option Elab.async false
set_option linter.all false
set_option maxRecDepth 100000
set_option maxHeartbeats 2000000
namespace Bd
open PySem PySem.Spec PyProof.Rows L2
/-! ### defs as bundles; G: what runs around is known to be no repr -/
abbrev BindsAll (fd : FuncData) (ps : List Str) : Prop := ∀ (s : Shared) (us : List Value), us.length = ps.length → BindsTo s fd ⟨us, []⟩ (ps.zip us)
theorem BindsAll.binds {K : PySem.W.Frag} {fd : FuncData} {ps : List Str} (h : BindsAll fd ps) : Binds K fd ps [] := fun s us _ hl => by
  rw [List.append_nil] at hl ⊢
  exact h s us hl
/-- the def named x keeps its promise (level k) -/
structure DefAt (P : Program) (w : World) (K : PySem.W.Frag) (mg : Str → Option Value) (base : Heap) (k : Nat) (x : Str) (ps : List Str) (sp : Sp) : Prop where
  out : ∃ f fd, FnOk P w K mg base (L2.CX P w) k f fd ps sp ∧ mg x = some (.ref f) ∧ PySem.W.keepIn K (.ref f) = true ∧ BindsAll fd ps
/-- as FnOk, called where no repr runs around -/
structure FnG (P : Program) (w : World) (K : PySem.W.Frag) (mg : Str → Option Value) (base : Heap) (k : Nat) (f : Addr) (fd : FuncData) (ps : List Str) (sp : Sp) : Prop where
  len : ∀ vs H Q E, sp vs H Q E → vs.length = ps.length
  run : ∀ (A : Around) (outer : List Env) (s : Shared) (H : Hp) (args : Args) (us : List Value) (vs : List V) (Q : VK) (E : XK), Room k A → A.guards = some [] → Env0 P w K mg base A outer s H → BindsTo s fd args (ps.zip us) → Vals vs us → sp vs H Q E →
    codeAny (model P w) A (.call (.ref f) args) (CR (L2.CX P w) outer P w H s Q E) s
structure DefG (P : Program) (w : World) (K : PySem.W.Frag) (mg : Str → Option Value) (base : Heap) (k : Nat) (x : Str) (ps : List Str) (sp : Sp) : Prop where
  out : ∃ f fd, FnG P w K mg base k f fd ps sp ∧ mg x = some (.ref f) ∧ PySem.W.keepIn K (.ref f) = true ∧ BindsAll fd ps
/-- where a def of the text stands -/
structure At (K : PySem.W.Frag) (mg : Str → Option Value) (x : Str) (ps : List Str) (st : Stmt) : Prop where
  out : ∃ f fd, FunD K x x (defArgs st) (defBody st) (defScope st) [] [] f fd ∧ mg x = some (.ref f) ∧ BindsAll fd ps
section
variable {P : Program} {w : World} {K : PySem.W.Frag} {mg : Str → Option Value} {base : Heap}
theorem At.def_ {x : Str} {N ps : List Str} {st : Stmt} {k : Nat} {sp : Sp} (F : At K mg x ps st) (S : FnScope N ps (defScope st)) (len : ∀ vs H Q E, sp vs H Q E → vs.length = ps.length)
    (hbody : ∀ (f : Addr) (cdv : Value) (A : Around) (outer : List Env) (s : Shared) (H : Hp) (vs : List V) (Q : VK) (E : XK), Room k (A.deeper (envOfC x (defScope st) s.heap.objs.size f cdv)) → sp vs H Q E →
      ∃ t, PSs (cxOf (L2.CX P w) P w K mg base N x (defScope st) f cdv A outer s H E) (defBody st) t ∧ t { nx := fun _ H' => Q .non H', rt := Q } (start N vs) H) : DefAt P w K mg base (k + 1) x ps sp := by
  obtain ⟨f, fd, F, m, b⟩ := F.out
  exact ⟨f, fd, F.ok S len (hbody f), m, F.kp, b⟩
theorem At.defG {x : Str} {N ps : List Str} {st : Stmt} {k : Nat} {sp : Sp} (F : At K mg x ps st) (S : FnScope N ps (defScope st)) (len : ∀ vs H Q E, sp vs H Q E → vs.length = ps.length)
    (hbody : ∀ (f : Addr) (cdv : Value) (A : Around) (outer : List Env) (s : Shared) (H : Hp) (vs : List V) (Q : VK) (E : XK), Room k (A.deeper (envOfC x (defScope st) s.heap.objs.size f cdv)) →
      (A.deeper (envOfC x (defScope st) s.heap.objs.size f cdv)).guards = some [] → sp vs H Q E →
      ∃ t, PSs (cxOf (L2.CX P w) P w K mg base N x (defScope st) f cdv A outer s H E) (defBody st) t ∧ t { nx := fun _ H' => Q .non H', rt := Q } (start N vs) H) : DefG P w K mg base (k + 1) x ps sp := by
  obtain ⟨f, fd, F, m, b⟩ := F.out
  refine ⟨f, fd, ⟨len, fun A outer s H args us vs Q E hr hg e0 hb r hsp => ?_⟩, m, F.kp, b⟩
  obtain ⟨oc, od, dV, kV, doc, pm, an, cdv, ct, osl, rfl, lk, hcd, _, _⟩ := F.ex
  have KX : K.In s.heap := e0.mod.kin.keeps fun b o e => (e0.bs b o e).1
  refine Att.call_fn KX (e0.mod.nolimit.keeps fun b o e => (e0.bs b o e).1) lk hcd hr.depth hb ?_ (fun s1 ic => ?_) S.co S.gen S.kind
  · refine List.all_eq_true.mpr fun y hy => ?_
    rcases S.par y.1 (List.of_mem_zip (show (y.1, y.2) ∈ ps.zip us from hy)).1 with q | q
    · rw [q]; rfl
    · rw [q]; rfl
  · obtain ⟨t, ht, hq⟩ := hbody f cdv A outer s H vs Q E (hr.deeper _) hg hsp
    have I := inv_start (CX := L2.CX P w) (E := E) S hr.hd e0 (len _ _ _ _ hsp) r ic
    refine wpAny_mono (ht.run [] s1 (start N vs) H _ I hq) (fun fl s' hs => ?_) fun e s' hs => hs
    cases fl with
    | ret u =>
      obtain ⟨v, σ', H', J, rv, q⟩ := hs
      exact ⟨v, H', J.os, J.bare, J.base, J.hok, rv, q⟩
    | next =>
      obtain ⟨σ', H', J, q⟩ := hs
      exact ⟨.non, H', J.os, J.bare, J.base, J.hok, rfl, q⟩
    | brk => obtain ⟨_, _, _, q⟩ := hs; exact False.elim q
    | cont => obtain ⟨_, _, _, q⟩ := hs; exact False.elim q
end
section
variable {X : Cx} {k : Nat} {x : Str} {ps : List Str} {sp : Sp} {E : L2.St → XK} {p pos : Pos} {e : Expr} {es : List Expr} {t : TA}
theorem pe_callD (D : DefAt X.prog X.w X.K X.mg X.base k x ps sp) (hr : Room k X.A) (hx : ∀ σ, PassesAt (L2.CX X.prog X.w) X σ (E σ)) (ha : PA X (e :: es) t) (hg : Gl X x := by rfl) (hdb : (x == ("__debug__" : Str)) = false := by decide)
    (he : starEach (e :: es) X.env = (false, eval e X.env) :: starEach es X.env := by rfl) (hpl : (backTo pos (starEach es X.env)).any (·.1) = false := by rfl) : PE X (.Call (.Name x p) (e :: es) [] pos) (tCallS sp E t) := by
  obtain ⟨f, fd, F, m, kp, b⟩ := D.out
  exact pe_callS F hr hg m kp b.binds hx ha hdb he hpl
theorem pe_callG (D : DefG X.prog X.w X.K X.mg X.base k x ps sp) (hr : Room k X.A) (hgu : X.A.guards = some []) (hx : ∀ σ, PassesAt (L2.CX X.prog X.w) X σ (E σ)) (ha : PA X (e :: es) t) (hg : Gl X x := by rfl) (hdb : (x == ("__debug__" : Str)) = false := by decide)
    (he : starEach (e :: es) X.env = (false, eval e X.env) :: starEach es X.env := by rfl) (hpl : (backTo pos (starEach es X.env)).any (·.1) = false := by rfl) : PE X (.Call (.Name x p) (e :: es) [] pos) (tCallS sp E t) := by
  obtain ⟨f, fd, F, m, kp, b⟩ := D.out
  constructor
  intro pins s σ H Q I h
  refine wpAny_Call_Name_kw (ld_glob I hg m ?_ hdb)
  refine PySem.W.callWith_K (h₀ := X.base) I.ok.mod.kin kp (thn (ha.run pos pins s σ H _ I h) fun us s1 hv => ?_) he hpl
  obtain ⟨vs, H1, I1, r, q⟩ := hv
  refine ⟨I1.kIn, wpAny_call (codeAny_mono (F.run X.A X.stack s1 H1 ⟨us, []⟩ us vs Q (E σ) hr hgu I1.env0 (b s1 us (by rw [← r.length]; exact F.len _ _ _ _ q)) r q) fun rr s' hq => ?_)⟩
  cases rr with
  | error e => exact hx σ pins H1 s1 e s' I1 hq
  | ok fl =>
    cases fl with
    | ret u => exact I1.after hq
    | next => exact False.elim hq
    | brk => exact False.elim hq
    | cont => exact False.elim hq
/-- nothing is let out by the callee -/
theorem pass_no : ∀ σ : L2.St, PassesAt (L2.CX X.prog X.w) X σ (fun _ _ _ => False) := fun σ pins H s e s' I c => by
  obtain ⟨_, _, _, _, _, _, _, _, _, _, _, _, z⟩ := c
  exact z.elim
/-- what a def's body lets out leaves the def -/
theorem pass_up {P : Program} {w : World} {K : PySem.W.Frag} {mg : Str → Option Value} {base : Heap} {N : List Str} {q : Str} {sc : Scope} {f : Addr} {cdv : Value} {A : Around} {outer : List Env} {s : Shared} {H : Hp} {E : XK} :
    ∀ σ : L2.St, PassesAt (L2.CX P w) (cxOf (L2.CX P w) P w K mg base N q sc f cdv A outer s H E) σ E :=
  fun σ => passAt (X := cxOf (L2.CX P w) P w K mg base N q sc f cdv A outer s H E) (W := fun c d _ H' => E c d H') (takes_of rfl rfl rfl rfl) σ
end
end Bd

namespace Bd
open PySem PySem.Spec PyProof.Rows L2
/-! ### texts by their codes -/
abbrev tx (l : List Nat) : Str := ⟨l.toArray⟩
theorem tx_list (z : Str) : tx z.cps.toList = z := Str.ext' (by simp)
theorem tx_len (l : List Nat) : (tx l).length = l.length := by show l.toArray.size = _; simp
theorem tx_cps (l : List Nat) : (tx l).cps.toList = l := by simp
theorem tx_add (l m : List Nat) : tx l ++ tx m = tx (l ++ m) := by
  refine str_eq_of_lists ?_
  show ((l.toArray ++ m.toArray).toList) = _
  simp
theorem tx_inj {l m : List Nat} (h : tx l = tx m) : l = m := by
  have := congrArg (fun z : Str => z.cps.toList) h
  simpa using this
theorem tx_injEq (l m : List Nat) : (tx l = tx m) = (l = m) := propext ⟨tx_inj, fun h => by rw [h]⟩
theorem scal_ss (x y : Str) : scal (.str x) (.str y) = true := rfl
theorem scal_ii (x y : Int) : scal (.int x) (.int y) = true := rfl
theorem scal_bb (x y : Bool) : scal (.bl x) (.bl y) = true := rfl
theorem scal_nn : scal .non .non = true := rfl
theorem tx_eq {l m : List Nat} : decide (V.str (tx l) = V.str (tx m)) = decide (l = m) := by
  by_cases e : l = m
  · subst e; simp
  · rw [decide_eq_false e, decide_eq_false fun q => e (tx_inj (V.str.inj q))]
/-! ### repr of a plain value -/
def shown : V → Str
  | .non => "None"
  | .bl b => if b then "True" else "False"
  | .int i => toString i
  | .str z => reprText z
  | _ => ""
def shows : V → Prop
  | .non => True
  | .bl _ => True
  | .int i => i.natAbs.log2 < 1920
  | .str z => (reprText z).length ≤ sizeLine
  | _ => False
def rRepr : List V → Hp → VK → Prop := fun xs H Q => ∃ v, xs = [v] ∧ shows v ∧ Q (.str (shown v)) H
section
variable {X : Cx}
theorem call_repr : CallR X (.builtin "repr") rRepr := by
  intro pins s σ H xs us Q I r h
  obtain ⟨v, rfl, hz, q⟩ := h
  obtain ⟨u, rfl, ru⟩ := vals1 r
  cases v with
  | non => cases (show u = Value.none from ru); exact PySem.P.repr_of_none ⟨.str _, H, I.tok _, ⟨_, rfl⟩, q⟩
  | bl b => cases (show u = Value.bool b from ru); exact PySem.P.repr_of_bool ⟨.str _, H, I.tok _, ⟨_, rfl⟩, q⟩
  | int i => obtain ⟨t, rfl⟩ := (show ∃ t, u = Value.int i t from ru); exact PySem.P.repr_of_int hz ⟨.str _, H, I.tok _, ⟨_, rfl⟩, q⟩
  | str z => obtain ⟨t, rfl⟩ := (show ∃ t, u = Value.str z t from ru); exact PySem.P.repr_of_str ⟨.str _, H, I.tok _, ⟨_, rfl⟩, q⟩ hz
  | byt b => exact hz.elim
  | flt b => exact hz.elim
  | ref a => exact hz.elim
  | ty n => exact hz.elim
/-! ### repr of data that is a list; what runs around is known to be no repr -/
def rReprL (K : PySem.W.Frag) : List V → Hp → VK → Prop := fun xs H Q => ∃ a d, xs = [.ref a] ∧ Dp K H (.ref a) d ∧ d.showable = true ∧ d.hasDict = false ∧ d.depth ≤ 50 ∧ d.shown.length ≤ sizeLine ∧ Q (.str d.shown) H
theorem call_reprL (hg : X.A.guards = some []) (hu : X.A.units + 64 < cLine) : CallR X (.builtin "repr") (rReprL X.K) := by
  intro pins s σ H xs us Q I r h
  obtain ⟨a, d, rfl, hd, h1, h2, h3, h4, q⟩ := h
  obtain ⟨u, rfl, ru⟩ := vals1 r
  obtain ⟨as, R⟩ := Dp.reads I d _ _ hd ru
  cases (show u = Value.ref a from ru)
  exact repr_of_reads' R h1 (fun z => by rw [h2] at z; cases z) hg (by omega) (fun _ _ e => e) (fun h' u tk k => ⟨.str _, H, I.kept (t' := tk) k, ⟨_, rfl⟩, q⟩) h4
/-! ### a text so many times -/
/-- a list so many times behind itself -/
def repW (n : Nat) (l : List Nat) : List Nat := (List.replicate n l).flatten
theorem repW_len (n : Nat) (l : List Nat) : (repW n l).length = n * l.length := by
  unfold repW
  rw [List.length_flatten, List.map_replicate, List.sum_replicate_nat]
def rMulS : R2 := fun x y H Q => ∃ z n, x = .str z ∧ y = .int n ∧ 0 ≤ n ∧ n ≤ 100000 ∧ z.length * n.toNat ≤ sizeLine ∧ Q (.str (tx (repW n.toNat z.cps.toList))) H
theorem foldl_cps (z : Str) : ∀ (n : Nat) (acc : Array Nat), ((List.replicate n z.cps).foldl (· ++ ·) acc).toList = acc.toList ++ (List.replicate n z.cps.toList).flatten
  | 0, acc => by simp
  | n + 1, acc => by
    rw [List.replicate_succ, List.foldl_cons, foldl_cps z n, List.replicate_succ, List.flatten_cons, Array.toList_append, List.append_assoc]
theorem mul_text (z : Str) (n : Int) (hn : 0 ≤ n) : Txt.mul z n = tx (repW n.toNat z.cps.toList) := by
  unfold repW
  unfold Txt.mul
  by_cases h1 : n < 1
  · have e : n = 0 := by omega
    subst e
    simp [Str.empty]
  · rw [if_neg h1]
    by_cases h2 : (n == 1 || z.length == 0) = true
    · rw [if_pos h2]
      simp only [Bool.or_eq_true, beq_iff_eq] at h2
      refine str_eq_of_lists ?_
      rcases h2 with e | e
      · subst e
        simp
      · have e2 : z.cps.toList = [] := by
          have : z.cps.toList.length = 0 := by rw [Array.length_toList]; exact e
          exact List.eq_nil_of_length_eq_zero this
        rw [e2]
        simp
    · rw [if_neg h2]
      refine str_eq_of_lists ?_
      show ((List.replicate n.toNat z.cps).foldl (· ++ ·) #[]).toList = _
      rw [foldl_cps]
      simp
theorem op_mul_str : OpR X (binaryOp .Mult) rMulS := by
  intro pins s σ H x y v u Q I rx ry h
  obtain ⟨z, n, rfl, rfl, h0, hn, hz, q⟩ := h
  obtain ⟨t, rfl⟩ := rx
  obtain ⟨t2, rfl⟩ := ry
  rw [← mul_text z n h0] at q
  refine SB.mul ⟨?_, fun h1 _ => ?_, fun _ _ => ?_⟩ fun t' k => ⟨.str _, H, I.tok _, ⟨_, rfl⟩, q⟩
  · have h2 : ¬ n < -(2 ^ 63 : Int) := by omega
    have h3 : ¬ n ≥ 2 ^ 63 := by omega
    rw [decide_eq_false h2, decide_eq_false h3]; rfl
  · have hs : (z.length : Int) * n ≤ (sizeLine : Nat) := by
      have : ((z.length * n.toNat : Nat) : Int) ≤ (sizeLine : Nat) := by exact_mod_cast hz
      rw [Int.natCast_mul, Int.toNat_of_nonneg h0] at this
      exact this
    have hS : ((sizeLine : Nat) : Int) ≤ 2 ^ 63 - 1 := by rw [sizeLine_eq]; decide
    have : (z.length : Int) ≤ (2 ^ 63 - 1) / n := (Int.le_ediv_iff_mul_le (by omega)).mpr (by omega)
    omega
  · unfold Builtin.Str.tooLong
    have : sizeLine ≤ 2 ^ 63 - 1 := by rw [sizeLine_eq]; decide
    first | exact decide_eq_false (by omega) | (simp; omega)
/-! ### a text from its end to its begin -/
def tRevS (te : TE) : TE := fun σ H Q => te σ H fun x H1 => ∃ z, x = .str z ∧ z.length ≤ sizeLine ∧ Q (.str (tx z.cps.toList.reverse)) H1
theorem picked_rev (z : Str) : (Builtin.Str.strSliceIndices none none (-1) z.length).filterMap (z.cps[·]?) = z.cps.toList.reverse := by
  have e : Builtin.Str.strSliceIndices none none (-1) z.length = sliceRange ((z.cps.size : Int) - 1) (-1) (-1) := rfl
  rw [e, PySem.W.krv_sliceRange, PySem.W.krv_range, List.filterMap_reverse, PySem.W.krv_all]
theorem pe_revS {e : Expr} {te : TE} {k : Nat} {p1 p2 p3 pos : Pos} (he : PE X e te) : PE X (.Subscript e (.Slice none none (some (.UnaryOp .USub (.Constant (.int 1) k p1) p2)) p3) pos) (tRevS te) := by
  refine ⟨fun pins s σ H Q I h => ?_⟩
  refine Subscript_ (thn (he.run pins s σ H _ I h) fun v s1 hv => ?_)
  obtain ⟨x, H1, I1, r1, z, ex, hz, q⟩ := hv
  subst ex
  obtain ⟨t, rfl⟩ := r1
  have hst : PO X (some (.UnaryOp .USub (.Constant (.int 1) k p1) p2)) (tPart (tUn (rU fun i => .int (-i)) (tC (.int 1)))) := po_some (pe_un un_neg pe_int)
  refine wpAny_Slice (thn (po_none.run pins s1 σ H1 (fun o G => o = none ∧ G = H1) I1 ⟨rfl, rfl⟩) fun vl s2 w2 => ?_)
  obtain ⟨l, G2, I2, pl, rfl, rfl⟩ := w2
  refine thn (po_none.run pins s2 σ G2 (fun o G => o = none ∧ G = G2) I2 ⟨rfl, rfl⟩) fun vu s3 w3 => ?_
  obtain ⟨u, G3, I3, pu, rfl, rfl⟩ := w3
  refine thn (hst.run pins s3 σ G3 (fun o G => o = some (-1) ∧ G = G3) I3 ⟨1, rfl, -1, rfl, rfl, rfl⟩) fun vs s4 w4 => ?_
  obtain ⟨o, G4, I4, ps, rfl, rfl⟩ := w4
  have I5 : Inv X pins σ G4 { s4 with heap := s4.heap.push { cls := .type "slice", data := .fields #[vl, vu, vs] } } := I4.kept (t' := s4.toks) fun b ob w => Heap.get?_push_of_some _ w
  have ns := Heap.IsSliceOf.new s4.heap vl vu vs
  obtain ⟨l0, rfl, e0⟩ := IsPart.raw pl
  obtain ⟨u0, rfl, e1⟩ := IsPart.raw pu
  obtain ⟨s0, rfl, e2⟩ := IsPart.raw ps
  obtain rfl : l0 = none := by cases l0 with | none => rfl | some w => cases e0
  obtain rfl : u0 = none := by cases u0 with | none => rfl | some w => cases e1
  obtain ⟨⟨i0, t0⟩, rfl⟩ : ∃ w, s0 = some w := by cases s0 with | none => cases e2 | some w => exact ⟨w, rfl⟩
  obtain rfl : i0 = -1 := by first | exact Option.some.inj e2 | exact (Option.some.inj e2).symm
  refine tail_any (ops := [.str z t, .ref s4.heap.objs.size]) (typeIs_str _ z t) F.slot_str_getitem.lookup ?_ (by with_unfolding_all rfl)
  refine wpAny_getItem_str_slice (l := none) (u := none) (st := some (-1, t0)) ns rfl ?_
  show Made.post (if ((-1 : Int) == 1 && (Builtin.Str.strSliceIndices none none (-1) z.length).length == z.length) = true then Made.val (.str z t) else Made.str ⟨((Builtin.Str.strSliceIndices none none (-1) z.length).filterMap (z.cps[·]?)).toArray⟩) (EP X pins σ Q) _
  rw [if_neg (by rw [show ((-1 : Int) == 1) = false from rfl]; exact Bool.false_ne_true), picked_rev]
  refine ⟨?_, .str _, G4, I5.tok _, ⟨_, rfl⟩, q⟩
  rw [tx_len, List.length_reverse, Array.length_toList]
  exact hz
end
end Bd

namespace Bd
open PySem PySem.Spec PyProof.Rows L2
/-! ### a caught refusal that is kept in a name behind the suite -/
/-- a refusal of the class cls (it has no dict), at a -/
def ExK (cls : Value) (a : Addr) : HO := .ext fun h => ∃ (oe : Obj) (vs : Array Value), h.get? a = some oe ∧ Zc cls none oe ∧ oe.data = .fields vs
theorem exK_ok {P : Program} {w : World} {H : Hp} {h : Heap} {a : Addr} {cls : Value} {oe : Obj} {vs : Array Value} (e : h.get? a = some oe) (z : Zc cls none oe) (d : oe.data = .fields vs) : ObjOk P w H h a (ExK cls a) :=
  ⟨⟨oe, vs, e, z, d⟩, ⟨oe, e⟩, fun _ _ ⟨o, v, q, r⟩ k => ⟨o, v, k o q, r⟩⟩
section
variable {X : Cx} {pins : List (Addr × Obj)} {σ : L2.St} {H : Hp} {s : Shared}
/-- an object that stands already, of no one's, is tracked from here on -/
theorem track {a : Addr} {o : HO} {oe : Obj} {vs : Array Value} (I : Inv X pins σ H s) (e : s.heap.get? a = some oe) (d : oe.data = .fields vs) (na : H a = none) (n0 : X.s_0.heap.get? a = none) (nL : a ≠ X.env.locals)
    (np : ∀ p ∈ X.pn ++ pins, p.1 ≠ a) (new : ObjOk X.prog X.w (upd H a o) s.heap a o) : Inv X pins σ (upd H a o) s := by
  have off : ∀ {b : Addr} {u : HO}, H b = some u → upd H a o b = some u := fun {b u} q => by rw [upd_ne (ne_of_none q na)]; exact q
  refine { ok := I.ok, os := I.os, bare := I.bare, base := ?_, loc := I.loc, cell := I.cell, free := ?_, freeC := fun x c q => ?_, pin := fun p hp => ?_, hok := I.hok.laidN (fun _ _ q => q) na new, len := I.len }
  · refine { keep := I.base.keep, slot := I.base.slot, free := fun b u q n hx => ?_, there := I.base.there, tups := fun b xs q => off (I.base.tups b xs q), frzs := fun b u xs q => off (I.base.frzs b u xs q), tbls := fun b ps q => ?_ }
    · have nb : b ≠ a := fun z => by rw [z, n0] at q; cases q
      rw [upd_ne nb]
      exact I.base.free b u q n hx
    · obtain ⟨m, r⟩ := I.base.tbls b ps q
      exact ⟨m, off r⟩
  · rw [upd_ne (Ne.symm nL)]
    exact I.free
  · have nc : c ≠ a := fun z => by
      obtain ⟨v, oc, ho, hd⟩ := I.cell x c q
      rw [z, e] at ho
      cases ho
      rw [d] at hd
      cases hd
    rw [upd_ne nc]
    exact I.freeC x c q
  · obtain ⟨p1, p2, p3⟩ := I.pin p hp
    exact ⟨p1, by rw [upd_ne (np p hp)]; exact p2, p3⟩
end
/-- the wish of «except x as n»: the refusal is kept, tracked, behind the suite -/
def wKeep (K : PySem.W.Frag) (c : Value) (i : Nat) (ts : Addr → Value → TS) (D : Ends) : WX := fun cls d σ H =>
  PySem.W.exmOne K cls c = some true ∧ d = none ∧ ∀ a, H a = none → ts a cls { nx := fun σ' H' => H' a = none → D.nx (σ'.set i none) (upd H' a (ExK cls a)), rt := fun _ _ => False, bk := fun _ _ => False, ct := fun _ _ => False } (σ.set i (some (.ref a))) H
section
variable {X : Cx} {x n : Str} {c : Value} {i : Nat} {body suite : List Stmt} {b1 : Stmt} {np pos pos' : Pos} {tb : WX → TS} {ts : Addr → Value → TS}
theorem ps_try_keep (hst : X.stack = X.env :: X.outer) (hfr : X.env.frame = some X.env.locals) (hex : X.ex = []) (hN : X.N.Nodup) (hi : X.N[i]? = some n) (hln : X.env.kindOf n = some .local) (hc : Names X x c)
    (hb : ∀ (W : WX) (pn : List (Addr × Obj)) (xe : Value → Shared → Prop), Takes (X.tr pn xe) W → PassesOwn (model X.prog X.w) X.A X.env xe → PSs (X.tr pn xe) body (tb W))
    (hsu : ∀ (a : Addr) (oe : Obj) (cls : Value) (pn : List (Addr × Obj)), PSs (X.suite a ((a, oe) :: pn)) (b1 :: suite) (ts a cls)) :
    PS X (.Try body [.ExceptHandler (some (.Name x np)) (some n) (b1 :: suite) pos'] [] [] pos) (fun D σ H => tb (wKeep X.K c i ts D) D σ H) := by
  constructor
  intro pins s σ H D I h
  have ok := I.ok
  have frm : X.A.frames = some (X.env :: X.outer) := by rw [ok.frames, hst]
  refine wpAny_Try_except ?_
  let after : Value → Shared → Prop := fun e t1 => wpAny (model X.prog X.w) X.A (noteFrame e X.env) (fun _ t2 => wpAny (model X.prog X.w) X.A (setFlight e none) (fun _ t3 => wpAny (model X.prog X.w) X.A (handleBy e X.env [.ExceptHandler (some (.Name x np)) (some n) (b1 :: suite) pos']) (SP X pins D) X.xe t3) X.xe t2) X.xe t1
  have catch_ : Takes (X.tr (X.pn ++ pins) after) (wKeep X.K c i ts D) := by
    rintro u t ⟨a, B, sI, pins', σ1, H1, cls, d, rfl, J0, nb, up, sky, na, os, ag, hm, rfl, hsuite⟩
    have J : Inv X pins σ1 H1 sI := J0.ofTry ok
    show wpAny (model X.prog X.w) X.A (noteFrame (.ref a) X.env) _ _ _
    refine Sky.land Zc.steady frm hfr (show Sky B (X.env :: X.outer) a (Zc cls none) X.env.locals t.heap from hst ▸ sky) fun h3 fl up3 => ?_
    have J3 : Inv X pins σ1 H1 { t with heap := h3 } := J.landed nb fl.1 (up.trans up3) os ag
    obtain ⟨oe, vs, he, hz, hd⟩ := fl.there
    have nfr : a ∉ frs (X.env :: X.outer) := fun hm' => by
      obtain ⟨_, o', e', hnf⟩ := fl.2.2.1.mem hm'
      rw [he] at e'
      cases e'
      exact hnf _ hd
    have nL : a ≠ X.env.locals := fun z => nfr (List.mem_filterMap.mpr ⟨X.env, .head _, by rw [hfr, z]⟩)
    have nF : a ∉ X.fs := fun hm' => by
      obtain ⟨e1, m1, q1⟩ := List.mem_filterMap.mp hm'
      exact nfr (List.mem_filterMap.mpr ⟨e1, .tail _ m1, q1⟩)
    have nI : sI.heap.get? a = none := by
      cases q : sI.heap.get? a with
      | none => rfl
      | some o =>
        have z := nb a o q (by rw [hst]; exact nfr)
        rw [fl.2.1] at z
        cases z
    have n0 : X.s_0.heap.get? a = none := by
      cases q : X.s_0.heap.get? a with
      | none => rfl
      | some o =>
        obtain ⟨o', z⟩ := J.base.there a o q (by rw [hex]; exact fun z => nomatch z)
        rw [nI] at z
        cases z
    have npin : ∀ p ∈ X.pn ++ pins, p.1 ≠ a := fun p hp z => by
      have w := (J.pin p hp).1
      rw [z, nI] at w
      cases w
    have S3 := J3.suite he hd na nL nF
    refine wpAny_handleBy_cons (codeAny_handlers_test ?_) (by intro q; cases q)
    have LT : PySem.W.Looks (model X.prog X.w) h3 (typeOf (.ref a)) cls := fun A Q E t' k q => wpAny_typeOf_ref (k _ _ he) (by rw [hz.1]; exact q)
    have LM := PySem.W.exm_one (M := model X.prog X.w) J3.kIn LT hm
    have named : ∀ {Q E : Value → Shared → Prop}, Q c { t with heap := h3 } → wpAny (model X.prog X.w) (X.A.mark (some (.ref a))) (eval (.Name x np) X.env) Q E { t with heap := h3 } := fun {Q E} q => by
      obtain ⟨hg, hdb, hm' | ⟨hm', hv, hnn⟩⟩ := hc
      · exact ld_glob (X := X.suite a ((a, oe) :: (X.pn ++ pins))) S3 hg hm' q hdb
      · exact ld_blt (X := X.suite a ((a, oe) :: (X.pn ++ pins))) S3 hg hm' hv q hnn hdb
    refine named (LM.here (codeAny_handlers_suite_as ?_))
    refine HandSPX.lands_againZ fl fun h4 fl4 up4 => ?_
    have J4 : Inv X pins σ1 H1 { t with heap := h4 } := J.landed nb fl4.1 ((up.trans up3).trans up4) os ag
    obtain ⟨oe4, vs4, he4, hz4, hd4⟩ := fl4.there
    have S4 := J4.suite he4 hd4 na nL nF
    refine store_ok (X := X.suite a ((a, oe4) :: (X.pn ++ pins))) (v := .ref a) S4 hN hi (.inl hln) rfl (fun s5 S5 => ?_) (.inr hln)
    refine wpAny_mono ((hsu a oe4 cls (X.pn ++ pins)).run [] s5 _ H1 _ S5 (hsuite a na)) (fun f s6 hsp => ?_) (fun _ _ z => False.elim z)
    cases f with
    | next =>
      obtain ⟨σ6, H6, S6, q6⟩ := hsp
      obtain ⟨e6, n6, _⟩ := S6.pin (a, oe4) (List.mem_append_left _ (.head _))
      have J6 := track (S6.unsuite ok) e6 hd4 n6 n0 nL npin (exK_ok e6 hz4 hd4)
      exact gone_ok J6 hN hi hln fun s7 J7 => ⟨_, _, J7, q6 n6⟩
    | brk => obtain ⟨_, _, _, z⟩ := hsp; exact z.elim
    | cont => obtain ⟨_, _, _, z⟩ := hsp; exact z.elim
    | ret u => obtain ⟨_, _, _, _, _, z⟩ := hsp; exact z.elim
  refine wpAny_mono ((hb _ (X.pn ++ pins) after catch_ PassesOwn.looking).run [] s σ H D (I.toTry _) h) (fun f s1 hsp => ?_) (fun e s1 he => he)
  cases f with
  | next =>
    obtain ⟨σ', H', J', q⟩ := hsp
    exact wpAny_execs_nil ⟨σ', H', J'.ofTry ok, q⟩
  | brk => obtain ⟨σ', H', J', q⟩ := hsp; exact ⟨σ', H', J'.ofTry ok, q⟩
  | cont => obtain ⟨σ', H', J', q⟩ := hsp; exact ⟨σ', H', J'.ofTry ok, q⟩
  | ret u => obtain ⟨v, σ', H', J', r, q⟩ := hsp; exact ⟨v, σ', H', J'.ofTry ok, r, q⟩
end
/-! ### isinstance of a kept refusal -/
def rIsK (K : PySem.W.Frag) : List V → Hp → VK → Prop := fun xs H Q => ∃ (a D : Addr) (c : V) (cv : Value) (b : Bool), xs = [.ref a, c] ∧ ClsV c cv ∧ H a = some (ExK (.ref D) a) ∧ ExcC K D ∧ PySem.W.kitOne K (.ref D) cv = some b ∧ Q (.bl b) H
theorem call_isK {X : Cx} : CallR X (.builtin "isinstance") (rIsK X.K) := by
  intro pins s σ H xs us Q I r h
  obtain ⟨a, D, c, cv, b, rfl, hcv, ha, C, e, q⟩ := h
  obtain ⟨u1, u2, rfl, r1, r2⟩ := vals2 r
  cases (show u1 = Value.ref a from r1)
  have ec := hcv.eq r2
  subst ec
  obtain ⟨⟨oe, vs, hget, ⟨hz1, hz2⟩, hv⟩, _, _⟩ := (show ObjOk X.prog X.w H s.heap a (ExK (.ref D) a) from I.hok a _ ha)
  have J : PySem.W.InstAt s.heap a oe D none := by
    obtain ⟨oc, od, oda, osl⟩ := oe
    simp only at hz1 hz2 hv
    subst hz1 hz2 hv
    exact ⟨hget, rfl, rfl, trivial⟩
  exact PySem.W.kia_one (PySem.W.handS_kitx_exc C.hg C.hk C.hs C.hd C.ha C.hn C.ht C.hm) I.kIn J e (fun z => nomatch z) fun tk => ⟨.bl b, H, I.kept (t' := tk) fun _ _ z => z, rfl, q⟩
end Bd

namespace Bd
open PySem PySem.Spec PyProof.Rows L2
/-! ### lists of texts: min, sorted; the greatest letter of a text -/
abbrev vS (l : List Nat) : V := .str (tx l)
theorem vS_eq {l m : List Nat} : decide (vS l = vS m) = decide (l = m) := tx_eq
theorem readsAll_vS {h : Heap} : ∀ {ws : List (List Nat)} {us : List Value}, Vals (ws.map vS) us → ReadsAll h us (ws.map fun l => PyData.str (tx l)) []
  | [], us, r => by rw [List.map_nil] at r; cases r; exact .nil
  | l :: ws, us, r => by
    rw [List.map_cons] at r
    cases r with
    | cons r1 r2 =>
      obtain ⟨t, rfl⟩ := r1
      exact .cons (as := []) (Reads.str _ _) (readsAll_vS r2)
theorem eachIs_vS {h : Heap} : ∀ {ws : List (List Nat)} {us : List Value}, Vals (ws.map vS) us → PySem.W.EachIs (fun v (l : List Nat) => ∃ as, Reads h v (.str (tx l)) as) us ws
  | [], us, r => by rw [List.map_nil] at r; cases r; exact .nil
  | l :: ws, us, r => by
    rw [List.map_cons] at r
    cases r with
    | cons r1 r2 =>
      obtain ⟨t, rfl⟩ := r1
      exact .cons ⟨[], Reads.str _ _⟩ (eachIs_vS r2)
theorem eachIs_rel : ∀ {ws : List (List Nat)} {us : List Value}, Vals (ws.map vS) us → PySem.W.EachIs (fun v (l : List Nat) => RelV (vS l) v) us ws
  | [], us, r => by rw [List.map_nil] at r; cases r; exact .nil
  | l :: ws, us, r => by
    rw [List.map_cons] at r
    cases r with
    | cons r1 r2 => exact .cons r1 (eachIs_rel r2)
theorem vals_each : ∀ {ws : List (List Nat)} {us : List Value}, PySem.W.EachIs (fun v (l : List Nat) => RelV (vS l) v) us ws → Vals (ws.map vS) us
  | [], us, e => by cases e; exact .nil
  | l :: ws, us, e => by
    cases e with
    | cons r1 r2 => exact .cons r1 (vals_each r2)
/-- the least of some words -/
def leastW (w : List Nat) (r : List (List Nat)) : List Nat := r.foldl (fun m y => if y < m then y else m) w
theorem minD_texts : ∀ (r : List (List Nat)) (w : List Nat), PySem.W.minD (.str (tx w)) (r.map fun l => PyData.str (tx l)) = .str (tx (leastW w r))
  | [], _ => rfl
  | y :: r, w => by
    have e : PySem.W.minD (.str (tx w)) ((y :: r).map fun l => PyData.str (tx l)) = PySem.W.minD (if PySem.W.dataLt (.str (tx y)) (.str (tx w)) then .str (tx y) else .str (tx w)) (r.map fun l => PyData.str (tx l)) := rfl
    rw [e, PySem.W.dataLt_str, tx_cps, tx_cps]
    show _ = PyData.str (tx (leastW (if y < w then y else w) r))
    rw [← minD_texts r]
    by_cases c : y < w
    · rw [if_pos c, if_pos (decide_eq_true c)]
    · rw [if_neg c, if_neg (by rw [decide_eq_false c]; exact Bool.false_ne_true)]
def rMinW (K : PySem.W.Frag) : List V → Hp → VK → Prop := fun xs H Q => ∃ a w r, xs = [.ref a] ∧ SqL K H a ((w :: r).map vS) ∧ Q (vS (leastW w r)) H
def rSortW (K : PySem.W.Frag) : List V → Hp → VK → Prop := fun xs H Q => ∃ (a : Addr) (ws : List (List Nat)), xs = [V.ref a] ∧ SqL K H a (ws.map vS) ∧
  ∀ (ys : List (List Nat)) (p : Addr), ys.Perm ws → ys.Pairwise (· ≤ ·) → H p = none → Q (.ref p) (upd H p (.lst (ys.map vS)))
def topC (c : Nat) (r : List Nat) : Nat := r.foldl max c
def rMaxS : List V → Hp → VK → Prop := fun xs H Q => ∃ c r, xs = [vS (c :: r)] ∧ Q (vS [topC c r]) H
section
variable {X : Cx}
theorem call_minW (hc : X.calm = true) (hu : X.A.units + 64 < cLine) : CallR X (.builtin "min") (rMinW X.K) := by
  intro pins s σ H vs us Q I r h
  obtain ⟨a, w, ws, rfl, hs, q⟩ := h
  obtain ⟨its, rv, hl, hz⟩ := I.list hs
  rw [Vals.ref1 r]
  have ra : ReadsAll s.heap its.toArray.toList (PyData.str (tx w) :: ws.map fun l => PyData.str (tx l)) [] := by
    have := readsAll_vS (h := s.heap) rv
    simpa using this
  have dep : ∀ l : List (List Nat), PyData.depthAll (l.map fun l => PyData.str (tx l)) = 0 := fun l => by
    induction l with
    | nil => rfl
    | cons y l ih => simp [PyData.depthAll, PyData.depth, ih]
  refine PySem.W.min_list_data (I.ok.hd hc) hl.isList ra ⟨fun x hx y hy => ?_, fun x hx => ?_⟩ ?_ fun i v h' tk bs _ rd k => ?_
  · have e : ∀ x ∈ PyData.str (tx w) :: ws.map (fun l => PyData.str (tx l)), ∃ l, x = PyData.str l := fun x hx => by
      rcases List.mem_cons.mp hx with e | hx
      · exact ⟨_, e⟩
      · obtain ⟨l, _, e⟩ := List.mem_map.mp hx
        exact ⟨_, e.symm⟩
    obtain ⟨l, rfl⟩ := e x hx
    obtain ⟨m, rfl⟩ := e y hy
    rfl
  · rcases List.mem_cons.mp hx with e | hx
    · rw [e]; exact fun z => nomatch z
    · obtain ⟨l, _, e⟩ := List.mem_map.mp hx
      rw [← e]; exact fun z => nomatch z
  · have := dep (w :: ws)
    rw [List.map_cons] at this
    rw [this]
    omega
  · rw [minD_texts] at rd
    cases rd
    exact ⟨vS (leastW w ws), H, I.kept (t' := tk) k, ⟨_, rfl⟩, q⟩
theorem call_sortW (hu : X.A.units + 64 < cLine) : CallR X (.builtin "sorted") (rSortW X.K) := by
  intro pins s σ H vs us Q I r h
  obtain ⟨a, ws, rfl, hs, q⟩ := h
  obtain ⟨its, rv, hl, hz⟩ := I.list hs
  rw [Vals.ref1 r]
  have hlen : its.length = ws.length := by have := rv.length; rw [List.length_map] at this; exact this.symm
  rw [List.length_map] at hz
  refine PySem.W.sorted_data (enc := fun l : List Nat => PyData.str (tx l)) (R := fun v (l : List Nat) => RelV (vS l) v) hl.isList (eachIs_rel rv) (eachIs_vS rv) (fun d hd e he => ?_) (PySem.W.Sortable.others fun b => ⟨(fun z => nomatch z), (fun xs z => nomatch z)⟩) hz (fun b _ => ?_) fun out hl2 eo => ?_
  · obtain ⟨l, _, rfl⟩ := List.mem_map.mp hd
    obtain ⟨m, _, rfl⟩ := List.mem_map.mp he
    rfl
  · show X.A.units + 2 + 0 < _
    omega
  · rw [PySem.W.dataLe_str] at eo
    simp only [tx_cps] at eo
    obtain ⟨ep, he'⟩ := PyProof.Rows.sortedAll_at s.heap its out.toArray
    have hp := List.mergeSort_perm ws (fun a b => decide (a ≤ b))
    have ho : (ws.mergeSort fun a b => decide (a ≤ b)).Pairwise (· ≤ ·) := by
      have := List.pairwise_mergeSort (le := fun a b : List Nat => decide (a ≤ b)) (fun a b c h1 h2 => decide_eq_true (List.le_trans (of_decide_eq_true h1) (of_decide_eq_true h2)))
        (fun a b => by
          rcases List.le_total a b with h | h
          · rw [decide_eq_true h]; rfl
          · rw [decide_eq_true h, Bool.or_true]) ws
      exact this.imp fun h => of_decide_eq_true h
    refine ⟨.ref _, upd H (s.heap.objs.size + 1) (.lst (_root_.List.map vS (ws.mergeSort fun a b => decide (a ≤ b)))), I.laid (t' := s.toks) (fun _ _ => PyProof.Rows.sortedAll_old) (Nat.le_succ _) ⟨?_, out, ep, vals_each eo, he'⟩, rfl, q _ _ hp ho (I.hok.fresh (Nat.le_succ _))⟩
    rw [List.length_map, hp.length_eq]
    exact hz
/-! max of a text: the greatest of its signs -/
theorem argBest_top (c : Nat) (r : List Nat) : ∀ k, k ≤ r.length → argBest (fun i j => decide ((c :: r).getD j 0 < (c :: r).getD i 0)) k ≤ k ∧ (c :: r).getD (argBest (fun i j => decide ((c :: r).getD j 0 < (c :: r).getD i 0)) k) 0 = topC c (r.take k)
  | 0, _ => ⟨Nat.le_refl _, rfl⟩
  | k + 1, hk => by
    obtain ⟨h1, h2⟩ := argBest_top c r k (by omega)
    have e : argBest (fun i j => decide ((c :: r).getD j 0 < (c :: r).getD i 0)) (k + 1) = if decide ((c :: r).getD (argBest (fun i j => decide ((c :: r).getD j 0 < (c :: r).getD i 0)) k) 0 < (c :: r).getD (k + 1) 0) = true then k + 1 else argBest (fun i j => decide ((c :: r).getD j 0 < (c :: r).getD i 0)) k := rfl
    have g : (c :: r).getD (k + 1) 0 = r[k] := by
      have hk' : k < r.length := hk
      simp [List.getD, List.getElem?_eq_getElem hk']
    have t : topC c (r.take (k + 1)) = max (topC c (r.take k)) r[k] := by
      unfold topC
      rw [List.take_succ_eq_append_getElem hk, List.foldl_append]
      rfl
    rw [e, t]
    by_cases q : topC c (r.take k) < r[k]
    · rw [h2, g, decide_eq_true q, if_pos rfl, g]
      exact ⟨Nat.le_refl _, by omega⟩
    · rw [h2, g, decide_eq_false q, if_neg Bool.false_ne_true, h2]
      exact ⟨by omega, by omega⟩
theorem call_maxS (hc : X.calm = true) : CallR X (.builtin "max") rMaxS := by
  intro pins s σ H vs us Q I r h
  obtain ⟨c, ws, rfl, q⟩ := h
  obtain ⟨u, rfl, t, rfl⟩ := vals1 r
  have hsz : (tx (c :: ws)).cps.size = ws.length + 1 := by simp
  refine call_max_walk (wpAny_pyIter_str fun o St W st => ?_)
  refine ⟨_, _, _, _, _, _, (fun i j => decide ((c :: ws).getD j 0 < (c :: ws).getD i 0)), rfl, W X.A.in1 (I.ok.hd hc), st, fun b hb => ?_, by omega, fun i j vi vj s' Q' E' hi hj hq => ?_, fun v h' tk hP k => ?_⟩
  · have e : b = s.heap.objs.size := by simpa using hb
    rw [e, Heap.size_push]
    exact Nat.lt_succ_self _
  · obtain ⟨ci, ti, gi, rfl⟩ := hi
    obtain ⟨cj, tj, gj, rfl⟩ := hj
    have ei : (c :: ws).getD i 0 = ci := by
      have : (c :: ws)[i]? = some ci := by simpa using gi
      rw [List.getD_eq_getElem?_getD, this]; rfl
    have ej : (c :: ws).getD j 0 = cj := by
      have : (c :: ws)[j]? = some cj := by simpa using gj
      rw [List.getD_eq_getElem?_getD, this]; rfl
    have hq : Q' (.bool (decide ((c :: ws).getD j 0 < (c :: ws).getD i 0))) s' := hq
    rw [ei, ej] at hq
    have e2 : decide (([cj] : List Nat) < [ci]) = decide (cj < ci) := by
      refine decide_eq_decide.mpr ⟨fun w => ?_, fun z => List.Lex.rel z⟩
      cases w with
      | rel w => exact w
      | cons w => cases w
    refine PySem.P.gt_str ?_
    show Q' (.bool (decide (([cj] : List Nat) < [ci]))) s'
    rw [e2]
    exact hq
  · obtain ⟨cb, tb, gb, rfl⟩ := hP
    rw [hsz] at gb
    obtain ⟨_, e2⟩ := argBest_top c ws ws.length (Nat.le_refl _)
    rw [List.take_length] at e2
    have e3 : cb = topC c ws := by
      rw [← e2]
      have : (c :: ws)[argBest (fun i j => decide ((c :: ws).getD j 0 < (c :: ws).getD i 0)) ws.length]? = some cb := by simpa using gb
      rw [List.getD_eq_getElem?_getD, this]; rfl
    subst e3
    refine ⟨vS [topC c ws], H, I.kept (t' := tk) fun b o e => k b o (fun hb => ?_) (Heap.get?_push_of_some _ e), ⟨_, rfl⟩, q⟩
    have e4 : b = s.heap.objs.size := by simpa using hb
    rw [e4] at e
    exact absurd (Heap.lt_size e) (Nat.lt_irrefl _)
end
end Bd

namespace Bd
open PySem PySem.Spec PyProof.Rows L2
/-! ### the head's facts with one more Bool -/
def hookB (n : Nat) (fa : List He.Fa) (fn : List He.DefD) (bx : PySem.W.Frag → Bool) : PySem.W.Hook where
  α := He.AlD × Bool
  obs := fun s => (He.obsDG n fa fn s.heap.get?, bx (He.frG s.heap.get? (He.asD s.heap.get? n)))
  val := fun _ => (He.valD fn, true)
  says := fun _ h => ∃ K : PySem.W.Frag, K.In h ∧ He.SaysD fa fn K ∧ bx K = true
  of := fun _ _ e => ⟨_, He.frG_in, congrArg Prod.fst e, congrArg Prod.snd e⟩
  keeps := fun _ _ _ ⟨K, hK, c, d⟩ k => ⟨K, PySem.W.Frag.In.keeps hK k, c, d⟩
def obB (n : Nat) (fa : List He.Fa) (fn : List He.DefD) (bx : PySem.W.Frag → Bool) (s : PySem.W.SharedT) : He.AlD × Bool :=
  (He.obsDG n fa fn (HandSHeadRun.getT s), bx (He.frG (HandSHeadRun.getT s) (He.asD (HandSHeadRun.getT s) n)))
theorem obB_eq (n : Nat) (fa : List He.Fa) (fn : List He.DefD) (bx : PySem.W.Frag → Bool) (s : PySem.W.SharedT) : obB n fa fn bx s = (hookB n fa fn bx).obs s.abs := by
  have e : HandSHeadRun.getT s = s.abs.heap.get? := funext (HandSHeadRun.getT_eq s)
  show (He.obsDG n fa fn (HandSHeadRun.getT s), bx (He.frG (HandSHeadRun.getT s) (He.asD (HandSHeadRun.getT s) n))) = _
  rw [e] <;> rfl
/-- the five classes of a refusal, asked by isinstance -/
def five : List Str := ["BadNumber", "BadRing", "BadWord", "NoRing", "TooMany"]
def excB (K : PySem.W.Frag) (D : Addr) : Bool :=
  decide (PySem.W.findIn K (.ref D) "__getattribute__" = some (some (.builtin "BaseException.__getattribute__"))) && (decide (PySem.W.findIn K (.ref D) "__getattr__" = some none) &&
  (decide (PySem.W.subIn K (.ref D) (.type "BaseException") = some true) && (PySem.W.hasDictIn K D && (decide (PySem.W.findIn K (.ref D) "__class__" = some (some (.builtin "object.__class__"))) &&
  (decide (PySem.W.specialIn K (.builtin "object.__class__") "__get__" = some (some (.builtin "getset_descriptor.__get__"))) && (decide (PySem.W.takesIn K (.builtin "object.__class__") = some true) && decide (PySem.W.mroIn K D (.type "object") = some true)))))))
theorem excB_ok {K : PySem.W.Frag} {D : Addr} (h : excB K D = true) : ExcC K D := by
  unfold excB at h
  simp only [Bool.and_eq_true, decide_eq_true_eq] at h
  obtain ⟨h1, h2, h3, h4, h5, h6, h7, h8⟩ := h
  exact ⟨h1, h2, h3, h4, h5, h6, h7, h8⟩
def isB (K : PySem.W.Frag) (x : Str) : Bool := excB K (He.ga K x) && (decide (PySem.W.kitOne K (.ref (He.ga K x)) (.type "ValueError") = some true) && five.all fun y => decide (PySem.W.kitOne K (.ref (He.ga K x)) (.ref (He.ga K y)) = some (decide (x = y))))
/-- what isinstance tells of a refusal of the class x -/
structure IsC (K : PySem.W.Frag) (x : Str) : Prop where
  ex : ExcC K (He.ga K x)
  ve : PySem.W.kitOne K (.ref (He.ga K x)) (.type "ValueError") = some true
  own : ∀ y ∈ five, PySem.W.kitOne K (.ref (He.ga K x)) (.ref (He.ga K y)) = some (decide (x = y))
theorem isB_ok {K : PySem.W.Frag} {x : Str} (h : isB K x = true) : IsC K x := by
  unfold isB at h
  simp only [Bool.and_eq_true, decide_eq_true_eq, List.all_eq_true] at h
  exact ⟨excB_ok h.1, h.2.1, fun y hy => h.2.2 y hy⟩
def bxAll (K : PySem.W.Frag) : Bool := five.all fun x => isB K x
def bxNo (_ : PySem.W.Frag) : Bool := true
end Bd

namespace Bd
open PySem PySem.Spec PyProof.Rows L2 Evl
/-! ### the built-in names that the text leaves as they are -/
structure Blt (mg : Str → Option Value) : Prop where
  len : mg "len" = none
  range : mg "range" = none
  isinstance : mg "isinstance" = none
  str : mg "str" = none
  int : mg "int" = none
  bool : mg "bool" = none
  list : mg "list" = none
  all : mg "all" = none
  min : mg "min" = none
  max : mg "max" = none
  sorted : mg "sorted" = none
  repr : mg "repr" = none
  enumerate : mg "enumerate" = none
  zip : mg "zip" = none
  sum : mg "sum" = none
  set : mg "set" = none
  reversed : mg "reversed" = none
  ValueError : mg "ValueError" = none
def bltNames : List Str := ["len", "range", "isinstance", "str", "int", "bool", "list", "all", "min", "max", "sorted", "repr", "enumerate", "zip", "sum", "set", "reversed", "ValueError"]
/-- a class of a refusal -/
structure Err (K : PySem.W.Frag) (mg : Str → Option Value) (x : Str) : Prop where
  g : mg x = some (.ref (He.ga K x))
  ex : PySem.W.excIn K (He.ga K x) He.veBase "ValueError.__new__" = true
  kp : PySem.W.keepIn K (.ref (He.ga K x)) = true
  sb : PySem.W.subIn K (.ref (He.ga K x)) (.type "BaseException") = some true
  ty : PySem.W.typeIn K (.ref (He.ga K x)) = some (.type "type")
  em : PySem.W.exmOne K (.ref (He.ga K x)) (.ref (He.ga K "BeadError")) = some true
/-! ### things of a known kind -/
inductive Thing (H : Hp) : V → Prop where
  | non : Thing H .non
  | bl (b : Bool) : Thing H (.bl b)
  | int (i : Int) : Thing H (.int i)
  | txt (l : List Nat) (h : l.length ≤ 1000) : Thing H (vS l)
  | lst {a : Addr} {xs : List V} (e : H a = some (.lst xs)) : Thing H (.ref a)
  | tup {a : Addr} {xs : List V} (e : H a = some (.tup xs)) : Thing H (.ref a)
  | dct {a : Addr} {kvs : List (Key × V)} (e : H a = some (.dK kvs)) : Thing H (.ref a)
theorem Thing.mono {H H' : Hp} {v : V} (t : Thing H v) (e : Ex H H') : Thing H' v := by
  cases t with
  | non => exact .non
  | bl b => exact .bl b
  | int i => exact .int i
  | txt l h => exact .txt l h
  | lst q => exact .lst (e _ _ q)
  | tup q => exact .tup (e _ _ q)
  | dct q => exact .dct (e _ _ q)
def isStr : V → Bool
  | .str _ => true
  | _ => false
def isInt : V → Bool
  | .int _ => true
  | .bl _ => true
  | _ => false
def isBl : V → Bool
  | .bl _ => true
  | _ => false
section
variable {K : PySem.W.Frag} {H : Hp} {v : V} {Q : VK}
theorem isi_str (t : Thing H v) (q : Q (.bl (isStr v)) H) : rIsi K [v, .ty "str"] H Q := by
  cases t with
  | non => exact ⟨_, _, _, _, _, rfl, .ty _, .base .non, kit_ty (r := false) (b := "str") (by decide +kernel), q⟩
  | bl b => exact ⟨_, _, _, _, _, rfl, .ty _, .base (.bl _), kit_ty (r := false) (b := "str") (by decide +kernel), q⟩
  | int i => exact ⟨_, _, _, _, _, rfl, .ty _, .base (.int _), kit_ty (r := false) (b := "str") (by decide +kernel), q⟩
  | txt l h => exact ⟨_, _, _, _, _, rfl, .ty _, .base (.str _), kit_ty (r := true) (b := "str") (by decide +kernel), q⟩
  | lst e => exact ⟨_, _, _, _, _, rfl, .ty _, .base (.lst e), kit_ty (r := false) (b := "str") (by decide +kernel), q⟩
  | tup e => exact ⟨_, _, _, _, _, rfl, .ty _, .base (.tup e), kit_ty (r := false) (b := "str") (by decide +kernel), q⟩
  | dct e => exact ⟨_, _, _, _, _, rfl, .ty _, .base (.dK e), kit_ty (r := false) (b := "str") (by decide +kernel), q⟩
theorem isi_int (t : Thing H v) (q : Q (.bl (isInt v)) H) : rIsi K [v, .ty "int"] H Q := by
  cases t with
  | non => exact ⟨_, _, _, _, _, rfl, .ty _, .base .non, kit_ty (r := false) (b := "int") (by decide +kernel), q⟩
  | bl b => exact ⟨_, _, _, _, _, rfl, .ty _, .base (.bl _), kit_ty (r := true) (b := "int") (by decide +kernel), q⟩
  | int i => exact ⟨_, _, _, _, _, rfl, .ty _, .base (.int _), kit_ty (r := true) (b := "int") (by decide +kernel), q⟩
  | txt l h => exact ⟨_, _, _, _, _, rfl, .ty _, .base (.str _), kit_ty (r := false) (b := "int") (by decide +kernel), q⟩
  | lst e => exact ⟨_, _, _, _, _, rfl, .ty _, .base (.lst e), kit_ty (r := false) (b := "int") (by decide +kernel), q⟩
  | tup e => exact ⟨_, _, _, _, _, rfl, .ty _, .base (.tup e), kit_ty (r := false) (b := "int") (by decide +kernel), q⟩
  | dct e => exact ⟨_, _, _, _, _, rfl, .ty _, .base (.dK e), kit_ty (r := false) (b := "int") (by decide +kernel), q⟩
theorem isi_bool (t : Thing H v) (q : Q (.bl (isBl v)) H) : rIsi K [v, .ty "bool"] H Q := by
  cases t with
  | non => exact ⟨_, _, _, _, _, rfl, .ty _, .base .non, kit_ty (r := false) (b := "bool") (by decide +kernel), q⟩
  | bl b => exact ⟨_, _, _, _, _, rfl, .ty _, .base (.bl _), kit_ty (r := true) (b := "bool") (by decide +kernel), q⟩
  | int i => exact ⟨_, _, _, _, _, rfl, .ty _, .base (.int _), kit_ty (r := false) (b := "bool") (by decide +kernel), q⟩
  | txt l h => exact ⟨_, _, _, _, _, rfl, .ty _, .base (.str _), kit_ty (r := false) (b := "bool") (by decide +kernel), q⟩
  | lst e => exact ⟨_, _, _, _, _, rfl, .ty _, .base (.lst e), kit_ty (r := false) (b := "bool") (by decide +kernel), q⟩
  | tup e => exact ⟨_, _, _, _, _, rfl, .ty _, .base (.tup e), kit_ty (r := false) (b := "bool") (by decide +kernel), q⟩
  | dct e => exact ⟨_, _, _, _, _, rfl, .ty _, .base (.dK e), kit_ty (r := false) (b := "bool") (by decide +kernel), q⟩
theorem isi_list {a : Addr} {xs : List V} (e : SqL K H a xs) (q : Q (.bl true) H) : rIsi K [.ref a, .ty "list"] H Q := by
  rcases e with (h | ⟨o, h⟩) | ⟨o, its, n, h1, h2, h3, h4, h5, h6⟩
  · exact ⟨_, _, _, _, _, rfl, .ty _, .base (.lst h), kit_ty (r := true) (b := "list") (by decide +kernel), q⟩
  · exact ⟨_, _, _, _, _, rfl, .ty _, .base (.frz h), kit_ty (r := true) (b := "list") (by decide +kernel), q⟩
  · exact ⟨_, _, _, _, _, rfl, .ty _, .kList h1 h2, kit_ty (r := true) (b := "list") (by decide +kernel), q⟩
end
/-! ### words -/
def letterB (c : Nat) : Bool := decide (97 ≤ c) && decide (c ≤ 104)
def wordB (l : List Nat) : Bool := decide (1 ≤ l.length) && decide (l.length ≤ 60) && l.all letterB
abbrev IsW (l : List Nat) : Prop := wordB l = true
def wordV : V → Bool
  | .str z => wordB z.cps.toList
  | _ => false
theorem wordV_vS (l : List Nat) : wordV (vS l) = wordB l := by simp [wordV]
theorem IsW.pos {l : List Nat} (h : IsW l) : 1 ≤ l.length := by
  simp only [IsW, wordB, Bool.and_eq_true, decide_eq_true_eq] at h
  exact h.1.1
theorem IsW.le {l : List Nat} (h : IsW l) : l.length ≤ 60 := by
  simp only [IsW, wordB, Bool.and_eq_true, decide_eq_true_eq] at h
  exact h.1.2
theorem IsW.let_ {l : List Nat} (h : IsW l) : ∀ c ∈ l, 97 ≤ c ∧ c ≤ 104 := fun c hc => by
  simp only [IsW, wordB, Bool.and_eq_true, decide_eq_true_eq, List.all_eq_true] at h
  have := h.2 c hc
  simp only [letterB, Bool.and_eq_true, decide_eq_true_eq] at this
  exact this
theorem IsW.mk {l : List Nat} (h1 : 1 ≤ l.length) (h2 : l.length ≤ 60) (h3 : ∀ c ∈ l, 97 ≤ c ∧ c ≤ 104) : IsW l := by
  simp only [IsW, wordB, Bool.and_eq_true, decide_eq_true_eq, List.all_eq_true, letterB]
  exact ⟨⟨h1, h2⟩, h3⟩
theorem letters_list : ("abcdefgh" : Str).cps.toList = [97, 98, 99, 100, 101, 102, 103, 104] := by decide
theorem letter_in (c : Nat) : decide (c ∈ ("abcdefgh" : Str).cps.toList) = letterB c := by
  rw [letters_list, letterB, ← Bool.decide_and]
  refine decide_eq_decide.mpr ⟨fun h => ?_, fun h => ?_⟩
  · simp only [List.mem_cons, List.not_mem_nil, or_false] at h
    omega
  · simp only [List.mem_cons, List.not_mem_nil, or_false]
    omega
theorem szl {n : Nat} (h : n ≤ 100000) : n ≤ sizeLine := by rw [sizeLine_eq]; omega
theorem szlt {n : Nat} (h : n < 100000) : n < sizeLine := by rw [sizeLine_eq]; omega
/-! ### slices of texts -/
theorem six_nat (n d i : Nat) : HT.sIx n d (some (i : Int)) = min i n := HT.sIx_nat n d i
theorem cut_to (l : List Nat) (i : Nat) : cutS (tx l) none (some (i : Int)) = tx (l.take i) := by
  unfold cutS
  rw [six_nat, HT.sIx_none, tx_cps, tx_len]
  simp [List.take_eq_take_iff]
theorem cut_from (l : List Nat) (i : Nat) : cutS (tx l) (some (i : Int)) none = tx (l.drop i) := by
  unfold cutS
  rw [six_nat, HT.sIx_none, tx_cps, tx_len]
  refine congrArg (fun z : List Nat => tx z) ?_
  by_cases h : i ≤ l.length
  · rw [Nat.min_eq_left h, List.take_of_length_le (by rw [List.length_drop]; exact Nat.le_refl _)]
  · rw [Nat.min_eq_right (by omega), List.drop_eq_nil_of_le (by omega), List.drop_eq_nil_of_le (by omega)]
    simp
theorem cut_mid (l : List Nat) (i j : Nat) : cutS (tx l) (some (i : Int)) (some (j : Int)) = tx ((l.drop i).take (j - i)) := by
  unfold cutS
  rw [six_nat, six_nat, tx_cps, tx_len]
  refine congrArg (fun z : List Nat => tx z) ?_
  by_cases h : i ≤ l.length
  · rw [Nat.min_eq_left h]
    by_cases h2 : j ≤ l.length
    · rw [Nat.min_eq_left h2]
    · rw [Nat.min_eq_right (show l.length ≤ j by omega), List.take_of_length_le (by rw [List.length_drop]; exact Nat.le_refl _), List.take_of_length_le (by rw [List.length_drop]; omega)]
  · rw [Nat.min_eq_right (show l.length ≤ i by omega), List.drop_eq_nil_of_le (Nat.le_refl _), List.drop_eq_nil_of_le (by omega)]
    simp
/-- a text turned -/
def turn (l : List Nat) (i : Nat) : List Nat := l.drop i ++ l.take i
theorem turn_len (l : List Nat) (i : Nat) : (turn l i).length = l.length := by
  unfold turn
  rw [List.length_append, List.length_drop, List.length_take]
  omega
theorem turn_mem {l : List Nat} {i c : Nat} (h : c ∈ turn l i) : c ∈ l := by
  unfold turn at h
  rcases List.mem_append.mp h with h | h
  · exact List.mem_of_mem_drop h
  · exact List.mem_of_mem_take h
theorem IsW.turn {l : List Nat} (h : IsW l) (i : Nat) : IsW (turn l i) :=
  IsW.mk (by rw [turn_len]; exact h.pos) (by rw [turn_len]; exact h.le) fun c hc => h.let_ c (turn_mem hc)
/-! ### comprehensions over texts -/
section
variable {K : PySem.W.Frag} {σ : L2.St} {H : Hp} {te tx' : TE} {t : TT}
theorem ev_callS {sp : Sp} {vs : List V} {E : L2.St → XK} {ta : TA} {z : V} (h : EvA ta σ H vs) (hs : ∀ H1, Ex H H1 → ∀ Q : VK, (∀ H2, Ex H1 H2 → Q z H2) → ∀ E : XK, sp vs H1 Q E) : Ev (tCallS sp E ta) σ H z := fun H1 e Q q =>
  h H1 e _ fun H2 e2 => hs H2 (e.trans e2) Q (fun H3 e3 => q H3 (e2.trans e3)) _
theorem el_lcS {j : Nat} {vs : List Nat} {l : List Nat} (f : Nat → Bool) (v : Nat → V) (h : Ev tx' σ H (vS l)) (hz : l.length ≤ 40000) (hw : ∀ x, wipe ((wipe σ vs).set j (some x)) vs = wipe σ vs)
    (ht : ∀ (i : Nat) (c : Nat) H1, Ex H H1 → l[i]? = some c → EvT t ((wipe σ vs).set j (some (vS [c]))) H1 (f i)) (he : ∀ (i : Nat) (c : Nat) H1, Ex H H1 → l[i]? = some c → f i = true → Ev te ((wipe σ vs).set j (some (vS [c]))) H1 (v i)) :
    EvL (tLc (iStr tx') (gName j) t te vs) σ H (given l.length f v) := fun H0 e Q q => h H0 e _ fun H1 e1 => ⟨tx l, rfl, fun D hD => by
  refine ⟨fun i m H' => m = l.length - i ∧ i ≤ l.length ∧ Cw H1 f v D i H', ⟨l.length, by simp, Nat.zero_le _, hD, Ex.new hD, upd_same⟩, ?_⟩
  rintro i m H' ⟨rfl, hi, p⟩
  by_cases hlt : i < l.length
  · refine .inr ⟨?_, fun H2 => Cw H1 f v D (i + 1) H2, fun H2 p2 => ⟨l.length - (i + 1), by omega, rfl, hlt, p2⟩, fun x H2 y => ?_⟩
    · show i < (tx l).length
      rw [tx_len]
      exact hlt
    · obtain ⟨rfl, c, hc, rfl⟩ := y
      have hc' : l[i]? = some c := by simpa using hc
      exact ⟨hw _, cw_turn p (by omega) (ht i c H1 (e.trans e1) hc') fun hf => he i c H1 (e.trans e1) hc' hf⟩
  · have : i = l.length := by omega
    subst this
    exact .inl ⟨by show (tx l).length ≤ l.length; rw [tx_len]; exact Nat.le_refl _, q D H' (fresh_back e1 p.1) (e1.trans p.2.1) p.2.2⟩⟩
end
/-- the law, called with the script: True -/
def sp_law (K : PySem.W.Frag) : Sp := fun vs H Q _ => ∃ (a : Addr) (ns : List Int), vs = [.ref a] ∧ SqL K H a (ns.map V.int) ∧ ns.length ≤ 63 ∧ ∀ H', Q (.bl true) H'
end Bd

namespace Bd
open PySem PySem.Spec PyProof.Rows L2 Evl
/-- int of a bool -/
theorem call_intB {X : Cx} : CallR X (.type "int") (fun xs H Q => ∃ k, xs = [.bl k] ∧ Q (.int (if k then 1 else 0)) H) := fun pins s σ H xs us Q I r h => by
  obtain ⟨k, e, q⟩ := h
  exact call_int1 pins s σ H xs us Q I r (.inr ⟨k, e, q⟩)
/-! ### new lists on the way -/
theorem el_cat {σ : L2.St} {H : Hp} {t1 t2 : TE} {xs ys : List V} (h1 : EvL t1 σ H xs) (h2 : EvL t2 σ H ys) (hz : xs.length + ys.length ≤ 100000) : EvL (tOp rCat t1 t2) σ H (xs ++ ys) := fun H1 e Q q =>
  h1 H1 e _ fun p H2 hp e2 hx => h2 H2 (e.trans e2) _ fun p' H3 hp' e3 hy => ⟨p, p', xs, ys, rfl, rfl, e3 p _ hx, hy, szl hz, fun r hr => q r _ (fresh_back (e2.trans e3) hr) ((e2.trans e3).trans (Ex.new hr)) upd_same⟩
theorem el_catV {σ : L2.St} {H : Hp} {i : Nat} {a : Addr} {t2 : TE} {xs ys : List V} (hv : σ[i]? = some (some (.ref a))) (hx : H a = some (.lst xs)) (h2 : EvL t2 σ H ys) (hz : xs.length + ys.length ≤ 100000) : EvL (tOp rCat (tVar i) t2) σ H (xs ++ ys) := fun H1 e Q q =>
  ⟨_, hv, h2 H1 e _ fun p' H3 hp' e3 hy => ⟨a, p', xs, ys, rfl, rfl, e3 a _ (e a _ hx), hy, szl hz, fun r hr => q r _ (fresh_back e3 hr) (e3.trans (Ex.new hr)) upd_same⟩⟩
/-- [..] * int(..) -/
theorem el_rep {σ : L2.St} {H : Hp} {t1 t2 : TE} {xs : List V} {b : Bool} (h1 : EvL t1 σ H xs) (h2 : Ev t2 σ H (.bl b)) (hz : xs.length ≤ 100000) :
    EvL (tOp rRep t1 (tCB (fun vs H Q => ∃ k, vs = [V.bl k] ∧ Q (.int (if k then 1 else 0)) H) (tCons t2 tNil))) σ H (if b then xs else []) := fun H1 e Q q =>
  h1 H1 e _ fun p H2 hp e2 hx => h2 H2 (e.trans e2) _ fun H3 e3 => ⟨b, rfl, p, _, xs, rfl, rfl, e3 p _ hx, by cases b <;> decide, by cases b <;> decide, szl (by cases b <;> simp <;> omega), fun r hr => by
    have e4 : (List.replicate ((if b = true then (1 : Int) else 0)).toNat xs).flatten = if b then xs else [] := by cases b <;> simp
    rw [e4]
    exact q r _ (fresh_back (e2.trans e3) hr) ((e2.trans e3).trans (Ex.new hr)) upd_same⟩
theorem ev_yes {σ : L2.St} {H : Hp} : EvT tYes σ H true := fun H1 _ _ q => q H1 (Ex.refl _)
/-! ### loops, by an invariant over turn, slots and heap -/
section
variable {K : PySem.W.Frag} {σ : L2.St} {H : Hp} {g : TG} {tb : TS} {D : Ends}
theorem for_L {tl : TE} {a : Addr} {xs : List V} (src : ∀ R : VK, R (.ref a) H → tl σ H R) (hx : SqL K H a xs) (Pv : Nat → L2.St → Hp → Prop) (h0 : Pv 0 σ H) (hl : ∀ i σ' H', i ≤ xs.length → Pv i σ' H' → SqL K H' a xs)
    (hs : ∀ i x σ' H', xs[i]? = some x → Pv i σ' H' → g x σ' H' fun σ2 H2 => tb { D with nx := Pv (i + 1), ct := Pv (i + 1), bk := D.nx } σ2 H2) (hd : ∀ σ' H', Pv xs.length σ' H' → D.nx σ' H') : tFor (iList K tl) g tb D σ H :=
  src _ ⟨a, rfl, ⟨xs, hx⟩, for_list Pv h0 hl hs hd⟩
theorem for_T {tl : TE} {H1 : Hp} {a : Addr} {xs : List V} (src : ∀ R : VK, R (.ref a) H1 → tl σ H R) (hx : SqT K H1 a xs) (Pv : Nat → L2.St → Hp → Prop) (h0 : Pv 0 σ H1) (hl : ∀ i σ' H', i ≤ xs.length → Pv i σ' H' → SqT K H' a xs)
    (hs : ∀ i x σ' H', xs[i]? = some x → Pv i σ' H' → g x σ' H' fun σ2 H2 => tb { D with nx := Pv (i + 1), ct := Pv (i + 1), bk := D.nx } σ2 H2) (hd : ∀ σ' H', Pv xs.length σ' H' → D.nx σ' H') : tFor (iTup K tl) g tb D σ H :=
  src _ ⟨a, rfl, ⟨xs, hx⟩, for_tup Pv h0 hl hs hd⟩
/-- for x in range(n) -/
theorem for_R1 {ta : TA} {n : Nat} (src : ∀ R : List V → Hp → Prop, R [.int (n : Int)] H → ta σ H R) (hn : n ≤ 1000000) (Pv : Nat → L2.St → Hp → Prop) (h0 : Pv 0 σ H)
    (hs : ∀ (i : Nat) σ' H', i < n → Pv i σ' H' → g (.int (i : Int)) σ' H' fun σ2 H2 => tb { D with nx := Pv (i + 1), ct := Pv (i + 1), bk := D.nx } σ2 H2) (hd : ∀ σ' H', Pv n σ' H' → D.nx σ' H') : tFor (iRng1 ta) g tb D σ H :=
  src _ ⟨(n : Int), rfl, by omega, by omega, for_range (lo := 0) (n := ((n : Int)).toNat) Pv h0 (fun i σ' H' hi p => by
    rw [Int.zero_add]
    exact hs i σ' H' (by omega) p) (by rw [Int.toNat_natCast]; exact hd)⟩
/-- for x in range(a, b) -/
theorem for_R2 {ta : TA} {lo n : Nat} (src : ∀ R : List V → Hp → Prop, R [.int (lo : Int), .int ((lo + n : Nat) : Int)] H → ta σ H R) (hn : lo + n ≤ 1000000) (Pv : Nat → L2.St → Hp → Prop) (h0 : Pv 0 σ H)
    (hs : ∀ (i : Nat) σ' H', i < n → Pv i σ' H' → g (.int ((lo + i : Nat) : Int)) σ' H' fun σ2 H2 => tb { D with nx := Pv (i + 1), ct := Pv (i + 1), bk := D.nx } σ2 H2) (hd : ∀ σ' H', Pv n σ' H' → D.nx σ' H') : tFor (iRng2 ta) g tb D σ H :=
  src _ ⟨(lo : Int), ((lo + n : Nat) : Int), rfl, ⟨by omega, by omega, by omega, by omega⟩, for_range (lo := (lo : Int)) (n := (((lo + n : Nat) : Int) - (lo : Int)).toNat) Pv h0 (fun i σ' H' hi p => by
    have e : (lo : Int) + (i : Int) = ((lo + i : Nat) : Int) := by omega
    rw [e]
    exact hs i σ' H' (by omega) p) (by rw [show (((lo + n : Nat) : Int) - (lo : Int)).toNat = n by omega]; exact hd)⟩
/-- for i, x in enumerate(a list): the turns -/
theorem for_enum {a : Addr} {xs : List V} (Pv : Nat → L2.St → Hp → Prop) (h0 : Pv 0 σ H) (hl : ∀ i σ' H', i ≤ xs.length → Pv i σ' H' → SqL K H' a xs)
    (hs : ∀ i x σ' H' p, xs[i]? = some x → Pv i σ' H' → H' p = none → g (.ref p) σ' (upd H' p (.tup [.int (i : Int), x])) fun σ2 H2 => tb { D with nx := Pv (i + 1), ct := Pv (i + 1), bk := D.nx } σ2 H2) (hd : ∀ σ' H', Pv xs.length σ' H' → D.nx σ' H') :
    ∃ W : Nat → Nat → L2.St → Hp → Prop, (∃ m, W 0 m σ H) ∧ ∀ i m σ H, W i m σ H →
      ((Ite K a).stop i H ∧ D.nx σ H) ∨ ((Ite K a).go i H ∧ ∃ N : L2.St → Hp → Prop, (∀ σ' H', N σ' H' → ∃ m', m' < m ∧ W (i + 1) m' σ' H') ∧ ∀ x H', (Ite K a).yld i H x H' → g x σ H' fun σ2 H2 => tb { D with nx := N, ct := N, bk := D.nx } σ2 H2) := by
  refine ⟨fun i m σ' H' => m = xs.length - i ∧ i ≤ xs.length ∧ Pv i σ' H', ⟨xs.length, by simp, Nat.zero_le _, h0⟩, ?_⟩
  rintro i m σ' H' ⟨rfl, hi, p⟩
  have q := hl i σ' H' hi p
  by_cases hlt : i < xs.length
  · refine .inr ⟨?_, Pv (i + 1), fun σ2 H2 p' => ⟨xs.length - (i + 1), by omega, rfl, hlt, p'⟩, fun x H2 y => ?_⟩
    · exact ⟨xs, xs[i], q, by simp [hlt]⟩
    · obtain ⟨T, v, rfl, nT, e, f⟩ := y
      rw [e]
      exact hs i v σ' H' T (f xs q) p nT
  · have e : i = xs.length := by omega
    subst e
    exact .inl ⟨⟨xs, q, Nat.le_refl _⟩, hd σ' H' p⟩
/-- while, by a measure; the test is evaluated at each turn -/
theorem while_L {c : TT} (Pv : L2.St → Hp → Prop) (μ : L2.St → Hp → Nat) (h0 : Pv σ H)
    (hs : ∀ σ' H', Pv σ' H' → ∃ b, EvT c σ' H' b ∧ (b = true → ∀ H1, Ex H' H1 → tb { D with nx := fun σ2 H2 => Pv σ2 H2 ∧ μ σ2 H2 < μ σ' H', ct := fun σ2 H2 => Pv σ2 H2 ∧ μ σ2 H2 < μ σ' H', bk := D.nx } σ' H1) ∧ (b = false → ∀ H1, Ex H' H1 → D.nx σ' H1)) : tWhile c tb D σ H := by
  refine ⟨fun m σ' H' => m = μ σ' H' ∧ Pv σ' H', ⟨_, rfl, h0⟩, ?_⟩
  rintro m σ' H' ⟨rfl, p⟩
  obtain ⟨b, hb, h1, h2⟩ := hs σ' H' p
  refine hb H' (Ex.refl _) _ fun H1 e => ?_
  cases b with
  | true => exact ⟨_, fun σ2 H2 w => ⟨_, w.2, rfl, w.1⟩, h1 rfl H1 e⟩
  | false => exact h2 rfl H1 e
end
end Bd

namespace Bd
open PySem PySem.Spec PyProof.Rows L2 Evl
/-! ### promises: the package's words, the law's draws -/
def badW (K : PySem.W.Frag) : Value := .ref (He.ga K "BadWord")
def badN (K : PySem.W.Frag) : Value := .ref (He.ga K "BadNumber")
def sp_is_word (_ : PySem.W.Frag) : Sp := fun vs H Q _ => ∃ v, vs = [v] ∧ Thing H v ∧ ∀ H', Ex H H' → Q (.bl (wordV v)) H'
def sp_need_word (K : PySem.W.Frag) : Sp := fun vs H Q E => ∃ v, vs = [v] ∧ Thing H v ∧ (wordV v = true → ∀ H', Ex H H' → Q .non H') ∧ (wordV v = false → ∀ H', Ex H H' → E (badW K) none H')
def turnsOf (l : List Nat) : List (List Nat) := (List.range l.length).map (turn l)
theorem turnsOf_len (l : List Nat) : (turnsOf l).length = l.length := by simp [turnsOf]
theorem Thing.word {H : Hp} {v : V} (t : Thing H v) (hw : wordV v = true) : ∃ l, v = vS l ∧ IsW l := by
  cases t with
  | txt l hl => exact ⟨l, rfl, by rw [wordV_vS] at hw; exact hw⟩
  | _ => cases hw
theorem Thing.ofW {H : Hp} {l : List Nat} (hw : IsW l) : Thing H (vS l) := .txt l (Nat.le_trans hw.le (by decide))
theorem letter_at {n : Int} (h0 : 0 ≤ n) (h8 : n < 8) : ∃ c, atI ("abcdefgh" : Str).cps.toList n = some c ∧ 97 ≤ c ∧ c ≤ 104 := by
  obtain ⟨j, rfl⟩ := Int.eq_ofNat_of_zero_le h0
  have hj : j < 8 := by omega
  refine ⟨97 + j, ?_, by omega, by omega⟩
  rw [letters_list]
  refine atI_nat ?_
  have : j = 0 ∨ j = 1 ∨ j = 2 ∨ j = 3 ∨ j = 4 ∨ j = 5 ∨ j = 6 ∨ j = 7 := by omega
  rcases this with rfl | rfl | rfl | rfl | rfl | rfl | rfl | rfl <;> rfl
theorem cut_last (l : List Nat) (h : 1 ≤ l.length) : cutS (tx l) none (some (-1)) = tx (l.take (l.length - 1)) := by
  have e : HT.sIx (tx l).length (tx l).length (some (-1)) = l.length - 1 := by
    rw [tx_len]
    unfold HT.sIx
    simp
    omega
  unfold cutS
  rw [e, HT.sIx_none, tx_cps]
  simp
theorem join_nil : ∀ ws : List (List Nat), Txt.join "" (ws.map tx) = tx ws.flatten := fun ws => by
  rw [show (Txt.join "" (ws.map tx)) = Str.join "" (ws.map tx) from TL.join_eq _ _]
  have e : ∀ ws : List (List Nat), Str.join "" (ws.map tx) = tx ws.flatten := by
    intro ws
    induction ws with
    | nil => rfl
    | cons w ws ih =>
      cases ws with
      | nil =>
        show tx w = tx ([w].flatten)
        simp
      | cons v r =>
        show tx w ++ "" ++ Str.join "" ((v :: r).map tx) = _
        rw [ih, show tx w ++ ("" : Str) = tx w from by rw [show ("" : Str) = tx [] from rfl, tx_add, List.append_nil], tx_add]
        rfl
  exact e ws
theorem flat_single (w : List Nat) : (w.map fun c => [c]).flatten = w := by
  induction w with
  | nil => rfl
  | cons c w ih => rw [List.map_cons, List.flatten_cons, ih]; rfl
theorem mem_rep {n c : Nat} {l : List Nat} (h : c ∈ repW n l) : c ∈ l := by
  unfold repW at h
  obtain ⟨z, hz, hc⟩ := List.mem_flatten.mp h
  rw [(List.mem_replicate.mp hz).2] at hc
  exact hc
theorem find_some {p : Nat → Bool} {n i : Nat} (hi : i < n) (hp : p i = true) (hl : ∀ j, j < i → p j = false) : (List.range n).find? p = some i :=
  List.find?_range_eq_some.mpr ⟨hp, List.mem_range.mpr hi, fun j hj => by rw [hl j hj]; rfl⟩
theorem find_none {p : Nat → Bool} {n : Nat} (hl : ∀ j, j < n → p j = false) : (List.range n).find? p = none :=
  List.find?_range_eq_none.mpr fun j hj => by rw [hl j hj]; rfl
theorem shows_W {l : List Nat} (h : IsW l) : shows (vS l) := by
  have h1 := StrLaws.reprText_len (tx l) (fun c hc => by
    rw [tx_cps] at hc
    have := h.let_ c hc
    have : (16 : Nat) ^ 8 = 4294967296 := by decide
    omega)
  have h2 := h.le
  have h3 : 10 * (tx l).length + 2 ≤ 100000 := by rw [tx_len]; omega
  exact szl (Nat.le_trans h1 h3)
theorem shows_small {n : Nat} (h : n ≤ 1000) : shows (.int (n : Int)) := by
  show (Int.natAbs (n : Int)).log2 < 1920
  rw [Int.natAbs_natCast]
  exact Nat.lt_of_le_of_lt (Nat.log2_le_self n) (by omega)
def sp_turnings (K : PySem.W.Frag) : Sp := fun vs H Q E => ∃ v, vs = [v] ∧ Thing H v ∧ (∀ l, v = vS l → IsW l → ∀ p H', H p = none → Ex H H' → H' p = some (.lst ((turnsOf l).map vS)) → Q (.ref p) H') ∧
  (wordV v = false → ∀ H', Ex H H' → E (badW K) none H')
def sp__law_mixed (_ : PySem.W.Frag) : Sp := fun vs H Q _ => ∃ c k : Int, vs = [.int c, .int k] ∧ (0 ≤ k ∧ k ≤ 100000) ∧ ∀ n : Int, 0 ≤ n → n < 536870912 → Q (.int n) H
def sp__law_number (K : PySem.W.Frag) : Sp := fun vs H Q _ => ∃ (a : Addr) (ns : List Int) (k : Int), vs = [.ref a, .int k] ∧ SqL K H a (ns.map V.int) ∧ (0 ≤ k ∧ k ≤ 100000) ∧ ∀ n : Int, 0 ≤ n → n < 536870912 → Q (.int n) H
def kindOf (x : Str) : Str := if x = "BadNumber" then "number" else if x = "BadRing" then "ring" else if x = "BadWord" then "word" else if x = "NoRing" then "none" else "many"
def sp__law_kind (K : PySem.W.Frag) : Sp := fun vs H Q _ => ∃ (a : Addr) (x : Str), vs = [.ref a] ∧ x ∈ five ∧ H a = some (ExK (.ref (He.ga K x)) a) ∧ ∀ H', Ex H H' → Q (.str (kindOf x)) H'
def sp__law_word (K : PySem.W.Frag) : Sp := fun vs H Q _ => ∃ (a : Addr) (ns : List Int) (k : Int), vs = [.ref a, .int k] ∧ SqL K H a (ns.map V.int) ∧ (0 ≤ k ∧ k ≤ 50000) ∧ ∀ l H', IsW l → Ex H H' → Q (vS l) H'
/-! k03 -/
/-- the first place from which on a word turned is the other -/
def byW (l m : List Nat) : Option Nat := (List.range l.length).find? fun i => decide (turn l i = m)
def optV : Option Nat → V
  | none => .non
  | some i => .int (i : Int)
/-- two things, of which each is a word, or not -/
def sp_turning_of (K : PySem.W.Frag) : Sp := fun vs H Q E => ∃ v u, vs = [v, u] ∧ Thing H v ∧ Thing H u ∧ (∀ l m, v = vS l → u = vS m → IsW l → IsW m → ∀ H', Ex H H' → Q (optV (byW l m)) H') ∧
  ((wordV v && wordV u) = false → ∀ H', Ex H H' → E (badW K) none H')
def sp_are_one (K : PySem.W.Frag) : Sp := fun vs H Q E => ∃ v u, vs = [v, u] ∧ Thing H v ∧ Thing H u ∧ (∀ l m, v = vS l → u = vS m → IsW l → IsW m → ∀ H', Ex H H' → Q (.bl (byW l m).isSome) H') ∧
  ((wordV v && wordV u) = false → ∀ H', Ex H H' → E (badW K) none H')
def sp__law_other (K : PySem.W.Frag) : Sp := fun vs H Q _ => ∃ (a : Addr) (ns : List Int) (k : Int) (l : List Nat), vs = [.ref a, .int k, vS l] ∧ SqL K H a (ns.map V.int) ∧ (0 ≤ k ∧ k ≤ 40000) ∧ IsW l ∧ ∀ m H', IsW m → Ex H H' → Q (vS m) H'
def sp__law_by (_ : PySem.W.Frag) : Sp := fun vs H Q _ => ∃ l m, vs = [vS l, vS m] ∧ IsW l ∧ IsW m ∧ ∀ H', Ex H H' → Q (optV (byW l m)) H'
def sp_k03_refused (_ : PySem.W.Frag) : Sp := fun vs H Q _ => ∃ (w : Int) (v u : V), vs = [.int w, v, u] ∧ Thing H v ∧ Thing H u ∧ (wordV v && wordV u) = false ∧ ∀ H', Ex H H' → Q (.bl true) H'
end Bd

namespace Bd
open PySem PySem.Spec PyProof.Rows L2 Evl
/-! ### turnings -/
theorem turn_zero (l : List Nat) : turn l 0 = l := by simp [turn]
theorem turn_full (l : List Nat) : turn l l.length = l := by simp [turn]
theorem turn_add {l : List Nat} {i j : Nat} (h : i + j ≤ l.length) : turn (turn l i) j = turn l (i + j) := by
  unfold turn
  have hd : (l.drop i).length = l.length - i := List.length_drop
  rw [List.drop_append_of_le_length (by omega), List.take_append_of_le_length (by omega), List.drop_drop, List.append_assoc]
  have : l.take (i + j) = l.take i ++ (l.drop i).take j := List.take_add
  rw [this]
theorem turn_over {l : List Nat} {i j : Nat} (hi : i ≤ l.length) (h : l.length ≤ i + j) (hj : j ≤ l.length) : turn (turn l i) j = turn l (i + j - l.length) := by
  have e : turn (turn l i) (l.length - i) = l := by
    rw [turn_add (by omega), show i + (l.length - i) = l.length by omega, turn_full]
  have e2 := turn_add (l := turn l i) (i := l.length - i) (j := i + j - l.length) (by rw [turn_len]; omega)
  rw [e] at e2
  rw [e2, show l.length - i + (i + j - l.length) = j by omega]
theorem turn_comm {l : List Nat} {i j : Nat} (hi : i ≤ l.length) (hj : j ≤ l.length) : turn (turn l i) j = turn (turn l j) i := by
  by_cases h : i + j ≤ l.length
  · rw [turn_add h, turn_add (by omega), Nat.add_comm]
  · rw [turn_over hi (by omega) hj, turn_over hj (by omega) hi, Nat.add_comm]
theorem turn_inj {l m : List Nat} {i : Nat} (hl : l.length = m.length) (hi : i ≤ l.length) (h : turn l i = turn m i) : l = m := by
  have a := turn_add (l := l) (i := i) (j := l.length - i) (by omega)
  have b := turn_add (l := m) (i := i) (j := l.length - i) (by omega)
  rw [show i + (l.length - i) = l.length by omega] at a b
  rw [turn_full] at a
  rw [hl, turn_full, ← hl] at b
  rw [← a, ← b, h]
theorem mem_turns {l y : List Nat} : y ∈ turnsOf l ↔ ∃ i, i < l.length ∧ turn l i = y := by
  unfold turnsOf
  rw [List.mem_map]
  exact ⟨fun ⟨i, hi, e⟩ => ⟨i, List.mem_range.mp hi, e⟩, fun ⟨i, hi, e⟩ => ⟨i, List.mem_range.mpr hi, e⟩⟩
theorem turns_turn {l : List Nat} {i : Nat} (hi : i < l.length) (y : List Nat) : y ∈ turnsOf (turn l i) ↔ y ∈ turnsOf l := by
  rw [mem_turns, mem_turns, turn_len]
  constructor
  · rintro ⟨j, hj, rfl⟩
    by_cases h : i + j < l.length
    · exact ⟨i + j, h, (turn_add (by omega)).symm⟩
    · exact ⟨i + j - l.length, by omega, (turn_over (by omega) (by omega) (by omega)).symm⟩
  · rintro ⟨j, hj, rfl⟩
    by_cases h : i ≤ j
    · exact ⟨j - i, by omega, by rw [turn_add (by omega), show i + (j - i) = j by omega]⟩
    · exact ⟨j + l.length - i, by omega, by rw [turn_over (by omega) (by omega) (by omega), show i + (j + l.length - i) - l.length = j by omega]⟩
/-! ### the least of some words -/
def IsMin (m : List Nat) (S : List (List Nat)) : Prop := m ∈ S ∧ ∀ y ∈ S, m ≤ y
theorem IsMin.uniq {m n : List Nat} {S T : List (List Nat)} (h : IsMin m S) (g : IsMin n T) (st : ∀ y, y ∈ S ↔ y ∈ T) : m = n :=
  List.le_antisymm (h.2 n ((st n).mpr g.1)) (g.2 m ((st m).mp h.1))
theorem leastW_min : ∀ (r : List (List Nat)) (w : List Nat), IsMin (leastW w r) (w :: r)
  | [], w => ⟨.head _, fun y hy => by rw [List.mem_singleton.mp hy]; exact List.le_refl _⟩
  | y :: r, w => by
    have e : leastW w (y :: r) = leastW (if y < w then y else w) r := rfl
    rw [e]
    obtain ⟨h1, h2⟩ := leastW_min r (if y < w then y else w)
    refine ⟨?_, fun z hz => ?_⟩
    · rcases List.mem_cons.mp h1 with h | h
      · rw [h]
        split
        · exact .tail _ (.head _)
        · exact .head _
      · exact .tail _ (.tail _ h)
    · have h3 := h2 _ (.head _)
      by_cases c : y < w
      · rw [if_pos c] at h3 h2 ⊢
        rcases List.mem_cons.mp hz with rfl | hz
        · exact List.le_trans h3 (List.le_of_lt c)
        · exact h2 z hz
      · rw [if_neg c] at h3 h2 ⊢
        rcases List.mem_cons.mp hz with rfl | hz
        · exact h3
        · rcases List.mem_cons.mp hz with rfl | hz
          · exact List.le_trans h3 (List.not_lt.mp c)
          · exact h2 z (.tail _ hz)
/-- the ring of a word -/
def ringW (l : List Nat) : List Nat := leastW l (turnsOf l)
theorem self_mem_turns {l : List Nat} (h : 1 ≤ l.length) : l ∈ turnsOf l := mem_turns.mpr ⟨0, h, turn_zero l⟩
theorem ringW_min {l : List Nat} (h : 1 ≤ l.length) : IsMin (ringW l) (turnsOf l) := by
  obtain ⟨h1, h2⟩ := leastW_min (turnsOf l) l
  refine ⟨?_, fun y hy => h2 y (.tail _ hy)⟩
  rcases List.mem_cons.mp h1 with e | e
  · rw [ringW, e]; exact self_mem_turns h
  · exact e
theorem ring_eq {l m : List Nat} {r : List (List Nat)} (h : 1 ≤ l.length) (e : turnsOf l = m :: r) : leastW m r = ringW l :=
  IsMin.uniq (leastW_min r m) (ringW_min h) fun y => by rw [← e]
theorem ring_turn {l : List Nat} {i : Nat} (hi : i < l.length) : ringW (turn l i) = ringW l :=
  IsMin.uniq (ringW_min (by rw [turn_len]; omega)) (ringW_min (by omega)) (turns_turn hi)
theorem ring_is_turn {l : List Nat} (h : 1 ≤ l.length) : ∃ i, i < l.length ∧ ringW l = turn l i := by
  obtain ⟨i, hi, e⟩ := mem_turns.mp (ringW_min h).1
  exact ⟨i, hi, e.symm⟩
theorem IsW.ring {l : List Nat} (h : IsW l) : IsW (ringW l) := by
  obtain ⟨i, _, e⟩ := ring_is_turn h.pos
  rw [e]
  exact h.turn i
theorem ring_ring {l : List Nat} (h : 1 ≤ l.length) : ringW (ringW l) = ringW l := by
  obtain ⟨i, hi, e⟩ := ring_is_turn h
  rw [e, ring_turn hi, e]
theorem ring_len {l : List Nat} (h : 1 ≤ l.length) : (ringW l).length = l.length := by
  obtain ⟨i, hi, e⟩ := ring_is_turn h
  rw [e, turn_len]
/-! ### the period -/
def perW (l : List Nat) : Nat := (((List.range' 1 l.length).find? fun i => decide (turn l i = l)).getD 0)
theorem per_turn {l : List Nat} {i : Nat} (hi : i ≤ l.length) : perW (turn l i) = perW l := by
  unfold perW
  rw [turn_len]
  have e : ∀ (L : List Nat), (∀ x ∈ L, x ≤ l.length) → (L.find? fun k => decide (turn (turn l i) k = turn l i)) = L.find? fun k => decide (turn l k = l) := by
    intro L
    induction L with
    | nil => intro _; rfl
    | cons k L ih =>
      intro h
      have hk := h k (.head _)
      have e2 : decide (turn (turn l i) k = turn l i) = decide (turn l k = l) := by
        refine decide_eq_decide.mpr ⟨fun q => ?_, fun q => ?_⟩
        · rw [turn_comm hi hk] at q
          exact turn_inj (turn_len l k) (by rw [turn_len]; exact hi) q
        · rw [turn_comm hi hk, q]
      rw [List.find?_cons, List.find?_cons, e2, ih fun x hx => h x (.tail _ hx)]
  rw [e _ fun x hx => by
    have := List.mem_range'_1.mp hx
    omega]
theorem per_some {l : List Nat} (h : 1 ≤ l.length) : ((List.range' 1 l.length).find? fun i => decide (turn l i = l)) = some (perW l) := by
  unfold perW
  cases e : (List.range' 1 l.length).find? fun i => decide (turn l i = l) with
  | some k => rfl
  | none =>
    have := List.find?_eq_none.mp e l.length (List.mem_range'_1.mpr ⟨h, by omega⟩)
    rw [decide_eq_true (turn_full l)] at this
    exact absurd rfl this
theorem per_le {l : List Nat} (h : 1 ≤ l.length) : 1 ≤ perW l ∧ perW l ≤ l.length ∧ turn l (perW l) = l := by
  have e := per_some h
  have h1 := List.mem_range'_1.mp (List.mem_of_find?_eq_some e)
  have h2 := List.find?_some e
  exact ⟨h1.1, by omega, of_decide_eq_true h2⟩
theorem per_first {l : List Nat} {k : Nat} (h1 : 1 ≤ k) (h2 : k ≤ l.length) (hk : turn l k = l) (no : ∀ j, 1 ≤ j → j < k → turn l j ≠ l) : perW l = k := by
  have e : (List.range' 1 l.length).find? (fun i => decide (turn l i = l)) = some k :=
    List.find?_range'_eq_some.mpr ⟨decide_eq_true hk, List.mem_range'_1.mpr ⟨h1, by omega⟩, fun j hj hjk => by rw [decide_eq_false (no j hj hjk)]; rfl⟩
  unfold perW
  rw [e]
  rfl
theorem leastW_snoc (w : List Nat) (r : List (List Nat)) (y : List Nat) : leastW w (r ++ [y]) = if y < leastW w r then y else leastW w r := by
  unfold leastW
  rw [List.foldl_append]
  rfl
theorem turns_take {l : List Nat} {i : Nat} (h : i < l.length) : (turnsOf l).take (i + 1) = (turnsOf l).take i ++ [turn l i] := by
  rw [List.take_succ_eq_append_getElem (by rw [turnsOf_len]; exact h)]
  simp [turnsOf]
/-! ### where a text stands in another one -/
def standsAt (l m : List Nat) (i : Nat) : Bool := decide (i + m.length ≤ l.length) && decide ((l.drop i).take m.length = m)
theorem subAt_tx (l m : List Nat) (i : Nat) : Builtin.Str.subAt (tx l) (tx m) i = decide ((l.drop i).take m.length = m) := by
  unfold Builtin.Str.subAt
  rw [tx_len]
  by_cases h : (l.drop i).take m.length = m
  · rw [decide_eq_true h, beq_iff_eq]
    refine Array.toList_inj.mp ?_
    rw [Array.toList_extract]
    simp only [List.extract_eq_take_drop]
    rw [show i + m.length - i = m.length by omega]
    exact h
  · rw [decide_eq_false h, beq_eq_false_iff_ne]
    intro e
    have := congrArg Array.toList e
    rw [Array.toList_extract] at this
    simp only [List.extract_eq_take_drop] at this
    rw [show i + m.length - i = m.length by omega] at this
    exact h this
theorem occ_full (x y : Str) (hi : Nat) : ∀ (L : List Nat) (st : Array Nat × Nat), 1 ≤ st.fst.size → (forIn L st (PySem.StrLaws.occBody x y hi 1)).run.fst = st.fst
  | [], _, _ => rfl
  | a :: L, st, h => by
    rw [List.forIn_cons]
    unfold PySem.StrLaws.occBody
    rw [if_neg (by omega)]
    exact occ_full x y hi L _ h
theorem occ_run (l m : List Nat) : ∀ (L : List Nat) (free : Nat), (∀ i ∈ L, free ≤ i) → (forIn L ((#[] : Array Nat), free) (PySem.StrLaws.occBody (tx l) (tx m) l.length 1)).run.fst.toList = (L.find? (standsAt l m)).toList
  | [], _, _ => rfl
  | a :: L, free, hf => by
    rw [List.forIn_cons, List.find?_cons]
    unfold PySem.StrLaws.occBody
    have ha := hf a (.head _)
    by_cases c : standsAt l m a = true
    · have c' := c
      simp only [standsAt, Bool.and_eq_true] at c'
      rw [← subAt_tx, decide_eq_true_eq] at c'
      rw [if_pos ⟨⟨⟨by simp, ha⟩, by rw [tx_len]; exact c'.1⟩, c'.2⟩, c]
      show (forIn L _ (PySem.StrLaws.occBody (tx l) (tx m) l.length 1)).run.fst.toList = _
      rw [occ_full _ _ _ _ _ (by simp)]
      rfl
    · rw [if_neg, Bool.eq_false_iff.mpr c]
      · exact occ_run l m L free fun i h => hf i (.tail _ h)
      · rintro ⟨⟨_, h1⟩, h2⟩
        rw [tx_len] at h1
        rw [subAt_tx] at h2
        exact c (by unfold standsAt; rw [decide_eq_true h1, h2]; rfl)
theorem occ_first (l m : List Nat) (lo : Nat) : Builtin.Str.occurrences (tx l) (tx m) lo l.length 1 = ((List.range' lo (l.length + 1 - lo)).find? (standsAt l m)).toList := by
  rw [PySem.StrLaws.occ_eq]
  exact occ_run l m _ lo fun i hi => (List.mem_range'_1.mp hi).1
theorem index_from {l m : List Nat} {lo k : Nat} (hlo : lo ≤ l.length) (h : (List.range' lo (l.length + 1 - lo)).find? (standsAt l m) = some k) : Txt.indexFrom (tx l) (tx m) (lo : Int) = some k := by
  unfold Txt.indexFrom
  have e : PySem.fromIndex (tx l).length (lo : Int) = lo := by
    rw [tx_len]
    unfold PySem.fromIndex
    first | (simp; omega) | omega
  rw [e, tx_len, occ_first, h]
  rfl
theorem index_start {l m : List Nat} {k : Nat} (h : (List.range (l.length + 1)).find? (standsAt l m) = some k) : Builtin.Str.occurrences (tx l) (tx m) 0 (tx l).length 1 = [k] := by
  rw [tx_len, occ_first, Nat.sub_zero, ← List.range_eq_range', h]
  rfl
/-- a word twice, and where it comes again -/
theorem twice_at {l : List Nat} {i : Nat} (hi : i ≤ l.length) : standsAt (l ++ l) l i = decide (turn l i = l) := by
  unfold standsAt
  rw [decide_eq_true (by rw [List.length_append]; omega), Bool.true_and]
  have e : ((l ++ l).drop i).take l.length = turn l i := by
    rw [List.drop_append_of_le_length hi, List.take_append, List.length_drop, List.take_of_length_le (by rw [List.length_drop]; omega)]
    unfold turn
    rw [show l.length - (l.length - i) = i by omega]
  rw [e]
theorem twice_index {l : List Nat} (h : 1 ≤ l.length) : Txt.indexFrom (tx (l ++ l)) (tx l) 1 = some (perW l) := by
  refine index_from (lo := 1) (by rw [List.length_append]; omega) ?_
  have e := per_some h
  rw [show (l ++ l).length + 1 - 1 = l.length + l.length by rw [List.length_append]; omega, ← List.range'_append_1, List.find?_append]
  have e2 : (List.range' 1 l.length).find? (standsAt (l ++ l) l) = some (perW l) := by
    rw [← e]
    have : ∀ L : List Nat, (∀ x ∈ L, x ≤ l.length) → L.find? (standsAt (l ++ l) l) = L.find? fun i => decide (turn l i = l) := by
      intro L
      induction L with
      | nil => intro _; rfl
      | cons k L ih =>
        intro hL
        rw [List.find?_cons, List.find?_cons, twice_at (hL k (.head _)), ih fun x hx => hL x (.tail _ hx)]
    exact this _ fun x hx => by
      have := List.mem_range'_1.mp hx
      omega
  rw [e2]
  rfl
end Bd

namespace Bd
open PySem PySem.Spec PyProof.Rows L2
/-! ### "".join(reversed(text)) -/
theorem norev_str : typeLookup (.type "str") "__reversed__" = pure none := by rw [typeLookup_type, builtinLookup_eq_fast]; kernel_rfl
theorem get_str : typeLookup (.type "str") "__getitem__" = pure (some (.builtin "str.__getitem__")) := by rw [typeLookup_type, builtinLookup_eq_fast]; kernel_rfl
theorem nolen_rv : typeLookup (.type "reversed") "__len__" = pure none := by rw [typeLookup_type, builtinLookup_eq_fast]; kernel_rfl
theorem hint_rv : typeLookup (.type "reversed") "__length_hint__" = pure (some (.builtin "reversed.__length_hint__")) := by rw [typeLookup_type, builtinLookup_eq_fast]; kernel_rfl
theorem slot_rv_hint : Slot "reversed" "__length_hint__" "reversed.__length_hint__" :=
  .of (owner := "reversed") (n := "__length_hint__") (by rw [typeLookup_type, builtinLookup_eq_fast]; kernel_rfl) (by decide +kernel) (by decide +kernel) (by decide +kernel)
    (by first | exact .inl (by decide +kernel) | exact .inr (by decide +kernel)) (by rw [isSubtype_type]; kernel_rfl)
theorem entry_rv_hint : entryFor table "reversed.__length_hint__" = some Builtin.«reversed.__length_hint__» := entryFor_of_tree (by kernel_rfl)
theorem args_rv_hint (a : Value) : argsOk "reversed.__length_hint__" ⟨[a], []⟩ := by
  unfold argsOk; rw [signature?_of (id := "reversed.__length_hint__") (n := ['_', '_', 't', 'n', 'i', 'h', '_', 'h', 't', 'g', 'n', 'e', 'l', '_', '_']) (o := ['d', 'e', 's', 'r', 'e', 'v', 'e', 'r']) (by kernel_rfl) RT.owner_rt]; kernel_rfl
def rsObj (z : Str) (t : Tok) (i : Int) : Obj := { cls := .type "reversed", data := .fields #[.str z t, rawInt i] }
def IsRs (h : Heap) (a : Addr) (z : Str) (t : Tok) (i : Int) : Prop := ∃ o, h.get? a = some o ∧ o.cls = .type "reversed" ∧ o.data = .fields #[.str z t, rawInt i]
theorem IsRs.at {h h' : Heap} {a : Addr} {z : Str} {t : Tok} {i : Int} (x : IsRs h a z t i) (e : ∀ o, h.get? a = some o → h'.get? a = some o) : IsRs h' a z t i := let ⟨o, ho, r⟩ := x; ⟨o, e _ ho, r⟩
section
variable {prog : Program} {w : World} {A : Around} {E : Value → Shared → Prop} {s : Shared}
theorem IsRs.typeIs {a : Addr} {z : Str} {t : Tok} {i : Int} (x : IsRs s.heap a z t i) : s.TypeIs (.ref a) "reversed" := let ⟨o, ho, hc, _⟩ := x; ⟨o, ho, hc⟩
theorem call_reversed_str {z : Str} {t : Tok} {Q : Value → Shared → Prop}
    (hlen : ∀ (A : Around) (E : Value → Shared → Prop) (s : Shared) (Q : Value → Shared → Prop), Q (.int z.length (s.toks + 1)) { s with toks := s.toks + 1 + 1 } → wpAny (model prog w) A (call (.builtin "len") [.str z t]) Q E s)
    (h : ∀ tk, Q (.ref s.heap.objs.size) { s with heap := s.heap.push (rsObj z t ((z.length : Int) - 1)), toks := tk }) : wpAny (model prog w) A (call (.type "reversed") [.str z t]) Q E s := by
  have hT : s.TypeIs (.str z t) "str" := typeIs_str _ _ _
  refine callType_codes (Q₁ := fun obj s₁ => s₁.TypeIs obj "reversed" ∧ Q obj s₁) RT.called_rt (F.typeCall_reversed_1 _) F.entry_object_init ?_ fun obj s₁ h₁ => ?_
  · refine codeAny_of_tree ?_
    show wpAny _ _ (do checkBuiltinCall "reversed.__new__" ⟨[.type "reversed", .str z t], []⟩; again (.builtin "reversed.__new__" ⟨[.type "reversed", .str z t], []⟩)) _ _ s
    refine wpAny_bind (wpAny_of_eq (F.newCall_reversed_1 _) (wpAny_pure ⟨plainId_quiet F.plain_reversed_new _, codeAny_builtin F.entry_reversed_new ?_⟩))
    rw [Around.under_plainId F.plain_reversed_new _]
    unfold Builtin.«reversed.__new__»
    refine wpAny_bind (wpAny_of_eq (newClass_reversed _) ?_)
    try dsimp only
    refine wpAny_bind (wpAny_of_eq (a := ()) (by first | rfl | kernel_rfl) ?_)
    try dsimp only
    refine wpAny_bind (wpAny_of_eq (a := ()) (by first | rfl | kernel_rfl) ?_)
    try dsimp only
    refine wpAny_bind (wpAny_specialOf hT norev_str ?_)
    try dsimp only
    refine wpAny_bind ?_
    wp_delta
    refine wpAny_bind (wpAny_isInstance (T := "str") (U := "dict") (b := false) hT (by rw [isSubtype_type]; kernel_rfl) ?_)
    try dsimp only
    try rw [if_neg Bool.false_ne_true]
    try dsimp only
    refine wpAny_bind (wpAny_specialOf hT get_str ?_)
    try dsimp only
    try rw [if_pos (by decide +kernel)]
    refine wpAny_pure ?_
    try dsimp only
    try rw [if_neg (by decide)]
    try dsimp only
    refine wpAny_bind (hlen _ _ _ _ ?_)
    refine wpAny_bind (wpAny_of_eq (a := some ((z.length : Nat) : Int)) rfl ?_)
    try dsimp only
    refine wpAny_bind ?_
    show wpAny _ _ (newObj (.type "reversed") (.fields #[.str z t, rawInt ((z.length : Int) - 1)])) _ _ _
    refine wpAny_newObj_type ?_
    exact wpAny_pure ⟨⟨_, Heap.get?_push_size _ rfl, rfl⟩, h _⟩
  · exact ⟨h₁.1, F.args_object_init_2 obj _, object_init_meets RT.called_rt.init.lookup RT.called_rt.made (by decide) prog w A.in1 _ s₁ ⟨h₁.1, rfl, h₁.2⟩⟩
theorem next_rs_item {it : Addr} {z : Str} {t : Tok} {i c : Nat} {Q : Option Value → Shared → Prop} (hit : IsRs s.heap it z t (i : Int)) (hx : z.cps[i]? = some c) (hsz : z.length ≤ sizeLine)
    (hQ : ∀ h' tk tc, IsRs h' it z t ((i : Int) - 1) → Heap.SameBut it s.heap h' → Q (some (.str ⟨#[c]⟩ tc)) { s with heap := h', toks := tk }) : wpAny (model prog w) A (pyNext (.ref it)) Q E s := by
  obtain ⟨o, ho, hc, hd⟩ := id hit
  have hi : i < z.length := (Array.getElem?_eq_some_iff.mp hx).1
  have hT : s.TypeIs (.str z t) "str" := typeIs_str _ _ _
  rw [sizeLine_eq] at hsz
  unfold pyNext
  refine wpAny_bind (wpAny_attempt (wpAny_callSpecial?_slot (name := Str.ofString "__next__") hit.typeIs RT.slot_rt_next
    (wpAny_call_entry RT.slot_rt_next hit.typeIs RT.entry_rt_next ?_ (RT.args_rt_next _))))
  unfold Builtin.«reversed.__next__»
  refine wpAny_bind (wpAny_of_eq (a := (Value.ref it, [])) rfl ?_)
  try dsimp only
  refine wpAny_bind (wpAny_field ho hd (x := .str z t) rfl ?_)
  try dsimp only
  refine wpAny_bind (wpAny_field ho hd (x := rawInt (i : Int)) rfl ?_)
  show wpAny _ _ (if (i : Int) < 0 then _ else _) _ _ s
  rw [if_neg (by omega)]
  try dsimp only
  refine wpAny_bind (wpAny_specialOf hT get_str ?_)
  try dsimp only
  try rw [if_neg (by decide)]
  try dsimp only
  refine wpAny_bind (wpAny_mkInt ?_)
  refine wpAny_bind (wpAny_attempt ?_)
  have e1 : decide ((i : Int) < -(2 ^ 63 : Int)) = false := decide_eq_false (by omega)
  have e2 : decide ((i : Int) ≥ 2 ^ 63) = false := decide_eq_false (by omega)
  refine PyProof.Rows.getItem_str (c := c) (by rw [e1, e2, Bool.or_false]) (by rw [show seqIndex? (i : Int) z.length = some i from seqIndex_of (by omega) (by omega)]; exact hx) ?_
  try dsimp only
  refine wpAny_bind (wpAny_field ho hd (x := rawInt (i : Int)) rfl ?_)
  try dsimp only
  refine wpAny_bind (wpAny_setField ho hd (by simp) ?_)
  first
  | refine wpAny_pure ⟨_, rfl, wpAny_pure (hQ _ _ _ ?_ (Heap.SameBut.update ..))⟩
  | refine wpAny_bind (wpAny_pure (wpAny_pure ⟨_, rfl, wpAny_pure (hQ _ _ _ ?_ (Heap.SameBut.update ..))⟩))
  exact ⟨_, Heap.get?_update_self _ ho (Obj.isFreed_of_fields (Obj.data_mapFields hd _)), (Obj.cls_mapFields ..).trans hc, by
    rw [Obj.data_mapFields hd]; simp⟩
theorem next_rs_end {it : Addr} {z : Str} {t : Tok} {Q : Option Value → Shared → Prop} (hh : A.handled = none) (hit : IsRs s.heap it z t (-1))
    (hQ : ∀ h', Heap.ExtBut it s.heap h' → Q none { s with heap := h' }) : wpAny (model prog w) A (pyNext (.ref it)) Q E s := by
  obtain ⟨o, ho, hc, hd⟩ := id hit
  unfold pyNext
  refine wpAny_bind (wpAny_attempt (wpAny_callSpecial?_slot (name := Str.ofString "__next__") hit.typeIs RT.slot_rt_next
    (wpAny_call_entry RT.slot_rt_next hit.typeIs RT.entry_rt_next ?_ (RT.args_rt_next _))))
  unfold Builtin.«reversed.__next__»
  refine wpAny_bind (wpAny_of_eq (a := (Value.ref it, [])) rfl ?_)
  try dsimp only
  refine wpAny_bind (wpAny_field ho hd (x := .str z t) rfl ?_)
  try dsimp only
  refine wpAny_bind (wpAny_field ho hd (x := rawInt (-1)) rfl ?_)
  show wpAny _ _ (if (-1 : Int) < 0 then _ else _) _ _ s
  rw [if_pos (by decide)]
  try dsimp only
  refine wpAny_bind (wpAny_rule ?_)
  refine wpAny_bind ?_
  wp_delta
  refine wpAny_bind (wpAny_setField ho hd (by simp) ?_)
  have ho2 := Heap.get?_update_self (Obj.mapFields (·.setIfInBounds 1 (rawInt (-1)))) ho (Obj.isFreed_of_fields (Obj.data_mapFields hd _))
  refine wpAny_setField (s := { s with heap := s.heap.update it (Obj.mapFields (·.setIfInBounds 1 (rawInt (-1)))) }) ho2 (Obj.data_mapFields hd _) (by simp) ?_
  try dsimp only
  first
  | show wpAny _ _ (newExc (.type "StopIteration") [] >>= _) _ _ _
  | (refine wpAny_bind ?_; show wpAny _ _ (newExc (.type "StopIteration") [] >>= _) _ _ _)
  | (refine wpAny_bind ?_; wp_delta; show wpAny _ _ (newExc (.type "StopIteration") [] >>= _) _ _ _)
  refine wpAny_bind ?_
  simp only [newExc, newTuple]
  refine wpAny_bind (wpAny_newObj_type ?_ (by size_fits))
  refine wpAny_bind (m := firstArgMember _ _) (wpAny_of_eq (a := Value.none) (by first | rfl | (simp only [firstArgMember]; rfl)) ?_)
  refine wpAny_newObj_type ?_ (by size_fits)
  simp only [raiseNew]
  refine wpAny_bind (wpAny_handled ?_)
  first | rw [show A.in1.handled = none from hh] | rw [hh]
  refine wpAny_bind (wpAny_pure (wpAny_throw ?_))
  refine wpAny_bind (wpAny_isInstance (T := "StopIteration") (b := true) ⟨_, Heap.get?_push_size _ rfl, rfl⟩ isSubtype_stop ?_)
  refine wpAny_pure (hQ _ ?_)
  refine ((?_ : Heap.ExtBut it s.heap _).push _).push _
  exact fun b ob hb e => (Heap.get?_update_other _ _ (Ne.symm hb)).trans ((Heap.get?_update_other _ _ (Ne.symm hb)).trans e)
theorem iter_rs {it : Addr} {z : Str} {t : Tok} {i : Int} {Q : Value → Shared → Prop} (hit : IsRs s.heap it z t i) (h : Q (.ref it) s) : wpAny (model prog w) A (pyIter (.ref it)) Q E s := by
  refine wpAny_pyIter_slot hit.typeIs RT.slot_rt_iter (wpAny_call_entry RT.slot_rt_iter hit.typeIs RT.entry_rt_iter ?_ (RT.args_rt_iter _))
  show wpAny _ _ (ret (.ref it)) _ _ s
  exact wpAny_pure ⟨_, rfl, "reversed", _, hit.typeIs, RT.slot_rt_next.lookup, h⟩
/-- the i-th sign from the end -/
def BackAt (z : Str) (i : Nat) (v : Value) : Prop := ∃ c t, z.cps[z.length - 1 - i]? = some c ∧ v = .str ⟨#[c]⟩ t
theorem walks_rs (hh : A.handled = none) (it : Addr) (z : Str) (t : Tok) (hz : z.length ≤ sizeLine) :
    Walks prog w A it [it] [it] z.length (BackAt z) (fun i h => IsRs h it z t ((z.length : Int) - 1 - i)) where
  sub := fun b hb => hb
  frame := fun _ _ _ st hk => st.at fun o e => hk it (by simp) o e
  item := fun i s Q E hi st hQ => by
    obtain ⟨c, hc⟩ : ∃ c, z.cps[z.length - 1 - i]? = some c := ⟨_, Array.getElem?_eq_getElem (show z.length - 1 - i < z.length by omega)⟩
    have e : (z.length : Int) - 1 - i = ((z.length - 1 - i : Nat) : Int) := by omega
    rw [e] at st
    refine next_rs_item st hc hz fun h' tk tc hit' hs' => ?_
    refine hQ _ h' tk ⟨c, tc, hc, rfl⟩ ?_ fun b o hb e => hs'.extBut b o (fun h => hb (by simp [h])) e
    have e2 : ((z.length - 1 - i : Nat) : Int) - 1 = (z.length : Int) - 1 - ((i + 1 : Nat) : Int) := by omega
    rw [← e2]
    exact hit'
  done := fun s Q E st hQ => by
    have e : (z.length : Int) - 1 - z.length = -1 := by omega
    rw [e] at st
    exact next_rs_end hh st fun h' he' => hQ h' s.toks fun b o hb e => he' b o (fun h => hb (by simp [h])) e
  self := fun _ _ _ _ st hQ => iter_rs st hQ
theorem collect_rs {it : Addr} {z : Str} {t : Tok} {Q : List Value → Shared → Prop} (hh : A.handled = none)
    (hlen : ∀ (A : Around) (E : Value → Shared → Prop) (s : Shared) (Q : Value → Shared → Prop), Q (.int z.length (s.toks + 1)) { s with toks := s.toks + 1 + 1 } → wpAny (model prog w) A (call (.builtin "len") [.str z t]) Q E s)
    (hit : IsRs s.heap it z t ((z.length : Int) - 1)) (hne : 1 ≤ z.length) (hz : z.length ≤ sizeLine)
    (hQ : ∀ (h' : Heap) (tk : Nat) (acc : Array Value), (∀ b o, b ≠ it → s.heap.get? b = some o → h'.get? b = some o) → ItemsOf (BackAt z) acc z.length → Q acc.toList { s with heap := h', toks := tk }) :
    wpAny (model prog w) A (collect (.ref it)) Q E s := by
  have W := (walks_rs (prog := prog) (w := w) (A := A.in1) hh it z t hz).toS
  obtain ⟨oi, hoi, _⟩ := id hit
  have hSI : s.heap.objs.size ≠ it := Nat.ne_of_gt (Heap.lt_size hoi)
  have hSf : s.heap.objs.size ∉ [it] := by simp only [List.mem_cons, List.not_mem_nil, or_false]; exact hSI
  have h63 := hz
  rw [sizeLine_eq] at h63
  have hst : (fun i (s : Shared) => IsRs s.heap it z t ((z.length : Int) - 1 - (i : Nat))) 0 s := by
    show IsRs s.heap it z t ((z.length : Int) - 1 - ((0 : Nat) : Int))
    rw [show (z.length : Int) - 1 - ((0 : Nat) : Int) = (z.length : Int) - 1 by omega]
    exact hit
  unfold collect
  refine wpAny_bind (wpAny_runValue (codeAny_builtin F.entry_proto_collect ?_))
  rw [Around.under_plainId F.plain_proto_collect _]
  show wpAny _ A.in1 (newList [] >>= fun l => again (.builtin "list.__iadd__" ⟨[l, .ref it], []⟩)) _ _ s
  refine wpAny_bind (wpAny_newObj_type ?_)
  refine wpAny_pure ⟨plainId_quiet F.plain_list_iadd _, codeAny_builtin F.entry_list_iadd ?_⟩
  rw [Around.under_plainId F.plain_list_iadd _]
  have hst₁ := W.frame 0 s (s.heap.push { cls := .type "list", data := .seq ([] : List Value).toArray }) s.toks hst (Nat.le_refl _) fun b _ o e => Heap.get?_push_of_some _ e
  have hT : ({ s with heap := s.heap.push { cls := .type "list", data := .seq ([] : List Value).toArray } } : Shared).TypeIs (.ref it) "reversed" := IsRs.typeIs (s := { s with heap := s.heap.push { cls := .type "list", data := .seq ([] : List Value).toArray } }) hst₁
  show wpAny _ A.in1 (Builtin.List.listExtendWith (.ref s.heap.objs.size) (.ref it) (.ref s.heap.objs.size)) _ _ _
  unfold Builtin.List.listExtendWith
  refine wpAny_bind (wpAny_typeOf hT ?_)
  have h1 : Builtin.List.listSameRef (.ref s.heap.objs.size) (.ref it) = false := by simp [Builtin.List.listSameRef, hSI]
  rw [if_neg (by rw [h1]; decide)]
  refine wpAny_bind (W.self 0 _ _ _ hst₁ ?_)
  refine wpAny_bind (wpAny_holding ?_)
  unfold Builtin.List.listLengthHint
  refine wpAny_bind (wpAny_specialOf hT nolen_rv ?_)
  show wpAny _ A.in1 (specialOf (Value.ref it) (Str.ofString "__length_hint__") >>= _) _ _ _
  refine wpAny_bind (wpAny_specialOf hT hint_rv ?_)
  generalize hid : ("reversed.__length_hint__" : String) = id0
  wp_delta
  rw [show splitId id0 = some ("reversed", "__length_hint__") from by subst hid; decide +kernel]
  subst hid
  refine wpAny_bind (wpAny_isInstance (b := true) hT (by rw [isSubtype_type]; kernel_rfl) ?_)
  rw [if_neg (by decide)]
  try dsimp only
  rw [if_neg (by decide +kernel)]
  refine wpAny_bind (wpAny_rule ?_)
  refine wpAny_bind (wpAny_of_eq (slot_rv_hint.bind _) ?_)
  try dsimp only
  refine wpAny_bind (wpAny_attempt (wpAny_call_entry slot_rv_hint hT entry_rv_hint ?_ (args_rv_hint _)))
  unfold Builtin.«reversed.__length_hint__»
  refine wpAny_bind (wpAny_of_eq (a := Value.ref it) rfl ?_)
  obtain ⟨o, ho, hc, hd⟩ := id hst₁
  refine wpAny_bind (wpAny_field ho hd (x := .str z t) rfl ?_)
  try dsimp only
  rw [if_neg (show ¬ (Value.str z t == Value.none) = true from fun q => nomatch q)]
  refine wpAny_bind (hlen _ _ _ _ ?_)
  refine wpAny_bind (wpAny_of_eq (a := some ((z.length : Nat) : Int)) rfl ?_)
  try dsimp only
  refine wpAny_bind (wpAny_field ho hd (x := rawInt ((z.length : Int) - 1 - ((0 : Nat) : Int))) rfl ?_)
  show wpAny _ _ (if (z.length : Int) < ((z.length : Int) - 1 - ((0 : Nat) : Int)) + 1 then _ else retInt _) _ _ _
  rw [if_neg (by omega)]
  refine wpAny_bind (wpAny_mkInt ?_)
  refine wpAny_pure ⟨_, rfl, ?_⟩
  generalize hk : (z.length : Int) - 1 - ((0 : Nat) : Int) + 1 = k
  have hk2 : 1 ≤ k ∧ k ≤ 16777216 := by omega
  clear hk
  have f1 : Builtin.List.listFitsIndex k = true := by
    unfold Builtin.List.listFitsIndex
    rw [decide_eq_true (show -(2 ^ 63 : Int) ≤ k by omega), decide_eq_true (show k < 2 ^ 63 by omega)]
    rfl
  have f2 : Builtin.List.listTooLong (Int.toNat k) = false := by
    unfold Builtin.List.listTooLong
    exact decide_eq_false (by rw [sizeLine_eq]; omega)
  have f3 : (k != 0) = true := by
    rw [bne_iff_ne]
    omega
  try dsimp only
  refine wpAny_bind (wpAny_of_eq (a := some k) rfl ?_)
  try dsimp only
  rw [f1, if_neg (by decide), if_neg (by omega), f2, if_neg (by decide), f3]
  refine wpAny_pure ?_
  rw [if_pos (by rfl)]
  refine wpAny_bind (wpAny_rule ?_)
  have hS₁ : (s.heap.push { cls := .type "list", data := .seq ([] : List Value).toArray }).get? s.heap.objs.size = some { cls := .type "list", data := .seq ([] : List Value).toArray } := Heap.get?_push_size _ rfl
  refine wpAny_bind ?_
  show wpAny _ A.in1 (updateSeq s.heap.objs.size (·.push .none) >>= fun _ => updateSeq s.heap.objs.size (·.pop)) _ _ _
  refine wpAny_bind (wpAny_updateSeq hS₁ rfl ?_)
  have hS₂ := Heap.get?_update_self (Obj.mapSeq (·.push Value.none)) hS₁ rfl
  refine wpAny_updateSeq hS₂ rfl ?_
  have hS₃ := Heap.get?_update_self (Obj.mapSeq (·.pop)) hS₂ rfl
  have oth : ∀ b o, b ≠ s.heap.objs.size → (s.heap.push { cls := .type "list", data := .seq ([] : List Value).toArray }).get? b = some o →
      (((s.heap.push { cls := .type "list", data := .seq ([] : List Value).toArray }).update s.heap.objs.size (Obj.mapSeq (·.push Value.none))).update s.heap.objs.size (Obj.mapSeq (·.pop))).get? b = some o :=
    fun b o hb e => (Heap.get?_update_other _ _ (Ne.symm hb)).trans ((Heap.get?_update_other _ _ (Ne.symm hb)).trans e)
  refine wpAny_pure ⟨plainId_quiet F.plain_extend_loop _, codeAny_extend_loopS W hz _ hSf _ z.length 0 _ _ _ rfl (Nat.zero_le _)
    (IsRs.at hst₁ fun o e => oth it o (Ne.symm hSI) e) hS₃ (ItemsOf.nil _) fun s' acc' c' hm hS' hacc => ?_⟩
  show wpAny _ A (load s.heap.objs.size >>= _) _ _ s'
  refine wpAny_bind (wpAny_load hS' ?_)
  refine wpAny_pure ?_
  rw [Moved.eq_with hm]
  refine hQ s'.heap s'.toks acc' (fun b o hb e => hm.heap b o (fun hmem => ?_) (oth b o (Nat.ne_of_lt (Heap.lt_size e)) (Heap.get?_push_of_some _ e))) hacc
  rcases List.mem_cons.mp hmem with e' | hmem
  · exact absurd (Heap.lt_size e) (by rw [e']; exact Nat.lt_irrefl _)
  · exact hb (List.mem_singleton.mp hmem)
theorem strs_back {z : Str} : ∀ {L : List Value} {l : List Nat}, L.length = l.length → (∀ (i : Nat) (v : Value), L[i]? = some v → ∃ c t, l[i]? = some c ∧ v = .str ⟨#[c]⟩ t) → StrsAre L (l.map fun c => tx [c])
  | [], [], _, _ => .nil
  | [], _ :: _, h, _ => nomatch h
  | _ :: _, [], h, _ => nomatch h
  | v :: L, c :: l, h, k => by
    obtain ⟨c', t, e, rfl⟩ := k 0 v rfl
    cases (Option.some.inj e)
    exact .cons _ t (strs_back (z := z) (Nat.succ.inj h) fun i v hv => k (i + 1) v hv)
theorem join_rs {it : Addr} {z x : Str} {t tx' : Tok} {Q : Value → Shared → Prop} (hh : A.handled = none)
    (hlen : ∀ (A : Around) (E : Value → Shared → Prop) (s : Shared) (Q : Value → Shared → Prop), Q (.int z.length (s.toks + 1)) { s with toks := s.toks + 1 + 1 } → wpAny (model prog w) A (call (.builtin "len") [.str z t]) Q E s)
    (hit : IsRs s.heap it z t ((z.length : Int) - 1)) (hne : 1 ≤ z.length) (hz : z.length ≤ sizeLine) (hok : z.length + z.length * x.length ≤ 16777216)
    (hq : ∀ h' t' k, (∀ b o, b ≠ it → s.heap.get? b = some o → h'.get? b = some o) → Q (.str (Txt.join x (z.cps.toList.reverse.map fun c => tx [c])) t') { s with heap := h', toks := k }) :
    wpAny (model prog w) A (call (.builtin "str.join") [.str x tx', .ref it]) Q E s := by
  refine wpAny_call (codeAny_call_builtin F.slot_str_join.plain F.entry_str_join (F.slot_str_join.check _ _ _ _ _ _ _ _ (typeIs_str _ _ _) (F.args_str_join_2 _ _) ?_))
  rw [join_tree_other]
  refine wpAny_bind (wpAny_typeOf (IsRs.typeIs (s := s) hit) ?_)
  show wpAny _ A.in1 ((pyIter (.ref it)).tryCatch _ >>= fun it => collect it >>= fun items => joinTail x items) _ _ s
  refine wpAny_bind (wpAny_tryCatch (iter_rs hit ?_))
  refine wpAny_bind (collect_rs hh hlen hit hne hz fun h' tk acc hk hacc => ?_)
  have hsz : z.cps.toList.length = z.length := by simp [Str.length]
  have hP : StrsAre acc.toList (z.cps.toList.reverse.map fun c => tx [c]) := by
    refine strs_back (z := z) ?_ fun i v hv => ?_
    · rw [List.length_reverse, hsz, Array.length_toList]
      exact hacc.1
    · obtain ⟨c, t, hc, rfl⟩ := hacc.2 i v (by simpa using hv)
      have hi : i < z.length := by
        have := (List.getElem?_eq_some_iff.mp hv).1
        rw [Array.length_toList, hacc.1] at this
        exact this
      refine ⟨c, t, ?_, rfl⟩
      rw [List.getElem?_reverse (by rw [hsz]; exact hi), hsz]
      simpa using hc
  obtain ⟨l, hl, ht⟩ := strsAre_values hP
  have hok2 : ((z.cps.toList.reverse.map fun c => tx [c]).map (·.length)).sum + (z.cps.toList.reverse.map fun c => tx [c]).length * x.length ≤ 16777216 := by
    have e1 : (z.cps.toList.reverse.map fun c => tx [c]).map (fun y => y.length) = z.cps.toList.reverse.map fun _ => 1 := by
      rw [List.map_map]
      refine List.map_congr_left fun c _ => ?_
      exact tx_len [c]
    rw [e1, List.map_const', List.sum_replicate_nat, List.length_map, List.length_reverse, hsz]
    omega
  rw [← ht] at hok2 hq
  rw [hl]
  have hok' := joinOk_of hok2
  unfold JoinOk at hok'
  rw [Bool.not_eq_true'] at hok'
  have g : Gives (joinTail x (strValues l)) (joinMade x l) := by
    have g0 := gives_joinTail x l hok'
    cases l with
    | nil => exact g0
    | cons p r => cases r with
      | nil => exact g0
      | cons q r' => exact g0
  exact g prog w A (wants Q E) _ (post_join l ⟨joinFit_length hok', fun t' k => hq h' t' k hk⟩)
end
/-- sep.join(reversed(text)) -/
def tJoinRev (to te : TE) : TE := fun σ H Q => to σ H fun x H1 => (∃ a, x = .str a) ∧ te σ H1 fun y H2 => ∃ (z a : Str), x = .str a ∧ y = .str z ∧ 1 ≤ z.length ∧ z.length + z.length * a.length ≤ 16777216 ∧ Q (.str (Txt.join a (z.cps.toList.reverse.map fun c => tx [c]))) H2
theorem pe_joinRev {X : Cx} {o e : Expr} {to te : TE} {apos pos p pos2 : Pos} (hc : X.calm = true) (ho : PE X o to) (he : PE X e te) (hm : X.mg "reversed" = none) (hg : Gl X "reversed" := by rfl)
    (hs1 : starEach [.Call (.Name "reversed" p) [e] [] pos2] X.env = [(false, eval (.Call (.Name "reversed" p) [e] [] pos2) X.env)] := by rfl)
    (hs : starEach [e] X.env = [(false, eval e X.env)] := by rfl)
    (hbase : attributeBase o "join" X.env (eval o X.env) = eval o X.env := by rfl) (hline : (apos.endLine == pos.line) = true := by rfl) :
    PE X (.Call (.Attribute o "join" apos) [.Call (.Name "reversed" p) [e] [] pos2] [] pos) (tJoinRev to te) := by
  refine ⟨fun pins s σ H Q I h => ?_⟩
  refine PySem.Call_method1 hbase hs1 hline (thn (ho.run pins s σ H _ I h) fun v s1 ⟨x, H1, I1, r1, q1⟩ => ?_)
  obtain ⟨⟨a, rfl⟩, q1⟩ := q1
  obtain ⟨t, rfl⟩ := _root_.id r1
  refine ⟨"str", _, F.plainAttrs_str, F.slot_str_join, F.type_str_join, typeIs_str _ _ _, (fun _ e => nomatch e), Calls.callWith_builtin rfl (Calls.evalArgs_plain (Calls.spliced_cons ?_))⟩
  refine wpAny_Call_Name_kw (ld_blt I1 hg hm boot_reversed ?_)
  refine PyProof.Rows.callWith_type1 ?_ hs rfl
  rw [hs]
  show wpAny _ _ (spliced [(false, eval e X.env)]) _ _ s1
  refine Calls.spliced_cons (thn (he.run pins s1 σ H1 _ I1 q1) fun u s2 ⟨y, H2, I2, r2, q2⟩ => ?_)
  refine Calls.spliced_nil ?_
  obtain ⟨z, a', ea, rfl, hne, hok, q2⟩ := q2
  cases ea
  obtain ⟨t2, rfl⟩ := _root_.id r2
  have hh : X.A.handled = none := I2.ok.hd hc
  have hz : z.length ≤ sizeLine := by rw [sizeLine_eq]; omega
  have hlen : ∀ (A : Around) (E : Value → Shared → Prop) (s : Shared) (Q : Value → Shared → Prop), Q (.int z.length (s.toks + 1)) { s with toks := s.toks + 1 + 1 } → wpAny (model X.prog X.w) A (call (.builtin "len") [.str z t2]) Q E s :=
    fun A E s Q hq => PyProof.Rows.len_str (by omega) hq
  refine call_reversed_str hlen fun tk => ?_
  refine Calls.spliced_nil ?_
  refine join_rs (s := { s2 with heap := s2.heap.push (rsObj z t2 ((z.length : Int) - 1)), toks := tk }) hh hlen ⟨_, Heap.get?_push_size _ rfl, rfl, rfl⟩ hne hz hok fun h' t' k hk => ?_
  exact ⟨.str _, H2, I2.kept (t' := k) fun b o eo => hk b o (Nat.ne_of_lt (Heap.lt_size eo)) (Heap.get?_push_of_some _ eo), ⟨t', rfl⟩, q2⟩
end Bd

namespace Bd
open PySem PySem.Spec PyProof.Rows L2 Evl
/-! ### promises: rings -/
def ringV : V → Bool
  | .str z => wordB z.cps.toList && decide (ringW z.cps.toList = z.cps.toList)
  | _ => false
theorem ringV_vS (l : List Nat) : ringV (vS l) = (wordB l && decide (ringW l = l)) := by simp [ringV]
def sp_ring_of (K : PySem.W.Frag) : Sp := fun vs H Q E => ∃ v, vs = [v] ∧ Thing H v ∧ (∀ l, v = vS l → IsW l → ∀ H', Ex H H' → Q (vS (ringW l)) H') ∧ (wordV v = false → ∀ H', Ex H H' → E (badW K) none H')
def sp_is_ring (_ : PySem.W.Frag) : Sp := fun vs H Q _ => ∃ v, vs = [v] ∧ Thing H v ∧ ∀ H', Ex H H' → Q (.bl (ringV v)) H'
def sp_period (K : PySem.W.Frag) : Sp := fun vs H Q E => ∃ v, vs = [v] ∧ Thing H v ∧ (∀ l, v = vS l → IsW l → ∀ H', Ex H H' → Q (.int (perW l : Nat)) H') ∧ (wordV v = false → ∀ H', Ex H H' → E (badW K) none H')
def sp__law_least (_ : PySem.W.Frag) : Sp := fun vs H Q _ => ∃ l, vs = [vS l] ∧ IsW l ∧ ∀ H', Ex H H' → Q (vS (ringW l)) H'
def sp__law_period (_ : PySem.W.Frag) : Sp := fun vs H Q _ => ∃ l, vs = [vS l] ∧ IsW l ∧ ∀ H', Ex H H' → Q (.int (perW l : Nat)) H'
def sp_k02_refused (_ : PySem.W.Frag) : Sp := fun vs H Q _ => ∃ (w : Int) (v : V), vs = [.int w, v] ∧ Thing H v ∧ wordV v = false ∧ ∀ H', Ex H H' → Q (.bl true) H'
theorem wordF {l : List Nat} (h : IsW l) {p : Prop} (z : wordV (vS l) = false) : p := by
  rw [wordV_vS, show wordB l = true from h] at z
  cases z
/-! mirrors -/
def sp_mirrored (K : PySem.W.Frag) : Sp := fun vs H Q E => ∃ v, vs = [v] ∧ Thing H v ∧ (∀ l, v = vS l → IsW l → ∀ H', Ex H H' → Q (vS l.reverse) H') ∧ (wordV v = false → ∀ H', Ex H H' → E (badW K) none H')
def sp_mirror_of (K : PySem.W.Frag) : Sp := fun vs H Q E => ∃ v, vs = [v] ∧ Thing H v ∧ (∀ l, v = vS l → IsW l → ∀ H', Ex H H' → Q (vS (ringW l.reverse)) H') ∧ (wordV v = false → ∀ H', Ex H H' → E (badW K) none H')
def sp_is_own_mirror (K : PySem.W.Frag) : Sp := fun vs H Q E => ∃ v, vs = [v] ∧ Thing H v ∧ (∀ l, v = vS l → IsW l → ∀ H', Ex H H' → Q (.bl (decide (ringW l.reverse = ringW l))) H') ∧ (wordV v = false → ∀ H', Ex H H' → E (badW K) none H')
def sp__law_drawn (K : PySem.W.Frag) : Sp := fun vs H Q _ => ∃ (a : Addr) (ns : List Int) (k : Int), vs = [.ref a, .int k] ∧ SqL K H a (ns.map V.int) ∧ (0 ≤ k ∧ k ≤ 40000) ∧ ∀ l H', IsW l → Ex H H' → Q (vS l) H'
theorem IsW.reverse {l : List Nat} (h : IsW l) : IsW l.reverse := IsW.mk (by rw [List.length_reverse]; exact h.pos) (by rw [List.length_reverse]; exact h.le) fun c hc => h.let_ c (List.mem_reverse.mp hc)
theorem turn_reverse {l : List Nat} {i : Nat} (hi : i ≤ l.length) : turn l.reverse (l.length - i) = (turn l i).reverse := by
  unfold turn
  rw [List.reverse_append, List.drop_reverse, List.take_reverse, show l.length - (l.length - i) = i by omega]
theorem ring_reverse {l : List Nat} (h : 1 ≤ l.length) : ringW (ringW l).reverse = ringW l.reverse := by
  obtain ⟨i, hi, e⟩ := ring_is_turn h
  rw [e, ← turn_reverse (by omega)]
  by_cases z : i = 0
  · subst z
    rw [Nat.sub_zero, ← List.length_reverse (as := l), turn_full]
  · exact ring_turn (by rw [List.length_reverse]; omega)
theorem join_signs (w : List Nat) : Txt.join "" (w.map fun c => tx [c]) = tx w := by
  have := join_nil (w.map fun c => [c])
  rw [List.map_map, flat_single] at this
  exact this
theorem own_due {l : List Nat} (h : 1 ≤ l.length) : decide (ringW (ringW l.reverse).reverse = ringW (ringW l.reverse)) = decide (ringW l.reverse = ringW l) := by
  have hr : 1 ≤ l.reverse.length := by rw [List.length_reverse]; exact h
  rw [ring_reverse hr, List.reverse_reverse, ring_ring hr]
  exact decide_eq_decide.mpr ⟨fun h => h.symm, fun h => h.symm⟩
end Bd

namespace Bd
open PySem PySem.Spec PyProof.Rows L2 Evl
/-! ### lists of texts as data -/
def dS (ws : List Str) : List PyData := ws.map .str
theorem dpAll_S {K : PySem.W.Frag} {H : Hp} : ∀ ws : List Str, DpAll K H (ws.map V.str) (dS ws)
  | [] => .nil
  | z :: ws => .cons (.str z) (dpAll_S ws)
theorem dp_S {K : PySem.W.Frag} {H : Hp} {a : Addr} {ws : List Str} (h : SqL K H a (ws.map V.str)) : Dp K H (.ref a) (.list (dS ws)) := .lst h (dpAll_S ws)
theorem map_vS (ws : List (List Nat)) : ws.map vS = (ws.map tx).map V.str := by rw [List.map_map]; rfl
theorem dp_W {K : PySem.W.Frag} {H : Hp} {a : Addr} {ws : List (List Nat)} (h : SqL K H a (ws.map vS)) : Dp K H (.ref a) (.list (dS (ws.map tx))) := dp_S (by rw [← map_vS]; exact h)
def shortS (z : Str) : Prop := z.length ≤ 100 ∧ ∀ c ∈ z.cps.toList, c < 1000
theorem strOk_of {z : Str} (h : shortS z) : PyData.strOk z = true := by
  unfold PyData.strOk
  rw [← Array.all_toList, List.all_eq_true]
  intro c hc
  have := h.2 c hc
  exact decide_eq_true (by omega)
theorem layAll_S : ∀ {ws : List Str}, (∀ z ∈ ws, shortS z) → PyData.canLayAll0 (dS ws) = true ∧ PyData.depthAll (dS ws) = 0 ∧ PyData.weightAll (dS ws) ≤ 101 * ws.length
  | [], _ => ⟨rfl, rfl, Nat.le_refl _⟩
  | z :: ws, h => by
    obtain ⟨h1, h2, h3⟩ := layAll_S (ws := ws) fun y hy => h y (.tail _ hy)
    have hz := h z (.head _)
    refine ⟨?_, ?_, ?_⟩
    · show (PyData.strOk z && PyData.canLayAll0 (dS ws)) = true
      rw [strOk_of hz, h1]; rfl
    · show max 0 (PyData.depthAll (dS ws)) = 0
      rw [h2]; rfl
    · show z.cps.size + 1 + PyData.weightAll (dS ws) ≤ 101 * (ws.length + 1)
      have : z.cps.size ≤ 100 := hz.1
      omega
theorem lay_S {ws : List Str} (h : ∀ z ∈ ws, shortS z) (hn : ws.length ≤ 10000) : (PyData.list (dS ws)).layable0 = true := by
  obtain ⟨h1, h2, h3⟩ := layAll_S h
  unfold PyData.layable0
  simp only [Bool.and_eq_true, decide_eq_true_eq]
  refine ⟨⟨by simp only [PyData.canLay0]; exact h1, ?_⟩, ?_⟩
  · simp only [PyData.depth, h2]; omega
  · simp only [PyData.weight]
    have : (2 : Nat) ^ 20 = 1048576 := by decide
    omega
theorem showAll_S : ∀ ws : List Str, PyData.showableAll (dS ws) = true ∧ PyData.hasDictAll (dS ws) = false ∧ PyData.intsShortAll 13 (dS ws) = true
  | [] => ⟨rfl, rfl, rfl⟩
  | z :: ws => by
    obtain ⟨h1, h2, h3⟩ := showAll_S ws
    exact ⟨by show (true && PyData.showableAll (dS ws)) = true; rw [h1]; rfl, by show (false || PyData.hasDictAll (dS ws)) = false; rw [h2]; rfl, by show (true && PyData.intsShortAll 13 (dS ws)) = true; rw [h3]; rfl⟩
theorem shaped_S {ws : List Str} (h : ∀ z ∈ ws, shortS z) (hn : ws.length ≤ 10000) : SeqAt.shaped (.list (dS ws)) = true := SeqAt.shaped_of_layable (lay_S h hn)
theorem reprL_S {K : PySem.W.Frag} {H : Hp} {a : Addr} {ws : List Str} {Q : VK} (h : SqL K H a (ws.map V.str)) (hs : ∀ z ∈ ws, shortS z) (hn : ws.length ≤ 10000) (q : Q (.str (PyData.list (dS ws)).shown) H) : rReprL K [.ref a] H Q := by
  obtain ⟨h1, h2, h3⟩ := showAll_S ws
  obtain ⟨_, h4, _⟩ := layAll_S hs
  refine ⟨a, _, rfl, dp_S h, by simp only [PyData.showable]; exact h1, by simp only [PyData.hasDict]; exact h2, by simp only [PyData.depth, h4]; omega, ?_, q⟩
  have := shown_le13 (lay_S hs hn) (by simp only [PyData.intsShort]; exact h3)
  rw [sizeLine_eq]
  omega
theorem eqvAll_S : ∀ ws vs : List Str, PyData.eqvAll (dS ws) (dS vs) = decide (ws = vs)
  | [], [] => rfl
  | [], _ :: _ => rfl
  | _ :: _, [] => rfl
  | z :: ws, y :: vs => by
    show ((z == y) && PyData.eqvAll (dS ws) (dS vs)) = _
    rw [eqvAll_S ws vs]
    by_cases e : z = y
    · subst e
      by_cases e2 : ws = vs
      · subst e2; simp
      · rw [decide_eq_false e2, decide_eq_false (fun q => e2 (List.cons.inj q).2), Bool.and_false]
    · rw [decide_eq_false (fun q => e (List.cons.inj q).1), beq_eq_false_iff_ne.mpr e, Bool.false_and]
theorem eqv_S (ws vs : List Str) : PyData.eqv (.list (dS ws)) (.list (dS vs)) = decide (ws = vs) := by
  simp only [PyData.eqv]
  exact eqvAll_S ws vs
theorem short_W {l : List Nat} (h : IsW l) : shortS (tx l) := ⟨by rw [tx_len]; have := h.le; omega, fun c hc => by
  rw [tx_cps] at hc
  have := h.let_ c hc
  omega⟩
theorem short_Ws {ws : List (List Nat)} (h : ∀ l ∈ ws, IsW l) : ∀ z ∈ ws.map tx, shortS z := fun z hz => by
  obtain ⟨l, hl, rfl⟩ := List.mem_map.mp hz
  exact short_W (h l hl)
theorem tx_map_inj {ws vs : List (List Nat)} : (ws.map tx = vs.map tx) ↔ ws = vs :=
  List.map_inj_right fun _ _ e => tx_inj e
/-- == of two lists of texts -/
theorem eqD_S {K : PySem.W.Frag} {H : Hp} {a b : Addr} {ws vs : List Str} {Q : VK} (h1 : SqL K H a (ws.map V.str)) (h2 : SqL K H b (vs.map V.str)) (s1 : ∀ z ∈ ws, shortS z) (s2 : ∀ z ∈ vs, shortS z) (n1 : ws.length ≤ 10000) (n2 : vs.length ≤ 10000)
    (q : Q (.bl (decide (ws = vs))) H) : rEqD K (.ref a) (.ref b) H Q := ⟨_, _, dp_S h1, dp_S h2, shaped_S s1 n1, shaped_S s2 n2, by rw [eqv_S]; exact q⟩
theorem neD_S {K : PySem.W.Frag} {H : Hp} {a b : Addr} {ws vs : List Str} {Q : VK} (h1 : SqL K H a (ws.map V.str)) (h2 : SqL K H b (vs.map V.str)) (s1 : ∀ z ∈ ws, shortS z) (s2 : ∀ z ∈ vs, shortS z) (n1 : ws.length ≤ 10000) (n2 : vs.length ≤ 10000)
    (q : Q (.bl (!decide (ws = vs))) H) : rNeD K (.ref a) (.ref b) H Q := ⟨_, _, dp_S h1, dp_S h2, shaped_S s1 n1, shaped_S s2 n2, by rw [eqv_S]; exact q⟩
end Bd

namespace Bd
open PySem PySem.Spec PyProof.Rows L2 Evl
/-! ### promises: k01 -/
def wholeV : V → Bool
  | .int _ => true
  | _ => false
def atW (l : List Nat) (n : Int) : List Nat := turn l (n % (l.length : Int)).toNat
def sp_is_whole (_ : PySem.W.Frag) : Sp := fun vs H Q _ => ∃ v, vs = [v] ∧ Thing H v ∧ ∀ H', Ex H H' → Q (.bl (wholeV v)) H'
def sp_turned (K : PySem.W.Frag) : Sp := fun vs H Q E => ∃ v u, vs = [v, u] ∧ Thing H v ∧ Thing H u ∧ (∀ l n, v = vS l → IsW l → u = .int n → ∀ H', Ex H H' → Q (vS (atW l n)) H') ∧
  (∀ l, v = vS l → IsW l → wholeV u = false → ∀ H', Ex H H' → E (badN K) none H') ∧ (wordV v = false → ∀ H', Ex H H' → E (badW K) none H')
def sp__law_turned (_ : PySem.W.Frag) : Sp := fun vs H Q _ => ∃ l n, vs = [vS l, .int n] ∧ IsW l ∧ ∀ H', Ex H H' → Q (vS (atW l n)) H'
/-- a text of a kind that can be shown -/
def cleanV (v : V) : Prop := ∀ l, v = vS l → l.length ≤ 200 ∧ ∀ c ∈ l, c < 1000
def sp__law_odd (K : PySem.W.Frag) : Sp := fun vs H Q _ => ∃ (a : Addr) (ns : List Int) (k : Int) (l : List Nat), vs = [.ref a, .int k, vS l] ∧ SqL K H a (ns.map V.int) ∧ (0 ≤ k ∧ k ≤ 40000) ∧ IsW l ∧ ∀ v H', Thing H' v → cleanV v → Ex H H' → Q v H'
def sp__law_is_word (_ : PySem.W.Frag) : Sp := fun vs H Q _ => ∃ v, vs = [v] ∧ Thing H v ∧ cleanV v ∧ ∀ H', Ex H H' → Q (.bl (wordV v)) H'
/-- what is told of a word, or why it is refused -/
def sp__law_said (_ : PySem.W.Frag) : Sp := fun vs H Q _ => ∃ (w : Int) (v u : V), vs = [.int w, v, u] ∧ Thing H v ∧ Thing H u ∧
  ((∃ l n, w = 0 ∧ v = vS l ∧ IsW l ∧ u = .int n ∧ ∀ H', Ex H H' → Q (vS (atW l n)) H') ∨
   (∃ l, w = 0 ∧ v = vS l ∧ IsW l ∧ wholeV u = false ∧ ∀ p H', H p = none → Ex H H' → H' p = some (.lst [.str "refused", .str "number"]) → Q (.ref p) H') ∨
   (wordV v = false ∧ ∀ p H', H p = none → Ex H H' → H' p = some (.lst [.str "refused", .str "word"]) → Q (.ref p) H'))
def sp__law_word_right (K : PySem.W.Frag) : Sp := fun vs H Q _ => ∃ (l : List Nat) (b : Addr) (ns : List Int), vs = [vS l, .ref b] ∧ IsW l ∧ SqL K H b (ns.map V.int) ∧ ∀ H', Ex H H' → Q (.bl true) H'
theorem atW_len (l : List Nat) (n : Int) : (atW l n).length = l.length := turn_len _ _
theorem IsW.at {l : List Nat} (h : IsW l) (n : Int) : IsW (atW l n) := h.turn _
/-- a word turned, letter by letter -/
theorem turn_get {l : List Nat} {j k : Nat} (hj : j < l.length) (hk : k < l.length) : (turn l j)[k]? = l[(k + j) % l.length]? := by
  unfold turn
  by_cases c : k + j < l.length
  · rw [List.getElem?_append_left (by rw [List.length_drop]; omega), List.getElem?_drop, Nat.mod_eq_of_lt c, Nat.add_comm]
  · rw [List.getElem?_append_right (by rw [List.length_drop]; omega), List.length_drop, List.getElem?_take_of_lt (by omega)]
    have : (k + j) % l.length = k + j - l.length := by
      rw [Nat.mod_eq_sub_mod (by omega), Nat.mod_eq_of_lt (by omega)]
    rw [this]
    congr 1
    omega
theorem at_get {l : List Nat} {n : Int} {k : Nat} (hk : k < l.length) : ∃ j : Nat, ((k : Int) + n) % (l.length : Int) = (j : Int) ∧ j < l.length ∧ (atW l n)[k]? = l[j]? := by
  have h0 : (0 : Int) < (l.length : Int) := by omega
  have b1 := Int.emod_nonneg n (show (l.length : Int) ≠ 0 by omega)
  have b2 := Int.emod_lt_of_pos n h0
  obtain ⟨j, hj⟩ := Int.eq_ofNat_of_zero_le b1
  refine ⟨(k + j) % l.length, ?_, Nat.mod_lt _ (by omega), ?_⟩
  · rw [Int.add_emod, hj, Int.natCast_emod, Int.natCast_add, Int.add_emod (k : Int) (j : Int)]
    rw [show ((j : Nat) : Int) % (l.length : Int) = (j : Int) by rw [← hj]; exact Int.emod_emod_of_dvd _ (Int.dvd_refl _)]
  · unfold atW
    rw [hj, Int.toNat_natCast]
    exact turn_get (by omega) hk
theorem given_all {n : Nat} {v : Nat → V} : given n (fun _ => true) v = (List.range n).map v := by
  unfold given
  rw [List.filter_eq_self.mpr (fun _ _ => rfl)]
theorem wholeV_eq {H : Hp} {v : V} (t : Thing H v) : wholeV v = (isInt v && !isBl v) := by cases t <;> rfl
theorem wordV_str {H : Hp} {v : V} (t : Thing H v) (h : isStr v = false) : wordV v = false := by
  cases t with
  | txt l hl => cases h
  | _ => rfl
theorem lt_one (c d : Nat) : decide (([c] : List Nat) < [d]) = decide (c < d) :=
  decide_eq_decide.mpr ⟨fun w => (by
    cases w with
    | rel w => exact w
    | cons w => cases w), fun z => List.Lex.rel z⟩
theorem a_list : ("a" : Str).cps.toList = [97] := by decide
theorem h_list : ("h" : Str).cps.toList = [104] := by decide
theorem atW_nat {l : List Nat} {i : Nat} (h : i < l.length) : atW l (i : Int) = turn l i := by
  unfold atW
  have : (i : Int) % (l.length : Int) = (i : Int) := Int.emod_eq_of_lt (by omega) (by omega)
  rw [this, Int.toNat_natCast]
theorem turnsOf_W {l : List Nat} (wl : IsW l) : ∀ m ∈ turnsOf l, IsW m := fun m hm => by
  obtain ⟨i, _, rfl⟩ := mem_turns.mp hm
  exact wl.turn i
end Bd

namespace Bd
open PySem PySem.Spec PyProof.Rows L2 Evl
section
variable {K : PySem.W.Frag} {σ : L2.St} {H : Hp} {te : TE} {t : TT}
/-- [.. for x in range(lo, hi) if ..] -/
theorem el_lcR2 {ta : TA} {j : Nat} {vs : List Nat} {lo hi : Int} (f : Nat → Bool) (v : Nat → V) (h : EvA ta σ H [.int lo, .int hi]) (hn : 0 ≤ lo ∧ lo ≤ 40000 ∧ 0 ≤ hi ∧ hi ≤ 40000) (hw : ∀ x, wipe ((wipe σ vs).set j (some x)) vs = wipe σ vs)
    (ht : ∀ (i : Nat) H1, Ex H H1 → lo + (i : Int) < hi → EvT t ((wipe σ vs).set j (some (.int (lo + (i : Int))))) H1 (f i)) (he : ∀ (i : Nat) H1, Ex H H1 → lo + (i : Int) < hi → f i = true → Ev te ((wipe σ vs).set j (some (.int (lo + (i : Int))))) H1 (v i)) :
    EvL (tLc (iRng2 ta) (gName j) t te vs) σ H (given (hi - lo).toNat f v) := fun H0 e Q q => h H0 e _ fun H1 e1 => ⟨lo, hi, rfl, by omega, fun Dl hD =>
  lc_range (lo := lo) (n := (hi - lo).toNat) (Cw H1 f v Dl) ⟨hD, Ex.new hD, upd_same⟩ (fun i H' hi' p =>
    ⟨hw _, cw_turn p (by omega) (ht i H1 (e.trans e1) (by omega)) (fun hf => he i H1 (e.trans e1) (by omega) hf)⟩) (fun H' p => q Dl H' (fresh_back e1 p.1) (e1.trans p.2.1) p.2.2)⟩
/-- [.. for x, y in zip(xs, ys) if ..] -/
theorem lc_zip {ta : TA} {a : Addr} {xs ys : List V} {j k : Nat} {vs : List Nat} (f : Nat → Bool) (v : Nat → V) (src : ∀ R : List V → Hp → Prop, (∀ b H1, Ex H H1 → SqL K H1 b ys → R [.ref a, .ref b] H1) → ta σ H R) (hx : SqL K H a xs) (hz : xs.length ≤ 40000)
    (hw : ∀ x y, wipe (((wipe σ vs).set j (some x)).set k (some y)) vs = wipe σ vs)
    (ht : ∀ (i : Nat) (x y : V) H1, Ex H H1 → xs[i]? = some x → ys[i]? = some y → EvT t (((wipe σ vs).set j (some x)).set k (some y)) H1 (f i))
    (he : ∀ (i : Nat) (x y : V) H1, Ex H H1 → xs[i]? = some x → ys[i]? = some y → f i = true → Ev te (((wipe σ vs).set j (some x)).set k (some y)) H1 (v i))
    {Q : VK} (q : ∀ p H2, H p = none → Ex H H2 → H2 p = some (.lst (given (min xs.length ys.length) f v)) → Q (.ref p) H2) :
    tLc (iZip K ta) (gTup K 2 (gCons (gName j) (gCons (gName k) gNil))) t te vs σ H Q := src _ fun b H1 e1 hy => ⟨a, b, xs, ys, rfl, ex_l e1 hx, hy, fun D hD => by
  refine ⟨fun i m H' => m = min xs.length ys.length - i ∧ i ≤ min xs.length ys.length ∧ Cw H1 f v D i H', ⟨_, rfl, Nat.zero_le _, hD, Ex.new hD, upd_same⟩, ?_⟩
  rintro i m H' ⟨rfl, hi, p⟩
  have hx' := ex_l (e1.trans p.2.1) hx
  have hy' := ex_l p.2.1 hy
  by_cases hlt : i < min xs.length ys.length
  · have g1 : xs[i]? = some (xs[i]'(by omega)) := List.getElem?_eq_getElem (by omega)
    have g2 : ys[i]? = some (ys[i]'(by omega)) := List.getElem?_eq_getElem (by omega)
    refine .inr ⟨⟨xs, ys, _, _, hx', hy', g1, g2⟩, fun H2 => Cw H1 f v D (i + 1) H2, fun H2 p2 => ⟨_, by omega, rfl, hlt, p2⟩, fun x H2 y => ?_⟩
    obtain ⟨T, x1, y1, rfl, hT, rfl, k1, k2⟩ := y
    have ex1 := k1 _ hx'
    have ey1 := k2 _ hy'
    refine ⟨T, [x1, y1], rfl, SqT.of upd_same, rfl, x1, _, rfl, y1, _, rfl, rfl, hw x1 y1, ?_⟩
    have p2 : Cw H1 f v D i (upd H' T (.tup [x1, y1])) := ⟨p.1, p.2.1.trans (Ex.new hT), Ex.new hT _ _ p.2.2⟩
    exact cw_turn p2 (by omega) (ht i x1 y1 H1 e1 ex1 ey1) fun hf => he i x1 y1 H1 e1 ex1 ey1 hf
  · have : i = min xs.length ys.length := by omega
    subst this
    exact .inl ⟨⟨xs, ys, hx', hy', by omega⟩, q D H' (fresh_back e1 p.1) (e1.trans p.2.1) p.2.2⟩⟩
end
end Bd

namespace Bd
open PySem PySem.Spec PyProof.Rows L2
/-! ### sum(d.values()) -/
def tSumVals (td : TE) : TE := fun σ H Q => td σ H fun x H1 => ∃ (a : Addr) (kvs : List (Key × V)) (is : List Int), x = V.ref a ∧ H1 a = some (.dK kvs) ∧ kvs.map (·.2) = is.map V.int ∧ Q (.int is.sum) H1
theorem preSum_take (is : List Int) : ∀ n, n ≤ is.length → preSum (fun i => is.getD i 0) n = (is.take n).sum
  | 0, _ => rfl
  | n + 1, h => by
    have ih := preSum_take is n (by omega)
    show preSum (fun i => is.getD i 0) n + is.getD n 0 = _
    rw [ih, List.take_succ_eq_append_getElem (by omega), List.sum_append, List.getD_eq_getElem?_getD, List.getElem?_eq_getElem (by omega)]
    simp
section
variable {X : Cx} {o : Expr} {p pos apos mpos : Pos} {td : TE}
theorem pe_sumVals (hc : X.calm = true) (hd : PE X o td) (hm : X.mg "sum" = none) (hg : Gl X "sum" := by rfl) (hbase : attributeBase o "values" X.env (eval o X.env) = eval o X.env := by rfl) (hline : (apos.endLine == mpos.line) = true := by rfl)
    (hse : starEach [Expr.Call (.Attribute o "values" apos) [] [] mpos] X.env = [(false, eval (Expr.Call (.Attribute o "values" apos) [] [] mpos) X.env)] := by rfl) :
    PE X (.Call (.Name "sum" p) [.Call (.Attribute o "values" apos) [] [] mpos] [] pos) (tSumVals td) := by
  refine ⟨fun pins s σ H Q I h => ?_⟩
  refine wpAny_Call_Name_kw (ld_blt I hg hm (u := .builtin "sum") (by first | rfl | decide +kernel) ?_ (by first | decide +kernel | decide) (by first | decide +kernel | decide))
  rw [hse]
  refine PySem.callWith_builtin1 (wpAny_Call_method0_late hbase hline (thn (hd.run pins s σ H _ I h) fun v s1 ⟨x, H1, I1, r1, a, kvs, is, ex, ha, hv, q⟩ => ?_))
  subst ex
  obtain rfl : v = Value.ref a := r1
  obtain ⟨_, hsys, vs, rel, dof⟩ := dk_of I1.hok ha
  obtain ⟨ep, dat⟩ := dof.dictAt
  have dat' := dat
  obtain ⟨ob, es, ho, ex, hdat, hko, hpr, hnd⟩ := dat'
  refine ⟨"dict", "dict.values", F.plainAttrs_dict, F.slot_dict_values, F.type_dict_values, ⟨ob, ho, ex.1⟩, fun b e => ?_, Calls.callWith_builtin rfl (PySem.evalArgs_none ?_)⟩
  · cases e
    exact ⟨ob, ho, ex.2.1⟩
  refine call_meetsIn F.slot_dict_values ⟨ob, ho, ex.1⟩ F.entry_dict_values (F.args_dict_values_1 _) (meets_dict_values (mixKind X.prog X.w) a hsys) ⟨⟨vs, dof⟩, ?_⟩
  have k1 : ∀ b u, s1.heap.get? b = some u → (s1.heap.push { cls := .type "dict_values", data := .fields #[.ref a] }).get? b = some u := fun b u e => Heap.get?_push_of_some _ e
  have dat1 : (s1.heap.push { cls := .type "dict_values", data := .fields #[.ref a] }).DictAt (mixKind X.prog X.w) a vs ep := dat.keep k1
  have hlv : vs.length = is.length := by
    have e1 := congrArg List.length hv
    rw [List.length_map, List.length_map] at e1
    rw [← e1]
    exact (KV.length rel).symm
  have hval : ∀ (i : Nat) (v : Value), (∃ k, vs[i]? = some (k, v)) → ∃ t, v = Value.int (is.getD i 0) t := fun i v ⟨k, hk⟩ => by
    obtain ⟨x, h1, h2⟩ := KV.at' rel hk
    have e1 : (kvs.map (·.2))[i]? = some x := by rw [List.getElem?_map, h1] <;> rfl
    rw [hv, List.getElem?_map] at e1
    obtain ⟨j, hj, e2⟩ := Option.map_eq_some_iff.mp e1
    subst e2
    obtain ⟨t, e3⟩ := h2
    refine ⟨t, ?_⟩
    rw [e3, List.getD_eq_getElem?_getD, hj] <;> rfl
  refine call_sum_walkAnyS (wpAny_pyIter_values (v := s1.heap.objs.size) (d := a) ⟨_, Heap.get?_push_size _ rfl, rfl, rfl⟩ dat1 ?_)
  have hlt : a < s1.heap.objs.size := Heap.lt_size ho
  have hsz : (s1.heap.push { cls := .type "dict_values", data := .fields #[.ref a] }).objs.size = s1.heap.objs.size + 1 := Heap.size_push _ _
  refine ⟨_, _, _, _, _, _, _, fun i => is.getD i 0, rfl, (Walks.dictValues (knd := mixKind X.prog X.w) (A := X.A.in1) (I.ok.hd hc) (s1.heap.push { cls := .type "dict_values", data := .fields #[.ref a] }).objs.size a (by rw [hsz]; exact Nat.ne_of_lt (Nat.lt_succ_of_lt hlt)) vs ep).toS,
    ⟨⟨_, Heap.get?_push_size _ rfl, rfl, rfl⟩, dat1.keep fun b u e => Heap.get?_push_of_some _ e⟩, fun b hb => ?_, hval, fun s' t' hm => ?_⟩
  · show b < ((s1.heap.push _).push _).objs.size
    rw [Heap.size_push, Heap.size_push]
    rw [hsz] at hb
    rcases List.mem_cons.mp hb with e | hb
    · rw [e]
      exact Nat.lt_succ_self _
    · have e : b = a := List.mem_singleton.mp hb
      rw [e]
      exact Nat.lt_succ_of_lt (Nat.lt_succ_of_lt hlt)
  · rw [Moved.eq_with hm]
    refine ⟨.int _, H1, I1.kept (t' := s'.toks) fun b u e => hm.heap b u (fun hmem => ?_) (Heap.get?_push_of_some _ (k1 b u e)), ⟨t', rfl⟩, ?_⟩
    · have e1 : b = (s1.heap.push { cls := .type "dict_values", data := .fields #[.ref a] }).objs.size := List.mem_singleton.mp hmem
      have e2 := Heap.lt_size e
      rw [hsz] at e1
      rw [e1] at e2
      exact absurd e2 (Nat.not_lt.mpr (Nat.le_succ _))
    · rw [hlv, preSum_take is is.length (Nat.le_refl _), List.take_length]
      exact q
end
end Bd

namespace Bd
open PySem PySem.Spec PyProof.Rows L2 Evl
/-! ### a comprehension over a dict's keys -/
section
variable {K : PySem.W.Frag} {σ : L2.St} {H : Hp} {te : TE} {t : TT}
theorem rd_mono {H H' : Hp} {a : Addr} {u : HO} (e : Ex H H') (h : Rd H a u) : Rd H' a u := ex_rd e h
theorem el_keys {n j : Nat} {vs : List Nat} {d : Addr} {kvs : List (Key × V)} (hv : σ[n]? = some (some (.ref d))) (hd : H d = some (.dK kvs)) (f : Nat → Bool) (v : Nat → V) (hz : kvs.length ≤ 40000) (hw : ∀ x, wipe ((wipe σ vs).set j (some x)) vs = wipe σ vs)
    (ht : ∀ (i : Nat) (k : Key) (x : V) H1, Rd H1 d (.dK kvs) → kvs[i]? = some (k, x) → EvT t ((wipe σ vs).set j (some (kV k))) H1 (f i))
    (he : ∀ (i : Nat) (k : Key) (x : V) H1, Rd H1 d (.dK kvs) → kvs[i]? = some (k, x) → f i = true → Ev te ((wipe σ vs).set j (some (kV k))) H1 (v i))
    {Q : VK} (q : ∀ p H2, H p = none → Ex H H2 → H2 p = some (.lst (given kvs.length f v)) → Q (.ref p) H2) :
    tLockE (tLc (iKeys (tVar n)) (gName j) t te vs) σ H Q := by
  refine ⟨d, .dK kvs, hd, trivial, fun od => ⟨_, hv, d, od, rfl, .inl ⟨kvs, upd_same, fun D hD => ?_⟩⟩⟩
  have hfz : (upd H d (.frz od (.dK kvs))) d = some (.frz od (.dK kvs)) := upd_same
  have hDd : D ≠ d := fun z => by rw [z, hfz] at hD; cases hD
  have hHD : H D = none := by rw [upd_ne hDd] at hD; exact hD
  have back : ∀ H', Ex (upd H d (.frz od (.dK kvs))) H' → Ex H (upd H' d (.dK kvs)) := fun H' e a u ha => by
    by_cases c : a = d
    · rw [c, upd_same, ← hd, c.symm, ha]
    · rw [upd_ne c]
      exact e a u (by rw [upd_ne c]; exact ha)
  generalize upd H d (.frz od (.dK kvs)) = Hs at *
  refine ⟨fun i m H' => m = kvs.length - i ∧ i ≤ kvs.length ∧ Cw Hs f v D i H', ⟨_, rfl, Nat.zero_le _, hD, Ex.new hD, upd_same⟩, ?_⟩
  rintro i m H' ⟨rfl, hi, p⟩
  have hd' := p.2.1 _ _ hfz
  by_cases hlt : i < kvs.length
  · refine .inr ⟨⟨hd', hlt⟩, fun H2 => Cw Hs f v D (i + 1) H2, fun H2 p2 => ⟨_, by omega, rfl, hlt, p2⟩, fun x H2 y => ?_⟩
    obtain ⟨rfl, k, x1, hk, rfl⟩ := y
    exact ⟨hw _, cw_turn p (by omega) (ht i k x1 Hs (.inr ⟨od, hfz⟩) hk) fun hf => he i k x1 Hs (.inr ⟨od, hfz⟩) hk hf⟩
  · have : i = kvs.length := by omega
    subst this
    refine .inl ⟨⟨hd', Nat.le_refl _⟩, hd', ?_⟩
    refine q D _ hHD (back H' p.2.1) ?_
    rw [upd_ne hDd]
    exact p.2.2
end
/-! ### the counts -/
def divs (n : Nat) : List Nat := ((List.range n).filter fun i => decide (n % (i + 1) = 0)).map (· + 1)
def shorter (acc : List (Nat × Int)) (d : Nat) : Int := ((acc.filter fun p => decide (d % p.1 = 0)).map fun p => (p.1 : Int) * p.2).sum
def pbStep (c : Nat) (acc : List (Nat × Int)) (d : Nat) : List (Nat × Int) := acc ++ [(d, (((c ^ d : Nat) : Int) - shorter acc d) / (d : Int))]
def pbL (n c : Nat) : List (Nat × Int) := (divs n).foldl (pbStep c) []
def mPrimes (n c : Nat) : Int := (((pbL n c).find? fun p => decide (p.1 = n)).map (·.2)).getD 0
def mRings (n c : Nat) : Int := ((pbL n c).map (·.2)).sum
def mOwn (n c : Nat) : Int := if n % 2 = 1 then ((c ^ (n / 2 + 1) : Nat) : Int) else (((c ^ (n / 2) : Nat) : Int) + ((c ^ (n / 2 + 1) : Nat) : Int)) / 2
def mMirr (n c : Nat) : Int := (mRings n c + mOwn n c) / 2
def told (n c : Nat) : List Int := [mRings n c, mPrimes n c, mMirr n c, mOwn n c]
def kvOf (acc : List (Nat × Int)) : List (Key × V) := acc.map fun p => (.inl (p.1 : Int), .int p.2)
def amongB (v : V) (lo hi : Int) : Bool := match v with
  | .int n => decide (lo ≤ n) && decide (n ≤ hi)
  | _ => false
def sizesB (v u : V) : Bool := amongB v 1 60 && amongB u 1 8
theorem among_nat {v : V} {hi : Nat} (h : amongB v 1 (hi : Int) = true) : ∃ n : Nat, v = .int (n : Int) ∧ 1 ≤ n ∧ n ≤ hi := by
  cases v with
  | int i =>
    simp only [amongB, Bool.and_eq_true, decide_eq_true_eq] at h
    exact ⟨i.toNat, by rw [Int.toNat_of_nonneg (by omega)], by omega, by omega⟩
  | _ => cases h
theorem sizes_nat {v u : V} (h : sizesB v u = true) : ∃ n c : Nat, v = .int (n : Int) ∧ u = .int (c : Int) ∧ 1 ≤ n ∧ n ≤ 60 ∧ 1 ≤ c ∧ c ≤ 8 := by
  unfold sizesB at h
  rw [Bool.and_eq_true] at h
  obtain ⟨n, h1, h2, h3⟩ := among_nat (hi := 60) h.1
  obtain ⟨c, h4, h5, h6⟩ := among_nat (hi := 8) h.2
  exact ⟨n, c, h1, h4, h2, h3, h5, h6⟩
theorem sizes_of {n c : Nat} (h1 : 1 ≤ n) (h2 : n ≤ 60) (h3 : 1 ≤ c) (h4 : c ≤ 8) : sizesB (.int (n : Int)) (.int (c : Int)) = true := by
  simp only [sizesB, amongB, Bool.and_eq_true, decide_eq_true_eq]
  omega
def sp_need_among (K : PySem.W.Frag) : Sp := fun vs H Q E => ∃ v lo hi, vs = [v, .int lo, .int hi] ∧ Thing H v ∧ (amongB v lo hi = true → ∀ H', Ex H H' → Q .non H') ∧ (amongB v lo hi = false → ∀ H', Ex H H' → E (badN K) none H')
def sp_need_sizes (K : PySem.W.Frag) : Sp := fun vs H Q E => ∃ v u, vs = [v, u] ∧ Thing H v ∧ Thing H u ∧ (sizesB v u = true → ∀ H', Ex H H' → Q .non H') ∧ (sizesB v u = false → ∀ H', Ex H H' → E (badN K) none H')
def sp_divisors (_ : PySem.W.Frag) : Sp := fun vs H Q _ => ∃ n : Nat, vs = [.int (n : Int)] ∧ n ≤ 60 ∧ ∀ p H', H p = none → Ex H H' → H' p = some (.lst ((divs n).map fun d : Nat => V.int (d : Int))) → Q (.ref p) H'
def sp_power (_ : PySem.W.Frag) : Sp := fun vs H Q _ => ∃ c t : Nat, vs = [.int (c : Int), .int (t : Int)] ∧ c ≤ 1000 ∧ t ≤ 100 ∧ ∀ H', Ex H H' → Q (.int ((c ^ t : Nat) : Int)) H'
def sp_primes_by (_ : PySem.W.Frag) : Sp := fun vs H Q _ => ∃ n c : Nat, vs = [.int (n : Int), .int (c : Int)] ∧ 1 ≤ n ∧ n ≤ 60 ∧ c ≤ 8 ∧ ∀ p H', H p = none → Ex H H' → H' p = some (.dK (kvOf (pbL n c))) → Q (.ref p) H'
/-- a number of a size, or a refusal -/
def sp_count (m : Nat → Nat → Int) (K : PySem.W.Frag) : Sp := fun vs H Q E => ∃ v u, vs = [v, u] ∧ Thing H v ∧ Thing H u ∧
  (∀ n c : Nat, v = .int (n : Int) → u = .int (c : Int) → 1 ≤ n → n ≤ 60 → 1 ≤ c → c ≤ 8 → ∀ H', Ex H H' → Q (.int (m n c)) H') ∧ (sizesB v u = false → ∀ H', Ex H H' → E (badN K) none H')
def sp_many_primes (K : PySem.W.Frag) : Sp := sp_count mPrimes K
def sp_many_rings (K : PySem.W.Frag) : Sp := sp_count mRings K
def sp_many_own (K : PySem.W.Frag) : Sp := sp_count mOwn K
def sp_many_mirrored (K : PySem.W.Frag) : Sp := sp_count mMirr K
theorem divs_le (n : Nat) : (divs n).length ≤ n := by
  unfold divs
  rw [List.length_map]
  have := List.length_filter_le (fun i => decide (n % (i + 1) = 0)) (List.range n)
  rw [List.length_range] at this
  exact this
theorem divs_mem {n d : Nat} : d ∈ divs n ↔ 1 ≤ d ∧ d ≤ n ∧ n % d = 0 := by
  unfold divs
  rw [List.mem_map]
  constructor
  · rintro ⟨i, hi, rfl⟩
    rw [List.mem_filter, decide_eq_true_eq] at hi
    have := List.mem_range.mp hi.1
    exact ⟨by omega, by omega, hi.2⟩
  · rintro ⟨h1, h2, h3⟩
    exact ⟨d - 1, List.mem_filter.mpr ⟨List.mem_range.mpr (by omega), by rw [show d - 1 + 1 = d by omega]; exact decide_eq_true h3⟩, by omega⟩
theorem divs_nodup (n : Nat) : (divs n).Nodup := by
  unfold divs
  refine List.pairwise_map.mpr (List.Pairwise.imp (fun h => fun z => h (Nat.succ.inj z)) (List.Pairwise.sublist List.filter_sublist List.nodup_range))
theorem pb_keys (c : Nat) : ∀ (ds : List Nat) (acc : List (Nat × Int)), (ds.foldl (pbStep c) acc).map (·.1) = acc.map (·.1) ++ ds
  | [], acc => by simp
  | d :: ds, acc => by
    rw [List.foldl_cons, pb_keys c ds]
    unfold pbStep
    simp
theorem kv_keys (acc : List (Nat × Int)) : (kvOf acc).map (·.1) = acc.map fun p => (Sum.inl (p.1 : Int) : Key) := by
  unfold kvOf
  rw [List.map_map]
  rfl
theorem valV_kv (acc : List (Nat × Int)) (d : Nat) : valV (kvOf acc) (.inl (d : Int)) = (acc.find? fun p => decide (p.1 = d)).map fun p => .int p.2 := by
  unfold valV kvOf
  rw [List.find?_map]
  have e : ((fun kv : Key × V => decide (kv.1 = Sum.inl (d : Int))) ∘ fun p : Nat × Int => ((Sum.inl (p.1 : Int) : Key), V.int p.2)) = fun p => decide (p.1 = d) := by
    funext p
    refine decide_eq_decide.mpr ⟨fun h => ?_, fun h => ?_⟩
    · have := Sum.inl.inj h
      exact Int.ofNat.inj this
    · exact congrArg (fun z : Nat => (Sum.inl (z : Int) : Key)) h
  rw [e, Option.map_map]
  rfl
theorem valV_at {acc : List (Nat × Int)} (nd : (acc.map (·.1)).Nodup) {i : Nat} {p : Nat × Int} (h : acc[i]? = some p) : valV (kvOf acc) (.inl (p.1 : Int)) = some (.int p.2) := by
  rw [valV_kv]
  have : acc.find? (fun q => decide (q.1 = p.1)) = some p := by
    induction acc generalizing i with
    | nil => cases h
    | cons a acc ih =>
      rw [List.find?_cons]
      rw [List.map_cons] at nd
      have nd' := List.nodup_cons.mp nd
      cases i with
      | zero =>
        have := Option.some.inj h
        subst this
        rw [decide_eq_true rfl]
      | succ i =>
        have hm : p ∈ acc := List.mem_of_getElem? h
        have hne : ¬ a.1 = p.1 := fun z => nd'.1 (by rw [z]; exact List.mem_map.mpr ⟨p, hm, rfl⟩)
        rw [decide_eq_false hne]
        exact ih nd'.2 h
  rw [this]
  rfl
theorem valV_no {acc : List (Nat × Int)} {d : Nat} (h : d ∉ acc.map (·.1)) : valV (kvOf acc) (.inl (d : Int)) = none := by
  rw [valV_kv, List.find?_eq_none.mpr]
  · rfl
  · intro p hp z
    exact h (List.mem_map.mpr ⟨p, hp, of_decide_eq_true z⟩)
theorem kv_put {acc : List (Nat × Int)} {d : Nat} {x : Int} (h : d ∉ acc.map (·.1)) : putK (kvOf acc) (.inl (d : Int)) (.int x) = kvOf (acc ++ [(d, x)]) := by
  rw [putK_new _ (valV_no h)]
  unfold kvOf
  rw [List.map_append]
  rfl
theorem kv_len (acc : List (Nat × Int)) : (kvOf acc).length = acc.length := by unfold kvOf; rw [List.length_map]
theorem kv_at {acc : List (Nat × Int)} {i : Nat} {k : Key} {x : V} (h : (kvOf acc)[i]? = some (k, x)) : ∃ p, acc[i]? = some p ∧ k = .inl (p.1 : Int) ∧ x = .int p.2 := by
  unfold kvOf at h
  rw [List.getElem?_map] at h
  obtain ⟨p, hp, e⟩ := Option.map_eq_some_iff.mp h
  exact ⟨p, hp, (Prod.mk.inj e).1.symm, (Prod.mk.inj e).2.symm⟩
theorem sum_given {acc : List (Nat × Int)} {d : Nat} : (given acc.length (fun i => decide (d % (acc.getD i (0, 0)).1 = 0)) (fun i => V.int (((acc.getD i (0, 0)).1 : Int) * (acc.getD i (0, 0)).2))) = (((acc.filter fun p => decide (d % p.1 = 0)).map fun p => (p.1 : Int) * p.2)).map V.int := by
  have : ∀ n, n ≤ acc.length → given n (fun i => decide (d % (acc.getD i (0, 0)).1 = 0)) (fun i => V.int (((acc.getD i (0, 0)).1 : Int) * (acc.getD i (0, 0)).2)) = ((((acc.take n).filter fun p => decide (d % p.1 = 0)).map fun p => (p.1 : Int) * p.2)).map V.int := by
    intro n
    induction n with
    | zero => intro _; rfl
    | succ n ih =>
      intro hn
      have hg : acc.getD n (0, 0) = acc[n] := by rw [List.getD_eq_getElem?_getD, List.getElem?_eq_getElem (by omega)]; rfl
      rw [List.take_succ_eq_append_getElem (by omega), List.filter_append, List.map_append, List.map_append, ← ih (by omega)]
      by_cases c : d % acc[n].1 = 0
      · rw [given_yes (by rw [hg]; exact decide_eq_true c), hg, List.filter_cons, decide_eq_true c]
        rfl
      · rw [given_no (by rw [hg]; exact decide_eq_false c), List.filter_cons, decide_eq_false c]
        simp
  rw [this acc.length (Nat.le_refl _), List.take_length]
theorem mRings_sum (n c : Nat) : (kvOf (pbL n c)).map (·.2) = ((pbL n c).map (·.2)).map V.int := by
  unfold kvOf
  rw [List.map_map, List.map_map]
  rfl
theorem mPrimes_get {n c : Nat} (h : 1 ≤ n) : valV (kvOf (pbL n c)) (.inl (n : Int)) = some (.int (mPrimes n c)) := by
  rw [valV_kv]
  unfold mPrimes
  cases e : (pbL n c).find? fun p => decide (p.1 = n) with
  | some p => rfl
  | none =>
    exfalso
    have hk := pb_keys c (divs n) []
    have hm : n ∈ (pbL n c).map (·.1) := by
      unfold pbL
      rw [hk]
      exact divs_mem.mpr ⟨h, Nat.le_refl _, Nat.mod_self n⟩
    obtain ⟨p, hp, hpn⟩ := List.mem_map.mp hm
    have := List.find?_eq_none.mp e p hp
    rw [decide_eq_true hpn] at this
    exact this rfl
end Bd

namespace Bd
open PySem PySem.Spec PyProof.Rows L2 Evl
/-! ### promises: k06's law -/
def lettersN (c : Nat) : List Nat := (List.range c).map (97 + ·)
def allW (c : Nat) : Nat → List (List Nat)
  | 0 => [[]]
  | n + 1 => (allW c n).flatMap fun w => (lettersN c).map fun a => w ++ [a]
theorem lettersN_len (c : Nat) : (lettersN c).length = c := by simp [lettersN]
theorem flat_const {α β : Type} {f : α → List β} {m : Nat} (h : ∀ x, (f x).length = m) : ∀ l : List α, (l.flatMap f).length = l.length * m
  | [] => by simp
  | x :: l => by rw [List.flatMap_cons, List.length_append, flat_const h l, h, List.length_cons, Nat.add_mul, Nat.one_mul]; omega
theorem allW_len (c : Nat) : ∀ n, (allW c n).length = c ^ n
  | 0 => rfl
  | n + 1 => by
    show ((allW c n).flatMap fun w => (lettersN c).map fun a => w ++ [a]).length = _
    rw [flat_const (m := c) (fun w => by rw [List.length_map, lettersN_len]), allW_len c n, Nat.pow_succ]
theorem allW_word (c : Nat) (hc : c ≤ 8) : ∀ n, ∀ w ∈ allW c n, w.length = n ∧ ∀ x ∈ w, 97 ≤ x ∧ x ≤ 104
  | 0, w, h => by
    rw [List.mem_singleton.mp h]
    exact ⟨rfl, fun _ h => nomatch h⟩
  | n + 1, w, h => by
    obtain ⟨v, hv, hw⟩ := List.mem_flatMap.mp h
    obtain ⟨a, ha, rfl⟩ := List.mem_map.mp hw
    obtain ⟨h1, h2⟩ := allW_word c hc n v hv
    refine ⟨by rw [List.length_append, h1]; rfl, fun x hx => ?_⟩
    rcases List.mem_append.mp hx with hx | hx
    · exact h2 x hx
    · rw [List.mem_singleton.mp hx]
      obtain ⟨i, hi, rfl⟩ := List.mem_map.mp ha
      have := List.mem_range.mp hi
      omega
theorem allW_isW {c n : Nat} (hc : c ≤ 8) (h1 : 1 ≤ n) (h2 : n ≤ 60) : ∀ w ∈ allW c n, IsW w := fun w hw => by
  obtain ⟨h3, h4⟩ := allW_word c hc n w hw
  exact IsW.mk (by omega) (by omega) h4
def sp__law_all_words (_ : PySem.W.Frag) : Sp := fun vs H Q _ => ∃ n c : Nat, vs = [.int (n : Int), .int (c : Int)] ∧ n ≤ 60 ∧ 1 ≤ c ∧ c ≤ 8 ∧ c ^ n ≤ 5000 ∧ ∀ p H', H p = none → Ex H H' → H' p = some (.lst ((allW c n).map vS)) → Q (.ref p) H'
def sp__law_power (K : PySem.W.Frag) : Sp := sp_power K
def sizes20 : List (Nat × Nat) := [(1, 1), (1, 8), (2, 5), (3, 4), (4, 3), (5, 2), (6, 2), (7, 2), (8, 2), (9, 2), (10, 2), (3, 8), (4, 5), (5, 3), (6, 3), (2, 8), (12, 1), (60, 1), (5, 4), (3, 7)]
def sp_k06_sizes (_ : PySem.W.Frag) : Sp := fun vs H Q _ => ∃ k : Int, vs = [.int k] ∧ ∀ n c T H', (n, c) ∈ sizes20 → Ex H H' → H' T = some (.tup [.int ((n : Nat) : Int), .int ((c : Nat) : Int)]) → Q (.ref T) H'
def someW (n c : Nat) : List (List Nat) := (allW c n).filter fun w => decide (ringW w = w)
def counted (n c : Nat) : List Int := [((someW n c).length : Int), (((someW n c).filter fun w => decide (∀ k, k < n - 1 → turn w (k + 1) ≠ w)).length : Int),
  (((someW n c).filter fun w => !decide (ringW w.reverse < w)).length : Int), (((someW n c).filter fun w => decide (ringW w.reverse = w)).length : Int)]
def sp__law_counted (_ : PySem.W.Frag) : Sp := fun vs H Q _ => ∃ n c : Nat, vs = [.int (n : Int), .int (c : Int)] ∧ 1 ≤ n ∧ n ≤ 60 ∧ 1 ≤ c ∧ c ≤ 8 ∧ c ^ n ≤ 5000 ∧ ∀ p H', H p = none → Ex H H' → H' p = some (.lst ((counted n c).map V.int)) → Q (.ref p) H'
def sp__law_told (_ : PySem.W.Frag) : Sp := fun vs H Q _ => ∃ n c : Nat, vs = [.int (n : Int), .int (c : Int)] ∧ 1 ≤ n ∧ n ≤ 60 ∧ 1 ≤ c ∧ c ≤ 8 ∧ ∀ p H', H p = none → Ex H H' → H' p = some (.lst ((told n c).map V.int)) → Q (.ref p) H'
def sp__law_common (_ : PySem.W.Frag) : Sp := fun vs H Q _ => ∃ a b : Nat, vs = [.int (a : Int), .int (b : Int)] ∧ b ≤ 1000 ∧ ∀ H', Ex H H' → Q (.int ((Nat.gcd a b : Nat) : Int)) H'
def phiN (d : Nat) : Nat := ((List.range d).filter fun k => decide (Nat.gcd (k + 1) d = 1)).length
def sumTo (n c : Nat) : Nat → Int
  | 0 => 0
  | i + 1 => if n % (i + 1) = 0 then sumTo n c i + (phiN (i + 1) : Int) * ((c ^ (n / (i + 1)) : Nat) : Int) else sumTo n c i
def lawSum (n c : Nat) : Int := sumTo n c n / (n : Int)
def sp__law_sum (_ : PySem.W.Frag) : Sp := fun vs H Q _ => ∃ n c : Nat, vs = [.int (n : Int), .int (c : Int)] ∧ 1 ≤ n ∧ n ≤ 60 ∧ 1 ≤ c ∧ c ≤ 8 ∧ ∀ H', Ex H H' → Q (.int (lawSum n c)) H'
def greatB (n c : Nat) : Bool := decide (mRings n c = lawSum n c) && decide (((divs n).map fun d => mPrimes d c).sum = mRings n c) && decide (2 * mMirr n c = mRings n c + mOwn n c) && decide (2 * mOwn n c = ((c ^ (n / 2 + 1) : Nat) : Int) + ((c ^ ((n + 1) / 2) : Nat) : Int))
def sp__law_great_right (_ : PySem.W.Frag) : Sp := fun vs H Q _ => ∃ n c : Nat, vs = [.int (n : Int), .int (c : Int)] ∧ 1 ≤ n ∧ n ≤ 60 ∧ 1 ≤ c ∧ c ≤ 8 ∧ greatB n c = true ∧ ∀ H', Ex H H' → Q (.bl true) H'
def sp_k06_refused (_ : PySem.W.Frag) : Sp := fun vs H Q _ => ∃ (w : Int) (v u : V), vs = [.int w, v, u] ∧ Thing H v ∧ Thing H u ∧ sizesB v u = false ∧ ∀ H', Ex H H' → Q (.bl true) H'
section
variable {K : PySem.W.Frag} {σ : L2.St} {H : Hp} {t : TT}
/-- [w for w in ws if p(w)] -/
theorem lc_filterW {tl : TE} {j : Nat} {vs : List Nat} (ws : List (List Nat)) (p : List Nat → Bool) (src : ∀ R : VK, (∀ a H1, Ex H H1 → SqL K H1 a (ws.map vS) → R (.ref a) H1) → tl σ H R) (hz : ws.length ≤ 40000) (hw : ∀ x, wipe ((wipe σ vs).set j (some x)) vs = wipe σ vs)
    (hj : ∀ x : Option V, ((wipe σ vs).set j x)[j]? = some x) (ht : ∀ w ∈ ws, ∀ H1, Ex H H1 → EvT t ((wipe σ vs).set j (some (vS w))) H1 (p w))
    {Q : VK} (q : ∀ D H2, H D = none → Ex H H2 → H2 D = some (.lst ((ws.filter p).map vS)) → Q (.ref D) H2) :
    tLc (iList K tl) (gName j) t (tVar j) vs σ H Q := src _ fun a H1 e1 hx => ⟨a, rfl, ⟨_, hx⟩, fun D hD =>
  lc_list (xs := ws.map vS) (fun i H' => Ex H1 H' ∧ H' D = some (.lst (((ws.take i).filter p).map vS))) ⟨Ex.new hD, upd_same⟩ (fun i H' _ w => ex_l w.1 hx) (fun i x H' hi w => by
    obtain ⟨e2, hd⟩ := w
    rw [List.getElem?_map] at hi
    obtain ⟨u, hu, rfl⟩ := Option.map_eq_some_iff.mp hi
    obtain ⟨hk, rfl⟩ := List.getElem?_eq_some_iff.mp hu
    refine ⟨hw _, ht _ (List.getElem_mem hk) H1 e1 H' e2 _ fun H3 e3 => ?_⟩
    have e5 : ws.take (i + 1) = ws.take i ++ [ws[i]] := List.take_succ_eq_append_getElem hk
    rw [e5, List.filter_append]
    have hl : ((ws.take i).filter p).length ≤ i := by
      have := List.length_filter_le p (ws.take i)
      rw [List.length_take] at this
      omega
    cases hp : p ws[i] with
    | true =>
      refine iteT ⟨_, hj _, _, e3 _ _ hd, szlt (by rw [List.length_map]; omega), (e2.trans e3).mut hD, ?_⟩
      rw [upd_same, List.map_append, show [ws[i]].filter p = [ws[i]] by rw [List.filter_cons, hp]; rfl]
      rfl
    | false =>
      refine iteF ⟨e2.trans e3, ?_⟩
      rw [show [ws[i]].filter p = [] by rw [List.filter_cons, hp]; rfl, List.append_nil]
      exact e3 _ _ hd) (fun H' w => by
    rw [List.length_map, List.take_length] at w
    exact q D H' (fresh_back e1 hD) (e1.trans w.1) w.2)⟩
end
/-- the number in slot k -/
def natAt (k : Nat) (σ : L2.St) : Nat := match σ[k]? with
  | some (some (.int j)) => j.toNat
  | _ => 0
theorem letters_take : ∀ c, c ≤ 8 → ([97, 98, 99, 100, 101, 102, 103, 104] : List Nat).take c = lettersN c := by decide
theorem given_letters (v : List Nat) (c : Nat) : given (lettersN c).length (fun _ => true) (fun i => vS (v ++ [(lettersN c).getD i 0])) = ((lettersN c).map fun a => v ++ [a]).map vS := by
  rw [given_all, List.map_map]
  refine List.ext_getElem (by simp) fun i h1 h2 => ?_
  have h3 : i < (lettersN c).length := by simpa using h2
  simp [List.getElem?_eq_getElem h3]
theorem dpAll_I {K : PySem.W.Frag} {H : Hp} : ∀ ns : List Int, DpAll K H (ns.map V.int) (ns.map PyData.int)
  | [] => .nil
  | n :: ns => .cons (.int n) (dpAll_I ns)
theorem lay_I : ∀ ns : List Int, PyData.canLayAll0 (ns.map PyData.int) = true ∧ PyData.depthAll (ns.map PyData.int) = 0
  | [] => ⟨rfl, rfl⟩
  | n :: ns => ⟨by show (true && PyData.canLayAll0 (ns.map PyData.int)) = true; rw [(lay_I ns).1]; rfl, by show max 0 (PyData.depthAll (ns.map PyData.int)) = 0; rw [(lay_I ns).2]; rfl⟩
theorem shaped_I (ns : List Int) : SeqAt.shaped (.list (ns.map PyData.int)) = true := by
  unfold SeqAt.shaped
  simp only [PyData.canLay0, PyData.depth, (lay_I ns).1, (lay_I ns).2]
  decide
theorem eqv_nil (xs : List PyData) : PyData.eqv (.list xs) (.list []) = decide (xs = []) := by
  cases xs with
  | nil => rfl
  | cons x xs => simp [PyData.eqv, PyData.eqvAll]
/-- == of a list of ints and an empty one -/
theorem eqD_I {K : PySem.W.Frag} {H : Hp} {a b : Addr} {ns : List Int} {Q : VK} (h1 : SqL K H a (ns.map V.int)) (h2 : SqL K H b []) (q : Q (.bl (decide (ns = []))) H) : rEqD K (.ref a) (.ref b) H Q := by
  refine ⟨_, _, .lst h1 (dpAll_I ns), .lst h2 .nil, shaped_I ns, by decide, ?_⟩
  rw [eqv_nil]
  have : decide (ns.map PyData.int = []) = decide (ns = []) := decide_eq_decide.mpr (by rw [List.map_eq_nil_iff])
  rw [this]
  exact q
theorem neD_I {K : PySem.W.Frag} {H : Hp} {a b : Addr} {ns : List Int} {Q : VK} (h1 : SqL K H a (ns.map V.int)) (h2 : SqL K H b []) (q : Q (.bl (!decide (ns = []))) H) : rNeD K (.ref a) (.ref b) H Q := by
  refine ⟨_, _, .lst h1 (dpAll_I ns), .lst h2 .nil, shaped_I ns, by decide, ?_⟩
  rw [eqv_nil]
  have : decide (ns.map PyData.int = []) = decide (ns = []) := decide_eq_decide.mpr (by rw [List.map_eq_nil_iff])
  rw [this]
  exact q
theorem given_I (n : Nat) (f : Nat → Bool) (g : Nat → Int) : given n f (fun i => V.int (g i)) = (((List.range n).filter f).map g).map V.int := by
  unfold given
  rw [List.map_map]
  rfl
theorem filt_nil (n : Nat) (f : Nat → Bool) (g : Nat → Int) : decide ((((List.range n).filter f).map g) = []) = decide (∀ k, k < n → f k = false) := by
  refine decide_eq_decide.mpr ?_
  rw [List.map_eq_nil_iff, List.filter_eq_nil_iff]
  exact ⟨fun h k hk => Bool.eq_false_iff.mpr (h k (List.mem_range.mpr hk)), fun h k hk => Bool.eq_false_iff.mp (h k (List.mem_range.mp hk))⟩
theorem sumTo_yes {n c i : Nat} (h : n % (i + 1) = 0) : sumTo n c (i + 1) = sumTo n c i + (phiN (i + 1) : Int) * ((c ^ (n / (i + 1)) : Nat) : Int) := by
  rw [sumTo, if_pos h]
theorem sumTo_no {n c i : Nat} (h : ¬ n % (i + 1) = 0) : sumTo n c (i + 1) = sumTo n c i := by
  rw [sumTo, if_neg h]
theorem phiN_le (d : Nat) : phiN d ≤ d := by
  unfold phiN
  have := List.length_filter_le (fun k => decide (Nat.gcd (k + 1) d = 1)) (List.range d)
  rw [List.length_range] at this
  exact this
theorem log_small {n : Nat} (h : n ≤ 5000) : n.log2 < 13 := by
  by_cases c : n = 0
  · subst c; decide
  · exact (Nat.log2_lt c).mpr (Nat.lt_of_le_of_lt h (by decide))
theorem showAll_I : ∀ ns : List Int, (∀ x ∈ ns, x.natAbs ≤ 5000) → PyData.showableAll (ns.map PyData.int) = true ∧ PyData.hasDictAll (ns.map PyData.int) = false ∧ PyData.leavesShortAll 5002 (ns.map PyData.int) = true ∧ PyData.weightAll (ns.map PyData.int) ≤ 15 * ns.length
  | [], _ => ⟨rfl, rfl, rfl, Nat.le_refl _⟩
  | n :: ns, h => by
    obtain ⟨h1, h2, h3, h4⟩ := showAll_I ns fun x hx => h x (.tail _ hx)
    have hn := h n (.head _)
    have hl := log_small hn
    have hs : (PyData.shown (.int n)).length ≤ 5002 := by
      have := len_str_of_int n
      have e : (PyData.shown (.int n)) = Str.ofString (toString n) := by simp only [PyData.shown]
      rw [e]
      omega
    refine ⟨?_, ?_, ?_, ?_⟩
    · show (decide (n.natAbs.log2 < 1920) && PyData.showableAll (ns.map PyData.int)) = true
      rw [decide_eq_true (by omega), h1]; rfl
    · show (false || PyData.hasDictAll (ns.map PyData.int)) = false
      rw [h2]; rfl
    · show (decide ((PyData.shown (.int n)).length ≤ 5002) && PyData.leavesShortAll 5002 (ns.map PyData.int)) = true
      rw [decide_eq_true hs, h3]; rfl
    · show (if n == 0 then 0 else n.natAbs.log2 + 1) + 1 + PyData.weightAll (ns.map PyData.int) ≤ 15 * (ns.length + 1)
      split <;> omega
theorem reprL_I {K : PySem.W.Frag} {H : Hp} {a : Addr} {ns : List Int} {Q : VK} (h : SqL K H a (ns.map V.int)) (hs : ∀ x ∈ ns, x.natAbs ≤ 5000) (hn : ns.length ≤ 100) (q : Q (.str (PyData.list (ns.map PyData.int)).shown) H) : rReprL K [.ref a] H Q := by
  obtain ⟨h1, h2, h3, h4⟩ := showAll_I ns hs
  refine ⟨a, _, rfl, .lst h (dpAll_I ns), by simp only [PyData.showable]; exact h1, by simp only [PyData.hasDict]; exact h2, by simp only [PyData.depth, (lay_I ns).2]; omega, ?_, q⟩
  have := PyData.shown_le 5002 (by decide) (.list (ns.map PyData.int)) (by simp only [PyData.leavesShort]; exact h3)
  simp only [PyData.weight] at this
  rw [sizeLine_eq]
  have h5 : (5002 + 2) * PyData.weightAll (ns.map PyData.int) ≤ 5004 * 1500 := Nat.mul_le_mul_left _ (by omega)
  omega
end Bd

namespace Bd
open PySem PySem.Spec PyProof.Rows L2 Evl
/-! ### primes (Lyndon words) -/
abbrev gt (l : List Nat) (x : Nat) : Nat := l.getD x 0
theorem gt_some {l : List Nat} {x : Nat} (h : x < l.length) : l[x]? = some (gt l x) := by
  unfold gt
  rw [List.getD_eq_getElem?_getD, List.getElem?_eq_getElem h]; rfl
theorem gt_elem {l : List Nat} {x : Nat} (h : x < l.length) : gt l x = l[x] := by
  have := gt_some h
  rw [List.getElem?_eq_getElem h] at this
  exact (Option.some.inj this).symm
theorem gt_drop (l : List Nat) (r y : Nat) : gt (l.drop r) y = gt l (r + y) := by
  unfold gt
  rw [List.getD_eq_getElem?_getD, List.getD_eq_getElem?_getD, List.getElem?_drop]
theorem gt_take {l : List Nat} {n y : Nat} (h : y < n) : gt (l.take n) y = gt l y := by
  unfold gt
  rw [List.getD_eq_getElem?_getD, List.getD_eq_getElem?_getD, List.getElem?_take_of_lt h]
theorem gt_appL {l m : List Nat} {y : Nat} (h : y < l.length) : gt (l ++ m) y = gt l y := by
  unfold gt
  rw [List.getD_eq_getElem?_getD, List.getD_eq_getElem?_getD, List.getElem?_append_left h]
theorem lt_at {l m : List Nat} {t : Nat} (hl : t < l.length) (hm : t < m.length) (h1 : ∀ y, y < t → gt l y = gt m y) (h2 : gt l t < gt m t) : l < m :=
  List.lt_iff_exists.mpr (.inr ⟨t, hl, hm, fun y hy => by
    have := h1 y hy
    rw [gt_elem (by omega), gt_elem (by omega)] at this
    exact this, by rw [gt_elem hl, gt_elem hm] at h2; exact h2⟩)
theorem of_lt {l m : List Nat} (h : l < m) (hn : m.length ≤ l.length) : ∃ t, t < m.length ∧ (∀ y, y < t → gt l y = gt m y) ∧ gt l t < gt m t := by
  rcases List.lt_iff_exists.mp h with ⟨_, h2⟩ | ⟨t, h1, h2, h3, h4⟩
  · omega
  · exact ⟨t, h2, fun y hy => by rw [gt_elem (by omega), gt_elem (by omega)]; exact h3 y hy, by rw [gt_elem h1, gt_elem h2]; exact h4⟩
theorem take_le (l : List Nat) (n : Nat) : l.take n ≤ l := (List.take_prefix n l).le
theorem app_le (l m : List Nat) : l ≤ l ++ m := (List.prefix_append l m).le
theorem nlt {l m : List Nat} (h : l ≤ m) (g : m < l) : False := h g
theorem lt_le_trans {a b c : List Nat} (h : a < b) (g : b ≤ c) : a < c := Decidable.byContradiction fun z => List.le_trans g (List.not_lt.mp z) h
structure Lyn (l : List Nat) : Prop where
  ne : l ≠ []
  at_ : ∀ r, 0 < r → r < l.length → ∃ t, r + t < l.length ∧ (∀ y, y < t → gt l y = gt l (r + y)) ∧ gt l t < gt l (r + t)
def Prm (l : List Nat) : Prop := ∀ k, 1 ≤ k → k < l.length → l < turn l k
theorem Lyn.suffix {l : List Nat} (h : Lyn l) {r : Nat} (h0 : 0 < r) (hr : r < l.length) : l < l.drop r := by
  obtain ⟨t, h1, h2, h3⟩ := h.at_ r h0 hr
  exact lt_at (t := t) (by omega) (by rw [List.length_drop]; omega) (fun y hy => by rw [gt_drop]; exact h2 y hy) (by rw [gt_drop]; exact h3)
theorem Lyn.prm {l : List Nat} (h : Lyn l) : Prm l := fun k h0 hk => by
  obtain ⟨t, h1, h2, h3⟩ := h.at_ k h0 hk
  unfold turn
  exact lt_at (t := t) (by omega) (by rw [List.length_append, List.length_drop]; omega) (fun y hy => by rw [gt_appL (by rw [List.length_drop]; omega), gt_drop]; exact h2 y hy)
    (by rw [gt_appL (by rw [List.length_drop]; omega), gt_drop]; exact h3)
theorem app_lt_left {a b c : List Nat} : a ++ b < a ++ c ↔ b < c := by
  induction a with
  | nil => rfl
  | cons x a ih => rw [List.cons_append, List.cons_append, List.cons_lt_cons_self]; exact ih
theorem app_lt_right {a b c d : List Nat} (hl : a.length = b.length) (h : a ++ c < b ++ d) (hc : c = d) : a < b := by
  induction a generalizing b with
  | nil =>
    cases b with
    | nil => rw [hc] at h; exact absurd h (List.lt_irrefl _)
    | cons y b => simp at hl
  | cons x a ih =>
    cases b with
    | nil => simp at hl
    | cons y b =>
      rw [List.cons_append, List.cons_append] at h
      rcases List.cons_lt_cons_iff.mp h with h1 | ⟨h1, h2⟩
      · exact List.cons_lt_cons_iff.mpr (.inl h1)
      · exact List.cons_lt_cons_iff.mpr (.inr ⟨h1, ih (by simpa using hl) h2⟩)
theorem Prm.lyn {l : List Nat} (h : Prm l) (ne : l ≠ []) : Lyn l := by
  refine ⟨ne, fun r h0 hr => ?_⟩
  have key : l < l.drop r := by
    by_cases c : l.drop r < l
    · -- a border is left
      exfalso
      rcases List.lt_iff_exists.mp c with ⟨e, hlen⟩ | ⟨t, h1, h2, h3, h4⟩
      · -- drop r is a prefix: l = b x = y b
        have e1 : l = l.drop r ++ l.drop (l.length - r) := by
          have e2 : (l.drop r).length = l.length - r := List.length_drop ..
          rw [e2] at e
          have := List.take_append_drop (l.length - r) l
          rw [← e] at this
          exact this.symm
        have p1 := h r h0 hr
        have p2 := h (l.length - r) (by omega) (by omega)
        unfold turn at p1 p2
        have x1 : l.drop (l.length - r) < l.take r := by
          have p1' : l.drop r ++ l.drop (l.length - r) < l.drop r ++ l.take r := by rw [← e1]; exact p1
          exact app_lt_left.mp p1'
        have x2 : l.take r < l.drop (l.length - r) := by
          have e3 : l.take (l.length - r) = l.drop r := by
            rw [List.length_drop] at e
            exact e.symm
          rw [e3] at p2
          have p2' : l.take r ++ l.drop r < l.drop (l.length - r) ++ l.drop r := by rw [List.take_append_drop]; exact p2
          exact app_lt_right (by rw [List.length_take, List.length_drop]; omega) p2' rfl
        exact List.lt_asymm x1 x2
      · have p1 := h r h0 hr
        unfold turn at p1
        have : l.drop r ++ l.take r < l := lt_at (t := t) (by rw [List.length_append]; omega) h2 (fun y hy => by
          rw [gt_appL (by omega), gt_elem (by omega), gt_elem (by omega)]; exact h3 y hy) (by rw [gt_appL (by omega), gt_elem (by omega), gt_elem (by omega)]; exact h4)
        exact List.lt_asymm p1 this
    · have hle : l ≤ l.drop r := c
      by_cases e : l = l.drop r
      · have := congrArg List.length e
        rw [List.length_drop] at this
        omega
      · exact Decidable.byContradiction fun g => e (List.le_antisymm hle (List.not_lt.mp g))
  obtain ⟨t, h1, h2, h3⟩ := of_lt key (by rw [List.length_drop]; omega)
  rw [List.length_drop] at h1
  exact ⟨t, by omega, fun y hy => by have := h2 y hy; rw [gt_drop] at this; exact this, by rw [gt_drop] at h3; exact h3⟩
/-! the parting of a word -/
structure Good (l : List Nat) (ps : List (List Nat)) : Prop where
  flat : ps.flatten = l
  lyn : ∀ p ∈ ps, Lyn p
  dec : ps.Pairwise fun a b => b ≤ a
theorem short_end {p1 : List Nat} : ∀ {ps : List (List Nat)}, (∀ p ∈ ps, p ≤ p1) → ∀ n, 0 < n → n ≤ ps.flatten.length → ∃ k, k < n ∧ (ps.flatten.take n).drop k ≤ p1
  | [], _, n, h0, hn => by simp at hn; omega
  | q :: qs, h, n, h0, hn => by
    by_cases c : n ≤ q.length
    · refine ⟨0, h0, ?_⟩
      rw [List.drop_zero, List.flatten_cons, List.take_append_of_le_length c]
      exact List.le_trans (take_le q n) (h q (.head _))
    · rw [List.flatten_cons, List.length_append] at hn
      obtain ⟨k, hk, hle⟩ := short_end (p1 := p1) (ps := qs) (fun p hp => h p (.tail _ hp)) (n - q.length) (by omega) (by omega)
      refine ⟨q.length + k, by omega, ?_⟩
      rw [List.flatten_cons, List.take_append, List.take_of_length_le (by omega), ← List.drop_drop, List.drop_left]
      exact hle
theorem Good.first_le {l : List Nat} {p q : List Nat} {ps qs : List (List Nat)} (h : Good l (p :: ps)) (g : Good l (q :: qs)) : q.length ≤ p.length := by
  refine Nat.le_of_not_lt fun c => ?_
  have hq := g.lyn q (.head _)
  have hd := (List.pairwise_cons.mp h.dec).1
  have e1 : p ++ ps.flatten = q ++ qs.flatten := by rw [← List.flatten_cons, ← List.flatten_cons, h.flat, g.flat]
  have hlen : q.length ≤ p.length + ps.flatten.length := by
    have := congrArg List.length e1
    rw [List.length_append, List.length_append] at this
    omega
  have e2 : q = p ++ ps.flatten.take (q.length - p.length) := by
    have := congrArg (List.take q.length) e1
    rw [List.take_append, List.take_left, List.take_of_length_le (by omega)] at this
    exact this.symm
  obtain ⟨k, hk, hle⟩ := short_end hd (q.length - p.length) (by omega) (by omega)
  have hp : p ≠ [] := (h.lyn p (.head _)).ne
  have hp1 : 1 ≤ p.length := List.length_pos_iff.mpr hp
  have hs : q < q.drop (p.length + k) := hq.suffix (by omega) (by omega)
  have e3 : q.drop (p.length + k) = (ps.flatten.take (q.length - p.length)).drop k := by
    rw [← List.drop_drop]
    congr 1
    generalize q.length - p.length = m at e2
    rw [e2, List.drop_left]
  rw [e3] at hs
  have : p ≤ q := by rw [e2]; exact app_le _ _
  exact nlt (List.le_trans hle this) hs
theorem Good.tail {l : List Nat} {p : List Nat} {ps : List (List Nat)} (h : Good l (p :: ps)) : Good ps.flatten ps := ⟨rfl, fun x hx => h.lyn x (.tail _ hx), (List.pairwise_cons.mp h.dec).2⟩
theorem Good.uniq : ∀ {l : List Nat} {ps qs : List (List Nat)}, Good l ps → Good l qs → ps = qs
  | l, [], [], _, _ => rfl
  | l, [], q :: qs, h, g => by
    have e := g.flat
    rw [← h.flat] at e
    have := (g.lyn q (.head _)).ne
    rw [List.flatten_cons, List.flatten_nil] at e
    exact absurd (List.append_eq_nil_iff.mp e).1 this
  | l, p :: ps, [], h, g => by
    have e := h.flat
    rw [← g.flat] at e
    have := (h.lyn p (.head _)).ne
    rw [List.flatten_cons, List.flatten_nil] at e
    exact absurd (List.append_eq_nil_iff.mp e).1 this
  | l, p :: ps, q :: qs, h, g => by
    have e1 : p ++ ps.flatten = q ++ qs.flatten := by rw [← List.flatten_cons, ← List.flatten_cons, h.flat, g.flat]
    obtain ⟨e2, e3⟩ := List.append_inj e1 (Nat.le_antisymm (g.first_le h) (h.first_le g))
    rw [e2, Good.uniq h.tail (e3 ▸ g.tail)]
theorem Good.one {l : List Nat} (h : Lyn l) : Good l [l] := ⟨by simp, fun p hp => by rw [List.mem_singleton.mp hp]; exact h, List.pairwise_singleton _ _⟩
theorem Good.single {l : List Nat} {ps : List (List Nat)} (h : Good l ps) : ps.length = 1 ↔ Lyn l := by
  constructor
  · intro e
    match ps, e with
    | [p], _ =>
      have := h.flat
      rw [List.flatten_cons, List.flatten_nil, List.append_nil] at this
      rw [← this]
      exact h.lyn p (.head _)
  · intro hl
    rw [h.uniq (Good.one hl)]
    rfl
/-! the run from a place on -/
structure Run (l : List Nat) (b j p : Nat) : Prop where
  p1 : 1 ≤ p
  pj : b + p ≤ j
  jl : j ≤ l.length
  per : ∀ x, p ≤ x → b + x < j → gt l (b + x) = gt l (b + (x - p))
  lyn : ∀ r, 0 < r → r < p → ∃ t, r + t < p ∧ (∀ y, y < t → gt l (b + y) = gt l (b + (r + y))) ∧ gt l (b + t) < gt l (b + (r + t))
theorem Run.start {l : List Nat} {b : Nat} (h : b < l.length) : Run l b (b + 1) 1 :=
  ⟨Nat.le_refl _, Nat.le_refl _, h, fun x h1 h2 => by omega, fun r h1 h2 => by omega⟩
theorem Run.pers {l : List Nat} {b j p : Nat} (h : Run l b j p) : ∀ q x, b + (x + q * p) < j → gt l (b + (x + q * p)) = gt l (b + x)
  | 0, x, _ => by rw [Nat.zero_mul, Nat.add_zero]
  | q + 1, x, hj => by
    have e : x + (q + 1) * p = x + q * p + p := by rw [Nat.add_mul, Nat.one_mul, Nat.add_assoc]
    rw [e] at hj ⊢
    rw [h.per _ (by omega) hj, Nat.add_sub_cancel]
    exact h.pers q x (by omega)
theorem Run.same {l : List Nat} {b j p : Nat} (h : Run l b j p) (hj : j < l.length) (e : gt l (j - p) = gt l j) : Run l b (j + 1) p := by
  have := h.pj
  refine ⟨h.p1, by omega, hj, fun x h1 h2 => ?_, h.lyn⟩
  by_cases c : b + x < j
  · exact h.per x h1 c
  · have e2 : b + x = j := by omega
    have e3 : b + (x - p) = j - p := by omega
    rw [e2, e3, e]
theorem Run.more {l : List Nat} {b j p : Nat} (h : Run l b j p) (hj : j < l.length) (e : gt l (j - p) < gt l j) : Run l b (j + 1) (j + 1 - b) := by
  have hp := h.pj
  have h1 := h.p1
  refine ⟨by omega, by omega, hj, fun x h1 h2 => by omega, fun r h0 hr => ?_⟩
  have hm := Nat.mod_add_div r p
  have hm2 := Nat.mod_lt r (show 0 < p by omega)
  generalize hr0 : r % p = r0 at hm hm2
  generalize hq : r / p = q at hm
  rw [Nat.mul_comm] at hm
  by_cases c : r0 = 0
  · -- begins with a whole one
    subst c
    have hq1 : 1 ≤ q := by
      refine Nat.one_le_iff_ne_zero.mpr fun z => ?_
      rw [z] at hm
      omega
    refine ⟨j - b - r, by omega, fun y hy => ?_, ?_⟩
    · have := h.pers q y (by omega)
      rw [← this]
      congr 2
      omega
    · have e2 : b + (r + (j - b - r)) = j := by omega
      rw [e2]
      have e3 : (q - 1) * p + p = q * p := by
        obtain ⟨q', rfl⟩ : ∃ q', q = q' + 1 := ⟨q - 1, by omega⟩
        rw [Nat.add_sub_cancel, Nat.add_mul, Nat.one_mul]
      have := h.pers (q - 1) (j - b - r) (by omega)
      have e4 : b + (j - b - r + (q - 1) * p) = j - p := by omega
      rw [e4] at this
      rw [← this]
      exact e
  · obtain ⟨t0, g1, g2, g3⟩ := h.lyn r0 (by omega) hm2
    have shift : ∀ y, b + (r + y) < j → gt l (b + (r + y)) = gt l (b + (r0 + y)) := fun y hy => by
      have := h.pers q (r0 + y) (by omega)
      rw [← this]
      congr 2
      omega
    by_cases c2 : b + (r + t0) < j
    · exact ⟨t0, by omega, fun y hy => by rw [shift y (by omega)]; exact g2 y hy, by rw [shift t0 c2]; exact g3⟩
    · have hq1 : 1 ≤ q := by
        refine Nat.one_le_iff_ne_zero.mpr fun z => ?_
        rw [z] at hm
        omega
      refine ⟨j - b - r, by omega, fun y hy => by rw [shift y (by omega)]; exact g2 y (by omega), ?_⟩
      have e2 : b + (r + (j - b - r)) = j := by omega
      rw [e2]
      have e3 : (q - 1) * p + p = q * p := by
        obtain ⟨q', rfl⟩ : ∃ q', q = q' + 1 := ⟨q - 1, by omega⟩
        rw [Nat.add_sub_cancel, Nat.add_mul, Nat.one_mul]
      have := h.pers (q - 1) (r0 + (j - b - r)) (by omega)
      have e4 : b + (r0 + (j - b - r) + (q - 1) * p) = j - p := by omega
      rw [e4] at this
      have h5 : gt l (b + (j - b - r)) ≤ gt l (b + (r0 + (j - b - r))) := by
        by_cases c3 : j - b - r < t0
        · exact Nat.le_of_eq (g2 _ c3)
        · have : j - b - r = t0 := by omega
          rw [this]
          exact Nat.le_of_lt g3
      omega
/-- where a run has come to its end -/
def Stop (l : List Nat) (j p : Nat) : Prop := j = l.length ∨ gt l j < gt l (j - p)
abbrev stretch (l : List Nat) (b p : Nat) : List Nat := (l.drop b).take p
theorem stretch_len {l : List Nat} {b p : Nat} (h : b + p ≤ l.length) : (stretch l b p).length = p := by
  unfold stretch
  rw [List.length_take, List.length_drop]
  omega
theorem stretch_gt {l : List Nat} {b p x : Nat} (h : x < p) : gt (stretch l b p) x = gt l (b + x) := by
  unfold stretch
  rw [gt_take h, gt_drop]
theorem Run.lynW {l : List Nat} {b j p : Nat} (h : Run l b j p) : Lyn (stretch l b p) := by
  have hp := h.pj
  have hl := h.jl
  have h1 := h.p1
  have e := stretch_len (l := l) (b := b) (p := p) (by omega)
  refine ⟨fun z => by rw [z] at e; simp at e; omega, fun r h0 hr => ?_⟩
  rw [e] at hr ⊢
  obtain ⟨t, g1, g2, g3⟩ := h.lyn r h0 hr
  exact ⟨t, g1, fun y hy => by rw [stretch_gt (by omega), stretch_gt (by omega)]; exact g2 y hy, by rw [stretch_gt (by omega), stretch_gt (by omega)]; exact g3⟩
theorem Run.block {l : List Nat} {b j p m : Nat} (h : Run l b j p) (hm : b + m * p + p ≤ j) : stretch l (b + m * p) p = stretch l b p := by
  have hl := h.jl
  have hp := h.pj
  refine List.ext_getElem (by rw [stretch_len (by omega), stretch_len (by omega)]) fun x h1 h2 => ?_
  rw [stretch_len (by omega)] at h1
  rw [← gt_elem, ← gt_elem, stretch_gt h1, stretch_gt h1]
  have := h.pers m x (by omega)
  rw [← this]
  congr 1
  omega
/-- what comes behind a run is not greater -/
theorem Run.behind {l : List Nat} {b j p m : Nat} (h : Run l b j p) (st : Stop l j p) (h1 : b + m * p ≤ j) (h2 : j < b + m * p + p) (hm : 1 ≤ m) (n : Nat) : (l.drop (b + m * p)).take n ≤ stretch l b p := by
  have hl := h.jl
  have hp := h.pj
  have lw := stretch_len (l := l) (b := b) (p := p) (by omega)
  obtain ⟨d, hd⟩ : ∃ d, j = b + m * p + d := ⟨j - (b + m * p), by omega⟩
  have pre : ∀ x, x < d → gt l (b + m * p + x) = gt l (b + x) := fun x hx => by
    have := h.pers m x (by omega)
    rw [← this]
    congr 1
    omega
  have short : ∀ k, k ≤ d → (l.drop (b + m * p)).take k ≤ stretch l b p := fun k hk => by
    have e : (l.drop (b + m * p)).take k = (stretch l b p).take k := by
      refine List.ext_getElem (by rw [List.length_take, List.length_drop, List.length_take, lw]; omega) fun x q1 q2 => ?_
      have hx : x < k := by rw [List.length_take] at q1; omega
      rw [← gt_elem, ← gt_elem, gt_take hx, gt_take hx, gt_drop, stretch_gt (by omega)]
      exact pre x (by omega)
    rw [e]
    exact take_le _ _
  by_cases c : n ≤ d
  · exact short n c
  · rcases st with e | e
    · have e2 : (l.drop (b + m * p)).take n = (l.drop (b + m * p)).take d := by
        rw [List.take_of_length_le (by rw [List.length_drop]; omega), List.take_of_length_le (by rw [List.length_drop]; omega)]
      rw [e2]
      exact short d (Nat.le_refl _)
    · by_cases c2 : j = l.length
      · have e2 : (l.drop (b + m * p)).take n = (l.drop (b + m * p)).take d := by
          rw [List.take_of_length_le (by rw [List.length_drop]; omega), List.take_of_length_le (by rw [List.length_drop]; omega)]
        rw [e2]
        exact short d (Nat.le_refl _)
      · refine List.le_of_lt (lt_at (t := d) (by rw [List.length_take, List.length_drop]; omega) (by rw [lw]; omega) (fun x hx => ?_) ?_)
        · rw [gt_take (by omega), gt_drop, stretch_gt (by omega)]
          exact pre x hx
        · rw [gt_take (by omega), gt_drop, stretch_gt (by omega)]
          have e3 : (m - 1) * p + p = m * p := by
            obtain ⟨q', rfl⟩ : ∃ q', m = q' + 1 := ⟨m - 1, by omega⟩
            rw [Nat.add_sub_cancel, Nat.add_mul, Nat.one_mul]
          have := h.pers (m - 1) d (by omega)
          have e4 : b + (d + (m - 1) * p) = j - p := by omega
          rw [e4] at this
          rw [← this, show b + m * p + d = j by omega]
          exact e
theorem Good.snoc {l w : List Nat} {ps : List (List Nat)} (h : Good l ps) (hw : Lyn w) (le : ∀ x ∈ ps, w ≤ x) : Good (l ++ w) (ps ++ [w]) :=
  ⟨by rw [List.flatten_append, h.flat]; simp, fun p hp => by
    rcases List.mem_append.mp hp with hp | hp
    · exact h.lyn p hp
    · rw [List.mem_singleton.mp hp]; exact hw, List.pairwise_append.mpr ⟨h.dec, List.pairwise_singleton _ _, fun x hx y hy => by rw [List.mem_singleton.mp hy]; exact le x hx⟩⟩
theorem take_more (l : List Nat) (b n : Nat) : l.take (b + n) = l.take b ++ stretch l b n := by
  unfold stretch
  rw [List.take_add]
end Bd

namespace Bd
open PySem PySem.Spec PyProof.Rows L2 Evl
/-! ### rings in their order -/
abbrev Rg (v : List Nat) : Prop := ringW v = v
/-- no end of it is less than its begin -/
def Cond (v : List Nat) : Prop := ∀ i t, i + t < v.length → (∀ y, y < t → gt v y = gt v (i + y)) → gt v t ≤ gt v (i + t)
theorem rg_le {v : List Nat} (hv : 1 ≤ v.length) (h : Rg v) {i : Nat} (hi : i < v.length) : v ≤ turn v i := by
  have := (ringW_min hv).2 (turn v i) (mem_turns.mpr ⟨i, hi, rfl⟩)
  rw [h] at this
  exact this
theorem rg_of {v : List Nat} (hv : 1 ≤ v.length) (h : ∀ i, i < v.length → v ≤ turn v i) : Rg v :=
  (ringW_min hv).uniq (n := v) (T := turnsOf v) ⟨self_mem_turns hv, fun y hy => by
    obtain ⟨k, hk, rfl⟩ := mem_turns.mp hy
    exact h k hk⟩ fun _ => Iff.rfl
theorem gt_turn {v : List Nat} {i y : Nat} (h : i + y < v.length) : gt (turn v i) y = gt v (i + y) := by
  unfold turn
  rw [gt_appL (by rw [List.length_drop]; omega), gt_drop]
theorem gt_turn2 {v : List Nat} {i y : Nat} (hi : i ≤ v.length) (h : v.length ≤ i + y) (hy : y < v.length) : gt (turn v i) y = gt v (i + y - v.length) := by
  unfold turn gt
  rw [List.getD_eq_getElem?_getD, List.getD_eq_getElem?_getD, List.getElem?_append_right (by rw [List.length_drop]; omega), List.length_drop, List.getElem?_take_of_lt (by omega)]
  congr 2
  omega
theorem rg_cond {v : List Nat} (hv : 1 ≤ v.length) (h : Rg v) : Cond v := fun i t hit hy => by
  refine Nat.le_of_not_lt fun c => ?_
  have h1 := rg_le hv h (i := i) (by omega)
  refine h1 (lt_at (t := t) (by rw [turn_len]; omega) (by omega) (fun y hy' => ?_) ?_)
  · rw [gt_turn (by omega)]
    exact (hy y hy').symm
  · rw [gt_turn hit]
    exact c
theorem cond_step {v : List Nat} (h : Cond v) {j p : Nat} (r : Run v 0 j p) (hj : j < v.length) : gt v (j - p) ≤ gt v j := by
  have hp := r.pj
  have h1 := r.p1
  have := h p (j - p) (by omega) fun y hy => by
    have := r.per (p + y) (by omega) (by omega)
    rw [Nat.zero_add, Nat.zero_add, Nat.add_sub_cancel_left] at this
    exact this.symm
  rw [show p + (j - p) = j by omega] at this
  exact this
theorem cond_run {v : List Nat} (h : Cond v) : ∀ j, 1 ≤ j → j ≤ v.length → ∃ p, Run v 0 j p
  | 0, h0, _ => absurd h0 (by decide)
  | 1, _, hj => ⟨1, Run.start (by omega)⟩
  | j + 2, _, hj => by
    obtain ⟨p, r⟩ := cond_run h (j + 1) (by omega) (by omega)
    have hs := cond_step h r (by omega)
    rcases Nat.lt_or_eq_of_le hs with c | c
    · exact ⟨_, r.more (by omega) c⟩
    · exact ⟨p, r.same (by omega) c⟩
theorem run_cond {v : List Nat} {p : Nat} (r : Run v 0 v.length p) : Cond v := fun i t hit hy => by
  have hp := r.pj
  have h1 := r.p1
  have hm := Nat.mod_add_div i p
  have hm2 := Nat.mod_lt i (show 0 < p by omega)
  generalize i % p = r0 at hm hm2
  generalize i / p = q at hm
  rw [Nat.mul_comm] at hm
  have shift : ∀ y, i + y < v.length → gt v (i + y) = gt v (r0 + y) := fun y hy => by
    have := r.pers q (r0 + y) (by omega)
    rw [Nat.zero_add, Nat.zero_add] at this
    rw [← this]
    congr 1
    omega
  by_cases c : r0 = 0
  · rw [shift t hit, c, Nat.zero_add]
    exact Nat.le_refl _
  · obtain ⟨t0, g1, g2, g3⟩ := r.lyn r0 (by omega) hm2
    simp only [Nat.zero_add] at g2 g3
    have ht : t ≤ t0 := Nat.le_of_not_lt fun c2 => by
      have := hy t0 c2
      rw [shift t0 (by omega)] at this
      omega
    rw [shift t hit]
    by_cases c2 : t = t0
    · rw [c2]; exact Nat.le_of_lt g3
    · exact Nat.le_of_eq (g2 t (by omega))
theorem run_rg {v : List Nat} {p : Nat} (r : Run v 0 v.length p) (hd : v.length % p = 0) : Rg v := by
  have hp := r.pj
  have h1 := r.p1
  have hv : 1 ≤ v.length := by omega
  refine rg_of hv fun i hi => ?_
  have hm := Nat.mod_add_div i p
  have hm2 := Nat.mod_lt i (show 0 < p by omega)
  generalize i % p = r0 at hm hm2
  generalize i / p = q at hm
  rw [Nat.mul_comm] at hm
  have shift : ∀ y, i + y < v.length → gt v (i + y) = gt v (r0 + y) := fun y hy => by
    have := r.pers q (r0 + y) (by omega)
    rw [Nat.zero_add, Nat.zero_add] at this
    rw [← this]
    congr 1
    omega
  by_cases c : r0 = 0
  · -- turned by whole ones: itself
    have e : turn v i = v := by
      refine List.ext_getElem (turn_len v i) fun y h2 h3 => ?_
      rw [← gt_elem, ← gt_elem]
      by_cases c2 : i + y < v.length
      · rw [gt_turn c2, shift y c2, c, Nat.zero_add]
      · rw [gt_turn2 (by omega) (by omega) h3]
        obtain ⟨k, hk⟩ : ∃ k, v.length = k * p := ⟨v.length / p, by
          have := Nat.mod_add_div v.length p
          rw [hd, Nat.zero_add, Nat.mul_comm] at this
          exact this.symm⟩
        have hqk : q ≤ k := by
          have : q * p ≤ k * p := by omega
          exact Nat.le_of_mul_le_mul_right this (by omega)
        have e2 : (k - q) * p + q * p = k * p := by rw [← Nat.add_mul, Nat.sub_add_cancel hqk]
        have := r.pers (k - q) (i + y - v.length) (by omega)
        rw [Nat.zero_add, Nat.zero_add] at this
        rw [← this]
        congr 1
        omega
    rw [e]
    exact List.le_refl _
  · obtain ⟨t0, g1, g2, g3⟩ := r.lyn r0 (by omega) hm2
    simp only [Nat.zero_add] at g2 g3
    have hb : i + t0 < v.length := by
      obtain ⟨k, hk⟩ : ∃ k, v.length = k * p := ⟨v.length / p, by
        have := Nat.mod_add_div v.length p
        rw [hd, Nat.zero_add, Nat.mul_comm] at this
        exact this.symm⟩
      have hqk : q < k := by
        refine Nat.lt_of_not_le fun c2 => ?_
        have := Nat.mul_le_mul_right p c2
        omega
      have := Nat.mul_le_mul_right p (show q + 1 ≤ k from hqk)
      rw [Nat.add_mul, Nat.one_mul] at this
      omega
    exact List.le_of_lt (lt_at (t := t0) (by omega) (by rw [turn_len]; omega) (fun y hy => by rw [gt_turn (by omega), shift y (by omega)]; exact g2 y hy) (by rw [gt_turn hb, shift t0 hb]; exact g3))
theorem run_no {v : List Nat} {p : Nat} (r : Run v 0 v.length p) (hd : v.length % p ≠ 0) : ¬ Rg v := fun h => by
  have hp := r.pj
  have h1 := r.p1
  have hm := Nat.mod_add_div v.length p
  have hm2 := Nat.mod_lt v.length (show 0 < p by omega)
  generalize v.length % p = d at hm hm2 hd
  generalize v.length / p = q at hm
  rw [Nat.mul_comm] at hm
  obtain ⟨t0, g1, g2, g3⟩ := r.lyn d (by omega) hm2
  simp only [Nat.zero_add] at g2 g3
  have hq : p ≤ q * p := by
    have : q ≠ 0 := fun z => by rw [z] at hm; omega
    exact Nat.le_mul_of_pos_left p (Nat.pos_of_ne_zero this)
  have h2 := rg_le (by omega) h (i := q * p) (by omega)
  refine h2 (lt_at (t := d + t0) (by rw [turn_len]; omega) (by omega) (fun y hy => ?_) ?_)
  · by_cases c : y < d
    · rw [gt_turn (by omega)]
      have := r.pers q y (by omega)
      rw [Nat.zero_add, Nat.zero_add] at this
      rw [← this]
      congr 1
      omega
    · rw [gt_turn2 (by omega) (by omega) (by omega), show q * p + y - v.length = y - d by omega]
      have := g2 (y - d) (by omega)
      rw [show d + (y - d) = y by omega] at this
      exact this
  · rw [gt_turn2 (by omega) (by omega) (by omega), show q * p + (d + t0) - v.length = t0 by omega]
    exact g3
/-! the word behind a word -/
/-- the first s letters of w, the last of them one more, again and again -/
structure Foll (w : List Nat) (top s : Nat) (x : List Nat) : Prop where
  s1 : 1 ≤ s
  sn : s ≤ w.length
  lt : gt w (s - 1) < top
  tops : ∀ y, s ≤ y → y < w.length → gt w y = top
  len : x.length = w.length
  ahead : ∀ y, y < s - 1 → gt x y = gt w y
  at_ : gt x (s - 1) = gt w (s - 1) + 1
  per : ∀ y, s ≤ y → y < w.length → gt x y = gt x (y - s)
theorem Foll.run {w x : List Nat} {top s : Nat} (f : Foll w top s x) (h : Cond w) : Run x 0 x.length s := by
  have s1 := f.s1
  have sn := f.sn
  have hl := f.len
  have first : Run x 0 s s := by
    by_cases c : s = 1
    · subst c
      exact Run.start (by omega)
    · obtain ⟨p, r⟩ := cond_run h (s - 1) (by omega) (by omega)
      have hp := r.pj
      have hp1 := r.p1
      have hs := cond_step h r (by omega)
      have rx : Run x 0 (s - 1) p := ⟨r.p1, r.pj, by omega, fun y h1 h2 => by
          rw [f.ahead _ (by omega), f.ahead _ (by omega)]
          exact r.per y h1 h2, fun k h1 h2 => by
          obtain ⟨t, g1, g2, g3⟩ := r.lyn k h1 h2
          exact ⟨t, g1, fun y hy => by rw [f.ahead _ (by omega), f.ahead _ (by omega)]; exact g2 y hy, by rw [f.ahead _ (by omega), f.ahead _ (by omega)]; exact g3⟩⟩
      have := rx.more (by omega) (by rw [f.at_, f.ahead _ (by omega)]; omega)
      rw [show s - 1 + 1 = s by omega, Nat.sub_zero] at this
      exact this
  have all : ∀ k, s + k ≤ x.length → Run x 0 (s + k) s := by
    intro k
    induction k with
    | zero => intro _; exact first
    | succ k ih =>
      intro hk
      exact (ih (by omega)).same (by omega) (f.per (s + k) (by omega) (by omega)).symm
  have := all (x.length - s) (by omega)
  rw [show s + (x.length - s) = x.length by omega] at this
  exact this
theorem Foll.gt_ {w x : List Nat} {top s : Nat} (f : Foll w top s x) : w < x := by
  have s1 := f.s1
  have sn := f.sn
  have hl := f.len
  exact lt_at (t := s - 1) (by omega) (by omega) (fun y hy => (f.ahead y hy).symm) (by rw [f.at_]; omega)
theorem Foll.least {w x v : List Nat} {top s : Nat} (f : Foll w top s x) (hv : Cond v) (hl : v.length = w.length) (ht : ∀ y, y < v.length → gt v y ≤ top) (h : w < v) : x ≤ v := by
  have s1 := f.s1
  have sn := f.sn
  have hx := f.len
  intro c
  obtain ⟨t, h1, h2, h3⟩ := of_lt c (by omega)
  obtain ⟨t', k1, k2, k3⟩ := of_lt h (by omega)
  have ht' : t' < s := Nat.lt_of_not_le fun z => by
    have := f.tops t' z (by omega)
    have := ht t' (by omega)
    omega
  by_cases c1 : t' < s - 1
  · refine List.lt_asymm c (lt_at (t := t') (by omega) (by omega) (fun y hy => ?_) ?_)
    · rw [f.ahead y (by omega)]; exact k2 y hy
    · rw [f.ahead t' c1]; exact k3
  · have e : t' = s - 1 := by omega
    subst e
    have ha := f.at_
    by_cases c2 : gt x (s - 1) < gt v (s - 1)
    · refine List.lt_asymm c (lt_at (t := s - 1) (by omega) (by omega) (fun y hy => ?_) c2)
      rw [f.ahead y hy]; exact k2 y hy
    · have c3 : gt v (s - 1) = gt x (s - 1) := by omega
      have hts : s ≤ t := Nat.le_of_not_lt fun z => by
        by_cases z2 : t = s - 1
        · rw [z2] at h3; omega
        · have q1 := f.ahead t (by omega)
          have q2 := k2 t (by omega)
          omega
      have := hv s (t - s) (by omega) fun y hy => by
        rw [h2 y (by omega), h2 (s + y) (by omega), f.per (s + y) (by omega) (by omega), Nat.add_sub_cancel_left]
      rw [show s + (t - s) = t by omega, h2 (t - s) (by omega), ← f.per t hts (by omega)] at this
      omega
/-- the ring behind a ring, or that there is none -/
def Good2 (n top : Nat) (v : List Nat) : Prop := Rg v ∧ v.length = n ∧ ∀ y, y < n → 97 ≤ gt v y ∧ gt v y ≤ top
def IsNext (l : List Nat) (top : Nat) : Option (List Nat) → Prop
  | none => ∀ v, Good2 l.length top v → ¬ l < v
  | some x => Good2 l.length top x ∧ l < x ∧ ∀ v, Good2 l.length top v → l < v → x ≤ v
/-- what the loop keeps -/
structure Seek (l : List Nat) (top : Nat) (w : List Nat) : Prop where
  len : w.length = l.length
  cond : Cond w
  let_ : ∀ y, y < w.length → 97 ≤ gt w y ∧ gt w y ≤ top
  le : l ≤ w
  beyond : ∀ v, Good2 l.length top v → l < v → w < v
theorem Seek.start {l : List Nat} {top : Nat} (hl : 1 ≤ l.length) (h : Good2 l.length top l) : Seek l top l := ⟨rfl, rg_cond hl h.1, h.2.2, List.le_refl _, fun _ _ h => h⟩
theorem Foll.letters {w x : List Nat} {top s : Nat} (f : Foll w top s x) (h : ∀ y, y < w.length → 97 ≤ gt w y ∧ gt w y ≤ top) : ∀ y, y < x.length → 97 ≤ gt x y ∧ gt x y ≤ top := by
  have s1 := f.s1
  have sn := f.sn
  have hl := f.len
  have hlt := f.lt
  intro y
  induction y using Nat.strongRecOn with
  | _ y ih =>
    intro hy
    by_cases c1 : y < s - 1
    · rw [f.ahead y c1]; exact h y (by omega)
    · by_cases c2 : y = s - 1
      · rw [c2, f.at_]
        have := h (s - 1) (by omega)
        omega
      · rw [f.per y (by omega) (by omega)]
        exact ih (y - s) (by omega) (by omega)
theorem Seek.none_ {l w : List Nat} {top : Nat} (k : Seek l top w) (h : ∀ y, y < w.length → gt w y = top) : IsNext l top none := fun v hv hlv => by
  have h1 := k.beyond v hv hlv
  obtain ⟨t, q1, _, q3⟩ := of_lt h1 (by rw [hv.2.1, k.len]; exact Nat.le_refl _)
  have h2 := h t (by rw [k.len, ← hv.2.1]; exact q1)
  have h3 := (hv.2.2 t (by rw [← hv.2.1]; exact q1)).2
  omega
theorem Seek.done {l w x : List Nat} {top s : Nat} (k : Seek l top w) (f : Foll w top s x) (hd : l.length % s = 0) : IsNext l top (some x) := by
  have r := f.run k.cond
  have hl : x.length = l.length := by rw [f.len, k.len]
  refine ⟨⟨run_rg r (by rw [hl]; exact hd), hl, fun y hy => f.letters k.let_ y (by omega)⟩, ?_, fun v hv hlv => ?_⟩
  · exact Decidable.byContradiction fun c => List.le_trans (List.not_lt.mp c) k.le f.gt_
  · refine f.least (rg_cond ?_ hv.1) (by rw [hv.2.1, k.len]) (fun y hy => (hv.2.2 y (by rw [← hv.2.1]; exact hy)).2) (k.beyond v hv hlv)
    have := f.s1
    have := f.sn
    have := k.len
    have := hv.2.1
    omega
theorem Seek.step {l w x : List Nat} {top s : Nat} (k : Seek l top w) (f : Foll w top s x) (hd : l.length % s ≠ 0) : Seek l top x := by
  have r := f.run k.cond
  have hl : x.length = l.length := by rw [f.len, k.len]
  refine ⟨hl, run_cond r, f.letters k.let_, List.le_trans k.le (List.le_of_lt f.gt_), fun v hv hlv => ?_⟩
  have h1 : x ≤ v := by
    refine f.least (rg_cond ?_ hv.1) (by rw [hv.2.1, k.len]) (fun y hy => (hv.2.2 y (by rw [← hv.2.1]; exact hy)).2) (k.beyond v hv hlv)
    have := f.s1
    have := f.sn
    have := k.len
    have := hv.2.1
    omega
  refine Decidable.byContradiction fun c => ?_
  have := List.le_antisymm h1 (List.not_lt.mp c)
  subst this
  exact run_no r (by rw [hl]; exact hd) hv.1
/-! a measure for the loops -/
def valW : List Nat → Nat
  | [] => 0
  | c :: l => (c - 97) * 9 ^ l.length + valW l
theorem valW_lt : ∀ l : List Nat, (∀ c ∈ l, c ≤ 104) → valW l < 9 ^ l.length
  | [], _ => by decide
  | c :: l, h => by
    have h1 := valW_lt l fun x hx => h x (.tail _ hx)
    have h2 := h c (.head _)
    rw [valW, List.length_cons, Nat.pow_succ]
    have h3 : (c - 97) * 9 ^ l.length ≤ 7 * 9 ^ l.length := Nat.mul_le_mul_right _ (by omega)
    omega
theorem valW_mono : ∀ {l m : List Nat}, l.length = m.length → (∀ c ∈ l, 97 ≤ c ∧ c ≤ 104) → (∀ c ∈ m, 97 ≤ c ∧ c ≤ 104) → l < m → valW l < valW m
  | [], [], _, _, _, h => absurd h (List.lt_irrefl _)
  | [], _ :: _, h, _, _, _ => nomatch h
  | _ :: _, [], h, _, _, _ => nomatch h
  | a :: l, b :: m, hl, h1, h2, h => by
    have hl' : l.length = m.length := Nat.succ.inj hl
    rw [valW, valW, ← hl']
    have ha := h1 a (.head _)
    have hb := h2 b (.head _)
    rcases List.cons_lt_cons_iff.mp h with c | ⟨c, d⟩
    · have h3 := valW_lt l fun x hx => (h1 x (.tail _ hx)).2
      have h4 : (a - 97 + 1) * 9 ^ l.length ≤ (b - 97) * 9 ^ l.length := Nat.mul_le_mul_right _ (by omega)
      rw [Nat.add_mul, Nat.one_mul] at h4
      omega
    · subst c
      have := valW_mono hl' (fun x hx => h1 x (.tail _ hx)) (fun x hx => h2 x (.tail _ hx)) d
      omega
end Bd

namespace Bd
open PySem PySem.Spec PyProof.Rows L2 Evl
/-! ### promises: rings in their order -/
def badR (K : PySem.W.Frag) : Value := .ref (He.ga K "BadRing")
def badM (K : PySem.W.Frag) : Value := .ref (He.ga K "TooMany")
def badO (K : PySem.W.Frag) : Value := .ref (He.ga K "NoRing")
def optW : Option (List Nat) → V
  | none => .non
  | some x => vS x
def inTop (l : List Nat) (c : Nat) : Bool := decide (∀ y, y < l.length → gt l y ≤ 96 + c)
def sp_following (_ : PySem.W.Frag) : Sp := fun vs H Q _ => ∃ (w : List Nat) (top : Nat), vs = [vS w, vS [top]] ∧ 1 ≤ w.length ∧ w.length ≤ 60 ∧ top ≤ 104 ∧ (∀ y, y < w.length → 97 ≤ gt w y ∧ gt w y ≤ top) ∧
  ((∀ y, y < w.length → gt w y = top) → ∀ H', Ex H H' → Q .non H') ∧ (∀ x s, Foll w top s x → ∀ T H', H T = none → Ex H H' → H' T = some (.tup [vS x, .int ((s : Nat) : Int)]) → Q (.ref T) H')
/-- what a ring of so many colours may be refused for -/
def RingE (K : PySem.W.Frag) (v u : V) (H : Hp) (E : XK) : Prop := (ringV v = false → ∀ H', Ex H H' → E (badR K) none H') ∧ (ringV v = true → amongB u 1 8 = false → ∀ H', Ex H H' → E (badN K) none H') ∧
  (∀ (l : List Nat) (c : Nat), v = vS l → ringV v = true → u = .int (c : Int) → 1 ≤ c → c ≤ 8 → inTop l c = false → ∀ H', Ex H H' → E (badR K) none H')
def RingOk (v u : V) (l : List Nat) (c : Nat) : Prop := v = vS l ∧ u = .int (c : Int) ∧ IsW l ∧ Rg l ∧ 1 ≤ c ∧ c ≤ 8 ∧ inTop l c = true
def sp_need_ring (K : PySem.W.Frag) : Sp := fun vs H Q E => ∃ v u, vs = [v, u] ∧ Thing H v ∧ Thing H u ∧ RingE K v u H E ∧ ∀ l c, RingOk v u l c → ∀ H', Ex H H' → Q .non H'
def sp_next_ring (K : PySem.W.Frag) : Sp := fun vs H Q E => ∃ v u, vs = [v, u] ∧ Thing H v ∧ Thing H u ∧ RingE K v u H E ∧ ∀ l c, RingOk v u l c → ∀ r, IsNext l (96 + c) r → ∀ H', Ex H H' → Q (optW r) H'
/-- what a size may be refused for -/
def FewE (K : PySem.W.Frag) (v u : V) (H : Hp) (E : XK) : Prop := (sizesB v u = false → ∀ H', Ex H H' → E (badN K) none H') ∧ (∀ n c : Nat, v = .int (n : Int) → u = .int (c : Int) → sizesB v u = true → 3000 < mRings n c → ∀ H', Ex H H' → E (badM K) none H')
def FewOk (v u : V) (n c : Nat) : Prop := v = .int (n : Int) ∧ u = .int (c : Int) ∧ 1 ≤ n ∧ n ≤ 60 ∧ 1 ≤ c ∧ c ≤ 8 ∧ mRings n c ≤ 3000
def sp_need_few (K : PySem.W.Frag) : Sp := fun vs H Q E => ∃ v u, vs = [v, u] ∧ Thing H v ∧ Thing H u ∧ FewE K v u H E ∧ ∀ n c, FewOk v u n c → ∀ H', Ex H H' → Q .non H'
/-- a size whose rings are few indeed -/
def FewN (n c : Nat) : Prop := c ^ n ≤ 100000
def sp_all_rings (K : PySem.W.Frag) : Sp := fun vs H Q E => ∃ v u, vs = [v, u] ∧ Thing H v ∧ Thing H u ∧ FewE K v u H E ∧ ∀ n c, FewOk v u n c → FewN n c ∧ ∀ p H', H p = none → Ex H H' → H' p = some (.lst ((someW n c).map vS)) → Q (.ref p) H'
end Bd

namespace Bd
open PySem PySem.Spec PyProof.Rows L2 Evl
/-! ### what comes behind a word: rstrip, the letter's place -/
/-- how many letters are left when the last ones that are top are taken off -/
def keptN (w : List Nat) (top : Nat) : Nat := w.length - (w.reverse.takeWhile fun c => decide (c = top)).length
theorem rstrip_tx (w : List Nat) (top : Nat) : Txt.rstripChars (tx w) (tx [top]) = tx (w.take (keptN w top)) := by
  unfold Txt.rstripChars
  rw [stripBy_eq]
  have e : ((tx [top]).cps.contains) = fun c => decide (c = top) := by
    funext c
    show (#[top] : Array Nat).contains c = _
    rw [Bool.eq_iff_iff]
    simp
  rw [e]
  have hh : stripHi (fun c => decide (c = top)) true (tx w) (stripLo (fun c => decide (c = top)) false (tx w)) = keptN w top := by
    show (tx w).length - (((tx w).cps.toList.drop 0).reverse.takeWhile fun c => decide (c = top)).length = keptN w top
    rw [tx_len, tx_cps, List.drop_zero]
    rfl
  rw [hh]
  have hl : stripLo (fun c => decide (c = top)) false (tx w) = 0 := rfl
  rw [hl]
  refine str_eq_of_lists ?_
  show ((tx w).cps.extract 0 (keptN w top)).toList = _
  rw [Array.toList_extract]
  simp [List.extract_eq_take_drop]
theorem kept_le (w : List Nat) (top : Nat) : keptN w top ≤ w.length := Nat.sub_le _ _
theorem gt_rev {w : List Nat} {k : Nat} (h : k < w.length) : gt w.reverse k = gt w (w.length - 1 - k) := by
  unfold gt
  rw [List.getD_eq_getElem?_getD, List.getD_eq_getElem?_getD, List.getElem?_reverse h]
theorem kept_tops {w : List Nat} {top y : Nat} (h1 : keptN w top ≤ y) (h2 : y < w.length) : gt w y = top := by
  unfold keptN at h1
  have h3 := takeWhile_all (fun c => decide (c = top)) 0 w.reverse (w.length - 1 - y) (by
    have := (List.takeWhile_prefix (fun c => decide (c = top)) (l := w.reverse)).length_le
    rw [List.length_reverse] at this
    omega)
  have h4 := of_decide_eq_true h3
  have h5 : gt w.reverse (w.length - 1 - y) = top := h4
  rw [gt_rev (by omega)] at h5
  rw [← h5]
  congr 1
  omega
theorem kept_last {w : List Nat} {top : Nat} (h : 1 ≤ keptN w top) : gt w (keptN w top - 1) ≠ top := by
  have h0 := kept_le w top
  unfold keptN at h h0 ⊢
  generalize hk : (w.reverse.takeWhile fun c => decide (c = top)).length = k at h h0 ⊢
  rcases takeWhile_stop (fun c => decide (c = top)) 0 w.reverse with h1 | h1
  · rw [hk, List.length_reverse] at h1
    omega
  · rw [hk] at h1
    have h2 : ¬ gt w.reverse k = top := of_decide_eq_false h1
    rw [gt_rev (by omega)] at h2
    intro h3
    apply h2
    rw [← h3]
    congr 1
    omega
/-- the word behind -/
def follW (w : List Nat) (s : Nat) : List Nat := (repW (w.length / s + 1) (w.take (s - 1) ++ [gt w (s - 1) + 1])).take w.length
theorem rep_gt {g : List Nat} (hg : 1 ≤ g.length) : ∀ {k y : Nat}, y < k * g.length → gt (repW k g) y = gt g (y % g.length)
  | 0, y, h => by omega
  | k + 1, y, h => by
    unfold repW
    rw [List.replicate_succ, List.flatten_cons]
    rw [Nat.add_mul, Nat.one_mul] at h
    by_cases c : y < g.length
    · rw [gt_appL c, Nat.mod_eq_of_lt c]
    · have := rep_gt hg (k := k) (y := y - g.length) (by omega)
      unfold repW at this
      have e : gt (g ++ (List.replicate k g).flatten) y = gt (List.replicate k g).flatten (y - g.length) := by
        unfold gt
        rw [List.getD_eq_getElem?_getD, List.getD_eq_getElem?_getD, List.getElem?_append_right (by omega)]
      rw [e, this, ← Nat.mod_eq_sub_mod (show y ≥ g.length by omega)]
theorem foll_of {w : List Nat} {top s : Nat} (h1 : 1 ≤ s) (hs : s = keptN w top) (hl : ∀ y, y < w.length → gt w y ≤ top) : Foll w top s (follW w s) := by
  have hle := kept_le w top
  have hsl : s ≤ w.length := by omega
  have hlast := kept_last (w := w) (top := top) (by omega)
  rw [← hs] at hlast
  have hgl : (w.take (s - 1) ++ [gt w (s - 1) + 1]).length = s := by
    rw [List.length_append, List.length_take, List.length_singleton]
    omega
  have hrep : w.length < (w.length / s + 1) * s := by
    have := Nat.mod_add_div w.length s
    have := Nat.mod_lt w.length (show 0 < s by omega)
    rw [Nat.add_mul, Nat.one_mul, Nat.mul_comm]
    omega
  have hg : ∀ y, y < w.length → gt (follW w s) y = gt (w.take (s - 1) ++ [gt w (s - 1) + 1]) (y % s) := fun y hy => by
    unfold follW
    rw [gt_take hy, rep_gt (by omega) (by rw [hgl]; omega), hgl]
  refine ⟨h1, hsl, ?_, fun y hy hy2 => kept_tops (by omega) hy2, ?_, fun y hy => ?_, ?_, fun y hy hy2 => ?_⟩
  · have := hl (s - 1) (by omega)
    omega
  · unfold follW
    rw [List.length_take, repW_len, hgl]
    omega
  · rw [hg y (by omega), Nat.mod_eq_of_lt (by omega), gt_appL (by rw [List.length_take]; omega), gt_take hy]
  · rw [hg (s - 1) (by omega), Nat.mod_eq_of_lt (by omega)]
    unfold gt
    rw [List.getD_eq_getElem?_getD, List.getElem?_append_right (by rw [List.length_take]; omega), List.length_take, show s - 1 - min (s - 1) w.length = 0 by omega]
    rfl
  · rw [hg y hy2, hg (y - s) (by omega), Nat.mod_eq_sub_mod hy]
theorem letter_place {c : Nat} (h1 : 97 ≤ c) (h2 : c ≤ 104) : Builtin.Str.occurrences ("abcdefgh" : Str) ⟨#[c]⟩ 0 ("abcdefgh" : Str).length 1 = [c - 97] := by
  have : c = 97 ∨ c = 98 ∨ c = 99 ∨ c = 100 ∨ c = 101 ∨ c = 102 ∨ c = 103 ∨ c = 104 := by omega
  rcases this with rfl | rfl | rfl | rfl | rfl | rfl | rfl | rfl <;> decide +kernel
theorem letter_up {c : Nat} (h1 : 97 ≤ c) (h2 : c < 104) : atI ("abcdefgh" : Str).cps.toList (((c - 97 : Nat) : Int) + 1) = some (c + 1) := by
  have : c = 97 ∨ c = 98 ∨ c = 99 ∨ c = 100 ∨ c = 101 ∨ c = 102 ∨ c = 103 := by omega
  rw [letters_list]
  rcases this with rfl | rfl | rfl | rfl | rfl | rfl | rfl <;> decide
theorem letter_top {c : Nat} (h1 : 1 ≤ c) (h2 : c ≤ 8) : atI ("abcdefgh" : Str).cps.toList ((c : Int) - 1) = some (96 + c) := by
  have : c = 1 ∨ c = 2 ∨ c = 3 ∨ c = 4 ∨ c = 5 ∨ c = 6 ∨ c = 7 ∨ c = 8 := by omega
  rw [letters_list]
  rcases this with rfl | rfl | rfl | rfl | rfl | rfl | rfl | rfl <;> decide
/-! the rings of a size, in their order -/
theorem app_one_lt {w v : List Nat} {a b : Nat} (hl : w.length = v.length) (h : w < v) : w ++ [a] < v ++ [b] := by
  obtain ⟨t, h1, h2, h3⟩ := of_lt h (by omega)
  exact lt_at (t := t) (by rw [List.length_append]; omega) (by rw [List.length_append]; omega) (fun y hy => by rw [gt_appL (by omega), gt_appL (by omega)]; exact h2 y hy) (by rw [gt_appL (by omega), gt_appL (by omega)]; exact h3)
theorem letters_pw (c : Nat) : (lettersN c).Pairwise (· < ·) := by
  unfold lettersN
  rw [List.pairwise_map]
  exact List.pairwise_lt_range.imp fun h => by omega
theorem allW_pw {c : Nat} (hc : c ≤ 8) : ∀ n, (allW c n).Pairwise (· < ·)
  | 0 => List.pairwise_singleton _ _
  | n + 1 => by
    unfold allW
    refine List.pairwise_flatMap.mpr ⟨fun w _ => ?_, ?_⟩
    · rw [List.pairwise_map]
      exact (letters_pw c).imp fun h => app_lt_left.mpr (List.cons_lt_cons_iff.mpr (.inl h))
    · refine List.Pairwise.imp_of_mem (fun {a b} ha hb h x hx y hy => ?_) (allW_pw hc n)
      obtain ⟨p, _, rfl⟩ := List.mem_map.mp hx
      obtain ⟨q, _, rfl⟩ := List.mem_map.mp hy
      exact app_one_lt (by rw [(allW_word c hc n a ha).1, (allW_word c hc n b hb).1]) h
theorem allW_mem {c : Nat} : ∀ {n : Nat} {w : List Nat}, w.length = n → (∀ x ∈ w, 97 ≤ x ∧ x ≤ 96 + c) → w ∈ allW c n
  | 0, w, h, _ => by rw [List.eq_nil_of_length_eq_zero h]; exact .head _
  | n + 1, w, h, hw => by
    have hne : w ≠ [] := fun z => by rw [z] at h; cases h
    have e := List.dropLast_concat_getLast hne
    unfold allW
    refine List.mem_flatMap.mpr ⟨w.dropLast, allW_mem (by rw [List.length_dropLast]; omega) fun x hx => hw x ((List.dropLast_sublist w).subset hx), List.mem_map.mpr ⟨w.getLast hne, ?_, e⟩⟩
    have := hw _ (List.getLast_mem hne)
    exact List.mem_map.mpr ⟨w.getLast hne - 97, List.mem_range.mpr (by omega), by omega⟩
theorem allW_let {c : Nat} : ∀ {n : Nat} {w : List Nat}, w ∈ allW c n → ∀ x ∈ w, 97 ≤ x ∧ x ≤ 96 + c
  | 0, w, h, x, hx => by rw [List.mem_singleton.mp h] at hx; cases hx
  | n + 1, w, h, x, hx => by
    obtain ⟨v, hv, hw⟩ := List.mem_flatMap.mp h
    obtain ⟨a, ha, rfl⟩ := List.mem_map.mp hw
    rcases List.mem_append.mp hx with hx | hx
    · exact allW_let hv x hx
    · rw [List.mem_singleton.mp hx]
      obtain ⟨i, hi, rfl⟩ := List.mem_map.mp ha
      have := List.mem_range.mp hi
      omega
theorem mem_gt {w : List Nat} {P : Nat → Prop} : (∀ x ∈ w, P x) ↔ ∀ y, y < w.length → P (gt w y) := by
  constructor
  · intro h y hy
    rw [gt_elem hy]
    exact h _ (List.getElem_mem hy)
  · intro h x hx
    obtain ⟨i, hi, rfl⟩ := List.getElem_of_mem hx
    have := h i hi
    rw [gt_elem hi] at this
    exact this
theorem some_mem {n c : Nat} (hc : c ≤ 8) {v : List Nat} : v ∈ someW n c ↔ Good2 n (96 + c) v := by
  unfold someW
  rw [List.mem_filter, decide_eq_true_eq]
  constructor
  · rintro ⟨h1, h2⟩
    have hl := (allW_word c hc n v h1).1
    refine ⟨h2, hl, fun y hy => ?_⟩
    exact (mem_gt (P := fun x => 97 ≤ x ∧ x ≤ 96 + c)).mp (allW_let h1) y (by omega)
  · rintro ⟨h1, h2, h3⟩
    exact ⟨allW_mem h2 ((mem_gt (P := fun x => 97 ≤ x ∧ x ≤ 96 + c)).mpr fun y hy => h3 y (by omega)), h1⟩
theorem some_pw {n c : Nat} (hc : c ≤ 8) : (someW n c).Pairwise (· < ·) := List.Pairwise.sublist List.filter_sublist (allW_pw hc n)
theorem IsNext.uniq {l : List Nat} {top : Nat} : ∀ {r s : Option (List Nat)}, IsNext l top r → IsNext l top s → r = s
  | none, none, _, _ => rfl
  | none, some y, h, g => absurd g.2.1 (h y g.1)
  | some x, none, h, g => absurd h.2.1 (g x h.1)
  | some x, some y, h, g => by rw [List.le_antisymm (h.2.2 y g.1 g.2.1) (g.2.2 x h.1 h.2.1)]
theorem some_next {n c i : Nat} (hc : c ≤ 8) {l : List Nat} (h : (someW n c)[i]? = some l) : IsNext l (96 + c) (someW n c)[i + 1]? := by
  obtain ⟨hi, rfl⟩ := List.getElem?_eq_some_iff.mp h
  have hg := (some_mem hc).mp (List.getElem_mem hi)
  have pw := List.pairwise_iff_getElem.mp (some_pw (n := n) hc)
  have key : ∀ v, Good2 n (96 + c) v → (someW n c)[i] < v → ∃ j, i < j ∧ ∃ hj : j < (someW n c).length, (someW n c)[j] = v := fun v hv hlt => by
    obtain ⟨j, hj, rfl⟩ := List.getElem_of_mem ((some_mem hc).mpr hv)
    refine ⟨j, Nat.lt_of_not_le fun z => ?_, hj, rfl⟩
    rcases Nat.lt_or_eq_of_le z with z | z
    · exact List.lt_asymm hlt (pw j i hj hi z)
    · subst z; exact List.lt_irrefl _ hlt
  have hl := hg.2.1
  cases e : (someW n c)[i + 1]? with
  | none =>
    intro v hv hlt
    rw [hl] at hv
    obtain ⟨j, h1, h2, _⟩ := key v hv hlt
    have := List.getElem?_eq_none_iff.mp e
    omega
  | some x =>
    obtain ⟨hx, rfl⟩ := List.getElem?_eq_some_iff.mp e
    refine ⟨by rw [hl]; exact (some_mem hc).mp (List.getElem_mem hx), pw i (i + 1) hi hx (by omega), fun v hv hlt => ?_⟩
    rw [hl] at hv
    obtain ⟨j, h1, h2, rfl⟩ := key v hv hlt
    rcases Nat.lt_or_eq_of_le (show i + 1 ≤ j from h1) with z | z
    · exact List.le_of_lt (pw (i + 1) j hx h2 z)
    · subst z; exact List.le_refl _
theorem rep_good {n c : Nat} (hn : 1 ≤ n) (hc : 1 ≤ c) : Good2 n (96 + c) (List.replicate n 97) := by
  have hg : ∀ y, y < n → gt (List.replicate n 97) y = 97 := fun y hy => by
    unfold gt
    rw [List.getD_eq_getElem?_getD, List.getElem?_replicate, if_pos hy]
    rfl
  have hl : (List.replicate n 97).length = n := List.length_replicate ..
  refine ⟨?_, hl, fun y hy => by rw [hg y hy]; omega⟩
  refine run_rg (p := 1) ⟨Nat.le_refl _, by omega, Nat.le_refl _, fun x h1 h2 => ?_, fun r h1 h2 => by omega⟩ (Nat.mod_one _)
  rw [hl] at h2
  rw [Nat.zero_add, Nat.zero_add, hg x (by omega), hg (x - 1) (by omega)]
theorem some_first {n c : Nat} (hn : 1 ≤ n) (hc : 1 ≤ c) (hc8 : c ≤ 8) : (someW n c)[0]? = some (List.replicate n 97) := by
  have hm := (some_mem hc8).mpr (rep_good hn hc)
  obtain ⟨j, hj, e⟩ := List.getElem_of_mem hm
  have h0 : 0 < (someW n c).length := by omega
  have hg := (some_mem hc8).mp (List.getElem_mem h0)
  have hle : List.replicate n 97 ≤ (someW n c)[0] := by
    intro c2
    obtain ⟨t, q1, _, q3⟩ := of_lt c2 (by rw [List.length_replicate, hg.2.1]; exact Nat.le_refl _)
    rw [List.length_replicate] at q1
    have h1 := (hg.2.2 t q1).1
    have h2 := ((rep_good hn hc).2.2 t q1)
    have h3 : gt (List.replicate n 97) t = 97 := by
      unfold gt
      rw [List.getD_eq_getElem?_getD, List.getElem?_replicate, if_pos q1]
      rfl
    omega
  have : j = 0 := by
    refine Nat.eq_zero_of_not_pos fun z => ?_
    have := List.pairwise_iff_getElem.mp (some_pw (n := n) hc8) 0 j h0 hj z
    rw [e] at this
    exact hle this
  subst this
  rw [List.getElem?_eq_getElem h0, e]
/-- a measure for the search of the next ring -/
def seekMu (k : Nat) (σ : L2.St) (H : Hp) : Nat := match σ[k]? with
  | some (some (.ref T)) => match H T with
    | some (.tup (.str z :: _)) => 1 + (9 ^ 60 - valW z.cps.toList)
    | _ => 0
  | _ => 0
theorem seekMu_ref {k : Nat} {σ : L2.St} {H : Hp} {T : Addr} {x : List Nat} {r : List V} (hs : σ[k]? = some (some (.ref T))) (hT : H T = some (.tup (vS x :: r))) : seekMu k σ H = 1 + (9 ^ 60 - valW x) := by
  unfold seekMu
  rw [hs]
  show (match H T with
    | some (.tup (.str z :: _)) => 1 + (9 ^ 60 - valW z.cps.toList)
    | _ => 0) = _
  rw [hT]
theorem seekMu_non {k : Nat} {σ : L2.St} {H : Hp} (hs : σ[k]? = some (some .non)) : seekMu k σ H = 0 := by
  unfold seekMu
  rw [hs]
theorem val_lt60 {l : List Nat} (h : l.length ≤ 60) (hl : ∀ c ∈ l, c ≤ 104) : valW l < 9 ^ 60 := Nat.lt_of_lt_of_le (valW_lt l hl) (Nat.pow_le_pow_right (by decide) h)
theorem Seek.word {l w : List Nat} {c : Nat} (k : Seek l (96 + c) w) (c8 : c ≤ 8) : ∀ x ∈ w, 97 ≤ x ∧ x ≤ 104 := (mem_gt (P := fun x => 97 ≤ x ∧ x ≤ 104)).mpr fun y hy => by
  have := k.let_ y hy
  omega
theorem rep_one (n c : Nat) : repW n [c] = List.replicate n c := by
  unfold repW
  induction n with
  | zero => rfl
  | succ n ih => rw [List.replicate_succ, List.flatten_cons, ih, List.replicate_succ]; rfl
/-- how many entries the list at p has -/
def lenAt (p : Addr) (H : Hp) : Nat := match H p with
  | some (.lst xs) => xs.length
  | _ => 0
theorem lenAt_of {p : Addr} {H : Hp} {xs : List V} (h : H p = some (.lst xs)) : lenAt p H = xs.length := by
  unfold lenAt
  rw [h]
theorem some_ok {n c : Nat} (h1 : 1 ≤ n) (h2 : n ≤ 60) (c1 : 1 ≤ c) (c8 : c ≤ 8) {l : List Nat} (h : l ∈ someW n c) : RingOk (vS l) (.int (c : Int)) l c := by
  obtain ⟨g1, g2, g3⟩ := (some_mem c8).mp h
  refine ⟨rfl, rfl, IsW.mk (by omega) (by omega) ((mem_gt (P := fun x => 97 ≤ x ∧ x ≤ 104)).mpr fun y hy => ?_), g1, c1, c8, decide_eq_true fun y hy => (g3 y (by omega)).2⟩
  have := g3 y (by omega)
  omega
theorem some_len {n c : Nat} (h : FewN n c) : (someW n c).length ≤ 100000 := Nat.le_trans (List.length_filter_le _ _) (by rw [allW_len]; exact h)
theorem RingOk.noE {K : PySem.W.Frag} {l : List Nat} {c : Nat} {H : Hp} {E : XK} (h : RingOk (vS l) (.int (c : Int)) l c) : RingE K (vS l) (.int (c : Int)) H E := by
  obtain ⟨_, _, wl, rl, c1, c8, tl⟩ := h
  have hr : ringV (vS l) = true := by rw [ringV_vS, show wordB l = true from wl, decide_eq_true rl]; rfl
  refine ⟨fun z => (by rw [hr] at z; cases z), fun _ z => ?_, fun l' c' e1 _ e2 _ _ z => ?_⟩
  · have : amongB (.int (c : Int)) 1 8 = true := by
      show (decide ((1 : Int) ≤ c) && decide ((c : Int) ≤ 8)) = true
      rw [decide_eq_true (by omega), decide_eq_true (by omega)]; rfl
    rw [this] at z
    cases z
  · obtain rfl := tx_inj (V.str.inj e1)
    have e3 := Int.ofNat.inj (V.int.inj e2)
    subst e3
    rw [tl] at z
    cases z
end Bd

namespace Bd
open PySem PySem.Spec PyProof.Rows L2 Evl
/-! ### promises: words parted -/
def primeB (l : List Nat) : Bool := decide (∀ k, k < l.length → 1 ≤ k → l < turn l k)
theorem primeB_iff {l : List Nat} : primeB l = true ↔ Prm l := by
  unfold primeB
  rw [decide_eq_true_eq]
  exact ⟨fun h k h1 h2 => h k h2 h1, fun h k h1 h2 => h k h2 h1⟩
def primeV : V → Bool
  | .str z => wordB z.cps.toList && primeB z.cps.toList
  | _ => false
theorem primeV_vS (l : List Nat) : primeV (vS l) = (wordB l && primeB l) := by simp [primeV]
theorem primeV_no {v : V} (h : wordV v = false) : primeV v = false := by
  cases v with
  | str z => show (wordB z.cps.toList && _) = false; rw [show wordB z.cps.toList = false from h]; rfl
  | _ => rfl
theorem Good.prime {l : List Nat} {ps : List (List Nat)} (h : Good l ps) (wl : 1 ≤ l.length) : decide ((ps.length : Int) = 1) = primeB l := by
  rw [Bool.eq_iff_iff, decide_eq_true_eq, primeB_iff]
  constructor
  · intro e
    exact (h.single.mp (by omega)).prm
  · intro e
    have := h.single.mpr (e.lyn (List.length_pos_iff.mp wl))
    omega
theorem Good.word {l : List Nat} {ps : List (List Nat)} (h : Good l ps) (wl : IsW l) : ∀ p ∈ ps, IsW p ∧ primeB p = true := fun p hp => by
  have hs : ∀ c ∈ p, c ∈ l := fun c hc => by rw [← h.flat]; exact List.mem_flatten.mpr ⟨p, hp, hc⟩
  have hl : p.length ≤ l.length := by
    rw [← h.flat]
    exact (List.sublist_flatten_of_mem hp).length_le
  have := wl.le
  exact ⟨IsW.mk (List.length_pos_iff.mpr (h.lyn p hp).ne) (by omega) fun c hc => wl.let_ c (hs c hc), primeB_iff.mpr (h.lyn p hp).prm⟩
theorem Good.len {l : List Nat} {ps : List (List Nat)} (h : Good l ps) : ps.length ≤ l.length := by
  rw [← h.flat]
  have : ∀ qs : List (List Nat), (∀ q ∈ qs, Lyn q) → qs.length ≤ qs.flatten.length := by
    intro qs
    induction qs with
    | nil => intro _; exact Nat.le_refl _
    | cons q qs ih =>
      intro hq
      have h1 := List.length_pos_iff.mpr (hq q (.head _)).ne
      have h2 := ih fun x hx => hq x (.tail _ hx)
      rw [List.flatten_cons, List.length_append, List.length_cons]
      omega
  exact this ps h.lyn
def sp_run_from (_ : PySem.W.Frag) : Sp := fun vs H Q _ => ∃ (l : List Nat) (b : Nat), vs = [vS l, .int (b : Int)] ∧ IsW l ∧ b < l.length ∧
  ∀ j p, Run l b j p → Stop l j p → ∀ T H', H T = none → Ex H H' → H' T = some (.tup [.int (p : Int), .int ((j - p : Nat) : Int)]) → Q (.ref T) H'
def sp_parts_of (K : PySem.W.Frag) : Sp := fun vs H Q E => ∃ v, vs = [v] ∧ Thing H v ∧ (∀ l, v = vS l → IsW l → ∀ ps, Good l ps → ∀ p H', H p = none → Ex H H' → H' p = some (.lst (ps.map vS)) → Q (.ref p) H') ∧
  (wordV v = false → ∀ H', Ex H H' → E (badW K) none H')
def sp_is_prime (_ : PySem.W.Frag) : Sp := fun vs H Q _ => ∃ v, vs = [v] ∧ Thing H v ∧ ∀ H', Ex H H' → Q (.bl (primeV v)) H'
def sp__law_is_prime (_ : PySem.W.Frag) : Sp := fun vs H Q _ => ∃ l, vs = [vS l] ∧ IsW l ∧ ∀ H', Ex H H' → Q (.bl (primeB l)) H'
def sp__law_right (_ : PySem.W.Frag) : Sp := fun vs H Q _ => ∃ l, vs = [vS l] ∧ IsW l ∧ ∀ H', Ex H H' → Q (.bl true) H'
def sp_k04_refused (_ : PySem.W.Frag) : Sp := fun vs H Q _ => ∃ (v : V), vs = [v] ∧ Thing H v ∧ wordV v = false ∧ ∀ H', Ex H H' → Q (.bl true) H'
theorem at_gt {l : List Nat} {x : Nat} (h : x < l.length) : atI l (x : Int) = some (gt l x) := atI_nat (gt_some h)
theorem lt_one4 (c d : Nat) : decide (([c] : List Nat) < [d]) = decide (c < d) :=
  decide_eq_decide.mpr ⟨fun w => (by
    cases w with
    | rel w => exact w
    | cons w => cases w), fun z => List.Lex.rel z⟩
/-- how far a loop with a place in slot k is from an end -/
def farN (k n : Nat) (σ : L2.St) : Nat := match σ[k]? with
  | some (some (.int j)) => n - j.toNat
  | _ => 0
theorem cutV1 (xs : List V) : cutV xs (some 1) none = xs.drop 1 := by
  unfold cutV
  rw [show (some (1 : Int)) = some ((1 : Nat) : Int) from rfl, HT.sIx_nat, HT.sIx_none]
  cases xs with
  | nil => rfl
  | cons x xs =>
    rw [show min 1 (x :: xs).length = 1 by rw [List.length_cons]; omega, List.take_of_length_le (by rw [List.length_drop]; omega)]
theorem Good.step {l : List Nat} {ps : List (List Nat)} (g : Good l ps) {i : Nat} {a b : List Nat} (ha : ps[i]? = some a) (hb : (ps.drop 1)[i]? = some b) : decide (a < b) = false := by
  rw [List.getElem?_drop] at hb
  obtain ⟨h1, rfl⟩ := List.getElem?_eq_some_iff.mp ha
  obtain ⟨h2, rfl⟩ := List.getElem?_eq_some_iff.mp hb
  exact decide_eq_false (List.pairwise_iff_getElem.mp g.dec i (1 + i) h1 h2 (by omega))
end Bd

namespace Bd
open PySem PySem.Spec PyProof.Rows L2 Evl
/-! ### which begins are begins of rings -/
/-- a begin, the rest the greatest letter -/
def fillW (a : List Nat) (n top : Nat) : List Nat := a ++ List.replicate (n - a.length) top
theorem fill_len {a : List Nat} {n top : Nat} (h : a.length ≤ n) : (fillW a n top).length = n := by
  unfold fillW
  rw [List.length_append, List.length_replicate]
  omega
theorem fill_ahead {a : List Nat} {n top y : Nat} (h : y < a.length) : gt (fillW a n top) y = gt a y := gt_appL h
theorem fill_top {a : List Nat} {n top y : Nat} (h : a.length ≤ y) (hy : y < n) : gt (fillW a n top) y = top := by
  unfold fillW gt
  rw [List.getD_eq_getElem?_getD, List.getElem?_append_right h, List.getElem?_replicate, if_pos (by omega)]
  rfl
theorem eq_of_gt {v w : List Nat} (hl : v.length = w.length) (h : ∀ y, y < v.length → gt v y = gt w y) : v = w :=
  List.ext_getElem hl fun y h1 h2 => by
    have := h y h1
    rw [gt_elem h1, gt_elem h2] at this
    exact this
theorem Run.congr {v w : List Nat} {j p : Nat} (r : Run w 0 j p) (h : ∀ y, y < j → gt v y = gt w y) (hj : j ≤ v.length) : Run v 0 j p :=
  ⟨r.p1, r.pj, hj, fun x h1 h2 => by
    have := r.pj
    have := r.p1
    rw [h _ (by omega), h _ (by omega)]
    exact r.per x h1 h2, fun k h1 h2 => by
    have := r.pj
    obtain ⟨t, g1, g2, g3⟩ := r.lyn k h1 h2
    exact ⟨t, g1, fun y hy => by rw [h _ (by omega), h _ (by omega)]; exact g2 y hy, by rw [h _ (by omega), h _ (by omega)]; exact g3⟩⟩
theorem all_top_rg {w : List Nat} {top : Nat} (hn : 1 ≤ w.length) (h : ∀ y, y < w.length → gt w y = top) : Rg w := by
  refine run_rg (p := 1) ⟨Nat.le_refl _, by omega, Nat.le_refl _, fun x h1 h2 => ?_, fun r h1 h2 => by omega⟩ (Nat.mod_one _)
  rw [Nat.zero_add, Nat.zero_add, h x (by omega), h (x - 1) (by omega)]
theorem prefix_ring {n top : Nat} {v a : List Nat} (hn : 1 ≤ n) (hv : Good2 n top v) (ha1 : 1 ≤ a.length) (ha : a.length ≤ n) (hp : ∀ y, y < a.length → gt v y = gt a y) : Rg (fillW a n top) := by
  obtain ⟨rv, lv, bv⟩ := hv
  have cv := rg_cond (by omega) rv
  have lw := fill_len (top := top) ha
  have agree : ∀ y, y < a.length → gt v y = gt (fillW a n top) y := fun y hy => by rw [fill_ahead hy]; exact hp y hy
  have step : ∀ k, a.length + k ≤ n → ((∀ y, y < a.length + k → gt v y = gt (fillW a n top) y) ∧ ∃ p, Run (fillW a n top) 0 (a.length + k) p) ∨ Run (fillW a n top) 0 (a.length + k) (a.length + k) ∨ gt (fillW a n top) 0 = top := by
    intro k
    induction k with
    | zero =>
      intro _
      obtain ⟨p, r⟩ := cond_run cv a.length ha1 (by omega)
      exact .inl ⟨agree, p, r.congr (fun y hy => (agree y hy).symm) (by omega)⟩
    | succ k ih =>
      intro hk
      have htop := fill_top (a := a) (n := n) (top := top) (y := a.length + k) (by omega) (by omega)
      have hle : ∀ y, y < n → gt (fillW a n top) y ≤ top := fun y hy => by
        by_cases c : y < a.length
        · rw [← agree y c]
          exact (bv y (by omega)).2
        · rw [fill_top (by omega) hy]
          exact Nat.le_refl _
      rcases ih (by omega) with ⟨ag, p, r⟩ | r | h
      · have hp1 := r.p1
        have hpj := r.pj
        by_cases c : gt (fillW a n top) (a.length + k - p) < top
        · have := r.more (by omega) (by rw [htop]; exact c)
          rw [Nat.sub_zero] at this
          exact .inr (.inl this)
        · have e : gt (fillW a n top) (a.length + k - p) = top := Nat.le_antisymm (hle _ (by omega)) (by omega)
          refine .inl ⟨fun y hy => ?_, p, r.same (by omega) (by rw [htop]; exact e)⟩
          by_cases c2 : y < a.length + k
          · exact ag y c2
          · have ey : y = a.length + k := by omega
            subst ey
            have h1 := cond_step cv (r.congr ag (by omega)) (by omega)
            rw [ag _ (by omega), e] at h1
            have h2 := (bv (a.length + k) (by omega)).2
            rw [htop]
            omega
      · by_cases c : gt (fillW a n top) 0 < top
        · have := r.more (by omega) (by rw [htop, Nat.sub_self]; exact c)
          rw [Nat.sub_zero] at this
          exact .inr (.inl this)
        · exact .inr (.inr (Nat.le_antisymm (hle 0 (by omega)) (by omega)))
      · exact .inr (.inr h)
  rcases step (n - a.length) (by omega) with ⟨ag, _⟩ | r | h
  · rw [show a.length + (n - a.length) = n by omega] at ag
    rw [← eq_of_gt (by omega) (fun y hy => ag y (by omega))]
    exact rv
  · rw [show a.length + (n - a.length) = (fillW a n top).length by omega] at r
    exact run_rg r (Nat.mod_self _)
  · refine all_top_rg (top := top) (by omega) fun y hy => ?_
    rw [lw] at hy
    by_cases c : y < a.length
    · rw [← agree y c]
      have h1 := cv y 0 (by omega) (fun z hz => absurd hz (Nat.not_lt_zero _))
      rw [Nat.add_zero, agree 0 (by omega), h] at h1
      have := (bv y hy).2
      omega
    · exact fill_top (by omega) hy
/-- the least ring with a begin -/
def LeastExt (a : List Nat) (n top : Nat) (x : List Nat) : Prop := Good2 n top x ∧ (∀ y, y < a.length → gt x y = gt a y) ∧ ∀ v, Good2 n top v → (∀ y, y < a.length → gt v y = gt a y) → x ≤ v
/-- what the search of the least one keeps -/
structure Ext (a : List Nat) (n top : Nat) (b : List Nat) : Prop where
  a1 : 1 ≤ a.length
  ab : a.length ≤ b.length
  bn : b.length ≤ n
  ahead : ∀ y, y < a.length → gt b y = gt a y
  let_ : ∀ y, y < b.length → 97 ≤ gt b y ∧ gt b y ≤ top
  ring : Rg (fillW b n top)
  low : ∀ v, Good2 n top v → (∀ y, y < a.length → gt v y = gt a y) → b ≤ v.take b.length
theorem Ext.good {a b : List Nat} {n top : Nat} (e : Ext a n top b) (h97 : 97 ≤ top) : Good2 n top (fillW b n top) := by
  refine ⟨e.ring, fill_len e.bn, fun y hy => ?_⟩
  by_cases c : y < b.length
  · rw [fill_ahead c]; exact e.let_ y c
  · rw [fill_top (by omega) hy]; omega
theorem gt_snoc_last (b : List Nat) (s : Nat) : gt (b ++ [s]) b.length = s := by
  unfold gt
  rw [List.getD_eq_getElem?_getD, List.getElem?_append_right (Nat.le_refl _), Nat.sub_self]
  rfl
theorem Ext.step {a b : List Nat} {n top s : Nat} (e : Ext a n top b) (hlt : b.length < n) (hs : 97 ≤ s ∧ s ≤ top) (hr : Rg (fillW (b ++ [s]) n top)) (no : ∀ z, 97 ≤ z → z < s → ¬ Rg (fillW (b ++ [z]) n top)) : Ext a n top (b ++ [s]) := by
  have hl : (b ++ [s]).length = b.length + 1 := by rw [List.length_append]; rfl
  have ab := e.ab
  have a1 := e.a1
  refine ⟨e.a1, by omega, by omega, fun y hy => by rw [gt_appL (by omega)]; exact e.ahead y hy, fun y hy => ?_, hr, fun v hv hav => ?_⟩
  · by_cases c : y < b.length
    · rw [gt_appL c]; exact e.let_ y c
    · rw [show y = b.length by omega, gt_snoc_last]; exact hs
  · intro c
    have h1 := e.low v hv hav
    have lv := hv.2.1
    rw [hl] at c
    obtain ⟨t, q1, q2, q3⟩ := of_lt c (by rw [hl, List.length_take]; omega)
    rw [hl] at q1
    by_cases ct : t < b.length
    · refine h1 (lt_at (t := t) (by rw [List.length_take]; omega) ct (fun y hy => ?_) ?_)
      · have := q2 y hy
        rw [gt_take (by omega), gt_appL (by omega)] at this
        rw [gt_take (by omega)]
        exact this
      · rw [gt_take (by omega), gt_appL ct] at q3
        rw [gt_take ct]
        exact q3
    · have et : t = b.length := by omega
      subst et
      rw [gt_take (by omega), gt_snoc_last] at q3
      have hvb := (hv.2.2 b.length (by omega)).1
      refine no (gt v b.length) hvb q3 (prefix_ring (by omega) hv (by rw [List.length_append]; omega) (by rw [List.length_append]; show b.length + 1 ≤ n; omega) fun y hy => ?_)
      rw [List.length_append, List.length_singleton] at hy
      by_cases cy : y < b.length
      · have := q2 y cy
        rw [gt_take (by omega), gt_appL cy] at this
        rw [gt_appL cy]
        exact this
      · rw [show y = b.length by omega, gt_snoc_last]
theorem Ext.done {a b : List Nat} {n top : Nat} (e : Ext a n top b) (h97 : 97 ≤ top) (hl : b.length = n) : LeastExt a n top b := by
  have hg := e.good h97
  have hb : fillW b n top = b := by
    unfold fillW
    rw [show n - b.length = 0 by omega, List.replicate_zero, List.append_nil]
  rw [hb] at hg
  refine ⟨hg, e.ahead, fun v hv hav => ?_⟩
  have := e.low v hv hav
  rw [List.take_of_length_le (by rw [hv.2.1, hl]; exact Nat.le_refl _)] at this
  exact this
theorem Ext.top {a b : List Nat} {n top : Nat} (e : Ext a n top b) (hlt : b.length < n) : Rg (fillW (b ++ [top]) n top) := by
  have : fillW (b ++ [top]) n top = fillW b n top := by
    unfold fillW
    rw [List.append_assoc, List.length_append, List.length_singleton]
    congr 1
    rw [show n - b.length = (n - (b.length + 1)) + 1 by omega, List.replicate_succ]
    rfl
  rw [this]
  exact e.ring
theorem Ext.start {a : List Nat} {n top : Nat} (a1 : 1 ≤ a.length) (an : a.length ≤ n) (hl : ∀ y, y < a.length → 97 ≤ gt a y ∧ gt a y ≤ top) (hr : Rg (fillW a n top)) : Ext a n top a :=
  ⟨a1, Nat.le_refl _, an, fun _ _ => rfl, hl, hr, fun v hv hav => by
    rw [show a = v.take a.length from eq_of_gt (by rw [List.length_take, hv.2.1]; omega) fun y hy => by rw [gt_take hy]; exact (hav y hy).symm]
    rw [show (v.take a.length).length = a.length by rw [List.length_take, hv.2.1]; omega]
    exact List.le_refl _⟩
/-! the search of the next ring from the right -/
/-- no ring has the begin of l up to a place and a greater letter there -/
def NoAt (l : List Nat) (top place : Nat) (upto : Nat) : Prop := ∀ z, gt l place < z → z < upto → ¬ Rg (fillW (l.take place ++ [z]) l.length top)
theorem next_found {l x : List Nat} {top place s : Nat} (hl : Good2 l.length top l) (hp : place < l.length) (hs : gt l place < s) (no : NoAt l top place s) (right : ∀ t, place < t → t < l.length → NoAt l top t (top + 1)) (hx : LeastExt (l.take place ++ [s]) l.length top x) : IsNext l top (some x) := by
  have lt_ : (l.take place ++ [s]).length = place + 1 := by rw [List.length_append, List.length_take, List.length_singleton]; omega
  have ltk : (l.take place).length = place := by rw [List.length_take]; omega
  have snoc_at : ∀ (t z : Nat), t < l.length → gt (l.take t ++ [z]) t = z := fun t z ht => by
    have := gt_snoc_last (l.take t) z
    rw [show (l.take t).length = t by rw [List.length_take]; omega] at this
    exact this
  have x1 : ∀ y, y < place → gt x y = gt l y := fun y hy => by
    rw [hx.2.1 y (by omega), gt_appL (by omega), gt_take hy]
  have x2 : gt x place = s := by
    rw [hx.2.1 place (by omega)]
    exact snoc_at place s hp
  have lx := hx.1.2.1
  refine ⟨hx.1, lt_at (t := place) hp (by omega) (fun y hy => (x1 y hy).symm) (by rw [x2]; exact hs), fun v hv hlv => ?_⟩
  have lv := hv.2.1
  obtain ⟨t, q1, q2, q3⟩ := of_lt hlv (by omega)
  have hvt := (hv.2.2 t (by omega)).2
  have pre : Rg (fillW (l.take t ++ [gt v t]) l.length top) := prefix_ring (by omega) hv (by rw [List.length_append, List.length_singleton]; omega) (by rw [List.length_append, List.length_take, List.length_singleton]; omega) fun y hy => by
    rw [List.length_append, List.length_take, List.length_singleton] at hy
    by_cases c : y < t
    · rw [gt_appL (by rw [List.length_take]; omega), gt_take c]
      exact (q2 y c).symm
    · rw [show y = t by omega]
      exact (snoc_at t (gt v t) (by omega)).symm
  by_cases c1 : place < t
  · exact absurd pre (right t c1 (by omega) (gt v t) q3 (by omega))
  · by_cases c2 : t < place
    · refine List.le_of_lt (lt_at (t := t) (by omega) q1 (fun y hy => ?_) ?_)
      · rw [x1 y (by omega)]; exact q2 y hy
      · rw [x1 t c2]; exact q3
    · have et : t = place := by omega
      subst et
      have h3 : s ≤ gt v t := Nat.le_of_not_lt fun c => no (gt v t) q3 c pre
      rcases Nat.lt_or_eq_of_le h3 with h4 | h4
      · refine List.le_of_lt (lt_at (t := t) (by omega) q1 (fun y hy => ?_) ?_)
        · rw [x1 y hy]; exact q2 y hy
        · rw [x2]; exact h4
      · refine hx.2.2 v hv fun y hy => ?_
        rw [lt_] at hy
        by_cases c : y < t
        · rw [gt_appL (by omega), gt_take c]
          exact (q2 y c).symm
        · rw [show y = t by omega, snoc_at t s hp]
          exact h4.symm
theorem next_none {l : List Nat} {top : Nat} (right : ∀ t, t < l.length → NoAt l top t (top + 1)) : IsNext l top none := fun v hv hlv => by
  have lv := hv.2.1
  obtain ⟨t, q1, q2, q3⟩ := of_lt hlv (by omega)
  have hvt := (hv.2.2 t (by omega)).2
  have snoc_at : ∀ (t z : Nat), t < l.length → gt (l.take t ++ [z]) t = z := fun t z ht => by
    have := gt_snoc_last (l.take t) z
    rw [show (l.take t).length = t by rw [List.length_take]; omega] at this
    exact this
  refine right t (by omega) (gt v t) q3 (by omega) (prefix_ring (by omega) hv (by rw [List.length_append, List.length_singleton]; omega) (by rw [List.length_append, List.length_take, List.length_singleton]; omega) fun y hy => ?_)
  rw [List.length_append, List.length_take, List.length_singleton] at hy
  by_cases c : y < t
  · rw [gt_appL (by rw [List.length_take]; omega), gt_take c]
    exact (q2 y c).symm
  · rw [show y = t by omega]
    exact (snoc_at t (gt v t) (by omega)).symm
end Bd

namespace Bd
open PySem PySem.Spec PyProof.Rows L2 Evl
/-! ### promises: k07 -/
section
variable {σ : L2.St} {H : Hp} {g : TG} {tb : TS} {D : Ends}
/-- for c in text -/
theorem for_S {te : TE} {l : List Nat} (src : ∀ R : VK, R (vS l) H → te σ H R) (Pv : Nat → L2.St → Hp → Prop) (h0 : Pv 0 σ H)
    (hs : ∀ (i c : Nat) σ' H', l[i]? = some c → Pv i σ' H' → g (vS [c]) σ' H' fun σ2 H2 => tb { D with nx := Pv (i + 1), ct := Pv (i + 1), bk := D.nx } σ2 H2) (hd : ∀ σ' H', Pv l.length σ' H' → D.nx σ' H') : tFor (iStr te) g tb D σ H :=
  src _ ⟨tx l, rfl, fun i m σ' H' => m = l.length - i ∧ i ≤ l.length ∧ Pv i σ' H', ⟨l.length, rfl, Nat.zero_le _, h0⟩, by
    rintro i m σ' H' ⟨rfl, hi, p⟩
    by_cases hlt : i < l.length
    · refine .inr ⟨?_, fun σ2 H2 => Pv (i + 1) σ2 H2, fun σ2 H2 p2 => ⟨l.length - (i + 1), by omega, rfl, hlt, p2⟩, fun x H2 y => ?_⟩
      · show i < (tx l).length
        rw [tx_len]
        exact hlt
      · obtain ⟨rfl, c, hc, rfl⟩ := y
        exact hs i c σ' H2 (by simpa using hc) p
    · have : i = l.length := by omega
      subst this
      exact .inl ⟨by show (tx l).length ≤ l.length; rw [tx_len]; exact Nat.le_refl _, hd σ' H' p⟩⟩
/-- for x in range(n - 1, -1, -1) -/
theorem for_down {ta : TA} {n : Nat} (src : ∀ R : List V → Hp → Prop, R [.int ((n : Int) - 1), .int (-1), .int (-1)] H → ta σ H R) (hn : n ≤ 1000000) (Pv : Nat → L2.St → Hp → Prop) (h0 : Pv 0 σ H)
    (hs : ∀ (i : Nat) σ' H', i < n → Pv i σ' H' → g (.int ((n - 1 - i : Nat) : Int)) σ' H' fun σ2 H2 => tb { D with nx := Pv (i + 1), ct := Pv (i + 1), bk := D.nx } σ2 H2) (hd : ∀ σ' H', Pv n σ' H' → D.nx σ' H') : tFor (iRng3 ta) g tb D σ H :=
  src _ ⟨(n : Int) - 1, -1, -1, ((n : Int) - 1 - (-1)).toNat, rfl, RgC.neg (by omega) (by omega) (by omega) (by omega), for_rangeC (lo := (n : Int) - 1) (c := -1) (n := ((n : Int) - 1 - (-1)).toNat) Pv h0 (fun i σ' H' hi p => by
    have e : (n : Int) - 1 + (i : Nat) * (-1) = ((n - 1 - i : Nat) : Int) := by omega
    rw [e]
    exact hs i σ' H' (by omega) p) (by rw [show ((n : Int) - 1 - (-1)).toNat = n by omega]; exact hd)⟩
end
def sp__law_is_ring (_ : PySem.W.Frag) : Sp := fun vs H Q _ => ∃ l, vs = [vS l] ∧ IsW l ∧ ∀ H', Ex H H' → Q (.bl (decide (ringW l = l))) H'
def sp__law_least_behind (_ : PySem.W.Frag) : Sp := fun vs H Q _ => ∃ (a : List Nat) (n c : Nat), vs = [vS a, .int (n : Int), .int (c : Int)] ∧ n ≤ 60 ∧ 1 ≤ c ∧ c ≤ 8 ∧ Ext a n (96 + c) a ∧ ∀ x, LeastExt a n (96 + c) x → ∀ H', Ex H H' → Q (vS x) H'
def sp__law_behind (_ : PySem.W.Frag) : Sp := fun vs H Q _ => ∃ (l : List Nat) (c : Nat), vs = [vS l, .int (c : Int)] ∧ RingOk (vS l) (.int (c : Int)) l c ∧ ∀ r, IsNext l (96 + c) r → ∀ H', Ex H H' → Q (optW r) H'
theorem fill_word {a : List Nat} {n c : Nat} (h1 : 1 ≤ n) (h2 : n ≤ 60) (c1 : 1 ≤ c) (c8 : c ≤ 8) (ha : a.length ≤ n) (hl : ∀ y, y < a.length → 97 ≤ gt a y ∧ gt a y ≤ 96 + c) : IsW (fillW a n (96 + c)) :=
  IsW.mk (by rw [fill_len ha]; exact h1) (by rw [fill_len ha]; exact h2) ((mem_gt (P := fun x => 97 ≤ x ∧ x ≤ 104)).mpr fun y hy => by
    rw [fill_len ha] at hy
    by_cases d : y < a.length
    · rw [fill_ahead d]
      have := hl y d
      omega
    · rw [fill_top (by omega) hy]
      omega)
theorem is_ring_no {l : List Nat} (h : 1 ≤ l.length) : decide (∀ k, k < l.length - 1 → decide (turn l (k + 1) < l) = false) = decide (ringW l = l) := by
  refine decide_eq_decide.mpr ⟨fun g => rg_of h fun i hi => ?_, fun g k hk => decide_eq_false fun c => rg_le h g (i := k + 1) (by omega) c⟩
  by_cases c : i = 0
  · subst c
    rw [turn_zero]
    exact List.le_refl _
  · have := of_decide_eq_false (g (i - 1) (by omega))
    rw [show i - 1 + 1 = i by omega] at this
    exact this
/-- how long the text in slot k is -/
def textAt (k : Nat) (σ : L2.St) : Nat := match σ[k]? with
  | some (some (.str z)) => z.length
  | _ => 0
theorem sizes_ok {n c : Nat} (h : (n, c) ∈ sizes20) : 1 ≤ n ∧ n ≤ 60 ∧ 1 ≤ c ∧ c ≤ 8 ∧ c ^ n ≤ 5000 := by
  have : ∀ p ∈ sizes20, 1 ≤ p.1 ∧ p.1 ≤ 60 ∧ 1 ≤ p.2 ∧ p.2 ≤ 8 ∧ p.2 ^ p.1 ≤ 5000 := by decide
  exact this (n, c) h
theorem shows_opt {r : Option (List Nat)} (h : ∀ x, r = some x → IsW x) : shows (optW r) := by
  cases r with
  | none => trivial
  | some x => exact shows_W (h x rfl)
theorem next_isW {l : List Nat} {c : Nat} (wl : IsW l) (c8 : c ≤ 8) {r : Option (List Nat)} (h : IsNext l (96 + c) r) : ∀ x, r = some x → IsW x := fun x hx => by
  subst hx
  obtain ⟨_, hl, hb⟩ := h.1
  refine IsW.mk (by rw [hl]; exact wl.pos) (by rw [hl]; exact wl.le) ((mem_gt (P := fun z => 97 ≤ z ∧ z ≤ 104)).mpr fun y hy => ?_)
  have := hb y (by omega)
  omega
theorem topC_mem : ∀ (r : List Nat) (x : Nat), topC x r ∈ x :: r ∧ ∀ y ∈ x :: r, y ≤ topC x r
  | [], x => ⟨.head _, fun y hy => by rw [List.mem_singleton.mp hy]; exact Nat.le_refl _⟩
  | z :: r, x => by
    obtain ⟨h1, h2⟩ := topC_mem r (max x z)
    have e : topC x (z :: r) = topC (max x z) r := rfl
    rw [e]
    refine ⟨?_, fun y hy => ?_⟩
    · rcases List.mem_cons.mp h1 with h | h
      · rw [h]
        by_cases c : x ≤ z
        · rw [Nat.max_eq_right c]; exact .tail _ (.head _)
        · rw [Nat.max_eq_left (by omega)]; exact .head _
      · exact .tail _ (.tail _ h)
    · have hm := h2 (max x z) (.head _)
      rcases List.mem_cons.mp hy with rfl | hy
      · omega
      · rcases List.mem_cons.mp hy with rfl | hy
        · omega
        · exact h2 y (.tail _ hy)
/-- what stands beside the rings of a size: each one's next one -/
theorem beside {S : List (List Nat)} {i : Nat} {x y : V} (hx : (S.map vS)[i]? = some x) (hy : ((S.drop 1).map vS ++ [V.non])[i]? = some y) : ∃ l, S[i]? = some l ∧ x = vS l ∧ y = optW S[i + 1]? := by
  rw [List.getElem?_map] at hx
  obtain ⟨l, hl, rfl⟩ := Option.map_eq_some_iff.mp hx
  obtain ⟨hi, _⟩ := List.getElem?_eq_some_iff.mp hl
  refine ⟨l, hl, rfl, ?_⟩
  by_cases c : i + 1 < S.length
  · rw [List.getElem?_append_left (by rw [List.length_map, List.length_drop]; omega), List.getElem?_map, List.getElem?_drop, Nat.add_comm 1 i, List.getElem?_eq_getElem c] at hy
    rw [List.getElem?_eq_getElem c]
    exact (Option.some.inj hy).symm
  · rw [List.getElem?_append_right (by rw [List.length_map, List.length_drop]; omega), List.length_map, List.length_drop, show i - (S.length - 1) = 0 by omega] at hy
    rw [List.getElem?_eq_none_iff.mpr (by omega)]
    exact (Option.some.inj hy).symm
theorem cut_one (xs : List V) : cutV xs (some 1) none = xs.drop 1 := by
  unfold cutV
  rw [show (some (1 : Int)) = some ((1 : Nat) : Int) from rfl, HT.sIx_nat, HT.sIx_none]
  cases xs with
  | nil => rfl
  | cons x xs =>
    rw [show min 1 (x :: xs).length = 1 by rw [List.length_cons]; omega, List.take_of_length_le (by rw [List.length_drop]; omega)]
section
variable {K : PySem.W.Frag} {σ : L2.St} {H : Hp} {g : TG} {tb : TS} {D : Ends}
/-- for x, y in zip(xs, ys), of one length -/
theorem for_Z {ta : TA} {a : Addr} {xs ys : List V} (src : ∀ R : List V → Hp → Prop, (∀ b H1, Ex H H1 → SqL K H1 b ys → R [.ref a, .ref b] H1) → ta σ H R) (hx : SqL K H a xs) (hl : xs.length = ys.length) (Pv : Nat → L2.St → Prop) (h0 : Pv 0 σ)
    (hs : ∀ H1, Ex H H1 → ∀ (i : Nat) (x y : V) (T : Addr) σ' H', xs[i]? = some x → ys[i]? = some y → Ex H1 H' → Pv i σ' → H' T = none → g (.ref T) σ' (upd H' T (.tup [x, y])) fun σ2 H2 => tb { D with nx := fun σ3 H3 => Ex H1 H3 ∧ Pv (i + 1) σ3, ct := fun σ3 H3 => Ex H1 H3 ∧ Pv (i + 1) σ3, bk := D.nx } σ2 H2)
    (hd : ∀ σ' H', Ex H H' → Pv xs.length σ' → D.nx σ' H') : tFor (iZip K ta) g tb D σ H :=
  src _ fun b H1 e1 hy => ⟨a, b, xs, ys, rfl, ex_l e1 hx, hy, RZ.for_zipL hl (fun i σ' H' => Ex H1 H' ∧ Pv i σ') ⟨Ex.refl _, h0⟩ (fun i σ' H' w => ⟨ex_l (e1.trans w.1) hx, ex_l w.1 hy⟩) (fun i x y T σ' H' gx gy w nT => hs H1 e1 i x y T σ' H' gx gy w.1 w.2 nT) (fun σ' H' w => hd σ' H' (e1.trans w.1) w.2)⟩
end
end Bd

namespace Bd
open PySem PySem.Spec PyProof.Rows L2 Evl
/-! ### promises: numbers of rings, the long word -/
def sp_number_of (K : PySem.W.Frag) : Sp := fun vs H Q E => ∃ v u, vs = [v, u] ∧ Thing H v ∧ Thing H u ∧ RingE K v u H E ∧ ∀ l c, RingOk v u l c → (3000 < mRings l.length c → ∀ H', Ex H H' → E (badM K) none H') ∧
  (mRings l.length c ≤ 3000 → FewN l.length c ∧ ∀ i, (someW l.length c)[i]? = some l → ∀ H', Ex H H' → Q (.int ((i : Nat) : Int)) H')
def inRange (t : V) (k : Nat) : Bool := match t with
  | .int i => decide (0 ≤ i) && decide (i < (k : Int))
  | _ => false
def sp_ring_at (K : PySem.W.Frag) : Sp := fun vs H Q E => ∃ t v u, vs = [t, v, u] ∧ Thing H t ∧ Thing H v ∧ Thing H u ∧ FewE K v u H E ∧ ∀ n c, FewOk v u n c → FewN n c ∧ (inRange t (someW n c).length = false → ∀ H', Ex H H' → E (badO K) none H') ∧
  ∀ (i : Nat) x, t = .int (i : Int) → (someW n c)[i]? = some x → ∀ H', Ex H H' → Q (vS x) H'
theorem flat_map_vS (S : List (List Nat)) : (S.map vS).all flatV = true := List.all_eq_true.mpr fun x hx => by
  obtain ⟨l, _, rfl⟩ := List.mem_map.mp hx
  rfl
theorem eqV_S_self (l : List Nat) : eqV (vS l) (vS l) = true := by
  show (tx l == tx l) = true
  exact beq_self_eq_true _
theorem eqV_S_ne {a b : List Nat} (h : a ≠ b) : eqV (vS a) (vS b) = false := by
  show (tx a == tx b) = false
  exact beq_eq_false_iff_ne.mpr fun z => h (tx_inj z)
/-- the primes whose length goes into a length -/
def primesW (n c : Nat) : List (List Nat) := (divs n).flatMap fun d => (someW d c).filter primeB
def IsLong (n c : Nat) (ys : List (List Nat)) : Prop := ys.Perm (primesW n c) ∧ ys.Pairwise (· ≤ ·)
def LongE (K : PySem.W.Frag) (v u : V) (H : Hp) (E : XK) : Prop := (sizesB v u = false → ∀ H', Ex H H' → E (badN K) none H') ∧ (∀ n c : Nat, v = .int (n : Int) → u = .int (c : Int) → sizesB v u = true → 3000 < c ^ n → ∀ H', Ex H H' → E (badM K) none H')
def LongOk (v u : V) (n c : Nat) : Prop := v = .int (n : Int) ∧ u = .int (c : Int) ∧ 1 ≤ n ∧ n ≤ 60 ∧ 1 ≤ c ∧ c ≤ 8 ∧ c ^ n ≤ 3000
def sp_long_word (K : PySem.W.Frag) : Sp := fun vs H Q E => ∃ v u, vs = [v, u] ∧ Thing H v ∧ Thing H u ∧ LongE K v u H E ∧ ∀ n c, LongOk v u n c → ∀ ys, IsLong n c ys → ∀ H', Ex H H' → Q (vS ys.flatten) H'
def goodText (t : V) (n c : Nat) : Bool := match t with
  | .str z => wordB z.cps.toList && (decide (z.cps.toList.length = n) && inTop z.cps.toList c)
  | _ => false
def sp_place_of (K : PySem.W.Frag) : Sp := fun vs H Q E => ∃ t v u, vs = [t, v, u] ∧ Thing H t ∧ Thing H v ∧ Thing H u ∧ LongE K v u H E ∧ ∀ n c, LongOk v u n c → (goodText t n c = false → ∀ H', Ex H H' → E (badW K) none H') ∧
  ∀ l, t = vS l → goodText t n c = true → ∀ ys, IsLong n c ys → ∃ k, (List.range ((repW (n / ys.flatten.length + 2) ys.flatten).length + 1)).find? (standsAt (repW (n / ys.flatten.length + 2) ys.flatten) l) = some k ∧ ∀ H', Ex H H' → Q (.int ((k : Nat) : Int)) H'
theorem few_all : ((List.range 60).all fun n => (List.range 8).all fun c => !decide ((c + 1) ^ (n + 1) ≤ 3000) || decide (mRings (n + 1) (c + 1) ≤ 3000)) = true := by decide +kernel
theorem few_of {n c : Nat} (h1 : 1 ≤ n) (h2 : n ≤ 60) (h3 : 1 ≤ c) (h4 : c ≤ 8) (h : c ^ n ≤ 3000) : mRings n c ≤ 3000 := by
  have := List.all_eq_true.mp (List.all_eq_true.mp few_all (n - 1) (List.mem_range.mpr (by omega))) (c - 1) (List.mem_range.mpr (by omega))
  rw [show n - 1 + 1 = n by omega, show c - 1 + 1 = c by omega, decide_eq_true h] at this
  simpa using this
theorem primesW_word {n c : Nat} (hn : n ≤ 60) (c8 : c ≤ 8) : ∀ w ∈ primesW n c, IsW w := fun w hw => by
  obtain ⟨d, hd, hw⟩ := List.mem_flatMap.mp hw
  obtain ⟨h1, h2, _⟩ := divs_mem.mp hd
  obtain ⟨h3, _⟩ := List.mem_filter.mp hw
  exact allW_isW c8 h1 (by omega) w (List.mem_filter.mp h3).1
theorem sum_le {ws : List (List Nat)} (h : ∀ w ∈ ws, w.length ≤ 60) : ((ws.map tx).map fun x => x.length).sum ≤ 60 * ws.length := by
  induction ws with
  | nil => exact Nat.le_refl _
  | cons w ws ih =>
    have h1 := ih fun v hv => h v (.tail _ hv)
    have h2 := h w (.head _)
    rw [List.map_cons, List.map_cons, List.sum_cons, List.length_cons, tx_len]
    omega
theorem primesW_len {n c : Nat} (hn : n ≤ 60) (h1 : 1 ≤ c) (h : c ^ n ≤ 3000) : (primesW n c).length ≤ 180000 := by
  have part : ∀ d ∈ divs n, c ^ d ≤ 3000 := fun d hd => by
    obtain ⟨_, h2, _⟩ := divs_mem.mp hd
    exact Nat.le_trans (Nat.pow_le_pow_right h1 h2) h
  have plen : ∀ ds : List Nat, (∀ d ∈ ds, d ∈ divs n) → (ds.flatMap fun d => (someW d c).filter primeB).length ≤ ds.length * 3000 := fun ds => by
    induction ds with
    | nil => intro _; exact Nat.le_refl _
    | cons d ds ih =>
      intro hd
      have h1 := ih fun x hx => hd x (.tail _ hx)
      have h2 : ((someW d c).filter primeB).length ≤ 3000 := Nat.le_trans (List.length_filter_le _ _) (Nat.le_trans (List.length_filter_le _ _) (by rw [allW_len]; exact part d (hd d (.head _))))
      rw [List.flatMap_cons, List.length_append, List.length_cons, Nat.add_mul, Nat.one_mul]
      omega
  have := plen (divs n) fun d hd => hd
  have h2 := divs_le n
  show (((divs n).flatMap fun d => (someW d c).filter primeB)).length ≤ _
  omega
theorem top_lt (x : Nat) (r : List Nat) (c : Nat) : decide ([96 + c] < [topC x r]) = !inTop (x :: r) c := by
  rw [lt_one, Bool.eq_iff_iff, decide_eq_true_eq, Bool.not_eq_true', inTop, decide_eq_false_iff_not, ← mem_gt (P := fun z => z ≤ 96 + c)]
  obtain ⟨h1, h2⟩ := topC_mem r x
  constructor
  · intro h z
    have := z _ h1
    omega
  · intro h
    refine Nat.lt_of_not_le fun z => h fun y hy => Nat.le_trans (h2 y hy) z
theorem flat_len {m : Nat} : ∀ {ws : List (List Nat)}, (∀ w ∈ ws, w.length ≤ m) → ws.flatten.length ≤ ws.length * m
  | [], _ => Nat.zero_le _
  | w :: ws, h => by
    have h1 := flat_len fun v hv => h v (.tail _ hv)
    have h2 := h w (.head _)
    rw [List.flatten_cons, List.length_append, List.length_cons, Nat.add_mul, Nat.one_mul]
    omega
theorem primesW_few {n c : Nat} (h1 : 1 ≤ c) : (primesW n c).length ≤ n * c ^ n := by
  have plen : ∀ ds : List Nat, (∀ d ∈ ds, d ∈ divs n) → (ds.flatMap fun d => (someW d c).filter primeB).length ≤ ds.length * c ^ n := fun ds => by
    induction ds with
    | nil => intro _; exact Nat.zero_le _
    | cons d ds ih =>
      intro hd
      have h3 := ih fun x hx => hd x (.tail _ hx)
      obtain ⟨_, h4, _⟩ := divs_mem.mp (hd d (.head _))
      have h2 : ((someW d c).filter primeB).length ≤ c ^ n := Nat.le_trans (List.length_filter_le _ _) (Nat.le_trans (List.length_filter_le _ _) (by rw [allW_len]; exact Nat.pow_le_pow_right h1 h4))
      rw [List.flatMap_cons, List.length_append, List.length_cons, Nat.add_mul, Nat.one_mul]
      omega
  exact Nat.le_trans (plen (divs n) fun d hd => hd) (Nat.mul_le_mul_right _ (divs_le n))
theorem long_len {n c : Nat} (n1 : 1 ≤ n) (n60 : n ≤ 60) (c1 : 1 ≤ c) (c8 : c ≤ 8) (h : c ^ n ≤ 3000) {ys : List (List Nat)} (hy : IsLong n c ys) : ys.flatten.length ≤ 363000 ∧ 1 ≤ ys.flatten.length := by
  have hm : ∀ w ∈ ys, w.length ≤ n := fun w hw => by
    obtain ⟨d, hd, hw⟩ := List.mem_flatMap.mp (hy.1.mem_iff.mp hw)
    obtain ⟨h1, h2, _⟩ := divs_mem.mp hd
    have := ((some_mem c8).mp (List.mem_filter.mp hw).1).2.1
    omega
  refine ⟨?_, ?_⟩
  · have h1 := flat_len hm
    have h2 := primesW_few (n := n) (c := c) c1
    rw [← hy.1.length_eq] at h2
    have h3 : ys.flatten.length ≤ n * c ^ n * n := Nat.le_trans h1 (Nat.mul_le_mul_right _ h2)
    by_cases k : c = 1
    · subst k
      rw [Nat.one_pow, Nat.mul_one] at h3
      have := Nat.mul_le_mul n60 n60
      omega
    · have n11 : n ≤ 11 := Nat.le_of_not_lt fun z => by
        have a := Nat.pow_le_pow_left (show 2 ≤ c by omega) n
        have b := Nat.pow_le_pow_right (show 0 < 2 by decide) (show 12 ≤ n from z)
        have : (2 : Nat) ^ 12 = 4096 := by decide
        omega
      have := Nat.mul_le_mul (Nat.mul_le_mul n11 h) n11
      omega
  · have : [97] ∈ ys := hy.1.mem_iff.mpr (List.mem_flatMap.mpr ⟨1, divs_mem.mpr ⟨Nat.le_refl _, n1, Nat.mod_one n⟩, List.mem_filter.mpr ⟨List.mem_filter.mpr ⟨allW_mem rfl fun x hx => by rw [List.mem_singleton.mp hx]; omega, by decide⟩, by decide⟩⟩)
    have hs := (List.sublist_flatten_of_mem this).length_le
    exact hs
end Bd

namespace Bd
open PySem PySem.Spec PyProof.Rows L2 Evl
/-! ### the counts of twenty sizes, and the sums of all sizes, by evaluation -/
def ltL : List Nat → List Nat → Bool
  | [], [] => false
  | [], _ :: _ => true
  | _ :: _, [] => false
  | a :: l, b :: m => if Nat.blt a b then true else if Nat.beq a b then ltL l m else false
theorem ltL_eq : ∀ l m : List Nat, ltL l m = decide (l < m)
  | [], [] => rfl
  | [], a :: l => by rw [ltL]; exact (decide_eq_true (List.nil_lt_cons a l)).symm
  | _ :: _, [] => by rw [ltL, decide_eq_false (List.not_lt_nil _)]
  | a :: l, b :: m => by
    rw [ltL, ltL_eq l m]
    by_cases h : a < b
    · rw [if_pos (by simpa using h), decide_eq_true (List.cons_lt_cons_iff.mpr (.inl h))]
    · rw [if_neg (by simpa using h)]
      by_cases e : a = b
      · subst e
        rw [if_pos (by simp), decide_eq_decide.mpr List.cons_lt_cons_self.symm]
      · rw [if_neg (by simpa using e), decide_eq_false]
        intro w
        rcases List.cons_lt_cons_iff.mp w with w | w
        · exact h w
        · exact e w.1
def eqL : List Nat → List Nat → Bool
  | [], [] => true
  | a :: l, b :: m => Nat.beq a b && eqL l m
  | _, _ => false
theorem eqL_eq : ∀ l m : List Nat, eqL l m = decide (l = m)
  | [], [] => rfl
  | [], _ :: _ => rfl
  | _ :: _, [] => rfl
  | a :: l, b :: m => by
    rw [eqL, eqL_eq l m]
    by_cases e : a = b
    · subst e
      by_cases e2 : l = m
      · subst e2; simp
      · rw [decide_eq_false e2, decide_eq_false fun q => e2 (List.cons.inj q).2, Bool.and_false]
    · rw [decide_eq_false fun q => e (List.cons.inj q).1, show Nat.beq a b = false from Bool.eq_false_iff.mpr fun h => e (Nat.eq_of_beq_eq_true h), Bool.false_and]
def leastL (l : List Nat) : List Nat := (List.range l.length).foldl (fun m k => let o := l.drop k ++ l.take k; if ltL o m then o else m) l
theorem leastL_eq (l : List Nat) : leastL l = ringW l := by
  unfold leastL ringW leastW turnsOf
  rw [List.foldl_map]
  refine congrFun (congrFun (congrArg List.foldl (funext fun m => funext fun k => ?_)) l) _
  show (if ltL (turn l k) m = true then turn l k else m) = if turn l k < m then turn l k else m
  rw [ltL_eq]
  by_cases h : turn l k < m
  · rw [decide_eq_true h, if_pos h]; rfl
  · rw [decide_eq_false h, if_neg h]; rfl
def isRingL (l : List Nat) : Bool := (List.range l.length).all fun k => !ltL (l.drop k ++ l.take k) l
theorem isRingL_eq {l : List Nat} (h : 1 ≤ l.length) : isRingL l = decide (ringW l = l) := by
  unfold isRingL
  rw [Bool.eq_iff_iff, List.all_eq_true, decide_eq_true_eq]
  constructor
  · intro a
    refine (ringW_min h).uniq (n := l) (T := turnsOf l) ⟨self_mem_turns h, fun y hy => ?_⟩ fun _ => Iff.rfl
    obtain ⟨k, hk, rfl⟩ := mem_turns.mp hy
    have := a k (List.mem_range.mpr hk)
    rw [ltL_eq] at this
    intro w
    rw [show (l.drop k ++ l.take k) = turn l k from rfl, decide_eq_true w] at this
    cases this
  · intro e k hk
    have := (ringW_min h).2 (turn l k) (mem_turns.mpr ⟨k, List.mem_range.mp hk, rfl⟩)
    rw [e] at this
    rw [ltL_eq, show (l.drop k ++ l.take k) = turn l k from rfl, decide_eq_false this]
    rfl
def someF (n c : Nat) : List (List Nat) := (allW c n).filter isRingL
def countF (n c : Nat) : List Nat :=
  let s := someF n c
  [s.length, (s.filter fun w => (List.range (n - 1)).all fun k => !eqL (w.drop (k + 1) ++ w.take (k + 1)) w).length, (s.filter fun w => !ltL (leastL w.reverse) w).length, (s.filter fun w => eqL (leastL w.reverse) w).length]
theorem countF_eq {n c : Nat} (hn : 1 ≤ n) (hc : c ≤ 8) : counted n c = (countF n c).map fun x : Nat => (x : Int) := by
  have e0 : someF n c = someW n c := by
    unfold someF someW
    refine List.filter_congr fun w hw => isRingL_eq ?_
    rw [(allW_word c hc n w hw).1]
    exact hn
  unfold counted countF
  rw [e0]
  have e1 : (fun w : List Nat => (List.range (n - 1)).all fun k => !eqL (w.drop (k + 1) ++ w.take (k + 1)) w) = fun w => decide (∀ k, k < n - 1 → turn w (k + 1) ≠ w) := by
    funext w
    rw [Bool.eq_iff_iff, List.all_eq_true, decide_eq_true_eq]
    constructor
    · intro h k hk e
      have := h k (List.mem_range.mpr hk)
      rw [eqL_eq, show (w.drop (k + 1) ++ w.take (k + 1)) = turn w (k + 1) from rfl, decide_eq_true e] at this
      cases this
    · intro h k hk
      rw [eqL_eq, show (w.drop (k + 1) ++ w.take (k + 1)) = turn w (k + 1) from rfl, decide_eq_false (h k (List.mem_range.mp hk))]
      rfl
  have e2 : (fun w : List Nat => !ltL (leastL w.reverse) w) = fun w => !decide (ringW w.reverse < w) := by
    funext w
    rw [ltL_eq, leastL_eq]
  have e3 : (fun w : List Nat => eqL (leastL w.reverse) w) = fun w => decide (ringW w.reverse = w) := by
    funext w
    rw [eqL_eq, leastL_eq]
  simp only [e1, e2, e3]
  rfl
def okC (p : Nat × Nat) : Bool := decide (told p.1 p.2 = (countF p.1 p.2).map fun x : Nat => (x : Int)) && (decide (1 ≤ p.1) && (decide (p.1 ≤ 60) && (decide (1 ≤ p.2) && (decide (p.2 ≤ 8) && decide (p.2 ^ p.1 ≤ 5000))))) && (told p.1 p.2).all fun x => decide (x.natAbs ≤ 5000)
theorem great_all : ((List.range 60).all fun n => (List.range 8).all fun c => greatB (n + 1) (c + 1)) = true := by decide +kernel
theorem count_all : sizes20.all okC = true := by decide +kernel
theorem great_of {n c : Nat} (h1 : 1 ≤ n) (h2 : n ≤ 60) (h3 : 1 ≤ c) (h4 : c ≤ 8) : greatB n c = true := by
  have := List.all_eq_true.mp (List.all_eq_true.mp great_all (n - 1) (List.mem_range.mpr (by omega))) (c - 1) (List.mem_range.mpr (by omega))
  rw [show n - 1 + 1 = n by omega, show c - 1 + 1 = c by omega] at this
  exact this
theorem count_of {n c : Nat} (h : (n, c) ∈ sizes20) : told n c = counted n c ∧ 1 ≤ n ∧ n ≤ 60 ∧ 1 ≤ c ∧ c ≤ 8 ∧ c ^ n ≤ 5000 ∧ ∀ x ∈ told n c, x.natAbs ≤ 5000 := by
  have := List.all_eq_true.mp count_all (n, c) h
  simp only [okC, Bool.and_eq_true, decide_eq_true_eq] at this
  obtain ⟨⟨h1, h2, h3, h4, h5, h6⟩, h7⟩ := this
  refine ⟨by rw [countF_eq h2 h5]; exact h1, h2, h3, h4, h5, h6, fun x hx => ?_⟩
  exact of_decide_eq_true (List.all_eq_true.mp h7 x hx)
end Bd

namespace Bd
open PySem PySem.Spec PyProof.Rows L2
/-! ### sets of texts, of lists of texts; sorted(set(..)) (the proofs of the kit's sets of ints, turned to texts) -/
def keyS (e : Int × Value) : Str := match e.2 with | .str k _ => k | _ => Str.empty
def GoodT (w : World) (e : Int × Value) : Prop := ∃ k tk, e.2 = Value.str k tk ∧ e.1 = hashStr w k
/-- the set of texts at a: S its members, n their number; its table rises and can be walked -/
def SetS (w : World) (h : Heap) (a : Addr) (S : Str → Bool) (n : Nat) : Prop :=
  ∃ o es ep t, h.get? a = some o ∧ o.ExactSet ∧ o.data = .set es ep t ∧ (∀ e ∈ es.toList, GoodT w e) ∧ (es.toList.map keyS).Nodup ∧ (∀ k, S k = true ↔ k ∈ es.toList.map keyS) ∧
    es.size < scanBound ∧ t.fits es.size = true ∧ es.size = n ∧ Ris t.place.toList ∧ (w.params.followText "set-order" = true ∨ t.led = true)

section
variable {P : Program} {w : World} {h h' : Heap} {a : Addr} {S : Str → Bool} {n : Nat}

section
variable {P : Program} {w : World} {h h' : Heap} {a : Addr} {S : Str → Bool} {n : Nat}
theorem SetS.at (R : SetS w h a S n) (k : ∀ o, h.get? a = some o → h'.get? a = some o) : SetS w h' a S n := by
  obtain ⟨o, es, ep, t, ho, r⟩ := R
  exact ⟨o, es, ep, t, k o ho, r⟩
theorem SetS.congr {S' : Str → Bool} (R : SetS w h a S n) (e : ∀ k, S' k = S k) : SetS w h a S' n := by
  have q : S' = S := funext e
  rw [q]; exact R
theorem goodT_elems {l : List (Int × Value)} (g : ∀ e ∈ l, GoodT w e) : ElemsOf (strKind P w) l := fun e he => by
  obtain ⟨k, tk, h1, h2⟩ := g e he
  exact ⟨⟨k, by rw [h1]; exact strKind_is P w k tk, h2⟩, by rw [h1] <;> rfl⟩
theorem goodT_is {e : Int × Value} (g : GoodT w e) (k : Str) : (strKind P w).is k e.2 = true ↔ keyS e = k := by
  obtain ⟨k0, tk, h1, _⟩ := g
  unfold keyS
  rw [h1]
  show ((k0 == k) = true) ↔ k0 = k
  exact beq_iff_eq
theorem goodT_mem {l : List (Int × Value)} (g : ∀ e ∈ l, GoodT w e) (k : Str) : k ∈ l.map keyS ↔ ∃ e ∈ l, (strKind P w).is k e.2 = true := by
  rw [List.mem_map]
  constructor
  · rintro ⟨e, he, q⟩
    exact ⟨e, he, (goodT_is (g e he) k).2 q⟩
  · rintro ⟨e, he, q⟩
    exact ⟨e, he, (goodT_is (g e he) k).1 q⟩
end
section
variable {P : Program} {w : World} {A : Around} {E : Value → Shared → Prop} {s : Shared} {a : Addr} {S : Str → Bool} {n : Nat}
theorem setS_add_tail {g : Bool → Sem Unit} (hg : ∀ (b : Bool) (s₁ : Shared) (Q' : Unit → Shared → Prop), Q' () s₁ → wpAny (model P w) A (g b) Q' E s₁)
    {o : Obj} {es : Array (Int × Value)} {ep : Nat} {t : SetTable} (ho : s.heap.get? a = some o) (hex : o.ExactSet) (hd : o.data = .set es ep t)
    {es1 : Array (Int × Value)} {t2 : SetTable} {S' : Str → Bool} (g1 : ∀ e ∈ es1.toList, GoodT w e) (nd1 : (es1.toList.map keyS).Nodup) (m1 : ∀ k, S' k = true ↔ k ∈ es1.toList.map keyS)
    (hb1 : es1.size < scanBound) (hf2 : t2.fits es1.size = true) (hr : Ris t2.place.toList) (hl : w.params.followText "set-order" = true ∨ t2.led = true) {wasDummy : Bool} {R : Option Bool → Shared → Prop}
    (hR : ∀ h', Heap.SameBut a s.heap h' → SetS w h' a S' es1.size → R (some true) { s with heap := h' }) :
    wpAny (model P w) A (do
        storeSet a es1 t2
        if (!wasDummy && t2.tooFull) = true then do
            g (relayAll t2 es1 (SetTable.grown es1.size)).2.2
            storeSet a (relayAll t2 es1 (SetTable.grown es1.size)).1 (relayAll t2 es1 (SetTable.grown es1.size)).2.1
            pure (some true)
          else pure (some true)) R E s := by
  refine wpAny_bind (wpAny_storeSet_of ho hd ?_ (fits_of_scanBound hb1))
  have ho1 := store_at (es' := es1) (t' := t2) ho hd
  have sb1 := Heap.SameBut.update s.heap a (Obj.putSet es1 t2)
  split
  · have pm := relayAll_perm t2 es1 (SetTable.grown es1.size)
    have hf3 := relayAll_fits t2 es1 (SetTable.grown es1.size)
    have hr3 := relayAll_ris t2 es1 (SetTable.grown es1.size)
    have hl3 := relayAll_led t2 es1 (SetTable.grown es1.size)
    generalize relayAll t2 es1 (SetTable.grown es1.size) = Z at pm hf3 hr3 hl3 ⊢
    obtain ⟨es2, t3, gave⟩ := Z
    dsimp only at pm hf3 hr3 hl3 ⊢
    have hsz : es2.size = es1.size := by rw [← Array.length_toList, pm.length_eq, Array.length_toList]
    have hb2 : es2.size < scanBound := by rw [hsz]; exact hb1
    refine wpAny_bind (hg _ _ _ ?_)
    refine wpAny_bind (wpAny_storeSet_of ho1 rfl ?_ (fits_of_scanBound hb2))
    have ho2 := store_at (es' := es2) (t' := t3) ho1 rfl
    refine wpAny_pure (hR _ (sb1.trans (Heap.SameBut.update _ a _)) ?_)
    exact ⟨_, es2, _, t3, ho2, hex, rfl, fun e he => g1 e (pm.mem_iff.mp he), (pm.map keyS).nodup_iff.mpr nd1, fun k => (m1 k).trans (pm.map keyS).mem_iff.symm, hb2, hf3, hsz, hr3,
      hl.imp id fun z => by rw [hl3]; exact z⟩
  · exact wpAny_pure (hR _ sb1 ⟨_, es1, _, t2, ho1, hex, rfl, g1, nd1, m1, hb1, hf2, rfl, hr, hl⟩)

theorem setS_add_hashed {k : Str} {tk : Tok} {Q : Bool → Shared → Prop} (R : SetS w s.heap a S n) (room : n + 1 < scanBound)
    (hQ : ∀ h', Heap.SameBut a s.heap h' → SetS w h' a (fun j => S j || decide (j = k)) (if S k = true then n else n + 1) → Q (!S k) { s with heap := h' }) :
    wpAny (model P w) A (setAddHashed a (.str k tk) ((strKind P w).hash k)) Q E s := by
  obtain ⟨o, es, ep, t, ho, hex, hd, g, nd, hm, hb, hf, hn, hr, hl⟩ := R
  have hkey : (strKind P w).is k (.str k tk) = true := strKind_is P w k tk
  have hsc : (Value.str k tk).scannable = true := rfl
  have hel : ElemsOf (strKind P w) es.toList := goodT_elems g
  unfold setAddHashed setAddHashedIn
  refine wpAny_holding (wpAny_bind (wpAny_setState_of ho hd hf ?_))
  dsimp only
  rw [byScan_of hsc hb hel]
  simp only [↓reduceIte]
  unfold setAddByScan
  refine wpAny_bind ?_
  refine wpAny_bind (wpAny_rule ?_)
  refine wpAny_bind (wpAny_setScan_of hkey ho hd hf hel ?_)
  cases hfi : List.findIdx? (fun e => (strKind P w).is k e.2) es.toList with
  | some j =>
    dsimp only
    obtain ⟨hj, pj, _⟩ := List.findIdx?_eq_some_iff_getElem.mp hfi
    have hSk : S k = true := (hm k).2 ((goodT_mem (P := P) (w := w) g k).2 ⟨es.toList[j], List.getElem_mem hj, pj⟩)
    refine wpAny_pure (wpAny_pure ?_)
    have q := hQ s.heap (Heap.SameBut.refl a s.heap) ⟨o, es, ep, t, ho, hex, hd, g, nd, fun i => by
      rw [Bool.or_eq_true, decide_eq_true_eq, ← hm i]
      exact ⟨fun z => z.elim id (fun e => e ▸ hSk), .inl⟩, hb, hf, by rw [if_pos hSk]; exact hn, hr, hl⟩
    rw [hSk] at q
    exact q
  | none =>
    dsimp only
    have hnk : k ∉ es.toList.map keyS := fun z => by
      obtain ⟨e, he, q⟩ := (goodT_mem (P := P) (w := w) g k).1 z
      have c := List.findIdx?_eq_none_iff.mp hfi e he
      rw [q] at c
      cases c
    have hSk : S k = false := by
      cases q : S k with
      | false => rfl
      | true => exact absurd ((hm k).1 q) hnk
    have hgw : ∀ (b : Bool) {s₁ : Shared} {Q' : Unit → Shared → Prop}, Q' () s₁ → wpAny (model P w) A (match b with | true => rule "set.scan.the-table-gave-way" | false => pure ()) Q' E s₁ :=
      fun b s₁ Q' q => by cases b <;> first | exact wpAny_pure q | exact wpAny_rule q
    have pm := layNew_perm t es ((strKind P w).hash k) (.str k tk)
    have hf1 := layNew_fits t es ((strKind P w).hash k) (.str k tk)
    have hr1 := layNew_ris t es ((strKind P w).hash k) (.str k tk) hr
    have hl1 := layNew_led t es ((strKind P w).hash k) (.str k tk)
    generalize layNew t es ((strKind P w).hash k) (.str k tk) = Z at pm hf1 hr1 hl1 ⊢
    obtain ⟨es1, t1, wasDummy, gave⟩ := Z
    dsimp only at pm hf1 hr1 hl1 ⊢
    rw [Array.toList_push] at pm
    have pc : es1.toList.Perm (((strKind P w).hash k, Value.str k tk) :: es.toList) := pm.trans (List.perm_append_singleton _ _)
    have pk : (es1.toList.map keyS).Perm (k :: es.toList.map keyS) := pc.map keyS
    have g1 : ∀ e ∈ es1.toList, GoodT w e := fun e he => by
      rcases List.mem_cons.mp (pc.mem_iff.mp he) with z | z
      · rw [z]; exact ⟨k, tk, rfl, rfl⟩
      · exact g e z
    have nd1 : (es1.toList.map keyS).Nodup := pk.nodup_iff.mpr (List.nodup_cons.mpr ⟨hnk, nd⟩)
    have m1 : ∀ i, (S i || decide (i = k)) = true ↔ i ∈ es1.toList.map keyS := fun i => by
      rw [Bool.or_eq_true, decide_eq_true_eq, hm i, pk.mem_iff, List.mem_cons]
      exact Or.comm
    have hsz : es1.size = n + 1 := by rw [← Array.length_toList, pc.length_eq, List.length_cons, Array.length_toList, hn]
    have hb1 : es1.size < scanBound := by rw [hsz]; exact room
    have hled : w.params.followText "set-order" = true ∨ t1.led = true := hl.imp id fun z => by rw [hl1]; exact z
    have fin : ∀ h', Heap.SameBut a s.heap h' → SetS w h' a (fun j => S j || decide (j = k)) es1.size → Q true { s with heap := h' } := fun h' sb r => by
      have q := hQ h' sb
      rw [hSk] at q
      rw [hsz] at r
      exact q r
    refine wpAny_bind (hgw _ ?_)
    split
    · refine wpAny_bind ?_
      rw [hashByValue_scannable 8 hsc]
      refine wpAny_pure ?_
      refine setS_add_tail ?_ ho hex hd g1 nd1 m1 hb1 ?_ ?_ ?_ ?_
      · intro b s₁ Q' q; cases b <;> first | exact wpAny_pure q | exact wpAny_rule q
      · first | (split <;> first | exact hf1 | exact SetTable.fits_plain_off hf1) | exact hf1
      · first | (split <;> exact hr1) | exact hr1
      · first | (split <;> exact hled) | exact hled
      · intro h' sb r; dsimp only; exact wpAny_pure (fin h' sb r)
    · refine wpAny_bind (wpAny_pure ?_)
      simp only [↓reduceIte]
      refine setS_add_tail ?_ ho hex hd g1 nd1 m1 hb1 hf1 hr1 hled ?_
      · intro b s₁ Q' q; cases b <;> first | exact wpAny_pure q | exact wpAny_rule q
      · intro h' sb r; dsimp only; exact wpAny_pure (fin h' sb r)

end
theorem setS_new_at {w : World} {h : Heap} {a : Addr} {ns : List Str} (ho : h.get? a = some { cls := .type "set", dict := none, data := .set #[] 0 (.fresh 0 0 (!w.params.followText "set-order")) }) : SetS w h a (fun j => decide (j ∈ ns.take 0)) 0 :=
  ⟨_, #[], 0, _, ho, ⟨rfl, rfl, rfl⟩, rfl, (fun e he => by simp at he), (by simp), (fun k => by simp), (by decide), (by rfl), rfl, List.Pairwise.nil, by
    show _ ∨ (!w.params.followText "set-order") = true
    cases w.params.followText "set-order"
    · exact .inr rfl
    · exact .inl rfl⟩
section
variable {P : Program} {w : World} {A : Around} {E : Value → Shared → Prop} {s : Shared}
theorem set_update_txts {I : Addr} {fp wr : List Addr} {G : Array GenState → Array GenState → Prop} {n : Nat} {Pv : Nat → Value → Prop} {St : Nat → Shared → Prop} {R : Result → Shared → Prop}
    (W : WalksS P w A.in1 I fp wr G n Pv St) (S : Addr) (hSf : S ∉ fp) (ns : List Str) (hn : n = ns.length) (hb : ns.length + 1 < scanBound) (hval : ∀ i v, Pv i v → ∃ k t, ns[i]? = some k ∧ v = .str k t) :
    ∀ (k i : Nat) (s : Shared), n - i = k → i ≤ n → St i s → (∃ c, c ≤ i ∧ SetS w s.heap S (fun j => decide (j ∈ ns.take i)) c) →
      (∀ s' c, Moved (S :: wr) G s s' → c ≤ n → SetS w s'.heap S (fun j => decide (j ∈ ns)) c → R (.ok (.ret .none)) s') →
      codeAny (model P w) A (.builtin "set.update.loop" ⟨[.ref S, .ref I], []⟩) R s := by
  have hSw : S ∉ wr := fun h => hSf (W.sub _ h)
  have hsub : ∀ b ∈ wr, b ∈ S :: wr := fun b hb => List.mem_cons_of_mem _ hb
  intro k
  induction k with
  | zero =>
    intro i s hk' hi hst ⟨c, hc, hS⟩ hR
    have hin : i = n := by omega
    subst hin
    refine codeAny_builtin F.entry_set_update_loop ?_
    rw [Around.under_plainId F.plain_set_update_loop _]
    show wpAny _ A.in1 (pyNext (.ref I) >>= _) _ _ s
    refine wpAny_bind (W.done s _ _ hst fun s' hm => ?_)
    show wpAny _ A.in1 (ret Value.none) _ _ s'
    have e : ns.take i = ns := List.take_of_length_le (by omega)
    rw [e] at hS
    exact wpAny_pure (hR s' c (hm.mono hsub) hc (hS.at fun o e => hm.heap S o hSw e))
  | succ k ih =>
    intro i s hk' hi hst ⟨c, hc, hS⟩ hR
    have hlt : i < n := by omega
    refine codeAny_builtin F.entry_set_update_loop ?_
    rw [Around.under_plainId F.plain_set_update_loop _]
    show wpAny _ A.in1 (pyNext (.ref I) >>= _) _ _ s
    refine wpAny_bind (W.item i s _ _ hlt hst fun v s' hP hst' hm => ?_)
    obtain ⟨z, t, hz, rfl⟩ := hval i v hP
    have hS' : SetS w s'.heap S (fun j => decide (j ∈ ns.take i)) c := hS.at fun o e => hm.heap S o hSw e
    show wpAny _ A.in1 (holding [Value.str z t] (setAdd S (.str z t)) >>= _) _ _ s'
    refine wpAny_bind (wpAny_holding ?_)
    unfold setAdd
    refine wpAny_holding ?_
    refine wpAny_bind ((strKind P w).pyHash (k := z) (strKind_is _ _ _ _) ?_)
    refine setS_add_hashed (s := { s' with toks := s'.toks + 1 }) hS' (by omega) fun h' hsb hS2 => ?_
    have hS3 : SetS w h' S (fun j => decide (j ∈ ns.take (i + 1))) (if decide (z ∈ ns.take i) = true then c else c + 1) := hS2.congr fun j => by
      rw [List.take_add_one, hz]
      simp [List.mem_append]
    have hc3 : (if decide (z ∈ ns.take i) = true then c else c + 1) ≤ i + 1 := by
      split <;> omega
    refine wpAny_pure ⟨plainId_quiet F.plain_set_update_loop _, ih (i + 1) _ (by omega) hlt (W.frame _ s' _ _ hst' (Nat.le_succ _) fun b hb o e => ?_) ⟨_, hc3, hS3⟩ fun s'' c2 hm'' hc'' hS'' => ?_⟩
    · rw [hsb.2 b (fun h : b = S => hSf (by rw [← h]; exact hb))]; exact e
    · refine hR s'' c2 (Moved.trans W.gtrans ((hm.mono hsub).then_heap (Nat.le_succ _) fun b o hb e => ?_) hm'') hc'' hS''
      rw [hsb.2 b (fun h : b = S => hb (by rw [h]; exact List.mem_cons_self))]; exact e

set_option maxRecDepth 100000 in
set_option maxHeartbeats 3200000 in
theorem call_set_lst {l : Addr} {items : Array Value} {Fin : Heap → Prop} {Q : Value → Shared → Prop} (hh : A.handled = none) (hl : s.heap.IsList l items)
    (hloop : ∀ {A' : Around} {I : Addr} {fp wr : List Addr} {G : Array GenState → Array GenState → Prop} {St : Nat → Shared → Prop} {R : Result → Shared → Prop} (W : WalksS P w A'.in1 I fp wr G items.size (fun i v => items[i]? = some v) St) (s1 : Shared),
      s.heap.objs.size ∉ fp → St 0 s1 → s1.heap.get? s.heap.objs.size = some { cls := .type "set", dict := none, data := .set #[] 0 (.fresh 0 0 (!w.params.followText "set-order")) } →
      (∀ s', Moved (s.heap.objs.size :: wr) G s1 s' → Fin s'.heap → R (.ok (.ret .none)) s') → codeAny (model P w) A' (.builtin "set.update.loop" ⟨[.ref s.heap.objs.size, .ref I], []⟩) R s1)
    (h : ∀ (h' : Heap) (tk : Nat), Fin h' → (∀ b o, s.heap.get? b = some o → h'.get? b = some o) → Q (.ref s.heap.objs.size) { s with heap := h', toks := tk }) :
    wpAny (model P w) A (call (.type "set") [.ref l]) Q E s := by
  obtain ⟨c, tl, hmro⟩ := F.called_set.mro
  have hmade := F.called_set.made
  have hsub := F.called_set.sub
  refine wpAny_call (codeAny_of_tree ?_)
  show wpAny _ _ (callAny (.type "set") _) _ _ _
  refine wpAny_pure ⟨Code.quiet_builtin _ (by decide +kernel), codeAny_builtin F.entry_type_call ?_⟩
  rw [Around.under_plain (weight_type_call_type "set" [.ref l] []) rfl]
  have h1 := F.called_set.notType
  have h2 := F.called_set.canCreate
  have hct := F.typeCall_set_1 (.ref l)
  repeat (any_goals (first | assumption | wp_step))

  refine codeAny_mono (code_set_led1 (.ref l) (E := E) (Q₁ := fun obj s₁ => obj = .ref s.heap.objs.size ∧ s₁ = { s with heap := s.heap.push { cls := .type "set", dict := none, data := .set #[] 0 (.fresh 0 0 (!w.params.followText "set-order")) } }) ⟨rfl, rfl⟩) fun r s₁ hr => ?_
  cases r with
  | error e => exact hr
  | ok fl =>
    cases fl with
    | ret obj =>
      obtain ⟨rfl, rfl⟩ := hr
      have hS : (s.heap.push { cls := .type "set", dict := none, data := .set #[] 0 (.fresh 0 0 (!w.params.followText "set-order")) }).get? s.heap.objs.size = some { cls := .type "set", dict := none, data := .set #[] 0 (.fresh 0 0 (!w.params.followText "set-order")) } := Heap.get?_push_size _ rfl
      have hT : Shared.TypeIs { s with heap := s.heap.push { cls := .type "set", dict := none, data := .set #[] 0 (.fresh 0 0 (!w.params.followText "set-order")) } } (.ref s.heap.objs.size) "set" := ⟨_, hS, rfl⟩
      have hli := F.called_set.init.lookup
      have hbi := F.called_set.init.bind (.ref s.heap.objs.size)
      repeat (any_goals (first | assumption | wp_step))

      refine codeAny_mono (codeAny_call_builtin (R := wants (fun r s₂ => r = .none ∧ ∃ h' tk, s₂ = { s with heap := h', toks := tk } ∧ Fin h' ∧
          (∀ b o, s.heap.get? b = some o → h'.get? b = some o)) E) F.called_set.init.plain F.entry_set_init (check_set_init_1 hT ?_)) fun r₂ s₂ hr₂ => ?_
      · obtain ⟨ol, hol, hcl, nl, hdl⟩ := hl
        obtain ⟨ocls, odict, odata, oslots⟩ := ol
        simp only at hcl hdl
        subst hcl; subst hdl
        have hol' : (s.heap.push { cls := .type "set", dict := none, data := .set #[] 0 (.fresh 0 0 (!w.params.followText "set-order")) }).get? l = some { cls := .type "list", dict := odict, data := .seq items nl, slots := oslots } := Heap.get?_push_of_some _ hol
        have hsls := F.sub_list_set
        have hslf := F.sub_list_frozenset
        have hne : (Value.type "list" == Value.type "dict") = false := by decide
        have hl1 : (s.heap.push { cls := .type "set", dict := none, data := .set #[] 0 (.fresh 0 0 (!w.params.followText "set-order")) }).IsList l items := ⟨_, hol', rfl, nl, rfl⟩
        unfold Builtin.«set.__init__» noKeywords Builtin.Frozenset.updateFrom
        generalize hPI : pyIter = PI
        wp_walk
        subst hPI

        refine wpAny_pyIter_list hl1 ?_
        refine wpAny_bind (wpAny_runValue ?_)
        have hlS : l < s.heap.objs.size := Heap.lt_size hol
        have hh3 : A.in1.in1.in1.handled = none := by simp [hh]
        have hz1 : (s.heap.push { cls := .type "set", dict := none, data := .set #[] 0 (.fresh 0 0 (!w.params.followText "set-order")) }).objs.size = s.heap.objs.size + 1 := Heap.size_push ..
        have hneI : l ≠ (s.heap.push { cls := .type "set", dict := none, data := .set #[] 0 (.fresh 0 0 (!w.params.followText "set-order")) }).objs.size := by
          rw [Heap.size_push]; exact Nat.ne_of_lt (Nat.lt_succ_of_lt hlS)
        have hSf : s.heap.objs.size ∉ [(s.heap.push { cls := .type "set", dict := none, data := .set #[] 0 (.fresh 0 0 (!w.params.followText "set-order")) }).objs.size, l] := by
          rw [Heap.size_push]; simp only [List.mem_cons, List.mem_singleton, List.not_mem_nil, or_false, not_or]
          exact ⟨Nat.ne_of_lt (Nat.lt_succ_self _), Nat.ne_of_gt hlS⟩
        refine hloop ((Walks.list hh3 _ l hneI items).toS) _ hSf ⟨⟨_, Heap.get?_push_size _ rfl, rfl, rfl⟩, (hl1.push _)⟩ (Heap.get?_push_of_some _ hS) ?hR
        case hR =>
          intro s' hm hS'
          obtain ⟨h', g2, d', tk', os'⟩ := s'
          have eg : g2 = s.gens := hm.gens
          have ed : d' = s.drawn := hm.drawn
          have eo : os' = s.os := hm.os
          subst eg; subst ed; subst eo
          show wpAny _ _ _ _ _ _
          refine wpAny_pure ?_
          show wpAny _ _ (ret Value.none) _ _ _
          refine wpAny_pure ⟨rfl, h', tk', rfl, hS', fun b o e => ?_⟩
          have hb0 : b < s.heap.objs.size := Heap.lt_size e
          have hb1 : b ≠ s.heap.objs.size := Nat.ne_of_lt hb0
          have hb2 : b ≠ (s.heap.push { cls := .type "set", dict := none, data := .set #[] 0 (.fresh 0 0 (!w.params.followText "set-order")) }).objs.size := by
            rw [Heap.size_push]; exact Nat.ne_of_lt (Nat.lt_succ_of_lt hb0)
          exact hm.heap b o (by simp only [List.mem_cons, List.mem_singleton, List.not_mem_nil, or_false, not_or]; exact ⟨hb1, hb2⟩) (Heap.get?_push_of_some _ (Heap.get?_push_of_some _ e))

      · cases r₂ with
        | error e => exact hr₂
        | ok fl₂ =>
          cases fl₂ with
          | ret r =>
            obtain ⟨rfl, h', tk, rfl, hS', hk'⟩ := hr₂
            repeat (any_goals (first | assumption | wp_step))
            exact h _ _ hS' hk'
          | _ => exact hr₂.elim
    | _ => exact hr.elim

theorem call_set_lstI {l : Addr} {items : Array Value} (ns : List Int) {Q : Value → Shared → Prop} (hh : A.handled = none) (hl : s.heap.IsList l items) (hit : IntsAre items.toList ns) (hb : ns.length + 1 < scanBound)
    (h : ∀ (h' : Heap) (tk c : Nat), SetR w h' s.heap.objs.size (fun j => decide (j ∈ ns)) c → c ≤ ns.length → (∀ b o, s.heap.get? b = some o → h'.get? b = some o) → Q (.ref s.heap.objs.size) { s with heap := h', toks := tk }) :
    wpAny (model P w) A (call (.type "set") [.ref l]) Q E s := by
  have hisz : items.size = ns.length := by
    have q := IntsAre.length hit
    rw [Array.length_toList] at q
    exact q
  refine call_set_lst (Fin := fun h' => ∃ c, SetR w h' s.heap.objs.size (fun j => decide (j ∈ ns)) c ∧ c ≤ ns.length) hh hl (fun W s1 hn st hS hR => ?_) (fun h' tk ⟨c, hc, hl⟩ hk => h h' tk c hc hl hk)
  exact set_update_ints W s.heap.objs.size hn ns hisz hb (fun i v hv => by
    have hi : i < ns.length := by rw [← hisz]; exact (Array.getElem?_eq_some_iff.mp hv).1
    obtain ⟨t, e⟩ := PyProof.Rows.IntsAre.int_at hit i v (by rw [Array.getElem?_toList]; exact hv)
    refine ⟨ns[i], t, List.getElem?_eq_getElem hi, ?_⟩
    rw [e, List.getD_eq_getElem?_getD, List.getElem?_eq_getElem hi] <;> rfl) (items.size - 0) 0 _ (by omega) (Nat.zero_le _) st ⟨0, Nat.le_refl 0, setR_new_at hS⟩ (fun s' c hm hc hS' => hR s' hm ⟨c, hS', by omega⟩)
theorem call_set_lstT {l : Addr} {items : Array Value} (ns : List Str) {Q : Value → Shared → Prop} (hh : A.handled = none) (hl : s.heap.IsList l items) (hit : StrsAre items.toList ns) (hb : ns.length + 1 < scanBound)
    (h : ∀ (h' : Heap) (tk c : Nat), SetS w h' s.heap.objs.size (fun j => decide (j ∈ ns)) c → c ≤ ns.length → (∀ b o, s.heap.get? b = some o → h'.get? b = some o) → Q (.ref s.heap.objs.size) { s with heap := h', toks := tk }) :
    wpAny (model P w) A (call (.type "set") [.ref l]) Q E s := by
  have hisz : items.size = ns.length := by
    have q := StrsAre.length hit
    rw [Array.length_toList] at q
    exact q
  refine call_set_lst (Fin := fun h' => ∃ c, SetS w h' s.heap.objs.size (fun j => decide (j ∈ ns)) c ∧ c ≤ ns.length) hh hl (fun W s1 hn st hS hR => ?_) (fun h' tk ⟨c, hc, hl⟩ hk => h h' tk c hc hl hk)
  exact set_update_txts W s.heap.objs.size hn ns hisz hb (fun i v hv => by
    have hi : i < ns.length := by rw [← hisz]; exact (Array.getElem?_eq_some_iff.mp hv).1
    obtain ⟨t, e⟩ := SS.strs_at hit i v (by rw [Array.getElem?_toList]; exact hv)
    refine ⟨ns[i], t, List.getElem?_eq_getElem hi, ?_⟩
    rw [e, List.getD_eq_getElem?_getD, List.getElem?_eq_getElem hi] <;> rfl) (items.size - 0) 0 _ (by omega) (Nat.zero_le _) st ⟨0, Nat.le_refl 0, setS_new_at hS⟩ (fun s' c hm hc hS' => hR s' hm ⟨c, hS', by omega⟩)
end
end
section
variable {w : World} {A : Around} {E : Value → Shared → Prop} {s : Shared} {P : Program}
def wsV (v : Value) : List Nat := match v with | .str z _ => z.cps.toList | _ => []
theorem tx_cps_self (z : Str) : tx z.cps.toList = z := rfl
theorem vals_wsV : ∀ (vs : List Value), (∀ v ∈ vs, ∃ k tk, v = Value.str k tk) → Vals ((vs.map wsV).map vS) vs
  | [], _ => .nil
  | v :: vs, h => by
    obtain ⟨k, tk, rfl⟩ := h v (.head _)
    exact .cons ⟨tk, rfl⟩ (vals_wsV vs fun u hu => h u (.tail _ hu))
theorem eachIs_vS_free {h : Heap} {a : Addr} : ∀ {ws : List (List Nat)} {us : List Value}, Vals (ws.map vS) us → PySem.W.EachIs (fun v (l : List Nat) => ∃ as, Reads h v (.str (tx l)) as ∧ a ∉ as) us ws
  | [], us, r => by rw [List.map_nil] at r; cases r; exact .nil
  | l :: ws, us, r => by
    rw [List.map_cons] at r
    cases r with
    | cons r1 r2 =>
      obtain ⟨t, rfl⟩ := r1
      exact .cons ⟨[], Reads.str _ _, List.not_mem_nil⟩ (eachIs_vS_free r2)
theorem lt_of_le_nodupW : ∀ l : List (List Nat), l.Pairwise (· ≤ ·) → l.Nodup → l.Pairwise (· < ·)
  | [], _, _ => List.Pairwise.nil
  | x :: l, h, d => by
    obtain ⟨h1, h2⟩ := List.pairwise_cons.mp h
    obtain ⟨d1, d2⟩ := List.nodup_cons.mp d
    refine List.pairwise_cons.mpr ⟨fun y hy => ?_, lt_of_le_nodupW l h2 d2⟩
    exact List.not_le.mp fun z => d1 (List.le_antisymm (h1 y hy) z ▸ hy)
theorem sorted_setS {a : Addr} {S : Str → Bool} {n : Nat} {Q : Value → Shared → Prop} (R : SetS w s.heap a S n) (hh : A.handled = none) (hu : A.units + 64 < cLine)
    (hQ : ∀ s' p (out : Array Value) (c : Nat) (ys : List (List Nat)), (∀ b o, s.heap.get? b = some o → s'.heap.get? b = some o) → s'.gens = s.gens → s'.os = s.os → s.heap.objs.size ≤ p →
      s'.heap.get? p = some (seqObj "list" out c) → Vals (ys.map vS) out.toList → ys.Pairwise (· < ·) → (∀ l, l ∈ ys ↔ S (tx l) = true) → ys.length = n → Q (.ref p) s') :
    wpAny (model P w) A (call (.builtin "sorted") [.ref a]) Q E s := by
  obtain ⟨o, es, ep, t, ho, hex, hd, g, nd, hm, hb, hf, hn, hr, hl⟩ := R
  refine Calls.call_function_entry kind_sorted plain_sorted entry_sorted (args_sorted1 _) ?_
  unfold Builtin.«sorted»
  refine wpAny_bind (m := checkCount "sorted" 1 1 _) (wpAny_pure ?_)
  refine wpAny_bind (collect_set (A := A.in1) hh ⟨o, ho, hex.1, hd⟩ hf hb hr hl fun s1 vs k1 hz g1 o1 pm => ?_)
  have hvl : vs.length = n := by rw [pm.length_eq, List.length_map, Array.length_toList]; exact hn
  have hI : Vals ((vs.map wsV).map vS) vs := vals_wsV vs fun v hv => by
    obtain ⟨e, he, q⟩ := List.mem_map.mp (pm.mem_iff.mp hv)
    obtain ⟨k, tk, h1, _⟩ := g e he
    exact ⟨k, tk, by rw [← q]; exact h1⟩
  have pk : ((vs.map wsV).map tx).Perm (es.toList.map keyS) := by
    have q := (pm.map wsV).map tx
    rw [List.map_map, List.map_map, List.map_map] at q
    rw [List.map_map]
    refine q.trans (List.Perm.of_eq (List.map_congr_left fun e he => ?_))
    obtain ⟨k, tk, h1, _⟩ := g e he
    simp only [Function.comp_apply, keyS, h1, wsV]
  refine wpAny_bind (wpAny_newList ?_ (by rw [hvl, sizeLine_eq]; unfold scanBound at hb; omega))
  have hoL : (s1.heap.push (seqObj "list" vs.toArray 0)).get? s1.heap.objs.size = some (seqObj "list" vs.toArray 0) := Heap.get?_push_size _ rfl
  refine wpAny_bind (wpAny_holding (PySem.W.list_sort_data (enc := fun l : List Nat => PyData.str (tx l)) (R := fun v (l : List Nat) => RelV (vS l) v) hoL (eachIs_rel hI) (eachIs_vS_free hI) (fun d hd e he => ?_) (PySem.W.Sortable.others fun b => ⟨(fun z => nomatch z), (fun xs z => nomatch z)⟩) (by rw [List.length_map, hvl, sizeLine_eq]; unfold scanBound at hb; omega) (fun b _ => ?_) fun out hlo eo => ?_))
  · obtain ⟨l, _, rfl⟩ := List.mem_map.mp hd
    obtain ⟨m, _, rfl⟩ := List.mem_map.mp he
    rfl
  · show A.units + 1 + 1 + 0 < _
    omega
  · rw [PySem.W.dataLe_str] at eo
    simp only [tx_cps] at eo
    have hp := List.mergeSort_perm (vs.map wsV) (fun a b => decide (a ≤ b))
    have hso : ((vs.map wsV).mergeSort fun a b => decide (a ≤ b)).Pairwise (· ≤ ·) := by
      have := List.pairwise_mergeSort (le := fun a b : List Nat => decide (a ≤ b)) (fun a b c h1 h2 => decide_eq_true (List.le_trans (of_decide_eq_true h1) (of_decide_eq_true h2)))
        (fun a b => by
          rcases List.le_total a b with h | h
          · rw [decide_eq_true h]; rfl
          · rw [decide_eq_true h, Bool.or_true]) (vs.map wsV)
      exact this.imp fun h => of_decide_eq_true h
    obtain ⟨c, hc⟩ := sortedHeap_at (vs := vs) (out := out.toArray) hoL
    have hnd : (vs.map wsV).Nodup := by
      have := pk.nodup_iff.mpr nd
      exact List.Pairwise.of_map tx (fun _ _ hne e => hne (congrArg tx e)) this
    refine wpAny_pure ⟨_, rfl, hQ _ s1.heap.objs.size out.toArray c _ (fun b u e => ?_) g1 o1 hz hc (vals_each eo) (lt_of_le_nodupW _ hso (hp.nodup_iff.mpr hnd)) (fun l => ?_) ?_⟩
    · have q := k1 b u e
      have hlt := Heap.lt_size q
      show (sortedHeap (s1.heap.push (seqObj "list" vs.toArray 0)) s1.heap.objs.size vs out.toArray).get? b = some u
      rw [sortedHeap_old (Nat.ne_of_lt hlt) (by rw [size_push']; exact Nat.lt_succ_of_lt hlt)]
      exact Heap.get?_push_of_some _ q
    · refine hp.mem_iff.trans ?_
      rw [hm (tx l), ← pk.mem_iff]
      refine ⟨fun z => List.mem_map.mpr ⟨l, z, rfl⟩, fun z => ?_⟩
      obtain ⟨m, hm', e⟩ := List.mem_map.mp z
      exact tx_inj e ▸ hm'
    · rw [hp.length_eq, List.length_map]; exact hvl
end
/-- sorted(set(xs)), xs a list of texts; of ints -/
def tSortSetW (K : PySem.W.Frag) (ta : TE) : TE := fun σ H Q => ta σ H fun x H1 => ∃ (l : Addr) (ws : List (List Nat)), x = .ref l ∧ SqL K H1 l (ws.map vS) ∧ ws.length ≤ 4000 ∧
  ∀ (ys : List (List Nat)) (p : Addr), ys.Pairwise (· < ·) → (∀ l, l ∈ ys ↔ l ∈ ws) → H1 p = none → Q (.ref p) (upd H1 p (.lst (ys.map vS)))
def tSortSetI (K : PySem.W.Frag) (ta : TE) : TE := fun σ H Q => ta σ H fun x H1 => ∃ (l : Addr) (ns : List Int), x = .ref l ∧ SqL K H1 l (ns.map V.int) ∧ ns.length < 64 ∧
  ∀ (ys : List Int) (p : Addr), ys.Pairwise (· < ·) → (∀ k, k ∈ ys ↔ k ∈ ns) → ys.length ≤ ns.length → H1 p = none → Q (.ref p) (upd H1 p (.lst (ys.map V.int)))
section
variable {X : Cx} {a : Expr} {ta : TE} {p p2 q pos : Pos}
theorem strsAre_txs : ∀ {ws : List (List Nat)} {us : List Value}, Vals (ws.map vS) us → StrsAre us (ws.map tx)
  | [], us, r => by rw [List.map_nil] at r; cases r; exact .nil
  | l :: ws, us, r => by
    rw [List.map_cons] at r
    cases r with
    | cons r1 r2 =>
      obtain ⟨t, rfl⟩ := r1
      exact .cons _ t (strsAre_txs r2)
theorem pe_sortSetW (hc : X.calm = true) (hu : X.A.units + 64 < cLine) (hm : X.mg "sorted" = none) (hm2 : X.mg "set" = none) (ha : PE X a ta) (hg : Gl X "sorted" := by rfl) (hg2 : Gl X "set" := by rfl)
    (na : starEach [a] X.env = (false, eval a X.env) :: starEach [] X.env := by rfl) : PE X (.Call (.Name "sorted" p) [.Call (.Name "set" p2) [a] [] q] [] pos) (tSortSetW X.K ta) := by
  refine ⟨fun pins s σ H Q I h => ?_⟩
  refine Call_ (ld_blt I hg hm boot_sorted ?_)
  refine PyProof.Rows.callWith_builtin1 (PyProof.Rows.args_cons ?_ rfl) rfl rfl
  refine Call_ (ld_blt I hg2 hm2 boot_set ?_)
  refine PyProof.Rows.callWith_type1 (PyProof.Rows.args_cons (thn (ha.run pins s σ H _ I h) fun v s1 ⟨x, H1, I1, r1, q1⟩ => PyProof.Rows.args_nil ?_) na) na rfl
  obtain ⟨l, ws, rfl, hq, hl, q1⟩ := q1
  cases r1
  obtain ⟨its, r, pl, hz⟩ := I1.list hq
  refine call_set_lstT (ws.map tx) (I1.ok.hd hc) pl.isList (by simpa using strsAre_txs r) (by rw [List.length_map]; unfold scanBound; omega) fun h' tk c hS hcl hk => ?_
  refine PyProof.Rows.args_nil ?_
  have I2 : Inv X pins σ H1 { s1 with heap := h', toks := tk } := I1.kept hk
  refine sorted_setS (s := { s1 with heap := h', toks := tk }) hS (I1.ok.hd hc) hu fun s' p out c ys k g o hp hgt hv hs hmem hlen => ?_
  have hlen' : (ys.map vS).length ≤ sizeLine := by rw [List.length_map, hlen, sizeLine_eq]; rw [List.length_map] at hcl; omega
  have hn : H1 p = none := I2.hok.fresh hp
  have J : Inv X pins σ (upd H1 p (.lst (ys.map vS))) { s1 with heap := s'.heap, gens := s'.gens, drawn := s'.drawn, toks := s'.toks } :=
    Inv.call (s := { s1 with heap := h', toks := tk }) I2 (ch := []) (Un.laid k hp hn) (I2.hok.laid k hp ⟨hlen', out.toList, c, hv, hgt⟩) (by rw [g]; exact I2.bare) (fun _ z => nomatch z)
  have e : s' = { s1 with heap := s'.heap, gens := s'.gens, drawn := s'.drawn, toks := s'.toks } := by
    cases s'
    cases s1
    cases o
    rfl
  rw [e]
  refine ⟨.ref p, _, J, rfl, q1 ys p hs (fun l => ?_) hn⟩
  rw [hmem l, decide_eq_true_eq, List.mem_map]
  exact ⟨fun ⟨m, hm', e⟩ => tx_inj e ▸ hm', fun z => ⟨l, z, rfl⟩⟩
theorem pe_sortSetI (hc : X.calm = true) (hm : X.mg "sorted" = none) (hm2 : X.mg "set" = none) (ha : PE X a ta) (hg : Gl X "sorted" := by rfl) (hg2 : Gl X "set" := by rfl)
    (na : starEach [a] X.env = (false, eval a X.env) :: starEach [] X.env := by rfl) : PE X (.Call (.Name "sorted" p) [.Call (.Name "set" p2) [a] [] q] [] pos) (tSortSetI X.K ta) := by
  refine ⟨fun pins s σ H Q I h => ?_⟩
  refine Call_ (ld_blt I hg hm boot_sorted ?_)
  refine PyProof.Rows.callWith_builtin1 (PyProof.Rows.args_cons ?_ rfl) rfl rfl
  refine Call_ (ld_blt I hg2 hm2 boot_set ?_)
  refine PyProof.Rows.callWith_type1 (PyProof.Rows.args_cons (thn (ha.run pins s σ H _ I h) fun v s1 ⟨x, H1, I1, r1, q1⟩ => PyProof.Rows.args_nil ?_) na) na rfl
  obtain ⟨l, ns, rfl, hq, hl, q1⟩ := q1
  cases r1
  obtain ⟨its, r, pl, hz⟩ := I1.list hq
  refine call_set_lstI ns (I1.ok.hd hc) pl.isList (by simpa using RZ.intsAre_vals r) (by unfold scanBound; omega) fun h' tk c hS hcl hk => ?_
  refine PyProof.Rows.args_nil ?_
  have I2 : Inv X pins σ H1 { s1 with heap := h', toks := tk } := I1.kept hk
  refine sorted_set (s := { s1 with heap := h', toks := tk }) hS (I1.ok.hd hc) (by omega) fun s' p out c ys k g o hp hgt hi hs hmem hlen => ?_
  have hlen' : (ys.map V.int).length ≤ sizeLine := by rw [List.length_map, hlen, sizeLine_eq]; omega
  have hn : H1 p = none := I2.hok.fresh hp
  have J : Inv X pins σ (upd H1 p (.lst (ys.map V.int))) { s1 with heap := s'.heap, gens := s'.gens, drawn := s'.drawn, toks := s'.toks } :=
    Inv.call (s := { s1 with heap := h', toks := tk }) I2 (ch := []) (Un.laid k hp hn) (I2.hok.laid k hp ⟨hlen', out.toList, c, vals_of_ints hi, hgt⟩) (by rw [g]; exact I2.bare) (fun _ z => nomatch z)
  have e : s' = { s1 with heap := s'.heap, gens := s'.gens, drawn := s'.drawn, toks := s'.toks } := by
    cases s'
    cases s1
    cases o
    rfl
  rw [e]
  exact ⟨.ref p, _, J, rfl, q1 ys p hs (fun k => by rw [hmem k, decide_eq_true_eq]) (by omega) hn⟩
end
end Bd

namespace Bd
open PySem PySem.Spec PyProof.Rows L2 Evl
/-! ### promises: k08 -/
def sp__law_at_right (K : PySem.W.Frag) : Sp := fun vs H Q _ => ∃ (a : Addr) (i n c : Nat), vs = [.ref a, .int (i : Int), .int (n : Int), .int (c : Int)] ∧ SqL K H a ((someW n c).map vS) ∧ (n, c) ∈ sizes20 ∧ i < (someW n c).length ∧ ∀ H', Ex H H' → Q (.bl true) H'
/-- the counts of the twenty sizes -/
theorem size_of {n c : Nat} (h : (n, c) ∈ sizes20) : mRings n c = (someW n c).length ∧ mRings n c ≤ 1024 ∧ 1 ≤ n ∧ n ≤ 60 ∧ 1 ≤ c ∧ c ≤ 8 ∧ c ^ n ≤ 1024 := by
  obtain ⟨h1, h2, h3, h4, h5, _, _⟩ := count_of h
  have e : mRings n c = (someW n c).length := by
    have := congrArg (fun l : List Int => l[0]?) h1
    exact Option.some.inj this
  have hp : c ^ n ≤ 1024 := by
    have : ∀ p ∈ sizes20, p.2 ^ p.1 ≤ 1024 := by decide
    exact this (n, c) h
  have hl : (someW n c).length ≤ 1024 := Nat.le_trans (List.length_filter_le _ _) (by rw [allW_len]; exact hp)
  exact ⟨e, by rw [e]; omega, h2, h3, h4, h5, hp⟩
theorem shows_mid {n : Nat} (h : n ≤ 100000) : shows (.int (n : Int)) := by
  show (Int.natAbs (n : Int)).log2 < 1920
  rw [Int.natAbs_natCast]
  by_cases c : n = 0
  · subst c
    decide
  · have : n.log2 < 17 := (Nat.log2_lt c).mpr (Nat.lt_of_le_of_lt h (by decide))
    omega
theorem sorted_uniq : ∀ {xs ys : List (List Nat)}, xs.Pairwise (· < ·) → ys.Pairwise (· < ·) → (∀ l, l ∈ xs ↔ l ∈ ys) → xs = ys
  | [], [], _, _, _ => rfl
  | [], y :: ys, _, _, h => absurd ((h y).mpr (.head _)) List.not_mem_nil
  | x :: xs, [], _, _, h => absurd ((h x).mp (.head _)) List.not_mem_nil
  | x :: xs, y :: ys, hx, hy, h => by
    obtain ⟨hx1, hx2⟩ := List.pairwise_cons.mp hx
    obtain ⟨hy1, hy2⟩ := List.pairwise_cons.mp hy
    have e : x = y := by
      rcases List.mem_cons.mp ((h x).mp (.head _)) with e | a
      · exact e
      · rcases List.mem_cons.mp ((h y).mpr (.head _)) with e | b
        · exact e.symm
        · exact absurd (List.lt_trans (hy1 x a) (hx1 y b)) (List.lt_irrefl y)
    subst e
    rw [sorted_uniq hx2 hy2 fun l => ⟨fun z => ?_, fun z => ?_⟩]
    · rcases List.mem_cons.mp ((h l).mp (.tail _ z)) with e | a
      · subst e
        exact absurd (hx1 _ z) (List.lt_irrefl _)
      · exact a
    · rcases List.mem_cons.mp ((h l).mpr (.tail _ z)) with e | a
      · subst e
        exact absurd (hy1 _ z) (List.lt_irrefl _)
      · exact a
/-- the least turnings of all words are the rings -/
theorem rings_all {n c : Nat} (n1 : 1 ≤ n) (c8 : c ≤ 8) {ys : List (List Nat)} (pw : ys.Pairwise (· < ·)) (hm : ∀ l, l ∈ ys ↔ l ∈ (allW c n).map ringW) : ys = someW n c := by
  refine sorted_uniq pw (some_pw c8) fun l => (hm l).trans ⟨fun z => ?_, fun z => ?_⟩
  · obtain ⟨w, hw, rfl⟩ := List.mem_map.mp z
    have hl := (allW_word c c8 n w hw).1
    have hp : 1 ≤ w.length := by omega
    obtain ⟨k, hk, e⟩ := mem_turns.mp (ringW_min hp).1
    refine List.mem_filter.mpr ⟨?_, decide_eq_true (ring_ring hp)⟩
    rw [← e]
    refine allW_mem (by rw [turn_len]; exact hl) fun x hx => allW_let hw x ?_
    rcases List.mem_append.mp (show x ∈ w.drop k ++ w.take k from hx) with h | h
    · exact List.mem_of_mem_drop h
    · exact List.mem_of_mem_take h
  · obtain ⟨h1, h2⟩ := List.mem_filter.mp z
    exact List.mem_map.mpr ⟨l, h1, of_decide_eq_true h2⟩
section
variable {K : PySem.W.Frag} {σ : L2.St} {H : Hp}
/-- [f(w) for w in words] -/
theorem lc_mapW {tl te : TE} {j : Nat} {vs : List Nat} (ws : List (List Nat)) (f : List Nat → List Nat) (src : ∀ R : VK, (∀ a H1, Ex H H1 → SqL K H1 a (ws.map vS) → R (.ref a) H1) → tl σ H R) (hz : ws.length ≤ 40000) (hw : ∀ x, wipe ((wipe σ vs).set j (some x)) vs = wipe σ vs)
    (he : ∀ w ∈ ws, ∀ H1, Ex H H1 → ∀ R : VK, (∀ H2, Ex H1 H2 → R (vS (f w)) H2) → te ((wipe σ vs).set j (some (vS w))) H1 R)
    {Q : VK} (q : ∀ D H2, H D = none → Ex H H2 → H2 D = some (.lst ((ws.map f).map vS)) → Q (.ref D) H2) :
    tLc (iList K tl) (gName j) tYes te vs σ H Q := src _ fun a H1 e1 hx => ⟨a, rfl, ⟨_, hx⟩, fun D hD =>
  lc_list (xs := ws.map vS) (fun i H' => Ex H1 H' ∧ H' D = some (.lst (((ws.take i).map f).map vS))) ⟨Ex.new hD, upd_same⟩ (fun i H' _ w => ex_l w.1 hx) (fun i x H' hi w => by
    obtain ⟨e2, hd⟩ := w
    rw [List.getElem?_map] at hi
    obtain ⟨u, hu, rfl⟩ := Option.map_eq_some_iff.mp hi
    obtain ⟨hk, rfl⟩ := List.getElem?_eq_some_iff.mp hu
    refine ⟨hw _, ?_⟩
    simp only [tYes, if_true]
    refine he _ (List.getElem_mem hk) H' (e1.trans e2) _ fun H3 e3 => ?_
    have e5 : ws.take (i + 1) = ws.take i ++ [ws[i]] := List.take_succ_eq_append_getElem hk
    rw [e5, List.map_append]
    refine ⟨_, e3 _ _ hd, szlt (by rw [List.length_map, List.length_map, List.length_take]; omega), (e2.trans e3).mut hD, ?_⟩
    rw [upd_same, List.map_append]
    rfl) (fun H' w => by
    rw [List.length_map, List.take_length] at w
    exact q D H' (fresh_back e1 hD) (e1.trans w.1) w.2)⟩
end
/-- what the law's heap keeps over its two sizes -/
def Hd8 (p D T1 T2 q1 q2 : Addr) (n1 c1 n2 c2 i : Nat) (H : Hp) : Prop := H p = some (.lst [V.ref T1, V.ref T2]) ∧ H D = some (.lst [V.ref q1, V.ref q2]) ∧ H T1 = some (.tup [V.int (n1 : Int), V.int (c1 : Int)]) ∧ H T2 = some (.tup [V.int (n2 : Int), V.int (c2 : Int)]) ∧
  H q1 = some (.lst ((someW n1 c1).map vS ++ if 1 ≤ i then [V.str (Str.ofString "more")] else [])) ∧ H q2 = some (.lst ((someW n2 c2).map vS ++ if 2 ≤ i then [V.str (Str.ofString "more")] else []))
/-- all but the last item -/
theorem cut_lastV (xs : List V) (y : V) : cutV (xs ++ [y]) none (some (-1)) = xs := by
  unfold cutV
  have e : HT.sIx (xs ++ [y]).length (xs ++ [y]).length (some (-1)) = xs.length := by
    have := HT.clip_eq (-1) (xs ++ [y]).length (xs ++ [y]).length
    rw [if_pos (by decide), List.length_append, List.length_singleton] at this
    rw [List.length_append, List.length_singleton]
    omega
  rw [HT.sIx_none, e, List.drop_zero, Nat.sub_zero, List.take_left]
end Bd

namespace Bd
open PySem PySem.Spec PyProof.Rows L2
/-! ### sorted(d), d a dict of texts, of any number -/
def rSortDW : List V → Hp → VK → Prop := fun xs H Q => ∃ (a : Addr) (kvs : List (Key × V)) (ws : List (List Nat)), xs = [.ref a] ∧ Rd H a (.dK kvs) ∧ kvs.map (·.1) = ws.map (fun l => (Sum.inr (tx l) : Key)) ∧ ws.length ≤ 10000 ∧
    ∀ (ys : List (List Nat)) (p : Addr), ys.Perm ws → ys.Pairwise (· ≤ ·) → H p = none → Q (.ref p) (upd H p (.lst (ys.map vS)))
section
variable {X : Cx}
theorem call_sortedDW (hcalm : X.calm = true) (hu : X.A.units + 64 < cLine) : CallR X (.builtin "sorted") rSortDW := by
  intro pins s σ H xs us Q I r q
  obtain ⟨a, kvs, ws, ex, hd, hks, h10, q⟩ := q
  subst ex
  obtain ⟨u, eu, rx⟩ := vals1 r
  subst eu
  cases rx
  obtain ⟨z, lo, vs, rel, dd⟩ := dk_rd I.hok hd
  obtain ⟨ep, hat⟩ := dd.dictAt
  have hkeys : vs.map (·.1) = ws.map (fun l => (Sum.inr (tx l) : Key)) := rel.keys.symm.trans hks
  have hl : vs.length = ws.length := by
    have e := congrArg List.length hkeys
    rw [List.length_map, List.length_map] at e
    exact e
  have h16 : vs.length ≤ sizeLine := by rw [hl, sizeLine_eq]; omega
  refine Calls.call_function_entry PyProof.Rows.kind_sorted PyProof.Rows.plain_sorted PyProof.Rows.entry_sorted (PyProof.Rows.args_sorted1 _) ?_
  unfold Builtin.«sorted»
  refine wpAny_bind (m := checkCount "sorted" 1 1 _) (wpAny_pure ?_)
  refine wpAny_bind (PySem.W.kdu_collect (A := X.A.in1) (PySem.W.kdl_dict (knd := mixKind X.prog X.w) (kvs := vs) (ep := ep) lo) (I.ok.hd hcalm) hat h16 fun h' tk acc hk hacc => ?_)
  have hal : acc.toList.length = ws.length := by rw [Array.length_toList, hacc.1, hl]
  have hS : StrsAre acc.toList (ws.map tx) := strs_at (by rw [List.length_map]; exact hal) fun j v e => by
    obtain ⟨k, x, e1, e2⟩ := hacc.2 j v (by rw [← Array.getElem?_toList]; exact e)
    have e3 : (vs.map (·.1))[j]? = some k := by rw [List.getElem?_map, e1]; all_goals rfl
    rw [hkeys, List.getElem?_map] at e3
    cases e4 : ws[j]? with
    | none => rw [e4] at e3; cases e3
    | some y =>
      rw [e4] at e3
      have e5 : Sum.inr (tx y) = k := Option.some.inj e3
      subst e5
      obtain ⟨t, ev⟩ := Value.isStrOf_shape (x := tx y) (v := v) e2
      exact ⟨tx y, t, by rw [List.getElem?_map, e4]; rfl, ev⟩
  have hI : Vals (ws.map vS) acc.toList := by
    have := vals_of_strs hS
    rw [List.map_map] at this
    exact this
  have I1 : Inv X pins σ H { s with heap := h', toks := tk } := I.kept hk
  refine wpAny_bind (wpAny_newList ?_ (by rw [hal, sizeLine_eq]; omega))
  have hoL : (h'.push (seqObj "list" acc.toList.toArray 0)).get? h'.objs.size = some (seqObj "list" acc.toList.toArray 0) := Heap.get?_push_size _ rfl
  show wpAny _ _ _ _ _ { s with heap := h'.push (seqObj "list" acc.toList.toArray 0), toks := tk }
  refine wpAny_bind (wpAny_holding (PySem.W.list_sort_data (s := { s with heap := h'.push (seqObj "list" acc.toList.toArray 0), toks := tk }) (enc := fun l : List Nat => PyData.str (tx l)) (R := fun v (l : List Nat) => RelV (vS l) v) hoL (eachIs_rel hI) (eachIs_vS_free hI) (fun d hd e he => ?_) (PySem.W.Sortable.others fun b => ⟨(fun z => nomatch z), (fun xs z => nomatch z)⟩) (by rw [sizeLine_eq]; omega) (fun b _ => ?_) fun out hlo eo => ?_))
  · obtain ⟨l, _, rfl⟩ := List.mem_map.mp hd
    obtain ⟨m, _, rfl⟩ := List.mem_map.mp he
    rfl
  · show X.A.units + 1 + 1 + 0 < _
    omega
  · rw [PySem.W.dataLe_str] at eo
    simp only [tx_cps] at eo
    have hp := List.mergeSort_perm ws (fun a b => decide (a ≤ b))
    have hso : (ws.mergeSort fun a b => decide (a ≤ b)).Pairwise (· ≤ ·) := by
      have := List.pairwise_mergeSort (le := fun a b : List Nat => decide (a ≤ b)) (fun a b c h1 h2 => decide_eq_true (List.le_trans (of_decide_eq_true h1) (of_decide_eq_true h2)))
        (fun a b => by
          rcases List.le_total a b with h | h
          · rw [decide_eq_true h]; rfl
          · rw [decide_eq_true h, Bool.or_true]) ws
      exact this.imp fun h => of_decide_eq_true h
    obtain ⟨e', he'⟩ := PyProof.Rows.sortedHeap_at (vs := acc.toList) (out := out.toArray) hoL
    have hlen : ((ws.mergeSort fun a b => decide (a ≤ b)).map vS).length ≤ sizeLine := by
      rw [List.length_map, hp.length_eq, sizeLine_eq]
      omega
    refine wpAny_pure ⟨_, rfl, .ref h'.objs.size, upd H h'.objs.size (.lst ((ws.mergeSort fun a b => decide (a ≤ b)).map vS)), I1.laid (t' := tk) (fun b u e => ?_) (Nat.le_refl _)
      (show ObjOk X.prog X.w _ _ _ (.lst _) from ⟨hlen, out.toArray.toList, e', vals_each eo, by rw [Array.toArray_toList]; exact he'⟩), rfl, q _ _ hp hso (I1.hok.fresh (Nat.le_refl _))⟩
    have hb : b < h'.objs.size := Heap.lt_size e
    rw [PyProof.Rows.sortedHeap_old (Nat.ne_of_lt hb) (by rw [size_push']; exact Nat.lt_succ_of_lt hb)]
    exact Heap.get?_push_of_some _ e
end
end Bd

namespace Bd
open PySem PySem.Spec PyProof.Rows L2 Evl
/-! ### promises: k10 -/
def sp__law_primes (_ : PySem.W.Frag) : Sp := fun vs H Q _ => ∃ n c : Nat, vs = [.int (n : Int), .int (c : Int)] ∧ (n, c) ∈ sizes20 ∧ ∀ ys, IsLong n c ys → ∀ p H', H p = none → Ex H H' → H' p = some (.lst (ys.map vS)) → Q (.ref p) H'
def fnd (n c i : Nat) : List (List Nat) := (((List.range i).filter fun j => decide (n % (j + 1) = 0)).map (· + 1)).flatMap fun d => (allW c d).filter primeB
theorem fnd_succ (n c i : Nat) : fnd n c (i + 1) = fnd n c i ++ if n % (i + 1) = 0 then (allW c (i + 1)).filter primeB else [] := by
  unfold fnd
  rw [List.range_succ, List.filter_append, List.map_append, List.flatMap_append]
  congr 1
  by_cases h : n % (i + 1) = 0
  · rw [if_pos h, List.filter_cons, if_pos (decide_eq_true h)]
    simp
  · rw [if_neg h, List.filter_cons, if_neg (by simpa using h)]
    rfl
theorem prime_ring {l : List Nat} (h : 1 ≤ l.length) (p : primeB l = true) : ringW l = l := by
  refine rg_of h fun i hi => ?_
  by_cases c : i = 0
  · subst c
    rw [turn_zero]
    exact List.le_refl _
  · exact List.le_of_lt (of_decide_eq_true (p := ∀ k, k < l.length → 1 ≤ k → l < turn l k) p i hi (by omega))
theorem fnd_all {n c : Nat} (c8 : c ≤ 8) : fnd n c n = primesW n c := by
  unfold fnd primesW divs
  rw [List.flatMap_def, List.flatMap_def]
  refine congrArg List.flatten (List.map_congr_left fun d hd => ?_)
  obtain ⟨j, _, rfl⟩ := List.mem_map.mp hd
  unfold someW
  rw [List.filter_filter]
  refine List.filter_congr fun w hw => ?_
  have hl := (allW_word c c8 _ w hw).1
  cases hp : primeB w with
  | false => rfl
  | true => rw [Bool.true_and, decide_eq_true (prime_ring (by omega) hp)]
end Bd

namespace Bd
open PySem PySem.Spec PyProof.Rows L2 Evl
/-! ### the long word of twenty sizes, by evaluation -/
def mrg : Nat → List (List Nat) → List (List Nat) → List (List Nat)
  | 0, xs, ys => xs ++ ys
  | _ + 1, [], ys => ys
  | _ + 1, x :: xs, [] => x :: xs
  | f + 1, x :: xs, y :: ys => if ltL y x then y :: mrg f (x :: xs) ys else x :: mrg f xs (y :: ys)
theorem mrg_perm : ∀ (f : Nat) (xs ys : List (List Nat)), (mrg f xs ys).Perm (xs ++ ys)
  | 0, _, _ => List.Perm.refl _
  | _ + 1, [], _ => List.Perm.refl _
  | _ + 1, x :: xs, [] => by rw [List.append_nil]; exact List.Perm.refl _
  | f + 1, x :: xs, y :: ys => by
    rw [mrg]
    split
    · exact (List.Perm.cons y (mrg_perm f (x :: xs) ys)).trans (List.perm_middle.symm)
    · exact List.Perm.cons x (mrg_perm f xs (y :: ys))
def pairUp : List (List (List Nat)) → List (List (List Nat))
  | a :: b :: r => mrg (a.length + b.length) a b :: pairUp r
  | l => l
theorem pairUp_perm : ∀ ls : List (List (List Nat)), (pairUp ls).flatten.Perm ls.flatten
  | [] => List.Perm.refl _
  | [_] => List.Perm.refl _
  | a :: b :: r => by
    rw [pairUp, List.flatten_cons, List.flatten_cons, List.flatten_cons, ← List.append_assoc]
    exact (mrg_perm _ a b).append (pairUp_perm r)
def goUp : Nat → List (List (List Nat)) → List (List Nat)
  | 0, ls => ls.flatten
  | f + 1, ls => goUp f (pairUp ls)
theorem goUp_perm : ∀ (f : Nat) (ls : List (List (List Nat))), (goUp f ls).Perm ls.flatten
  | 0, _ => List.Perm.refl _
  | f + 1, ls => (goUp_perm f (pairUp ls)).trans (pairUp_perm ls)
def sortF (ws : List (List Nat)) : List (List Nat) := goUp 11 (ws.map fun w => [w])
theorem sortF_perm (ws : List (List Nat)) : (sortF ws).Perm ws := by
  have h : (ws.map fun w => [w]).flatten = ws := by
    induction ws with
    | nil => rfl
    | cons w ws ih => rw [List.map_cons, List.flatten_cons, ih]; rfl
  exact (goUp_perm 11 _).trans (List.Perm.of_eq h)
def upL : List (List Nat) → Bool
  | x :: y :: r => !ltL y x && upL (y :: r)
  | _ => true
theorem upL_pw : ∀ {ws : List (List Nat)}, upL ws = true → ws.Pairwise (· ≤ ·)
  | [], _ => List.Pairwise.nil
  | [x], _ => List.pairwise_singleton _ _
  | x :: y :: r, h => by
    rw [upL, Bool.and_eq_true, ltL_eq, Bool.not_eq_true', decide_eq_false_iff_not] at h
    have ih := upL_pw h.2
    have hxy : x ≤ y := List.not_lt.mp h.1
    refine List.pairwise_cons.mpr ⟨fun z hz => ?_, ih⟩
    rcases List.mem_cons.mp hz with e | hz
    · rw [e]; exact hxy
    · exact List.le_trans hxy ((List.pairwise_cons.mp ih).1 z hz)
theorem le_uniq : ∀ {xs ys : List (List Nat)}, xs.Perm ys → xs.Pairwise (· ≤ ·) → ys.Pairwise (· ≤ ·) → xs = ys
  | [], ys, p, _, _ => (List.nil_perm.mp p).symm
  | x :: xs, [], p, _, _ => absurd p.length_eq (by simp)
  | x :: xs, y :: ys, p, hx, hy => by
    obtain ⟨hx1, hx2⟩ := List.pairwise_cons.mp hx
    obtain ⟨hy1, hy2⟩ := List.pairwise_cons.mp hy
    have e : x = y := by
      refine List.le_antisymm ?_ ?_
      · rcases List.mem_cons.mp (p.mem_iff.mpr (List.mem_cons_self (a := y))) with e | h
        · rw [e]; exact List.le_refl _
        · exact hx1 y h
      · rcases List.mem_cons.mp (p.mem_iff.mp (List.mem_cons_self (a := x))) with e | h
        · rw [e]; exact List.le_refl _
        · exact hy1 x h
    subst e
    rw [le_uniq ((List.perm_cons x).mp p) hx2 hy2]
theorem IsLong.uniq {n c : Nat} {ys zs : List (List Nat)} (h : IsLong n c ys) (g : IsLong n c zs) : ys = zs := le_uniq (h.1.trans g.1.symm) h.2 g.2
def isPrimeL (l : List Nat) : Bool := (List.range (l.length - 1)).all fun k => ltL l (l.drop (k + 1) ++ l.take (k + 1))
theorem isPrimeL_eq (l : List Nat) : isPrimeL l = primeB l := by
  unfold isPrimeL primeB
  rw [Bool.eq_iff_iff, List.all_eq_true, decide_eq_true_eq]
  constructor
  · intro h k hk h1
    have := h (k - 1) (List.mem_range.mpr (by omega))
    rw [ltL_eq, show k - 1 + 1 = k by omega] at this
    exact of_decide_eq_true this
  · intro h k hk
    have hk' := List.mem_range.mp hk
    rw [ltL_eq]
    exact decide_eq_true (h (k + 1) (by omega) (by omega))
def longF (n c : Nat) : List (List Nat) := sortF ((divs n).flatMap fun d => (allW c d).filter isPrimeL)
theorem longF_long {n c : Nat} (c8 : c ≤ 8) (h : upL (longF n c) = true) : IsLong n c (longF n c) := by
  refine ⟨(sortF_perm _).trans (List.Perm.of_eq ?_), upL_pw h⟩
  rw [← fnd_all c8]
  have e : isPrimeL = primeB := funext isPrimeL_eq
  rw [e]
  rfl
def winF (n : Nat) : Nat → List Nat → List (List Nat)
  | 0, _ => []
  | k + 1, R => R.take n :: winF n k R.tail
theorem winF_eq (n : Nat) : ∀ (k : Nat) (R : List Nat), winF n k R = (List.range k).map fun i => (R.drop i).take n
  | 0, _ => rfl
  | k + 1, R => by
    rw [winF, winF_eq n k, List.range_succ_eq_map, List.map_cons, List.map_map, List.drop_zero]
    refine congrArg (R.take n :: ·) (List.map_congr_left fun i _ => ?_)
    show (R.tail.drop i).take n = (R.drop (i + 1)).take n
    rw [List.drop_tail]
end Bd

namespace Bd
open PySem PySem.Spec PyProof.Rows L2 Evl
/-! ### promises: k11 -/
def wayS (K : PySem.W.Frag) : Nat → Sp
  | 0 => sp_next_ring K
  | 1 => sp_number_of K
  | 2 => sp_all_rings K
  | 3 => sp_long_word K
  | 4 => sp_ring_at K
  | _ => sp_place_of K
def wayN (w : Nat) : Nat := if w < 4 then 2 else 3
/-- let by, or refused by a class -/
def OutG (K : PySem.W.Frag) (o : Option Str) (H : Hp) (Q : VK) (E : XK) : Prop := match o with
  | none => ∀ v H', Ex H H' → Q v H'
  | some x => ∀ H', Ex H H' → E (.ref (He.ga K x)) none H'
def OutP (K : PySem.W.Frag) (w : Nat) (xs : List V) (o : Option Str) : Prop := w ≤ 5 ∧ xs.length = wayN w ∧ (∀ x, o = some x → x ∈ five) ∧ ∀ (H : Hp) (Q : VK) (E : XK), (∀ x ∈ xs, Thing H x) → OutG K o H Q E → wayS K w xs H Q E
def kindO : Option Str → Str
  | none => ""
  | some x => kindOf x
def sp__law_called (K : PySem.W.Frag) : Sp := fun vs H Q E => ∃ (w : Nat) (t : Addr) (xs : List V), vs = [.int (w : Int), .ref t] ∧ H t = some (.lst xs) ∧ w ≤ 5 ∧ xs.length = wayN w ∧ wayS K w xs H Q E
def sp_k11_said (K : PySem.W.Frag) : Sp := fun vs H Q _ => ∃ (w : Nat) (t : Addr) (xs : List V) (o : Option Str), vs = [.int (w : Int), .ref t] ∧ H t = some (.lst xs) ∧ (∀ x ∈ xs, Thing H x) ∧ OutP K w xs o ∧ ∀ H', Ex H H' → Q (.str (kindO o)) H'
/-- all but what stands at p is kept -/
def Keeps (p : Option Addr) (H H' : Hp) : Prop := ∀ b o, p ≠ some b → H b = some o → H' b = some o
theorem Keeps.of {p : Option Addr} {H H' : Hp} (e : Ex H H') : Keeps p H H' := fun b o _ h => e b o h
theorem Thing.keep {p : Option Addr} {H H' : Hp} {v : V} (t : Thing H v) (k : Keeps p H H') (n : ∀ b, v = .ref b → p ≠ some b) : Thing H' v := by
  cases t with
  | non => exact .non
  | bl b => exact .bl b
  | int i => exact .int i
  | txt l h => exact .txt l h
  | lst q => exact .lst (k _ _ (n _ rfl) q)
  | tup q => exact .tup (k _ _ (n _ rfl) q)
  | dct q => exact .dct (k _ _ (n _ rfl) q)
theorem Thing.away {H : Hp} {b q : Addr} (t : Thing H (.ref b)) (h : H q = none) : b ≠ q := fun z => by
  subst z
  cases t with
  | lst e => rw [h] at e; cases e
  | tup e => rw [h] at e; cases e
  | dct e => rw [h] at e; cases e
/-- a try at T: a way, things, what is due; none of it stands at p -/
def OkT (K : PySem.W.Frag) (H : Hp) (p : Option Addr) (T : Addr) : Prop := ∃ (w : Nat) (t : Addr) (xs : List V) (o : Option Str), H T = some (.tup [.int (w : Int), .ref t, .str (kindO o)]) ∧ p ≠ some T ∧ H t = some (.lst xs) ∧ p ≠ some t ∧ (∀ x ∈ xs, Thing H x ∧ ∀ b, x = .ref b → p ≠ some b) ∧ OutP K w xs o
theorem OkT.keep {K : PySem.W.Frag} {H H' : Hp} {p : Option Addr} {T : Addr} (h : OkT K H p T) (k : Keeps p H H') : OkT K H' p T := by
  obtain ⟨w, t, xs, o, h1, h2, h3, h4, h5, h6⟩ := h
  exact ⟨w, t, xs, o, k _ _ h2 h1, h2, k _ _ h4 h3, h4, fun x hx => ⟨(h5 x hx).1.keep k (h5 x hx).2, (h5 x hx).2⟩, h6⟩
theorem OkT.fresh {K : PySem.W.Frag} {H : Hp} {p : Option Addr} {T q : Addr} (h : OkT K H p T) (hq : H q = none) : OkT K H (some q) T := by
  obtain ⟨w, t, xs, o, h1, h2, h3, h4, h5, h6⟩ := h
  refine ⟨w, t, xs, o, h1, fun z => ?_, h3, fun z => ?_, fun x hx => ⟨(h5 x hx).1, fun b e z => ?_⟩, h6⟩
  · rw [Option.some.inj z, h1] at hq; cases hq
  · rw [Option.some.inj z, h3] at hq; cases hq
  · have t := (h5 x hx).1
    rw [e] at t
    exact t.away hq (Option.some.inj z).symm
theorem OkT.any {K : PySem.W.Frag} {H : Hp} {p : Option Addr} {T : Addr} (h : OkT K H p T) : OkT K H none T := by
  obtain ⟨w, t, xs, o, h1, h2, h3, h4, h5, h6⟩ := h
  exact ⟨w, t, xs, o, h1, (fun z => nomatch z), h3, (fun z => nomatch z), fun x hx => ⟨(h5 x hx).1, fun b e z => nomatch z⟩, h6⟩
def sp__law_all (K : PySem.W.Frag) : Sp := fun vs H Q _ => ∃ (a : Addr) (Ts : List Addr), vs = [.ref a] ∧ H a = some (.lst (Ts.map V.ref)) ∧ Ts.length ≤ 1000 ∧ (∀ T ∈ Ts, OkT K H none T) ∧ ∀ H', Ex H H' → Q (.bl true) H'
def sp__law_rings_right (K : PySem.W.Frag) : Sp := fun vs H Q _ => ∃ v u, vs = [v, u] ∧ Thing H v ∧ Thing H u ∧ ringV v = false ∧ amongB u 1 8 = false ∧ ∀ H', Ex H H' → Q (.bl true) H'
def sp__law_bounds_right (K : PySem.W.Frag) : Sp := fun vs H Q _ => vs = [] ∧ ∀ H', Ex H H' → Q (.bl true) H'
def sp__law_sizes_right (K : PySem.W.Frag) : Sp := fun vs H Q _ => ∃ v u, vs = [v, u] ∧ Thing H v ∧ Thing H u ∧ amongB v 1 60 = false ∧ amongB u 1 8 = false ∧ ∀ H', Ex H H' → Q (.bl true) H'
def sp__law_last_right (K : PySem.W.Frag) : Sp := fun vs H Q _ => ∃ n c k : Nat, vs = [.int (n : Int), .int (c : Int), .int (k : Int)] ∧ 1 ≤ n ∧ n ≤ 5 ∧ 1 ≤ c ∧ c ≤ 4 ∧ k < 1000 ∧ ∀ H', Ex H H' → Q (.bl true) H'
/-! ### lists of tries -/
section
variable {K : PySem.W.Frag} {σ : L2.St} {H : Hp} {p : Option Addr}
def EvK (K : PySem.W.Frag) (te : TE) (σ : L2.St) (H : Hp) (p : Option Addr) : Prop := ∀ H1, Ex H H1 → ∀ Q : VK, (∀ T H2, Ex H1 H2 → OkT K H2 p T → Q (.ref T) H2) → te σ H1 Q
def EvKs (K : PySem.W.Frag) (ta : TA) (σ : L2.St) (H : Hp) (p : Option Addr) (n : Nat) : Prop := ∀ H1, Ex H H1 → ∀ Q : List V → Hp → Prop, (∀ (Ts : List Addr) H2, Ex H1 H2 → Ts.length = n → (∀ T ∈ Ts, OkT K H2 p T) → Q (Ts.map V.ref) H2) → ta σ H1 Q
theorem evk_nil : EvKs K tNil σ H p 0 := fun H1 _ Q q => q [] H1 (Ex.refl _) rfl fun _ h => nomatch h
theorem evk_cons {te : TE} {ta : TA} {n : Nat} (h : EvK K te σ H p) (hr : EvKs K ta σ H p n) : EvKs K (tCons te ta) σ H p (n + 1) := fun H1 e Q q =>
  h H1 e _ fun T H2 e2 hT => hr H2 (e.trans e2) _ fun Ts H3 e3 hl hTs => q (T :: Ts) H3 (e2.trans e3) (by rw [List.length_cons, hl]) fun T' h' => by
    rcases List.mem_cons.mp h' with z | z
    · rw [z]; exact hT.keep (.of e3)
    · exact hTs T' z
theorem evk_tup {tw : TE} {ta : TA} {w : Nat} {xs : List V} {o : Option Str} {z : Str} (hp : ∀ a, p = some a → H a ≠ none) (h : OutP K w xs o) (hz : kindO o = z) (hw : Ev tw σ H (.int (w : Int))) (ha : EvA ta σ H xs) (hx : ∀ x ∈ xs, Thing H x ∧ ∀ b, x = .ref b → p ≠ some b) :
    EvK K (tTup (tCons tw (tCons (tLst ta) (tCons (tC (.str z)) tNil)))) σ H p := fun H1 e Q q =>
  hw H1 e _ fun H2 e2 => ha H2 (e.trans e2) _ fun H3 e3 => ⟨szl (by rw [h.2.1]; unfold wayN; split <;> decide), fun t ht => ⟨szl (show 3 ≤ 100000 by decide), fun T hT => by
    have x3 := Ex.new (o := .lst xs) ht
    have x4 := Ex.new (o := .tup [.int (w : Int), .ref t, .str z]) hT
    have ne : ∀ {b : Addr} {H4 : Hp}, Ex H H4 → H4 b = none → p ≠ some b := fun {b H4} e4 hb z => by
      cases hH : H b with
      | none => exact hp b z hH
      | some o => rw [e4 _ _ hH] at hb; cases hb
    have e03 := (e.trans e2).trans e3
    have e0 := (e03.trans x3).trans x4
    refine q T _ (((e2.trans e3).trans x3).trans x4) ⟨w, t, xs, o, ?_, ne (e03.trans x3) hT, x4 _ _ upd_same, ne e03 ht, fun x hx' => ⟨(hx x hx').1.mono e0, (hx x hx').2⟩, h⟩
    rw [hz]
    exact upd_same⟩⟩
/-- tried + [..] -/
theorem more_of {i : Nat} {a : Addr} {Ts : List Addr} {ta : TA} {n : Nat} {Q : VK} (hv : σ[i]? = some (some (.ref a))) (hx : H a = some (.lst (Ts.map V.ref))) (hT : ∀ T ∈ Ts, OkT K H (some a) T) (h : EvKs K ta σ H (some a) n) (hz : Ts.length + n ≤ 1000)
    (q : ∀ (b : Addr) (Us : List Addr) H', H b = none → Ex H H' → H' b = some (.lst (Us.map V.ref)) → Us.length = Ts.length + n → (∀ T ∈ Us, OkT K H' (some b) T) → Q (.ref b) H') : tOp rCat (tVar i) (tLst ta) σ H Q := by
  refine ⟨_, hv, h H (Ex.refl _) _ fun Us H2 e2 hl hU => ⟨szl (by rw [List.length_map]; omega), fun c hc => ?_⟩⟩
  have x3 := Ex.new (o := .lst (Us.map V.ref)) hc
  refine ⟨a, c, _, _, rfl, rfl, x3 _ _ (e2 _ _ hx), upd_same, szl (by rw [List.length_map, List.length_map]; omega), fun d hd => ?_⟩
  have x4 := Ex.new (o := .lst (Ts.map V.ref ++ Us.map V.ref)) hd
  refine q d (Ts ++ Us) _ (fresh_back (e2.trans x3) hd) ((e2.trans x3).trans x4) (by rw [upd_same, List.map_append]) (by rw [List.length_append, hl]) fun T hT' => ?_
  have : OkT K (upd H2 c (.lst (Us.map V.ref))) (some a) T := by
    rcases List.mem_append.mp hT' with z | z
    · exact (hT T z).keep (.of (e2.trans x3))
    · exact (hU T z).keep (.of x3)
  exact (this.fresh hd).keep (.of x4)
end
/-! ### what is due -/
section
variable {K : PySem.W.Frag}
theorem two {P : V → Prop} {v u : V} (h : ∀ x ∈ [v, u], P x) : P v ∧ P u := ⟨h _ (.head _), h _ (.tail _ (.head _))⟩
theorem three {P : V → Prop} {t v u : V} (h : ∀ x ∈ [t, v, u], P x) : P t ∧ P v ∧ P u := ⟨h _ (.head _), h _ (.tail _ (.head _)), h _ (.tail _ (.tail _ (.head _)))⟩
def RingBad (v u : V) (x : Str) : Prop := (x = "BadRing" ∧ ringV v = false) ∨ (x = "BadNumber" ∧ ringV v = true ∧ amongB u 1 8 = false) ∨ (x = "BadRing" ∧ ∃ (l : List Nat) (c : Nat), v = vS l ∧ ringV v = true ∧ u = .int (c : Int) ∧ 1 ≤ c ∧ c ≤ 8 ∧ inTop l c = false)
theorem RingOk.ring {v u : V} {l : List Nat} {c : Nat} (h : RingOk v u l c) : ringV v = true ∧ amongB u 1 8 = true := by
  obtain ⟨rfl, rfl, wl, rl, c1, c8, _⟩ := h
  refine ⟨by rw [ringV_vS, show wordB l = true from wl, Bool.true_and]; exact decide_eq_true rl, ?_⟩
  simp only [amongB, Bool.and_eq_true, decide_eq_true_eq]
  omega
theorem RingBad.five {v u : V} {x : Str} (h : RingBad v u x) : x ∈ five := by
  rcases h with ⟨rfl, _⟩ | ⟨rfl, _⟩ | ⟨rfl, _⟩ <;> decide
theorem RingBad.no {v u : V} {x : Str} {l : List Nat} {c : Nat} (h : RingBad v u x) (k : RingOk v u l c) : False := by
  obtain ⟨k1, k2⟩ := k.ring
  rcases h with ⟨_, h⟩ | ⟨_, _, h⟩ | ⟨_, l', c', h1, _, h3, _, _, h6⟩
  · rw [k1] at h; cases h
  · rw [k2] at h; cases h
  · obtain ⟨r1, r2, _, _, _, _, r7⟩ := k
    subst r1 r2
    obtain rfl := tx_inj (V.str.inj h1)
    obtain rfl := Int.ofNat.inj (V.int.inj h3)
    rw [r7] at h6
    cases h6
theorem among_of {c : Nat} (h1 : 1 ≤ c) (h2 : c ≤ 8) : amongB (.int (c : Int)) 1 8 = true := by
  simp only [amongB, Bool.and_eq_true, decide_eq_true_eq]
  omega
theorem RingBad.e {v u : V} {x : Str} {H : Hp} {E : XK} (h : RingBad v u x) (r : ∀ H', Ex H H' → E (.ref (He.ga K x)) none H') : RingE K v u H E := by
  rcases h with ⟨rfl, h⟩ | ⟨rfl, h1, h2⟩ | ⟨rfl, l', c', h1, h2, h3, h4, h5, h6⟩
  · exact ⟨fun _ => r, (fun z => by rw [h] at z; cases z), fun l c _ z => by rw [h] at z; cases z⟩
  · refine ⟨fun z => (by rw [h1] at z; cases z), fun _ _ => r, fun l c _ _ hu c1 c8 => ?_⟩
    rw [hu, among_of c1 c8] at h2
    cases h2
  · refine ⟨fun z => (by rw [h2] at z; cases z), fun _ z => ?_, fun _ _ _ _ _ _ _ _ => r⟩
    rw [h3, among_of h4 h5] at z
    cases z
theorem out_ringBad {w : Nat} {v u : V} {x : Str} (hw : w ≤ 1) (h : RingBad v u x) : OutP K w [v, u] (some x) := by
  refine ⟨by omega, ?_, fun y e => Option.some.inj e ▸ h.five, fun H Q E t g => ?_⟩
  · unfold wayN
    rw [if_pos (by omega)]
    rfl
  · obtain ⟨t1, t2⟩ := two t
    have : w = 0 ∨ w = 1 := by omega
    rcases this with rfl | rfl
    · exact ⟨v, u, rfl, t1, t2, h.e g, fun l c k => (h.no k).elim⟩
    · exact ⟨v, u, rfl, t1, t2, h.e g, fun l c k => (h.no k).elim⟩
theorem RingOk.same {l l' : List Nat} {c c' : Nat} (k : RingOk (vS l) (.int (c : Int)) l' c') : l' = l ∧ c' = c := by
  obtain ⟨r1, r2, _⟩ := k
  exact ⟨(tx_inj (V.str.inj r1)).symm, (Int.ofNat.inj (V.int.inj r2)).symm⟩
theorem out_next {l : List Nat} {c : Nat} (h : RingOk (vS l) (.int (c : Int)) l c) : OutP K 0 [vS l, .int (c : Int)] none := by
  refine ⟨by decide, rfl, (fun y e => nomatch e), fun H Q E t g => ?_⟩
  obtain ⟨t1, t2⟩ := two t
  exact ⟨_, _, rfl, t1, t2, h.noE, fun l' c' _ r _ H' e => g _ H' e⟩
theorem out_num {l : List Nat} {c : Nat} (h : RingOk (vS l) (.int (c : Int)) l c) (hm : mRings l.length c ≤ 3000) (hf : FewN l.length c) : OutP K 1 [vS l, .int (c : Int)] none := by
  refine ⟨by decide, rfl, (fun y e => nomatch e), fun H Q E t g => ?_⟩
  obtain ⟨t1, t2⟩ := two t
  refine ⟨_, _, rfl, t1, t2, h.noE, fun l' c' k => ?_⟩
  obtain ⟨rfl, rfl⟩ := k.same
  exact ⟨fun z => by omega, fun _ => ⟨hf, fun i _ H' e => g _ H' e⟩⟩
theorem out_numMany {l : List Nat} {c : Nat} (h : RingOk (vS l) (.int (c : Int)) l c) (hm : 3000 < mRings l.length c) : OutP K 1 [vS l, .int (c : Int)] (some "TooMany") := by
  refine ⟨by decide, rfl, fun y e => (by rw [← Option.some.inj e]; decide), fun H Q E t g => ?_⟩
  obtain ⟨t1, t2⟩ := two t
  refine ⟨_, _, rfl, t1, t2, h.noE, fun l' c' k => ?_⟩
  obtain ⟨rfl, rfl⟩ := k.same
  exact ⟨fun _ => g, fun z => by omega⟩
/-- what is no size, sizes of which there are too many -/
def SizeBad (f : Nat → Nat → Int) (v u : V) (x : Str) : Prop := (x = "BadNumber" ∧ sizesB v u = false) ∨ (x = "TooMany" ∧ ∃ n c : Nat, v = .int (n : Int) ∧ u = .int (c : Int) ∧ sizesB v u = true ∧ 3000 < f n c)
theorem SizeBad.five {f : Nat → Nat → Int} {v u : V} {x : Str} (h : SizeBad f v u x) : x ∈ five := by
  rcases h with ⟨rfl, _⟩ | ⟨rfl, _⟩ <;> decide
theorem SizeBad.no {f : Nat → Nat → Int} {v u : V} {x : Str} {n c : Nat} (h : SizeBad f v u x) (e1 : v = .int (n : Int)) (e2 : u = .int (c : Int)) (n1 : 1 ≤ n) (n60 : n ≤ 60) (c1 : 1 ≤ c) (c8 : c ≤ 8) (k : f n c ≤ 3000) : False := by
  subst e1 e2
  rcases h with ⟨_, h⟩ | ⟨_, n', c', h1, h2, _, h4⟩
  · rw [sizes_of n1 n60 c1 c8] at h; cases h
  · obtain rfl := Int.ofNat.inj (V.int.inj h1)
    obtain rfl := Int.ofNat.inj (V.int.inj h2)
    omega
def powI (n c : Nat) : Int := ((c ^ n : Nat) : Int)
theorem SizeBad.few {v u : V} {x : Str} {H : Hp} {E : XK} (h : SizeBad mRings v u x) (r : ∀ H', Ex H H' → E (.ref (He.ga K x)) none H') : FewE K v u H E := by
  rcases h with ⟨rfl, h⟩ | ⟨rfl, n', c', h1, h2, h3, h4⟩
  · exact ⟨fun _ => r, fun n c _ _ z => by rw [h] at z; cases z⟩
  · exact ⟨fun z => (by rw [h3] at z; cases z), fun _ _ _ _ _ _ => r⟩
theorem SizeBad.long {v u : V} {x : Str} {H : Hp} {E : XK} (h : SizeBad powI v u x) (r : ∀ H', Ex H H' → E (.ref (He.ga K x)) none H') : LongE K v u H E := by
  rcases h with ⟨rfl, h⟩ | ⟨rfl, n', c', h1, h2, h3, h4⟩
  · exact ⟨fun _ => r, fun n c _ _ z => by rw [h] at z; cases z⟩
  · exact ⟨fun z => (by rw [h3] at z; cases z), fun _ _ _ _ _ _ => r⟩
theorem out_few2 {v u : V} {x : Str} (h : SizeBad mRings v u x) : OutP K 2 [v, u] (some x) := by
  refine ⟨by decide, rfl, fun y e => Option.some.inj e ▸ h.five, fun H Q E t g => ?_⟩
  obtain ⟨t1, t2⟩ := two t
  refine ⟨v, u, rfl, t1, t2, h.few g, fun n c k => ?_⟩
  obtain ⟨e1, e2, n1, n60, c1, c8, hm⟩ := k
  exact (h.no e1 e2 n1 n60 c1 c8 hm).elim
theorem out_few4 {t v u : V} {x : Str} (h : SizeBad mRings v u x) : OutP K 4 [t, v, u] (some x) := by
  refine ⟨by decide, rfl, fun y e => Option.some.inj e ▸ h.five, fun H Q E t g => ?_⟩
  obtain ⟨t1, t2, t3⟩ := three t
  refine ⟨_, v, u, rfl, t1, t2, t3, h.few g, fun n c k => ?_⟩
  obtain ⟨e1, e2, n1, n60, c1, c8, hm⟩ := k
  exact (h.no e1 e2 n1 n60 c1 c8 hm).elim
theorem out_long3 {v u : V} {x : Str} (h : SizeBad powI v u x) : OutP K 3 [v, u] (some x) := by
  refine ⟨by decide, rfl, fun y e => Option.some.inj e ▸ h.five, fun H Q E t g => ?_⟩
  obtain ⟨t1, t2⟩ := two t
  refine ⟨v, u, rfl, t1, t2, h.long g, fun n c k => ?_⟩
  obtain ⟨e1, e2, n1, n60, c1, c8, hm⟩ := k
  exact (h.no e1 e2 n1 n60 c1 c8 (by unfold powI; omega)).elim
theorem out_long5 {t v u : V} {x : Str} (h : SizeBad powI v u x) : OutP K 5 [t, v, u] (some x) := by
  refine ⟨by decide, rfl, fun y e => Option.some.inj e ▸ h.five, fun H Q E t g => ?_⟩
  obtain ⟨t1, t2, t3⟩ := three t
  refine ⟨_, v, u, rfl, t1, t2, t3, h.long g, fun n c k => ?_⟩
  obtain ⟨e1, e2, n1, n60, c1, c8, hm⟩ := k
  exact (h.no e1 e2 n1 n60 c1 c8 (by unfold powI; omega)).elim
/-- sizes that are let by -/
structure GoodN (n c : Nat) : Prop where
  n1 : 1 ≤ n
  n60 : n ≤ 60
  c1 : 1 ≤ c
  c8 : c ≤ 8
theorem GoodN.few {n c : Nat} (g : GoodN n c) (h : mRings n c ≤ 3000) {H : Hp} {E : XK} : FewE K (.int (n : Int)) (.int (c : Int)) H E :=
  ⟨fun z => (by rw [sizes_of g.n1 g.n60 g.c1 g.c8] at z; cases z), fun n' c' h1 h2 _ h4 => by
    obtain rfl := Int.ofNat.inj (V.int.inj h1)
    obtain rfl := Int.ofNat.inj (V.int.inj h2)
    omega⟩
theorem GoodN.long {n c : Nat} (g : GoodN n c) (h : c ^ n ≤ 3000) {H : Hp} {E : XK} : LongE K (.int (n : Int)) (.int (c : Int)) H E :=
  ⟨fun z => (by rw [sizes_of g.n1 g.n60 g.c1 g.c8] at z; cases z), fun n' c' h1 h2 _ h4 => by
    obtain rfl := Int.ofNat.inj (V.int.inj h1)
    obtain rfl := Int.ofNat.inj (V.int.inj h2)
    omega⟩
theorem out_all {n c : Nat} (g : GoodN n c) (hm : mRings n c ≤ 3000) (hf : FewN n c) : OutP K 2 [.int (n : Int), .int (c : Int)] none := by
  refine ⟨by decide, rfl, (fun y e => nomatch e), fun H Q E t r => ?_⟩
  obtain ⟨t1, t2⟩ := two t
  refine ⟨_, _, rfl, t1, t2, g.few hm, fun n' c' k => ?_⟩
  obtain ⟨h1, h2, _⟩ := k
  obtain rfl := Int.ofNat.inj (V.int.inj h1)
  obtain rfl := Int.ofNat.inj (V.int.inj h2)
  exact ⟨hf, fun p H' _ e _ => r _ H' e⟩
theorem out_long {n c : Nat} (g : GoodN n c) (hm : c ^ n ≤ 3000) : OutP K 3 [.int (n : Int), .int (c : Int)] none := by
  refine ⟨by decide, rfl, (fun y e => nomatch e), fun H Q E t r => ?_⟩
  obtain ⟨t1, t2⟩ := two t
  exact ⟨_, _, rfl, t1, t2, g.long hm, fun n' c' k ys _ H' e => r _ H' e⟩
theorem out_at {n c i : Nat} (g : GoodN n c) (hm : mRings n c ≤ 3000) (hf : FewN n c) (hi : i < (someW n c).length) : OutP K 4 [.int (i : Int), .int (n : Int), .int (c : Int)] none := by
  refine ⟨by decide, rfl, (fun y e => nomatch e), fun H Q E t r => ?_⟩
  obtain ⟨t1, t2, t3⟩ := three t
  refine ⟨_, _, _, rfl, t1, t2, t3, g.few hm, fun n' c' k => ?_⟩
  obtain ⟨h1, h2, _⟩ := k
  obtain rfl := Int.ofNat.inj (V.int.inj h1)
  obtain rfl := Int.ofNat.inj (V.int.inj h2)
  refine ⟨hf, fun z => ?_, fun j x _ _ H' e => r _ H' e⟩
  have : inRange (.int (i : Int)) (someW n c).length = true := by
    simp only [inRange, Bool.and_eq_true, decide_eq_true_eq]
    omega
  rw [this] at z
  cases z
theorem out_atNo {n c : Nat} {t : V} (g : GoodN n c) (hm : mRings n c ≤ 3000) (hf : FewN n c) (hi : inRange t (someW n c).length = false) : OutP K 4 [t, .int (n : Int), .int (c : Int)] (some "NoRing") := by
  refine ⟨by decide, rfl, fun y e => (by rw [← Option.some.inj e]; decide), fun H Q E t r => ?_⟩
  obtain ⟨t1, t2, t3⟩ := three t
  refine ⟨_, _, _, rfl, t1, t2, t3, g.few hm, fun n' c' k => ?_⟩
  obtain ⟨h1, h2, _⟩ := k
  obtain rfl := Int.ofNat.inj (V.int.inj h1)
  obtain rfl := Int.ofNat.inj (V.int.inj h2)
  refine ⟨hf, fun _ => r, fun j x ht hx => ?_⟩
  rw [ht] at hi
  have := (List.getElem?_eq_some_iff.mp hx).1
  simp only [inRange, Bool.and_eq_false_iff, decide_eq_false_iff_not] at hi
  omega
theorem out_placeNo {n c : Nat} {t : V} (g : GoodN n c) (hm : c ^ n ≤ 3000) (ht : goodText t n c = false) : OutP K 5 [t, .int (n : Int), .int (c : Int)] (some "BadWord") := by
  refine ⟨by decide, rfl, fun y e => (by rw [← Option.some.inj e]; decide), fun H Q E t r => ?_⟩
  obtain ⟨t1, t2, t3⟩ := three t
  refine ⟨_, _, _, rfl, t1, t2, t3, g.long hm, fun n' c' k => ?_⟩
  obtain ⟨h1, h2, _⟩ := k
  obtain rfl := Int.ofNat.inj (V.int.inj h1)
  obtain rfl := Int.ofNat.inj (V.int.inj h2)
  exact ⟨fun _ => r, fun l _ z => by rw [ht] at z; cases z⟩
theorem out_place {n c : Nat} {l : List Nat} (g : GoodN n c) (hm : c ^ n ≤ 3000) (ht : goodText (vS l) n c = true)
    (hk : ∀ ys, IsLong n c ys → ∃ k, (List.range ((repW (n / ys.flatten.length + 2) ys.flatten).length + 1)).find? (standsAt (repW (n / ys.flatten.length + 2) ys.flatten) l) = some k) : OutP K 5 [vS l, .int (n : Int), .int (c : Int)] none := by
  refine ⟨by decide, rfl, (fun y e => nomatch e), fun H Q E t r => ?_⟩
  obtain ⟨t1, t2, t3⟩ := three t
  refine ⟨_, _, _, rfl, t1, t2, t3, g.long hm, fun n' c' k => ?_⟩
  obtain ⟨h1, h2, _⟩ := k
  obtain rfl := Int.ofNat.inj (V.int.inj h1)
  obtain rfl := Int.ofNat.inj (V.int.inj h2)
  refine ⟨fun z => (by rw [ht] at z; cases z), fun l' hl _ ys hys => ?_⟩
  obtain rfl := tx_inj (V.str.inj hl)
  obtain ⟨k, hk⟩ := hk ys hys
  exact ⟨k, hk, fun H' e => r _ H' e⟩
end
/-! ### the twenty sizes of one to five letters and one to four colours -/
def sizesA : List (Nat × Nat) := (List.range 5).flatMap fun n => (List.range 4).map fun c => (n + 1, c + 1)
def okA (p : Nat × Nat) : Bool :=
  let ys := longF p.1 p.2
  let L := ys.flatten
  upL ys && (decide ((repW (p.1 / L.length + 2) L).take p.1 = List.replicate p.1 97) && decide ((((allW p.2 p.1).filter isRingL).length : Int) = mRings p.1 p.2))
theorem a_all : sizesA.all okA = true := by decide +kernel
theorem a_of {n c : Nat} (n1 : 1 ≤ n) (n5 : n ≤ 5) (c1 : 1 ≤ c) (c4 : c ≤ 4) : okA (n, c) = true :=
  List.all_eq_true.mp a_all _ (List.mem_flatMap.mpr ⟨n - 1, List.mem_range.mpr (by omega), List.mem_map.mpr ⟨c - 1, List.mem_range.mpr (by omega), by rw [show n - 1 + 1 = n by omega, show c - 1 + 1 = c by omega]⟩⟩)
theorem a_rings {n c : Nat} (n1 : 1 ≤ n) (n5 : n ≤ 5) (c1 : 1 ≤ c) (c4 : c ≤ 4) : mRings n c = ((someW n c).length : Int) := by
  have h := a_of n1 n5 c1 c4
  simp only [okA, Bool.and_eq_true, decide_eq_true_eq] at h
  rw [← h.2.2]
  have : (allW c n).filter isRingL = someW n c := List.filter_congr fun w hw => isRingL_eq (by rw [(allW_word c (by omega) n w hw).1]; exact n1)
  rw [this]
theorem a_place {n c : Nat} (n1 : 1 ≤ n) (n5 : n ≤ 5) (c1 : 1 ≤ c) (c4 : c ≤ 4) : ∀ ys, IsLong n c ys → ∃ k, (List.range ((repW (n / ys.flatten.length + 2) ys.flatten).length + 1)).find? (standsAt (repW (n / ys.flatten.length + 2) ys.flatten) (List.replicate n 97)) = some k := fun ys hys => by
  have h := a_of n1 n5 c1 c4
  simp only [okA, Bool.and_eq_true, decide_eq_true_eq] at h
  obtain rfl := hys.uniq (longF_long (by omega) h.1)
  have hl := congrArg List.length h.2.1
  rw [List.length_take, List.length_replicate] at hl
  refine ⟨0, find_some (by omega) ?_ fun j hj => absurd hj (Nat.not_lt_zero _)⟩
  unfold standsAt
  rw [List.length_replicate, List.drop_zero, h.2.1, decide_eq_true (by omega), decide_eq_true rfl]
  rfl
end Bd

namespace Bd
open PySem PySem.Spec PyProof.Rows L2
/-! ### a def of the text called without arguments -/
section
variable {X : Cx} {k : Nat} {x : Str} {sp : Sp} {E : L2.St → XK} {p pos : Pos}
theorem pe_callD0 (D : DefAt X.prog X.w X.K X.mg X.base k x [] sp) (hr : Room k X.A) (hx : ∀ σ, PassesAt (L2.CX X.prog X.w) X σ (E σ)) (hg : Gl X x := by rfl) (hdb : (x == ("__debug__" : Str)) = false := by decide) : PE X (.Call (.Name x p) [] [] pos) (tCallS sp E tNil) := by
  obtain ⟨f, fd, F, m, kp, b⟩ := D.out
  constructor
  intro pins s σ H Q I h
  refine wpAny_Call_Name_kw (ld_glob I hg m ?_ hdb)
  exact PySem.W.callWith_K0 I.kIn kp (run_fnS F hr b.binds (hx σ) I (us := []) .nil h)
end
end Bd

namespace Bd
open PySem PySem.Spec PyProof.Rows L2 Evl
/-! ### statements over lists of tries -/
def ThP (p : Option Addr) (H : Hp) (x : V) : Prop := Thing H x ∧ ∀ b, x = .ref b → p ≠ some b
def ThA (p : Option Addr) (H : Hp) (xs : List V) : Prop := ∀ x ∈ xs, Thing H x ∧ ∀ b, x = .ref b → p ≠ some b
section
variable {K : PySem.W.Frag} {σ : L2.St} {H : Hp} {p : Option Addr} {x v : V} {xs : List V}
theorem ha_nil : ThA p H [] := fun _ h => nomatch h
theorem ha_cons (h : ThP p H x) (r : ThA p H xs) : ThA p H (x :: xs) := fun y hy => by
  rcases List.mem_cons.mp hy with e | e
  · rw [e]; exact h
  · exact r y e
theorem th_int {i : Int} : ThP p H (.int i) := ⟨.int i, fun b e => nomatch e⟩
theorem th_bl {i : Bool} : ThP p H (.bl i) := ⟨.bl i, fun b e => nomatch e⟩
theorem th_non : ThP p H .non := ⟨.non, fun b e => nomatch e⟩
theorem th_txt {l : List Nat} (h : l.length ≤ 1000) : ThP p H (vS l) := ⟨.txt l h, fun b e => nomatch e⟩
theorem ThP.mono {H' : Hp} (h : ThP p H x) (e : Ex H H') : ThP p H' x := ⟨h.1.mono e, h.2⟩
theorem ThP.keep {H' : Hp} (h : ThP p H x) (e : Keeps p H H') : ThP p H' x := ⟨h.1.keep e h.2, h.2⟩
theorem ThP.fresh {q : Addr} (h : Thing H x) (hq : H q = none) : ThP (some q) H x := ⟨h, fun b e z => by subst e; exact h.away hq (Option.some.inj z).symm⟩
theorem ev_s {z : Str} {l : List Nat} (h : z = tx l) : Ev (tC (.str z)) σ H (vS l) := fun H1 _ Q q => by
  show Q (.str z) H1
  rw [h]
  exact q H1 (Ex.refl _)
theorem ev_mulS {ta te : TE} {l : List Nat} {n : Nat} (ha : Ev ta σ H (vS l)) (he : Ev te σ H (.int (n : Int))) (hn : n ≤ 1000) (hl : l.length ≤ 10) : Ev (tOp rMulS ta te) σ H (vS (repW n l)) := ev_op ha he fun H1 _ Q q => by
  have h10 := Nat.mul_le_mul hl hn
  exact ⟨tx l, n, rfl, rfl, by omega, by omega, szl (by rw [tx_len, Int.toNat_natCast]; omega), by rw [tx_cps, Int.toNat_natCast]; exact q H1 (Ex.refl _)⟩
theorem evk_tupA {tw : TE} {ta : TA} {w : Nat} {xs : List V} {o : Option Str} {z : Str} (h : OutP K w xs o) (hz : kindO o = z) (hw : Ev tw σ H (.int (w : Int))) (ha : EvA ta σ H xs) (hx : ThA p H xs) (hp : ∀ a, p = some a → H a ≠ none) :
    EvK K (tTup (tCons tw (tCons (tLst ta) (tCons (tC (.str z)) tNil)))) σ H p := evk_tup hp h hz hw ha hx
theorem ev_addS {r : R2} {ta tb : TE} {l m : List Nat} (ha : Ev ta σ H (vS l)) (hb : Ev tb σ H (vS m)) (hr : ∀ (H1 : Hp) (Q : VK), Q (.str (tx l ++ tx m)) H1 → r (vS l) (vS m) H1 Q) : Ev (tOp r ta tb) σ H (vS (l ++ m)) :=
  ev_op ha hb fun H1 _ Q q => hr H1 Q (by rw [tx_add]; exact q H1 (Ex.refl _))
theorem ea2 {t1 t2 : TE} {a b : V} (h1 : Ev t1 σ H a) (h2 : Ev t2 σ H b) : EvA (tCons t1 (tCons t2 tNil)) σ H [a, b] := ea_cons h1 (ea_cons h2 ea_nil)
theorem ea3 {t1 t2 t3 : TE} {a b c : V} (h1 : Ev t1 σ H a) (h2 : Ev t2 σ H b) (h3 : Ev t3 σ H c) : EvA (tCons t1 (tCons t2 (tCons t3 tNil))) σ H [a, b, c] := ea_cons h1 (ea2 h2 h3)
theorem ha2 {a b : V} (h1 : ThP p H a) (h2 : ThP p H b) : ThA p H [a, b] := ha_cons h1 (ha_cons h2 ha_nil)
theorem ha3 {a b c : V} (h1 : ThP p H a) (h2 : ThP p H b) (h3 : ThP p H c) : ThA p H [a, b, c] := ha_cons h1 (ha2 h2 h3)
theorem al {a : Addr} {ys : List V} (h : H a = some (.lst ys)) : ∀ b, some a = some b → H b ≠ none := fun b e => by rw [← Option.some.inj e, h]; exact fun z => nomatch z
theorem nal : ∀ b, (none : Option Addr) = some b → H b ≠ none := fun b e => nomatch e
variable {D : Ends}
theorem s_lit {i n : Nat} {ta : TA} (h : EvKs K ta σ H none n) (hz : n ≤ 1000)
    (q : ∀ (b : Addr) (Us : List Addr) H', H b = none → Ex H H' → H' b = some (.lst (Us.map V.ref)) → Us.length = n → (∀ T ∈ Us, OkT K H' (some b) T) → D.nx (σ.set i (some (.ref b))) H') : tAsg (tLst ta) (gName i) D σ H :=
  h H (Ex.refl _) _ fun Us H2 e2 hl hU => ⟨szl (by rw [List.length_map]; omega), fun c hc => q c Us _ (fresh_back e2 hc) (e2.trans (Ex.new hc)) upd_same hl fun T hT => ((hU T hT).fresh hc).keep (.of (Ex.new hc))⟩
theorem s_more {i j n : Nat} {a : Addr} {Ts : List Addr} {ta : TA} (hv : σ[j]? = some (some (.ref a))) (hx : H a = some (.lst (Ts.map V.ref))) (hT : ∀ T ∈ Ts, OkT K H (some a) T) (h : EvKs K ta σ H (some a) n) (hz : Ts.length + n ≤ 1000)
    (q : ∀ (b : Addr) (Us : List Addr) H', H b = none → Ex H H' → H' b = some (.lst (Us.map V.ref)) → Us.length = Ts.length + n → (∀ T ∈ Us, OkT K H' (some b) T) → D.nx (σ.set i (some (.ref b))) H') : tAsg (tOp rCat (tVar j) (tLst ta)) (gName i) D σ H :=
  more_of hv hx hT h hz q
theorem s_fin {E : L2.St → XK} {j n : Nat} {a : Addr} {Ts : List Addr} {ta : TA} (hv : σ[j]? = some (some (.ref a))) (hx : H a = some (.lst (Ts.map V.ref))) (hT : ∀ T ∈ Ts, OkT K H (some a) T) (h : EvKs K ta σ H (some a) n) (hz : Ts.length + n ≤ 1000)
    (q : ∀ H', Ex H H' → D.rt (.bl true) H') : tRet (tCallS (sp__law_all K) E (tCons (tOp rCat (tVar j) (tLst ta)) tNil)) D σ H :=
  more_of hv hx hT h hz fun b Us H' _ e hb hl hU => ⟨b, Us, rfl, hb, by omega, fun T hT => (hU T hT).any, fun H2 e2 => q H2 (e.trans e2)⟩
theorem s_fin0 {E : L2.St → XK} {j : Nat} {a : Addr} {Ts : List Addr} (hv : σ[j]? = some (some (.ref a))) (hx : H a = some (.lst (Ts.map V.ref))) (hT : ∀ T ∈ Ts, OkT K H (some a) T) (hz : Ts.length ≤ 1000)
    (q : ∀ H', Ex H H' → D.rt (.bl true) H') : tRet (tCallS (sp__law_all K) E (tCons (tVar j) tNil)) D σ H := by
  refine ⟨_, hv, a, Ts, rfl, hx, hz, fun T hT' => (hT T hT').any, fun H2 e2 => q H2 e2⟩
/-- tried.append(..) -/
theorem s_app {j : Nat} {a : Addr} {Ts : List Addr} {te : TE} (hv : σ[j]? = some (some (.ref a))) (hx : H a = some (.lst (Ts.map V.ref))) (hT : ∀ T ∈ Ts, OkT K H (some a) T) (h : EvK K te σ H (some a)) (hz : Ts.length < 1000)
    (q : ∀ (Us : List Addr) H', Keeps (some a) H H' → H' a = some (.lst (Us.map V.ref)) → Us.length = Ts.length + 1 → (∀ T ∈ Us, OkT K H' (some a) T) → D.nx σ H') : tDrop (tBM K "list" rAppend (tVar j) (tCons te tNil)) D σ H := by
  refine ⟨_, hv, .inl ⟨rfl, _, SqL.of hx⟩, h H (Ex.refl _) _ fun T H2 e2 hTk => ⟨a, _, _, rfl, rfl, e2 _ _ hx, szlt (by rw [List.length_map]; omega), ?_⟩⟩
  have kp : Keeps (some a) H2 (upd H2 a (.lst (Ts.map V.ref ++ [V.ref T]))) := fun b o hb ho => by
    rw [upd_ne fun z => hb (by rw [z])]
    exact ho
  refine q (Ts ++ [T]) _ (fun b o hb ho => kp b o hb (e2 _ _ ho)) (by rw [upd_same, List.map_append]; rfl) (by rw [List.length_append, List.length_singleton]) fun T' hT' => ?_
  rcases List.mem_append.mp hT' with z | z
  · exact ((hT T' z).keep (.of e2)).keep kp
  · rw [List.mem_singleton.mp z]
    exact hTk.keep kp
end
/-! ### what is due: rings -/
theorem w_aab {w : Nat} {u : V} {K : PySem.W.Frag} (h : amongB u 1 8 = false) (hw : w ≤ 1) : OutP K w [vS [97, 97, 98], u] (some "BadNumber") := out_ringBad hw (.inr (.inl ⟨rfl, by decide, h⟩))
theorem w_in {w c : Nat} {l : List Nat} {K : PySem.W.Frag} (hr : ringV (vS l) = true) (c1 : 1 ≤ c) (c8 : c ≤ 8) (h : inTop l c = false) (hw : w ≤ 1) : OutP K w [vS l, .int (c : Int)] (some "BadRing") := out_ringBad hw (.inr (.inr ⟨rfl, l, c, rfl, hr, rfl, c1, c8, h⟩))
theorem rok {l : List Nat} {c : Nat} (h : (wordB l && (decide (ringW l = l) && (decide (1 ≤ c) && (decide (c ≤ 8) && inTop l c)))) = true) : RingOk (vS l) (.int (c : Int)) l c := by
  simp only [Bool.and_eq_true, decide_eq_true_eq] at h
  obtain ⟨h1, h2, h3, h4, h5⟩ := h
  exact ⟨rfl, rfl, h1, h2, h3, h4, h5⟩
theorem w_ok {w c : Nat} {l : List Nat} {K : PySem.W.Frag} (h : RingOk (vS l) (.int (c : Int)) l c) (hm : mRings l.length c ≤ 3000) (hf : FewN l.length c) (hw : w ≤ 1) : OutP K w [vS l, .int (c : Int)] none := by
  have : w = 0 ∨ w = 1 := by omega
  rcases this with rfl | rfl
  · exact out_next h
  · exact out_num h hm hf
end Bd

namespace Bd
open PySem PySem.Spec PyProof.Rows L2 Evl
/-! ### literal lists of things; loops over them -/
theorem Keeps.refl {p : Option Addr} {H : Hp} : Keeps p H H := fun _ _ _ h => h
theorem Keeps.trans {p : Option Addr} {H H1 H2 : Hp} (k : Keeps p H H1) (k2 : Keeps p H1 H2) : Keeps p H H2 := fun b o n h => k2 b o n (k b o n h)
theorem Keeps.ex {a : Addr} {H H1 H2 : Hp} (e : Ex H H1) (k : Keeps (some a) H1 H2) (ha : H a = none) : Ex H H2 := fun b o h => k b o (fun z => by rw [← Option.some.inj z, ha] at h; cases h) (e b o h)
section
variable {K : PySem.W.Frag} {σ : L2.St} {H : Hp} {p : Option Addr} {x v : V} {F : V → Prop} {te : TE} {ta : TA}
def EvF (p : Option Addr) (te : TE) (σ : L2.St) (H : Hp) (F : V → Prop) : Prop := ∀ H1, Ex H H1 → ∀ Q : VK, (∀ x H2, Ex H1 H2 → ThP p H2 x → F x → Q x H2) → te σ H1 Q
def EvFs (p : Option Addr) (ta : TA) (σ : L2.St) (H : Hp) (F : V → Prop) (n : Nat) : Prop := ∀ H1, Ex H H1 → ∀ Q : List V → Hp → Prop, (∀ xs H2, Ex H1 H2 → xs.length = n → (∀ x ∈ xs, ThP p H2 x ∧ F x) → Q xs H2) → ta σ H1 Q
theorem ef_v (h : Ev te σ H x) (t : ThP p H x) (f : F x) : EvF p te σ H F := fun H1 e Q q => h H1 e Q fun H2 e2 => q x H2 e2 (t.mono (e.trans e2)) f
theorem ef_new {a : Addr} {H1 : Hp} (hp : ∀ a, p = some a → H a ≠ none) (e : Ex H H1) (ha : H1 a = none) : p ≠ some a := fun z => by
  cases hH : H a with
  | none => exact hp a z hH
  | some o => rw [e _ _ hH] at ha; cases ha
theorem ef_l {xs : List V} (hp : ∀ a, p = some a → H a ≠ none) (h : EvL te σ H xs) (f : ∀ a, F (.ref a)) : EvF p te σ H F := fun H1 e Q q => h H1 e Q fun a H2 ha e2 h2 => q _ H2 e2 ⟨.lst h2, fun b z => by
  have := V.ref.inj z
  subst this
  exact ef_new hp e ha⟩ (f a)
theorem ef_u {xs : List V} (hp : ∀ a, p = some a → H a ≠ none) (h : EvU te σ H xs) (f : ∀ a, F (.ref a)) : EvF p te σ H F := fun H1 e Q q => h H1 e Q fun a H2 ha e2 h2 => q _ H2 e2 ⟨.tup h2, fun b z => by
  have := V.ref.inj z
  subst this
  exact ef_new hp e ha⟩ (f a)
theorem ef_d (hp : ∀ a, p = some a → H a ≠ none) (f : ∀ a, F (.ref a)) : EvF p tDNewK σ H F := fun H1 e Q q a ha => q _ _ (Ex.new ha) ⟨.dct upd_same, fun b z => by
  have := V.ref.inj z
  subst this
  exact ef_new hp e ha⟩ (f a)
theorem efs_nil : EvFs p tNil σ H F 0 := fun H1 _ Q q => q [] H1 (Ex.refl _) rfl fun _ h => nomatch h
theorem efs_cons {n : Nat} (h : EvF p te σ H F) (hr : EvFs p ta σ H F n) : EvFs p (tCons te ta) σ H F (n + 1) := fun H1 e Q q =>
  h H1 e _ fun x H2 e2 hx f => hr H2 (e.trans e2) _ fun xs H3 e3 hl hxs => q (x :: xs) H3 (e2.trans e3) (by rw [List.length_cons, hl]) fun y hy => by
    rcases List.mem_cons.mp hy with z | z
    · rw [z]; exact ⟨hx.mono e3, f⟩
    · exact hxs y z
theorem ef_pick {n i : Nat} {ti : TE} (h : EvFs p ta σ H F n) (hi : ∀ H1, Ex H H1 → Ev ti σ H1 (.int (i : Int))) (hn : n ≤ 1000) (hin : i < n) : EvF p (tOp (rIxL K) (tLst ta) ti) σ H F := fun H1 e Q q =>
  h H1 e _ fun xs H2 e2 hl hx => ⟨szl (by omega), fun a ha => hi H2 (e.trans e2) _ (Ex.new ha) _ fun H3 e3 => by
    have hg : xs[i]? = some (xs[i]'(by omega)) := List.getElem?_eq_getElem (by omega)
    obtain ⟨t, f⟩ := hx _ (List.getElem_mem (by omega : i < xs.length))
    exact ⟨a, xs, _, _, rfl, rfl, SqL.of (e3 _ _ upd_same), atI_nat hg, q _ H3 ((e2.trans (Ex.new ha)).trans e3) (t.mono ((Ex.new ha).trans e3)) f⟩⟩
variable {D : Ends} {g : TG} {tb : TS}
theorem s_asgF {i : Nat} (h : EvF p te σ H F) (k : ∀ x H1, Ex H H1 → ThP p H1 x → F x → D.nx (σ.set i (some x)) H1) : tAsg te (gName i) D σ H := h H (Ex.refl H) _ fun x H1 e t f => k x H1 e t f
/-- for x in (things) -/
theorem for_F {n : Nat} (hp : ∀ a, p = some a → H a ≠ none) (h : EvFs p ta σ H F n) (hn : n ≤ 1000) (Pv : Nat → L2.St → Hp → Prop) (h0 : ∀ H1, Ex H H1 → Pv 0 σ H1)
    (hs : ∀ H2, Ex H H2 → ∀ i x σ' H', i < n → F x → ThP p H' x → Pv i σ' H' → Keeps p H2 H' → g x σ' H' fun σ2 H4 => tb { D with nx := fun σ3 H3 => Pv (i + 1) σ3 H3 ∧ Keeps p H2 H3, ct := fun σ3 H3 => Pv (i + 1) σ3 H3 ∧ Keeps p H2 H3, bk := D.nx } σ2 H4)
    (hd : ∀ σ' H', Pv n σ' H' → D.nx σ' H') : tFor (iTup K (tTup ta)) g tb D σ H :=
  h H (Ex.refl _) _ fun xs H1 e1 hl hx => ⟨szl (by omega), fun T hT => by
    have x2 := Ex.new (o := .tup xs) hT
    have k2 : (upd H1 T (.tup xs)) T = some (.tup xs) := upd_same
    have nT : p ≠ some T := ef_new hp e1 hT
    have e2 := e1.trans x2
    have hx2 : ∀ x ∈ xs, ThP p (upd H1 T (.tup xs)) x ∧ F x := fun x hx' => ⟨(hx x hx').1.mono x2, (hx x hx').2⟩
    generalize upd H1 T (.tup xs) = H2 at *
    refine ⟨T, rfl, ⟨_, SqT.of k2⟩, for_tup (K := K) (a := T) (xs := xs) (fun i σ' H' => Pv i σ' H' ∧ Keeps p H2 H') ⟨h0 H2 e2, Keeps.refl⟩ (fun i σ' H' _ w => SqT.of (w.2 _ _ nT k2)) (fun i x σ' H' hxi w => ?_) (fun σ' H' w => hd σ' H' (hl ▸ w.1))⟩
    obtain ⟨t, f⟩ := hx2 x (List.mem_of_getElem? hxi)
    exact hs H2 e2 i x σ' H' (by have := (List.getElem?_eq_some_iff.mp hxi).1; omega) f (t.keep w.2) w.1 w.2⟩
end
section
variable {K : PySem.W.Frag} {σ : L2.St} {H : Hp} {p : Option Addr} {ta : TA}
theorem ef_num {E : L2.St → XK} {a : Addr} {ns : List Int} {k : Int} (ha : EvA ta σ H [.ref a, .int k]) (hS : SqL K H a (ns.map V.int)) (hk : 0 ≤ k ∧ k ≤ 100000) : EvF p (tCallS (sp__law_number K) E ta) σ H (fun x => ∃ k : Nat, x = .int (k : Int)) := fun H1 e Q q =>
  ha H1 e _ fun H2 e2 => ⟨a, ns, k, rfl, ex_l (e.trans e2) hS, hk, fun n n0 _ => q _ H2 (e2) th_int ⟨n.toNat, by rw [Int.toNat_of_nonneg n0]⟩⟩
end
/-! ### what is due: sizes -/
section
variable {K : PySem.W.Frag}
theorem sz_v {v x : V} (h : amongB v 1 60 = false) : sizesB v x = false := by
  unfold sizesB
  rw [h]
  rfl
theorem sz_u {x u : V} (h : amongB u 1 8 = false) : sizesB x u = false := by
  unfold sizesB
  rw [h, Bool.and_false]
theorem w2_num {w : Nat} {v u : V} (hw : w = 2 ∨ w = 3) (h : sizesB v u = false) : OutP K w [v, u] (some "BadNumber") := by
  rcases hw with rfl | rfl
  · exact out_few2 (.inl ⟨rfl, h⟩)
  · exact out_long3 (.inl ⟨rfl, h⟩)
theorem w2_many {w n c : Nat} (hw : w = 2 ∨ w = 3) (h : sizesB (.int (n : Int)) (.int (c : Int)) = true) (h1 : 3000 < mRings n c) (h2 : 3000 < powI n c) : OutP K w [.int (n : Int), .int (c : Int)] (some "TooMany") := by
  rcases hw with rfl | rfl
  · exact out_few2 (.inr ⟨rfl, n, c, rfl, rfl, h, h1⟩)
  · exact out_long3 (.inr ⟨rfl, n, c, rfl, rfl, h, h2⟩)
theorem w2_ok {w n c : Nat} (hw : w = 2 ∨ w = 3) (g : GoodN n c) (h1 : mRings n c ≤ 3000) (h2 : FewN n c) (h3 : c ^ n ≤ 3000) : OutP K w [.int (n : Int), .int (c : Int)] none := by
  rcases hw with rfl | rfl
  · exact out_all g h1 h2
  · exact out_long g h3
theorem w4_num {w : Nat} {t v u : V} (hw : w = 4 ∨ w = 5) (h : sizesB v u = false) : OutP K w [t, v, u] (some "BadNumber") := by
  rcases hw with rfl | rfl
  · exact out_few4 (.inl ⟨rfl, h⟩)
  · exact out_long5 (.inl ⟨rfl, h⟩)
theorem w4_many {w n c : Nat} {t : V} (hw : w = 4 ∨ w = 5) (h : sizesB (.int (n : Int)) (.int (c : Int)) = true) (h1 : 3000 < mRings n c) (h2 : 3000 < powI n c) : OutP K w [t, .int (n : Int), .int (c : Int)] (some "TooMany") := by
  rcases hw with rfl | rfl
  · exact out_few4 (.inr ⟨rfl, n, c, rfl, rfl, h, h1⟩)
  · exact out_long5 (.inr ⟨rfl, n, c, rfl, rfl, h, h2⟩)
end
end Bd

namespace Bd
open PySem PySem.Spec PyProof.Rows L2
/-! ### the law's own end, from the promise of its def -/
theorem law_start {K : PySem.W.Frag} {H : Hp} {a : Addr} {ns : List Int} (hl : ns.length ≤ 63) (hS : SqL K H a (ns.map V.int)) : sp_law K [.ref a] H (fun v _ => v = .bl true) fun _ _ _ => False :=
  ⟨a, ns, rfl, hS, hl, fun _ => rfl⟩
/-- the abstract heap at the law's entry: the script alone, locked -/
def onlyS (a : Addr) (vs : List Value) (ns : List Int) : Hp := fun b => if b = a then some (.frz { cls := .type "list", data := .seq vs.toArray } (.lst (ns.map V.int))) else none
theorem run_end {P : Program} {w : World} {K : PySem.W.Frag} {mg mb : Str → Option Value} {fa a : Addr} {x : Str} {sp : Sp} {s1 : Shared} {vs : List Value} {ns : List Int}
    (KX : K.In s1.heap) (hns : s1.heap.Ns mainGlobals mg) (hb : s1.heap.Ns builtinsNs mb) (hbb : ∀ x : Str, x ≠ "__name__" → mb x = bootBuiltins x) (hlim : s1.heap.NoLimit) (hg : s1.gens = #[])
    (ha : s1.heap.get? a = some { cls := .type "list", data := .seq vs.toArray }) (hi : IntsAre vs ns) (hl : ns.length ≤ sizeLine)
    (F : ∀ base : Heap, K.In base → base.Ns mainGlobals mg → ∃ fd : FuncData, BindsAll fd [x] ∧ ∀ (H : Hp) (us : List Value) (vs : List V) (Q : VK) (E : XK), Env0 P w K mg base callerA [] s1 H → BindsTo s1 fd ⟨us, []⟩ ([x].zip us) → Vals vs us → sp vs H Q E →
      codeAny (model P w) callerA (.call (.ref fa) ⟨us, []⟩) (CR (L2.CX P w) [] P w H s1 Q E) s1)
    (hsp : ∀ H : Hp, Only H → SqL K H a (ns.map V.int) → sp [.ref a] H (fun v _ => v = .bl true) fun _ _ _ => False) :
    codeAny (model P w) callerA (.call (.ref fa) ⟨[.ref a], []⟩) (fun r s' => r = .ok (.ret (.bool true)) ∧ OldK s1.heap s'.heap ∧ s'.os = s1.os ∧ AllBare s'.gens) s1 := by
  have rv := vals_ints hi
  have lenV := hi.length
  -- whatever is tracked is the script
  have main : ∀ H : Hp, Only H → SqL K H a (ns.map V.int) → HOk P w H s1.heap → (∀ b, H b ≠ none → b = a ∧ K.lookup a = none) →
      codeAny (model P w) callerA (.call (.ref fa) ⟨[.ref a], []⟩) (fun r s' => r = .ok (.ret (.bool true)) ∧ OldK s1.heap s'.heap ∧ s'.os = s1.os ∧ AllBare s'.gens) s1 := by
    intro H hO hS hok only
    have out : ∀ {b : Addr} {o : Obj}, s1.heap.get? b = some o → (b ≠ a ∨ K.lookup a ≠ none) → (hidT s1.heap H).get? b = some o := fun {b o} e n => hidT_get e (by
      cases q : H b with
      | none => rfl
      | some u =>
        obtain ⟨z1, z2⟩ := only b (by rw [q]; exact fun z => nomatch z)
        rcases n with n | n
        · exact absurd z1 n
        · exact absurd z2 n)
    have ns_ : ∀ {b : Addr} {m : Str → Option Value}, s1.heap.Ns b m → (hidT s1.heap H).Ns b m := fun {b m} h => by
      obtain ⟨o, es, ep, e, d, r⟩ := h
      refine ⟨o, es, ep, out e (.inl fun z => ?_), d, r⟩
      rw [z, ha] at e
      cases e
      have d' : Data.seq vs.toArray _ = Data.dict es ep := d
      cases d'
    have hK : K.In (hidT s1.heap H) := fun b o e => out (KX b o e) (by
      by_cases z : b = a
      · exact .inr (by rw [← z, e]; exact fun z => nomatch z)
      · exact .inl z)
    have hM : Mod K mg (hidT s1.heap H) := ⟨hK, ns_ hns, ⟨mb, ns_ hb, hbb⟩, by obtain ⟨mc, h1, h2⟩ := hlim; exact ⟨mc, ns_ h1, h2⟩⟩
    have e0 : Env0 P w K mg (hidT s1.heap H) callerA [] s1 H := ⟨rfl, hM, fun b o e => of_hidT e, Nat.le_of_eq (hidT_size _ _), trivial, fun b hb => absurd (show b ∈ ([] : List Addr) from hb) (by simp), hok, .of_eq hg⟩
    obtain ⟨fd, hbd, run⟩ := F _ hK (ns_ hns)
    refine codeAny_mono (run H [.ref a] [.ref a] (fun v _ => v = .bl true) (fun _ _ _ => False) e0 (hbd s1 [.ref a] rfl) (.cons rfl .nil) (hsp H hO hS)) fun r s' h => ?_
    cases r with
    | error e =>
      obtain ⟨_, _, _, _, _, _, _, _, _, _, _, _, z⟩ := h
      exact z.elim
    | ok fl =>
      cases fl with
      | next => exact False.elim h
      | brk => exact False.elim h
      | cont => exact False.elim h
      | ret u =>
        obtain ⟨v, H', os, bare, un, hok', r', rfl⟩ := h
        obtain rfl : u = Value.bool true := r'
        refine ⟨rfl, OldK.of_keep fun b o e => ?_, os, bare⟩
        rcases hO b with q | ⟨ob, xs, q⟩
        · exact un.keep b o e q (fun z => nomatch z) (fun z => nomatch z)
        · obtain ⟨e1, _⟩ := hok b _ q
          obtain ⟨e2, _⟩ := hok' b _ (un.frzs b ob _ q)
          rw [e] at e1
          cases e1
          exact e2
  by_cases hk : K.lookup a = none
  · refine main (onlyS a vs ns) (fun b => ?_) (.inl (.inr ⟨_, if_pos rfl⟩)) (fun b u z => ?_) (fun b z => ⟨?_, hk⟩)
    · by_cases q : b = a
      · exact .inr ⟨_, _, if_pos q⟩
      · exact .inl (if_neg q)
    · by_cases q : b = a
      · subst q
        have z' := (if_pos rfl).symm.trans z
        cases z'
        exact ⟨ha, by rw [List.length_map]; exact hl, vs, _, rv, ha⟩
      · have z' := (if_neg q).symm.trans z
        cases z'
    · exact Classical.byContradiction fun q => z (if_neg q)
  · obtain ⟨o, ho⟩ := Option.ne_none_iff_exists'.mp hk
    have e := KX a o ho
    rw [ha] at e
    cases e
    exact main (fun _ => none) (fun _ => .inl rfl) (.inr ⟨_, vs.toArray, _, ho, rfl, rfl, rfl, by rw [List.size_toArray, lenV]; exact hl, by simpa using rv⟩) (fun b u z => by cases z) (fun b z => absurd rfl z)
section
variable {l : PySem.W.OpenLaw} {n k : Nat} {q : Program} {loose : List Str} {XP : (Str → Option Value) → Heap → Prop} {YP : World → Heap → Prop} {d : DefRec} {x : Str}
theorem walk_end (hn : l.most = some n) (hn2 : n ≤ sizeLine) (hdf : d.params.defaults = []) (hr : Room k callerA)
    (F : ∀ (w : World) (mg : Str → Option Value) (h : Heap), YP w h → h.Ns mainGlobals mg → ∃ (K : PySem.W.Frag) (sp : Sp), K.In h ∧ d.name = "law" ∧
      (∀ (H : Hp) (a : Addr) (ns : List Int), ns.length ≤ n → Only H → SqL K H a (ns.map V.int) → sp [.ref a] H (fun v _ => v = .bl true) fun _ _ _ => False) ∧
      ∀ base : Heap, K.In base → base.Ns mainGlobals mg → DefAt l.prog w K mg base k "law" [x] sp) :
    PySem.W.WalkO q loose XP YP l.row.toRowW d [] (fun f vs => PySem.call f vs) := by
  refine Att.attach_call hn hdf fun w s0 s1 mg mb fa o pm cd doc a vs ns G Y ho hd hcd hmg hobj hints hlen hg => ?_
  obtain ⟨K, sp, KX, hname, hsp, hF⟩ := F w mg _ Y G.T.g
  rw [hname] at hmg
  refine run_end (x := x) KX G.T.g G.T.b G.T.builtins G.T.nolimit hg hobj hints (Nat.le_trans hlen hn2) (fun base hK hN => ?_) fun H hO hS => hsp H a ns hlen hO hS
  obtain ⟨f, fd, ok, m, _, b⟩ := (hF base hK hN).out
  rw [hmg] at m
  cases m
  exact ⟨fd, b, fun H us vs Q E e0 hb r h => ok.run callerA [] s1 H ⟨us, []⟩ us vs Q E hr e0 hb r h⟩
theorem walk_endG (hn : l.most = some n) (hn2 : n ≤ sizeLine) (hdf : d.params.defaults = []) (hr : Room k callerA)
    (F : ∀ (w : World) (mg : Str → Option Value) (h : Heap), YP w h → h.Ns mainGlobals mg → ∃ (K : PySem.W.Frag) (sp : Sp), K.In h ∧ d.name = "law" ∧
      (∀ (H : Hp) (a : Addr) (ns : List Int), ns.length ≤ n → Only H → SqL K H a (ns.map V.int) → sp [.ref a] H (fun v _ => v = .bl true) fun _ _ _ => False) ∧
      ∀ base : Heap, K.In base → base.Ns mainGlobals mg → DefG l.prog w K mg base k "law" [x] sp) :
    PySem.W.WalkO q loose XP YP l.row.toRowW d [] (fun f vs => PySem.call f vs) := by
  refine Att.attach_call hn hdf fun w s0 s1 mg mb fa o pm cd doc a vs ns G Y ho hd hcd hmg hobj hints hlen hg => ?_
  obtain ⟨K, sp, KX, hname, hsp, hF⟩ := F w mg _ Y G.T.g
  rw [hname] at hmg
  refine run_end (x := x) KX G.T.g G.T.b G.T.builtins G.T.nolimit hg hobj hints (Nat.le_trans hlen hn2) (fun base hK hN => ?_) fun H hO hS => hsp H a ns hlen hO hS
  obtain ⟨f, fd, ok, m, _, b⟩ := (hF base hK hN).out
  rw [hmg] at m
  cases m
  exact ⟨fd, b, fun H us vs Q E e0 hb r h => ok.run callerA [] s1 H ⟨us, []⟩ us vs Q E hr rfl e0 hb r h⟩
end
end Bd

namespace Bd
open PySem PySem.Spec PyProof.Rows L2
def topS (i : Nat) : Stmt := PySem.Challenge.pw_beadrings_k11_refused.main.body.getD i (.Pass ⟨0, 0, 0, 0⟩)
abbrev s_is_whole : Stmt := topS 10
theorem sc_is_whole : FnScope ["thing"] ["thing"] (defScope s_is_whole) := ⟨rfl, rfl, rfl, by decide +kernel, rfl, by decide +kernel, by decide +kernel⟩
abbrev s_need_among : Stmt := topS 11
theorem sc_need_among : FnScope ["thing", "least", "most"] ["thing", "least", "most"] (defScope s_need_among) := ⟨rfl, rfl, rfl, by decide +kernel, rfl, by decide +kernel, by decide +kernel⟩
abbrev s_need_sizes : Stmt := topS 12
theorem sc_need_sizes : FnScope ["length", "colours"] ["length", "colours"] (defScope s_need_sizes) := ⟨rfl, rfl, rfl, by decide +kernel, rfl, by decide +kernel, by decide +kernel⟩
abbrev s_is_word : Stmt := topS 13
theorem sc_is_word : FnScope ["thing", "sign"] ["thing"] (defScope s_is_word) := ⟨rfl, rfl, rfl, by decide +kernel, rfl, by decide +kernel, by decide +kernel⟩
abbrev s_need_word : Stmt := topS 14
theorem sc_need_word : FnScope ["thing"] ["thing"] (defScope s_need_word) := ⟨rfl, rfl, rfl, by decide +kernel, rfl, by decide +kernel, by decide +kernel⟩
abbrev s_turnings : Stmt := topS 15
theorem sc_turnings : FnScope ["word", "place"] ["word"] (defScope s_turnings) := ⟨rfl, rfl, rfl, by decide +kernel, rfl, by decide +kernel, by decide +kernel⟩
abbrev s_divisors : Stmt := topS 17
theorem sc_divisors : FnScope ["number", "part"] ["number"] (defScope s_divisors) := ⟨rfl, rfl, rfl, by decide +kernel, rfl, by decide +kernel, by decide +kernel⟩
abbrev s_power : Stmt := topS 18
theorem sc_power : FnScope ["number", "times", "found", "turn"] ["number", "times"] (defScope s_power) := ⟨rfl, rfl, rfl, by decide +kernel, rfl, by decide +kernel, by decide +kernel⟩
abbrev s_primes_by : Stmt := topS 19
theorem sc_primes_by : FnScope ["length", "colours", "found", "part", "shorter", "less"] ["length", "colours"] (defScope s_primes_by) := ⟨rfl, rfl, rfl, by decide +kernel, rfl, by decide +kernel, by decide +kernel⟩
abbrev s_many_rings : Stmt := topS 20
theorem sc_many_rings : FnScope ["length", "colours"] ["length", "colours"] (defScope s_many_rings) := ⟨rfl, rfl, rfl, by decide +kernel, rfl, by decide +kernel, by decide +kernel⟩
abbrev s_ring_of : Stmt := topS 22
theorem sc_ring_of : FnScope ["word"] ["word"] (defScope s_ring_of) := ⟨rfl, rfl, rfl, by decide +kernel, rfl, by decide +kernel, by decide +kernel⟩
abbrev s_is_ring : Stmt := topS 23
theorem sc_is_ring : FnScope ["thing"] ["thing"] (defScope s_is_ring) := ⟨rfl, rfl, rfl, by decide +kernel, rfl, by decide +kernel, by decide +kernel⟩
abbrev s_need_ring : Stmt := topS 26
theorem sc_need_ring : FnScope ["ring", "colours"] ["ring", "colours"] (defScope s_need_ring) := ⟨rfl, rfl, rfl, by decide +kernel, rfl, by decide +kernel, by decide +kernel⟩
abbrev s_need_few : Stmt := topS 27
theorem sc_need_few : FnScope ["length", "colours"] ["length", "colours"] (defScope s_need_few) := ⟨rfl, rfl, rfl, by decide +kernel, rfl, by decide +kernel, by decide +kernel⟩
abbrev s_following : Stmt := topS 28
theorem sc_following : FnScope ["word", "top", "size", "grown", "times"] ["word", "top"] (defScope s_following) := ⟨rfl, rfl, rfl, by decide +kernel, rfl, by decide +kernel, by decide +kernel⟩
abbrev s_next_ring : Stmt := topS 29
theorem sc_next_ring : FnScope ["ring", "colours", "pair"] ["ring", "colours"] (defScope s_next_ring) := ⟨rfl, rfl, rfl, by decide +kernel, rfl, by decide +kernel, by decide +kernel⟩
abbrev s_all_rings : Stmt := topS 30
theorem sc_all_rings : FnScope ["length", "colours", "found", "ring"] ["length", "colours"] (defScope s_all_rings) := ⟨rfl, rfl, rfl, by decide +kernel, rfl, by decide +kernel, by decide +kernel⟩
abbrev s_number_of : Stmt := topS 31
theorem sc_number_of : FnScope ["ring", "colours"] ["ring", "colours"] (defScope s_number_of) := ⟨rfl, rfl, rfl, by decide +kernel, rfl, by decide +kernel, by decide +kernel⟩
abbrev s_ring_at : Stmt := topS 32
theorem sc_ring_at : FnScope ["number", "length", "colours", "found"] ["number", "length", "colours"] (defScope s_ring_at) := ⟨rfl, rfl, rfl, by decide +kernel, rfl, by decide +kernel, by decide +kernel⟩
abbrev s_run_from : Stmt := topS 34
theorem sc_run_from : FnScope ["word", "begin", "behind", "same"] ["word", "begin"] (defScope s_run_from) := ⟨rfl, rfl, rfl, by decide +kernel, rfl, by decide +kernel, by decide +kernel⟩
abbrev s_parts_of : Stmt := topS 35
theorem sc_parts_of : FnScope ["word", "found", "begin", "size", "same"] ["word"] (defScope s_parts_of) := ⟨rfl, rfl, rfl, by decide +kernel, rfl, by decide +kernel, by decide +kernel⟩
abbrev s_is_prime : Stmt := topS 36
theorem sc_is_prime : FnScope ["thing"] ["thing"] (defScope s_is_prime) := ⟨rfl, rfl, rfl, by decide +kernel, rfl, by decide +kernel, by decide +kernel⟩
abbrev s_long_word : Stmt := topS 39
theorem sc_long_word : FnScope ["length", "colours", "found", "part", "ring"] ["length", "colours"] (defScope s_long_word) := ⟨rfl, rfl, rfl, by decide +kernel, rfl, by decide +kernel, by decide +kernel⟩
abbrev s_place_of : Stmt := topS 40
theorem sc_place_of : FnScope ["text", "length", "colours", "whole", "times"] ["text", "length", "colours"] (defScope s_place_of) := ⟨rfl, rfl, rfl, by decide +kernel, rfl, by decide +kernel, by decide +kernel⟩
abbrev s__law_mixed : Stmt := topS 42
theorem sc__law_mixed : FnScope ["_law_cell", "_law_k", "_law_number_here"] ["_law_cell", "_law_k"] (defScope s__law_mixed) := ⟨rfl, rfl, rfl, by decide +kernel, rfl, by decide +kernel, by decide +kernel⟩
abbrev s__law_number : Stmt := topS 43
theorem sc__law_number : FnScope ["_law_script", "_law_k", "_law_cell"] ["_law_script", "_law_k"] (defScope s__law_number) := ⟨rfl, rfl, rfl, by decide +kernel, rfl, by decide +kernel, by decide +kernel⟩
abbrev s__law_kind : Stmt := topS 44
theorem sc__law_kind : FnScope ["_law_e", "_law_found"] ["_law_e"] (defScope s__law_kind) := ⟨rfl, rfl, rfl, by decide +kernel, rfl, by decide +kernel, by decide +kernel⟩
abbrev s__law_called : Stmt := topS 45
theorem sc__law_called : FnScope ["_law_way", "_law_things"] ["_law_way", "_law_things"] (defScope s__law_called) := ⟨rfl, rfl, rfl, by decide +kernel, rfl, by decide +kernel, by decide +kernel⟩
abbrev s__law_said : Stmt := topS 46
theorem sc__law_said : FnScope ["_law_way", "_law_things", "_law_error", "_law_e"] ["_law_way", "_law_things"] (defScope s__law_said) := ⟨rfl, rfl, rfl, by decide +kernel, rfl, by decide +kernel, by decide +kernel⟩
abbrev s__law_all : Stmt := topS 47
theorem sc__law_all : FnScope ["_law_tried", "_law_one"] ["_law_tried"] (defScope s__law_all) := ⟨rfl, rfl, rfl, by decide +kernel, rfl, by decide +kernel, by decide +kernel⟩
abbrev s__law_rings_right : Stmt := topS 48
theorem sc__law_rings_right : FnScope ["_law_odd", "_law_bad", "_law_tried", "_law_way"] ["_law_odd", "_law_bad"] (defScope s__law_rings_right) := ⟨rfl, rfl, rfl, by decide +kernel, rfl, by decide +kernel, by decide +kernel⟩
abbrev s__law_bounds_right : Stmt := topS 49
theorem sc__law_bounds_right : FnScope ["_law_tried"] [] (defScope s__law_bounds_right) := ⟨rfl, rfl, rfl, by decide +kernel, rfl, by decide +kernel, by decide +kernel⟩
abbrev s__law_sizes_right : Stmt := topS 50
theorem sc__law_sizes_right : FnScope ["_law_length", "_law_bad", "_law_tried", "_law_way", "_law_thing"] ["_law_length", "_law_bad"] (defScope s__law_sizes_right) := ⟨rfl, rfl, rfl, by decide +kernel, rfl, by decide +kernel, by decide +kernel⟩
abbrev s__law_last_right : Stmt := topS 51
theorem sc__law_last_right : FnScope ["_law_length", "_law_colours", "_law_cell", "_law_most", "_law_tried", "_law_thing", "_law_beyond"] ["_law_length", "_law_colours", "_law_cell"] (defScope s__law_last_right) := ⟨rfl, rfl, rfl, by decide +kernel, rfl, by decide +kernel, by decide +kernel⟩
abbrev s_law : Stmt := topS 52
theorem sc_law : FnScope ["_law_script", "_law_k", "_law_cell", "_law_odd", "_law_bad", "_law_none", "_law_more"] ["_law_script"] (defScope s_law) := ⟨rfl, rfl, rfl, by decide +kernel, rfl, by decide +kernel, by decide +kernel⟩
end Bd
open PySem PySem.Spec L2 Evl in
local macro_rules | `(tactic| walk_at "bd") => `(tactic| (try simp only [Bd.tJoinRev, Bd.tSumVals, L2.tSeq, L2.tAsg, L2.tRet, L2.tRetN, L2.tNext, L2.tIfS, L2.tIf, L2.tOp, L2.tUn, L2.rI, L2.rI0, L2.rU, L2.tVar, L2.tC, L2.gName, L2.gCons, L2.gNil, L2.gTup, L2.start, L2.tOr, L2.tAnd, L2.tNot, L2.tB, L2.tTest, L2.tChain, L2.tCB, L2.tCons, L2.tNil, L2.tAndV, L2.tOrV, L2.tNotV, L2.tCallS, L2.tLst, L2.tTup, L2.tSl, L2.tPart, L2.tNoPart, L2.rSlS, L2.tDrop, L2.tBM, L2.tBM0, L2.tyV, L2.rEq, L2.rNe, L2.rIxS, L2.tBreak, L2.tCont, L2.tAug, L2.ipI, L2.tPar, L2.tYes, L2.rIsB, L2.rNotB, L2.tM1, L2.tM0, Bd.repW_len, Bd.tRevS, Bd.rMulS, Bd.rRepr, Bd.rMaxS, L2.cxOf, Bd.scal_ss, Bd.scal_ii, Bd.scal_bb, Bd.scal_nn, Bd.tx_injEq, List.map_cons, List.map_nil, List.length_cons, List.length_nil, List.cons_append, List.nil_append, List.getElem?_cons_zero, List.getElem?_cons_succ, Option.some.injEq, L2.V.int.injEq, L2.V.str.injEq, L2.V.ref.injEq, L2.V.bl.injEq, List.cons.injEq, and_true, true_and, exists_eq_left', exists_eq_left, exists_eq_right, exists_and_left, exists_eq, exists_eq', and_assoc, L2.tDNewK, List.replicate, List.set_cons_zero, List.set_cons_succ, Int.reduceLT, Int.reduceLE, Int.reduceNeg, Int.reduceToNat, Nat.reduceAdd, Nat.reduceSub, Nat.zero_add, Bd.tx_len, Bd.tx_cps, Bd.tx_add, Nat.sub_zero, Nat.sub_self, reduceCtorEq, decide_false, decide_true, Bool.not_true, Bool.not_false, Bool.false_eq_true, if_true, if_false, and_self, L2.wipe, Nat.add_one_sub_one]))
open PySem PySem.Spec L2 Evl in
local macro_rules | `(tactic| walk_at "sz") => `(tactic| (refine Bd.szl ?_; (try simp only [Bd.tx_len, List.length_append, List.length_take, List.length_drop, List.length_reverse, Bd.turn_len, List.length_cons, List.length_nil, List.length_replicate, Bd.repW_len]); first | done | omega | (simp; omega)))
namespace Bd
open PySem PySem.Spec PyProof.Rows L2 Evl
section
variable {P : Program} {w : World} {K : PySem.W.Frag} {mg : Str → Option Value} {base : Heap}
theorem d_is_whole (A : At K mg "is_whole" ["thing"] s_is_whole) (B : Blt mg) : DefAt P w K mg base 1 "is_whole" ["thing"] (sp_is_whole K) := by
  have nd := sc_is_whole.nd
  refine A.def_ sc_is_whole (fun vs H Q E h => ?_) (fun f cdv A0 outer s H vs Q E hr h => ⟨_, (pss_one (ps_ret (pe_and (pe_callB call_isi rfl B.isinstance (by decide +kernel) (pa_cons (pv 0) (pa_cons (pe_bltn (v := .ty "int") rfl B.int (by decide +kernel) rfl) pa_nil))) (pe_one (pe_not (pe_callB call_isi rfl B.isinstance (by decide +kernel) (pa_cons (pv 0) (pa_cons (pe_bltn (v := .ty "bool") rfl B.bool (by decide +kernel) rfl) pa_nil)))))))), ?_⟩)
  · obtain ⟨_, rfl, _⟩ := h; rfl
  · obtain ⟨v, rfl, tv, q⟩ := h
    walk_at "bd"
    refine isi_int tv ⟨_, rfl, ?_⟩
    have e := wholeV_eq tv
    have q0 := q H (Ex.refl _)
    rw [e] at q0
    by_cases c : isInt v = true
    · rw [c] at q0 ⊢
      exact iteT (isi_bool tv ⟨_, rfl, q0⟩)
    · rw [Bool.eq_false_iff.mpr c] at q0 ⊢
      exact iteF q0
end
section
variable {P : Program} {w : World} {K : PySem.W.Frag} {mg : Str → Option Value} {base : Heap}
theorem d_need_among (A : At K mg "need_among" ["thing", "least", "most"] s_need_among) (B : Blt mg) (e_BadNumber : Err K mg "BadNumber") (D_is_whole : DefAt P w K mg base 1 "is_whole" ["thing"] (sp_is_whole K)) : DefAt P w K mg base 2 "need_among" ["thing", "least", "most"] (sp_need_among K) := by
  have nd := sc_need_among.nd
  refine A.def_ sc_need_among (fun vs H Q E h => ?_) (fun f cdv A0 outer s H vs Q E hr h => ⟨_, (pss_one (ps_if (PW.pt (pw_or (pt_not (pt_val (pe_callD D_is_whole (hr.mono (by decide)) pass_no (pa_cons (pv 0) pa_nil)))) (pw_or1 (pt_not (pt_chain op_le op_le (pv 1) (pv 0) (pv 2)))))) (pss_one (ps_raise rfl (takes_of rfl rfl rfl rfl) (pmk_own PySem.F.excBase_ValueError e_BadNumber.ex e_BadNumber.g e_BadNumber.kp (raises_own e_BadNumber.sb e_BadNumber.ty) rfl))) pss_nil)), ?_⟩)
  · obtain ⟨_, _, _, rfl, _⟩ := h; rfl
  · obtain ⟨v, lo, hi, rfl, tv, q1, q2⟩ := h
    walk_at "bd"
    refine ⟨v, rfl, tv, fun H1 e1 => ⟨_, rfl, ?_⟩⟩
    cases v with
    | int n =>
      have hb : amongB (.int n) lo hi = (decide (lo ≤ n) && decide (n ≤ hi)) := rfl
      refine iteF ⟨n, rfl, ?_⟩
      by_cases c1 : lo ≤ n
      · rw [decide_eq_true c1]
        refine iteT ⟨n, rfl, ?_⟩
        by_cases c2 : n ≤ hi
        · rw [decide_eq_true c2]
          exact iteF (q1 (by rw [hb, decide_eq_true c1, decide_eq_true c2]; rfl) H1 e1)
        · rw [decide_eq_false c2]
          exact iteT (q2 (by rw [hb, decide_eq_false c2, Bool.and_false]) H1 e1)
      · rw [decide_eq_false c1]
        exact iteF (q2 (by rw [hb, decide_eq_false c1, Bool.false_and]) H1 e1)
    | _ => exact iteT (q2 rfl H1 e1)
end
section
variable {P : Program} {w : World} {K : PySem.W.Frag} {mg : Str → Option Value} {base : Heap}
theorem d_need_sizes (A : At K mg "need_sizes" ["length", "colours"] s_need_sizes) (B : Blt mg) {t_MOST_LETTERS : Tok} (gl_MOST_LETTERS : mg "MOST_LETTERS" = some (.int 60 t_MOST_LETTERS)) {t_LETTERS : Tok} (gl_LETTERS : mg "LETTERS" = some (.str "abcdefgh" t_LETTERS)) (D_need_among : DefAt P w K mg base 2 "need_among" ["thing", "least", "most"] (sp_need_among K)) : DefAt P w K mg base 3 "need_sizes" ["length", "colours"] (sp_need_sizes K) := by
  have nd := sc_need_sizes.nd
  refine A.def_ sc_need_sizes (fun vs H Q E h => ?_) (fun f cdv A0 outer s H vs Q E hr h => ⟨_, (pss_cons (ps_expr (pe_callD D_need_among (hr.mono (by decide)) pass_up (pa_cons (pv 0) (pa_cons pe_int (pa_cons (pe_glob (v := .int 60) rfl gl_MOST_LETTERS ⟨_, rfl⟩) pa_nil)))))
      (pss_one (ps_expr (pe_callD D_need_among (hr.mono (by decide)) pass_up (pa_cons (pv 1) (pa_cons pe_int (pa_cons (pe_callB call_len_str rfl B.len (by decide +kernel) (pa_cons (pe_glob (v := .str "abcdefgh") rfl gl_LETTERS ⟨_, rfl⟩) pa_nil)) pa_nil))))))), ?_⟩)
  · obtain ⟨_, _, rfl, _⟩ := h; rfl
  · obtain ⟨v, u, rfl, tv, tu, q1, q2⟩ := h
    walk_at "bd"
    have h8 : ("abcdefgh" : Str).length = 8 := by decide
    rw [h8]
    refine ⟨v, _, _, rfl, tv, fun hv H1 e1 => ⟨szl (by decide), u, _, _, rfl, tu.mono e1, fun hu H2 e2 => ?_, fun hu H2 e2 => ?_⟩, fun hv H1 e1 => ?_⟩
    · exact q1 (by unfold sizesB; rw [hv]; exact hu) H2 (e1.trans e2)
    · exact q2 (by unfold sizesB; rw [hv, Bool.true_and]; exact hu) H2 (e1.trans e2)
    · exact q2 (by unfold sizesB; rw [hv, Bool.false_and]) H1 e1
end
section
variable {P : Program} {w : World} {K : PySem.W.Frag} {mg : Str → Option Value} {base : Heap}
theorem d_is_word (A : At K mg "is_word" ["thing"] s_is_word) (B : Blt mg) {t_MOST_LETTERS : Tok} (gl_MOST_LETTERS : mg "MOST_LETTERS" = some (.int 60 t_MOST_LETTERS)) {t_LETTERS : Tok} (gl_LETTERS : mg "LETTERS" = some (.str "abcdefgh" t_LETTERS)) : DefAt P w K mg base 1 "is_word" ["thing"] (sp_is_word K) := by
  have nd := sc_is_word.nd
  refine A.def_ sc_is_word (fun vs H Q E h => ?_) (fun f cdv A0 outer s H vs Q E hr h => ⟨_, (pss_cons (ps_if (PW.pt (pw_or (pt_not (pt_val (pe_callB call_isi rfl B.isinstance (by decide +kernel) (pa_cons (pv 0) (pa_cons (pe_bltn (v := .ty "str") rfl B.str (by decide +kernel) rfl) pa_nil))))) (pw_or1 (pt_not (pt_chain op_le op_le pe_int (pe_callB call_len_str rfl B.len (by decide +kernel) (pa_cons (pv 0) pa_nil)) (pe_glob (v := .int 60) rfl gl_MOST_LETTERS ⟨_, rfl⟩)))))) (pss_one (ps_ret pe_bl)) pss_nil)
      (pss_one (ps_ret (pe_callB (cr_all rfl) rfl B.all (by decide +kernel) (pa_cons (pe_lc (own := [("sign", 1)]) (g := (gName 1)) (tt := tYes) rfl nd (pi_str (pv 0)) (blkOk_by (own := [("sign", 1)]) (N := ["thing", "sign"]) (sc := defScope s_is_word) (by decide +kernel)) (fun _ _ _ _ _ => (pg_name (i := 1) nd rfl (Or.inl rfl))) (fun _ _ _ _ _ => pts_nil) (fun _ _ _ _ _ => (pe_cmpR op_in_sign (pv 1) (pe_glob (v := .str "abcdefgh") rfl gl_LETTERS ⟨_, rfl⟩) rfl))) pa_nil))))), ?_⟩)
  · obtain ⟨_, rfl, _⟩ := h; rfl
  · obtain ⟨v, rfl, th, q⟩ := h
    walk_at "bd"
    refine isi_str th ⟨_, rfl, ?_⟩
    cases th with
    | txt l hl =>
      have q1 : ∀ b H', Ex H H' → b = wordB l → Q (.bl b) H' := fun b H' e eb => by rw [eb, ← wordV_vS]; exact q H' e
      refine iteF ⟨_, rfl, szl (by rw [tx_len]; omega), ?_⟩
      rw [tx_len]
      by_cases h1 : (1 : Int) ≤ (l.length : Int)
      · rw [decide_eq_true h1, if_pos rfl]
        by_cases h2 : (l.length : Int) ≤ 60
        · rw [decide_eq_true h2]
          refine iteF ?_
          refine el_lcS (l := l) (fun _ => true) (fun i => .bl (letterB (l.getD i 0))) (ev_var rfl) (by omega) (fun _ => rfl) (fun _ _ _ _ _ => ev_yes) (fun i c H1 e hc _ => ?_) H (Ex.refl _) _ fun p H2 hp e2 e3 => ?_
          · intro H2 e2 Q' q'
            walk_at "bd"
            rw [letter_in]
            have : l.getD i 0 = c := by rw [List.getD_eq_getElem?_getD, hc]; rfl
            rw [← this]
            exact q' H2 (Ex.refl _)
          · have eg : given l.length (fun _ => true) (fun i => V.bl (letterB (l.getD i 0))) = (l.map letterB).map V.bl := by
              unfold given
              rw [List.filter_eq_self.mpr (fun _ _ => rfl), List.map_map]
              refine List.ext_getElem (by simp) fun i h3 h4 => ?_
              have h5 : i < l.length := by simpa using h4
              simp [List.getElem?_eq_getElem h5]
            rw [eg] at e3
            refine ⟨p, _, rfl, SqL.of e3, ?_⟩
            refine q1 _ H2 e2 ?_
            have h1' : 1 ≤ l.length := by omega
            have h2' : l.length ≤ 60 := by omega
            simp only [wordB, decide_eq_true h1', decide_eq_true h2', Bool.true_and, List.all_map]
            rfl
        · rw [decide_eq_false h2]
          refine iteT (q1 _ H (Ex.refl _) ?_)
          have h2' : ¬ l.length ≤ 60 := by omega
          simp only [wordB, decide_eq_false h2', Bool.and_false, Bool.false_and]
      · rw [decide_eq_false h1]
        refine iteF (q1 _ H (Ex.refl _) ?_)
        have h1' : ¬ 1 ≤ l.length := by omega
        simp only [wordB, decide_eq_false h1', Bool.false_and]
    | non => exact iteT (q H (Ex.refl _))
    | bl b => exact iteT (q H (Ex.refl _))
    | int i => exact iteT (q H (Ex.refl _))
    | lst e => exact iteT (q H (Ex.refl _))
    | tup e => exact iteT (q H (Ex.refl _))
    | dct e => exact iteT (q H (Ex.refl _))
end
section
variable {P : Program} {w : World} {K : PySem.W.Frag} {mg : Str → Option Value} {base : Heap}
theorem d_need_word (A : At K mg "need_word" ["thing"] s_need_word) (B : Blt mg) (e_BadWord : Err K mg "BadWord") (D_is_word : DefAt P w K mg base 1 "is_word" ["thing"] (sp_is_word K)) : DefAt P w K mg base 2 "need_word" ["thing"] (sp_need_word K) := by
  have nd := sc_need_word.nd
  refine A.def_ sc_need_word (fun vs H Q E h => ?_) (fun f cdv A0 outer s H vs Q E hr h => ⟨_, (pss_one (ps_if (pt_not (pt_val (pe_callD D_is_word (hr.mono (by decide)) pass_no (pa_cons (pv 0) pa_nil)))) (pss_one (ps_raise rfl (takes_of rfl rfl rfl rfl) (pmk_own PySem.F.excBase_ValueError e_BadWord.ex e_BadWord.g e_BadWord.kp (raises_own e_BadWord.sb e_BadWord.ty) rfl))) pss_nil)), ?_⟩)
  · obtain ⟨_, rfl, _⟩ := h; rfl
  · obtain ⟨v, rfl, th, q1, q2⟩ := h
    walk_at "bd"
    refine ⟨v, rfl, th, fun H' e => ⟨_, rfl, ?_⟩⟩
    cases hw : wordV v with
    | true => exact iteF (q1 hw H' e)
    | false => exact iteT (q2 hw H' e)
end
section
variable {P : Program} {w : World} {K : PySem.W.Frag} {mg : Str → Option Value} {base : Heap}
theorem d_turnings (A : At K mg "turnings" ["word"] s_turnings) (B : Blt mg) (D_need_word : DefAt P w K mg base 2 "need_word" ["thing"] (sp_need_word K)) : DefAt P w K mg base 3 "turnings" ["word"] (sp_turnings K) := by
  have nd := sc_turnings.nd
  refine A.def_ sc_turnings (fun vs H Q E h => ?_) (fun f cdv A0 outer s H vs Q E hr h => ⟨_, (pss_cons (ps_expr (pe_callD D_need_word (hr.mono (by decide)) pass_up (pa_cons (pv 0) pa_nil)))
      (pss_one (ps_ret (pe_lc (own := [("place", 1)]) (g := (gName 1)) (tt := tYes) rfl nd (pi_range1 rfl B.range (pa_cons (pe_callB call_len_str rfl B.len (by decide +kernel) (pa_cons (pv 0) pa_nil)) pa_nil)) (blkOk_by (own := [("place", 1)]) (N := ["word", "place"]) (sc := defScope s_turnings) (by decide +kernel)) (fun _ _ _ _ _ => (pg_name (i := 1) nd rfl (Or.inl rfl))) (fun _ _ _ _ _ => pts_nil) (fun _ _ _ _ _ => (pe_op op_add_str (pe_slice sl_str (pv 0) (po_some (pv 1)) po_none) (pe_slice sl_str (pv 0) po_none (po_some (pv 1))))))))), ?_⟩)
  · obtain ⟨_, rfl, _⟩ := h; rfl
  · obtain ⟨v, rfl, th, q1, q2⟩ := h
    walk_at "bd"
    refine ⟨v, rfl, th, fun hw H1 e => ?_, fun hw H1 e => q2 hw H1 e⟩
    obtain ⟨l, rfl⟩ : ∃ l, v = vS l := by
      cases th with
      | txt l hl => exact ⟨l, rfl⟩
      | _ => cases hw
    rw [wordV_vS] at hw
    have h60 := IsW.le hw
    refine el_lcR1 (n := l.length) (fun _ => true) (fun i => vS (turn l i)) ?_ ⟨by omega, by omega⟩ (fun _ => rfl) (fun _ _ _ _ => ev_yes) (fun i H2 e2 hi _ => ?_) H1 (Ex.refl _) _ fun p H2 hp e2 e3 => ?_
    · intro H2 e2 Q' q'
      walk_at "bd"
      exact ⟨szl (by omega), q' H2 (Ex.refl _)⟩
    · intro H3 e3 Q' q'
      walk_at "bd"
      rw [cut_from, cut_to, tx_len, tx_len, tx_add]
      refine ⟨szl (by omega), szl (by omega), ?_, q' H3 (Ex.refl _)⟩
      rw [List.length_drop, List.length_take]
      exact szl (by omega)
    · have eg : given (l.length : Int).toNat (fun _ => true) (fun i => vS (turn l i)) = (turnsOf l).map vS := by
        unfold given turnsOf
        rw [List.filter_eq_self.mpr (fun _ _ => rfl), List.map_map, Int.toNat_natCast]
        rfl
      rw [eg] at e3
      exact q1 l rfl hw p H2 (fresh_back e hp) (e.trans e2) e3
end
section
variable {P : Program} {w : World} {K : PySem.W.Frag} {mg : Str → Option Value} {base : Heap}
theorem d_divisors (A : At K mg "divisors" ["number"] s_divisors) (B : Blt mg) : DefAt P w K mg base 1 "divisors" ["number"] (sp_divisors K) := by
  have nd := sc_divisors.nd
  refine A.def_ sc_divisors (fun vs H Q E h => ?_) (fun f cdv A0 outer s H vs Q E hr h => ⟨_, (pss_one (ps_ret (pe_lc (own := [("part", 1)]) (g := (gName 1)) rfl nd (pi_range2 rfl B.range (pa_cons pe_int (pa_cons (pe_op op_add (pv 0) pe_int) pa_nil))) (blkOk_by (own := [("part", 1)]) (N := ["number", "part"]) (sc := defScope s_divisors) (by decide +kernel)) (fun _ _ _ _ _ => (pg_name (i := 1) nd rfl (Or.inl rfl))) (fun _ _ _ _ _ => (pts_one (pt_cmpR op_eq (pe_op op_mod (pv 0) (pv 1)) pe_int (nomark _)))) (fun _ _ _ _ _ => (pv 1))))), ?_⟩)
  · obtain ⟨_, rfl, _⟩ := h; rfl
  · obtain ⟨n, rfl, hn, q⟩ := h
    walk_at "bd"
    refine el_lcR2 (lo := 1) (hi := (n : Int) + 1) (fun i => decide (n % (i + 1) = 0)) (fun i => .int (1 + (i : Int))) (fun H2 e2 R r => ?_) ⟨by omega, by omega, by omega, by omega⟩ (fun _ => rfl) (fun i H2 e2 hi => ?_) (fun i H2 e2 hi _ => ?_) H (Ex.refl _) _ fun p H2 hp2 e2 e3 => ?_
    · walk_at "bd"
      exact r _ (Ex.refl _)
    · intro H3 e3 Q' q'
      walk_at "bd"
      refine ⟨by omega, ?_⟩
      have : decide ((n : Int) % (1 + (i : Int)) = 0) = decide (n % (i + 1) = 0) := decide_eq_decide.mpr (by rw [show (1 : Int) + (i : Int) = ((i + 1 : Nat) : Int) by omega]; omega)
      rw [this]
      exact q' _ (Ex.refl _)
    · intro H3 e3 Q' q'
      walk_at "bd"
      exact q' _ (Ex.refl _)
    · refine q p H2 hp2 e2 ?_
      rw [e3]
      unfold given divs
      rw [List.map_map, show ((n : Int) + 1 - 1).toNat = n by omega]
      refine congrArg (fun z => some (HO.lst z)) (List.map_congr_left fun i _ => ?_)
      show V.int (1 + (i : Int)) = V.int (((i + 1 : Nat) : Int))
      rw [show (1 : Int) + (i : Int) = ((i + 1 : Nat) : Int) by omega]
end
section
variable {P : Program} {w : World} {K : PySem.W.Frag} {mg : Str → Option Value} {base : Heap}
theorem d_power (A : At K mg "power" ["number", "times"] s_power) (B : Blt mg) : DefAt P w K mg base 1 "power" ["number", "times"] (sp_power K) := by
  have nd := sc_power.nd
  refine A.def_ sc_power (fun vs H Q E h => ?_) (fun f cdv A0 outer s H vs Q E hr h => ⟨_, (pss_cons (ps_set (i := 2) nd rfl (Or.inl rfl) pe_int)
      (pss_cons (ps_for (passes_of rfl) rfl (pi_range1 rfl B.range (pa_cons (pv 1) pa_nil)) (pg_name (i := 3) nd rfl (Or.inl rfl)) (pss_one (ps_set (i := 2) nd rfl (Or.inl rfl) (pe_op op_mul (pv 2) (pv 0)))))
      (pss_one (ps_ret (pv 2))))), ?_⟩)
  · obtain ⟨_, _, rfl, _⟩ := h; rfl
  · obtain ⟨c, t, rfl, hc, ht, q⟩ := h
    walk_at "bd"
    refine for_R1 (n := t) (fun R r => ?_) (by omega) (fun i σ' H' => (∃ y3, σ' = [some (.int (c : Int)), some (.int (t : Int)), some (.int ((c ^ i : Nat) : Int)), y3]) ∧ Ex H H') ⟨⟨_, rfl⟩, Ex.refl _⟩ (fun i σ' H' hi w => ?_) (fun σ' H' w => ?_)
    · walk_at "bd"
      exact r
    · obtain ⟨⟨y3, rfl⟩, e1⟩ := w
      walk_at "bd"
      refine ⟨.inr ⟨by omega, by omega⟩, ?_, e1⟩
      rw [Nat.pow_succ]
      omega
    · obtain ⟨⟨y3, rfl⟩, e1⟩ := w
      walk_at "bd"
      exact q H' e1
end
section
variable {P : Program} {w : World} {K : PySem.W.Frag} {mg : Str → Option Value} {base : Heap}
theorem d_primes_by (A : At K mg "primes_by" ["length", "colours"] s_primes_by) (B : Blt mg) (D_divisors : DefAt P w K mg base 1 "divisors" ["number"] (sp_divisors K)) (D_power : DefAt P w K mg base 1 "power" ["number", "times"] (sp_power K)) : DefAt P w K mg base 2 "primes_by" ["length", "colours"] (sp_primes_by K) := by
  have nd := sc_primes_by.nd
  refine A.def_ sc_primes_by (fun vs H Q E h => ?_) (fun f cdv A0 outer s H vs Q E hr h => ⟨_, (pss_cons (ps_set (i := 2) nd rfl (Or.inr rfl) pe_dnewK)
      (pss_cons (ps_for (passes_of rfl) rfl (pi_list (pe_callD D_divisors (hr.mono (by decide)) pass_no (pa_cons (pv 0) pa_nil))) (pg_name (i := 3) nd rfl (Or.inr rfl)) (pss_cons (ps_set (i := 4) nd rfl (Or.inl rfl) (pe_callB (cr_sum rfl) rfl B.sum (by decide +kernel) (pa_cons (pe_lock (pe_lc (own := [("less", 5)]) (g := (gName 5)) rfl nd (pi_keys (pv 2)) (blkOk_by (own := [("less", 5)]) (N := ["length", "colours", "found", "part", "shorter", "less"]) (sc := defScope s_primes_by) (by decide +kernel)) (fun _ _ _ _ _ => (pg_name (i := 5) nd rfl (Or.inl rfl))) (fun _ _ _ _ _ => (pts_one (pt_cmpR op_eq (pe_op op_mod (pv 3) (pv 5)) pe_int (nomark _)))) (fun _ _ _ _ _ => (pe_op op_mul (pv 5) (pe_dget (hu_of hr) (pv 2) (pv 5) (fun _ _ => rfl)))))) pa_nil)))
      (pss_one (ps_dput (hu_of hr) (pv 2) (pv 3) (pe_op op_fdiv (pe_op op_sub (pe_callD D_power (hr.mono (by decide)) pass_no (pa_cons (pv 1) (pa_cons (pv 3) pa_nil))) (pv 4)) (pv 3)) rfl))))
      (pss_one (ps_ret (pv 2))))), ?_⟩)
  · obtain ⟨_, _, rfl, _⟩ := h; rfl
  · obtain ⟨n, c, rfl, hn, hn2, hc, q⟩ := h
    walk_at "bd"
    intro p np
    have x0 := Ex.new (o := .dK []) np
    have k0 : (upd H p (.dK [])) p = some (.dK []) := upd_same
    have call : ∀ R : VK, (∀ dl H2, Ex (upd H p (.dK [])) H2 → H2 dl = some (.lst ((divs n).map fun d : Nat => V.int (d : Int))) → dl ≠ p → R (.ref dl) H2) → tCallS (sp_divisors K) (fun σ x x_1 x_2 => False) (tCons (tVar 0) tNil) [some (.int (n : Int)), some (.int (c : Int)), some (.ref p), none, none, none] (upd H p (.dK [])) R := fun R r => by
      walk_at "bd"
      exact ⟨n, rfl, hn2, fun dl H2 hdl e2 h2 => r dl H2 e2 h2 (fun z => by rw [z, k0] at hdl; cases hdl)⟩
    refine call _ fun dl H2 e2 h2 hne => ?_
    refine ⟨dl, rfl, ⟨_, SqL.of h2⟩, ?_⟩
    have hd0 := e2 _ _ k0
    have x02 := x0.trans e2
    clear call k0 x0 e2
    have hlen := divs_le n
    refine for_list (K := K) (a := dl) (xs := (divs n).map fun d : Nat => V.int (d : Int)) (fun i σ' H' => (∃ y3 y4, σ' = [some (.int (n : Int)), some (.int (c : Int)), some (.ref p), y3, y4, none]) ∧ Ex H H' ∧ H' p = some (.dK (kvOf (((divs n).take i).foldl (pbStep c) []))) ∧ H' dl = some (.lst ((divs n).map fun d : Nat => V.int (d : Int)))) ⟨⟨_, _, rfl⟩, x02, hd0, h2⟩ (fun i σ' H' _ w => SqL.of w.2.2.2) (fun i x σ' H' hx w => ?_) (fun σ' H' w => ?_)
    · obtain ⟨⟨y3, y4, rfl⟩, e1, hp, hl⟩ := w
      rw [List.getElem?_map] at hx
      obtain ⟨d, hd, rfl⟩ := Option.map_eq_some_iff.mp hx
      obtain ⟨hi, rfl⟩ := List.getElem?_eq_some_iff.mp hd
      obtain ⟨hd1, hd2, hd3⟩ := divs_mem.mp (List.getElem_mem hi)
      have keys := pb_keys c ((divs n).take i) []
      rw [List.map_nil, List.nil_append] at keys
      have hnd : ((((divs n).take i).foldl (pbStep c) []).map (·.1)).Nodup := by
        rw [keys]
        exact List.Pairwise.sublist (List.take_sublist _ _) (divs_nodup n)
      have hsm : ∀ q ∈ (((divs n).take i).foldl (pbStep c) []), 1 ≤ q.1 ∧ q.1 ≤ 60 := fun q hq => by
        have : q.1 ∈ (divs n).take i := by rw [← keys]; exact List.mem_map.mpr ⟨q, hq, rfl⟩
        obtain ⟨h1, h2, _⟩ := divs_mem.mp (List.mem_of_mem_take this)
        omega
      have hnew : (divs n)[i] ∉ (((divs n).take i).foldl (pbStep c) []).map (·.1) := by
        rw [keys]
        intro hm
        obtain ⟨j, hj, e⟩ := List.getElem_of_mem hm
        rw [List.length_take] at hj
        rw [List.getElem_take] at e
        have := List.pairwise_iff_getElem.mp (divs_nodup n) j i (by omega) hi (by omega)
        exact this e
      have hfold : (((divs n).take (i + 1)).foldl (pbStep c) []) = pbStep c (((divs n).take i).foldl (pbStep c) []) (divs n)[i] := by
        rw [List.take_succ_eq_append_getElem hi, List.foldl_append]
        rfl
      rw [hfold]
      have hal : (((divs n).take i).foldl (pbStep c) []).length ≤ 60 := by
        have := congrArg List.length keys
        rw [List.length_map, List.length_take] at this
        omega
      generalize ((divs n).take i).foldl (pbStep c) [] = acc at *
      generalize (divs n)[i] = d at *
      walk_at "bd"
      refine el_keys (n := 2) (j := 5) (d := p) (kvs := kvOf acc) rfl hp (fun i => decide (d % (acc.getD i (0, 0)).1 = 0)) (fun i => V.int (((acc.getD i (0, 0)).1 : Int) * (acc.getD i (0, 0)).2)) (by rw [kv_len]; omega) (fun _ => rfl) (fun i k x H1 r1 hk => ?_) (fun i k x H1 r1 hk hf => ?_) (fun r H2 hr e2 h2 => ?_)
      · obtain ⟨pr, hpr, rfl, rfl⟩ := kv_at hk
        have hg : acc.getD i (0, 0) = pr := by rw [List.getD_eq_getElem?_getD, hpr]; rfl
        rw [hg]
        have hb := hsm pr (List.mem_of_getElem? hpr)
        intro H3 e3 Q' q'
        walk_at "bd"
        have : decide ((d : Int) % (pr.1 : Int) = 0) = decide (d % pr.1 = 0) := decide_eq_decide.mpr (by omega)
        refine ⟨(pr.1 : Int), rfl, by omega, ?_⟩
        rw [this]
        exact q' _ (Ex.refl _)
      · obtain ⟨pr, hpr, rfl, rfl⟩ := kv_at hk
        have hg : acc.getD i (0, 0) = pr := by rw [List.getD_eq_getElem?_getD, hpr]; rfl
        rw [hg]
        have hb := hsm pr (List.mem_of_getElem? hpr)
        intro H3 e3 Q' q'
        walk_at "bd"
        refine ⟨_, rfl, _, rfl, p, .int pr.2, rfl, .inl ⟨kvOf acc, .inl (pr.1 : Int), rd_mono e3 r1, rfl, (valV_at hnd hpr).symm⟩, ?_⟩
        exact ⟨(pr.1 : Int), rfl, pr.2, rfl, .inl (by omega), q' _ (Ex.refl _)⟩
      · rw [kv_len, sum_given] at h2
        refine ⟨r, _, rfl, SqL.of h2, ?_⟩
        have es : ((acc.filter fun p => decide (d % p.1 = 0)).map fun p => (p.1 : Int) * p.2).sum = shorter acc d := rfl
        rw [es]
        walk_at "bd"
        unfold sDPut
        walk_at "bd"
        refine ⟨c, d, rfl, by omega, by omega, fun H3 e3 => ⟨_, rfl, ⟨by omega, by omega⟩, ?_⟩⟩
        have e23 := e2.trans e3
        refine ⟨_, .inl ⟨kvOf acc, .inl (d : Int), e23 _ _ hp, rfl, szlt (by rw [kv_len]; omega), rfl⟩, (e1.trans e23).mut np, ?_, ?_⟩
        · rw [upd_same, kv_put hnew]
          rfl
        · rw [upd_ne hne]
          exact e23 _ _ hl
    · obtain ⟨⟨y3, y4, rfl⟩, e1, hp, hl⟩ := w
      rw [List.length_map, List.take_length] at hp
      walk_at "bd"
      exact q p H' np e1 hp
end
section
variable {P : Program} {w : World} {K : PySem.W.Frag} {mg : Str → Option Value} {base : Heap}
theorem d_many_rings (A : At K mg "many_rings" ["length", "colours"] s_many_rings) (B : Blt mg) (D_need_sizes : DefAt P w K mg base 3 "need_sizes" ["length", "colours"] (sp_need_sizes K)) (D_primes_by : DefAt P w K mg base 2 "primes_by" ["length", "colours"] (sp_primes_by K)) : DefAt P w K mg base 4 "many_rings" ["length", "colours"] (sp_many_rings K) := by
  have nd := sc_many_rings.nd
  refine A.def_ sc_many_rings (fun vs H Q E h => ?_) (fun f cdv A0 outer s H vs Q E hr h => ⟨_, (pss_cons (ps_expr (pe_callD D_need_sizes (hr.mono (by decide)) pass_up (pa_cons (pv 0) (pa_cons (pv 1) pa_nil))))
      (pss_one (ps_ret (pe_sumVals rfl (pe_callD D_primes_by (hr.mono (by decide)) pass_no (pa_cons (pv 0) (pa_cons (pv 1) pa_nil))) B.sum)))), ?_⟩)
  · obtain ⟨_, _, rfl, _⟩ := h; rfl
  · obtain ⟨v, u, rfl, tv, tu, q1, q2⟩ := h
    walk_at "bd"
    refine ⟨v, u, rfl, tv, tu, fun hs H1 e1 => ?_, fun hs H1 e1 => q2 hs H1 e1⟩
    obtain ⟨n, c, rfl, rfl, h1, h2, h3, h4⟩ := sizes_nat hs
    refine ⟨n, c, rfl, h1, h2, h4, fun p H2 hp e2 k2 => ⟨p, rfl, _, k2, _, mRings_sum n c, ?_⟩⟩
    exact q1 n c rfl rfl h1 h2 h3 h4 H2 (e1.trans e2)
end
section
variable {P : Program} {w : World} {K : PySem.W.Frag} {mg : Str → Option Value} {base : Heap}
theorem d_ring_of (A : At K mg "ring_of" ["word"] s_ring_of) (B : Blt mg) (D_turnings : DefAt P w K mg base 3 "turnings" ["word"] (sp_turnings K)) : DefAt P w K mg base 4 "ring_of" ["word"] (sp_ring_of K) := by
  have nd := sc_ring_of.nd
  refine A.def_ sc_ring_of (fun vs H Q E h => ?_) (fun f cdv A0 outer s H vs Q E hr h => ⟨_, (pss_one (ps_ret (pe_callB (call_minW rfl hr.units) rfl B.min (by decide +kernel) (pa_cons (pe_callD D_turnings (hr.mono (by decide)) pass_up (pa_cons (pv 0) pa_nil)) pa_nil)))), ?_⟩)
  · obtain ⟨_, rfl, _⟩ := h; rfl
  · obtain ⟨v, rfl, tv, q1, q2⟩ := h
    walk_at "bd"
    refine ⟨v, rfl, tv, fun l e wl p H1 hp e1 h1 => ?_, q2⟩
    obtain ⟨m, r, er⟩ : ∃ m r, turnsOf l = m :: r := by
      cases h : turnsOf l with
      | nil =>
        have := turnsOf_len l
        rw [h] at this
        have := wl.pos
        exact absurd this (by simp at *; omega)
      | cons m r => exact ⟨m, r, rfl⟩
    rw [er] at h1
    refine ⟨p, m, r, rfl, SqL.of h1, ?_⟩
    rw [ring_eq wl.pos er]
    exact q1 l e wl H1 e1
end
section
variable {P : Program} {w : World} {K : PySem.W.Frag} {mg : Str → Option Value} {base : Heap}
theorem d_is_ring (A : At K mg "is_ring" ["thing"] s_is_ring) (B : Blt mg) (D_is_word : DefAt P w K mg base 1 "is_word" ["thing"] (sp_is_word K)) (D_ring_of : DefAt P w K mg base 4 "ring_of" ["word"] (sp_ring_of K)) : DefAt P w K mg base 5 "is_ring" ["thing"] (sp_is_ring K) := by
  have nd := sc_is_ring.nd
  refine A.def_ sc_is_ring (fun vs H Q E h => ?_) (fun f cdv A0 outer s H vs Q E hr h => ⟨_, (pss_one (ps_ret (pe_and (pe_callD D_is_word (hr.mono (by decide)) pass_no (pa_cons (pv 0) pa_nil)) (pe_one (pe_cmpR op_eq (pe_callD D_ring_of (hr.mono (by decide)) pass_up (pa_cons (pv 0) pa_nil)) (pv 0) (nomark _)))))), ?_⟩)
  · obtain ⟨_, rfl, _⟩ := h; rfl
  · obtain ⟨v, rfl, tv, q⟩ := h
    walk_at "bd"
    refine ⟨v, rfl, tv, fun H1 e1 => ⟨_, rfl, ?_⟩⟩
    cases hw : wordV v with
    | false =>
      refine iteF ?_
      have : ringV v = false := by
        cases tv with
        | txt l hl => rw [wordV_vS] at hw; rw [ringV_vS, hw]; rfl
        | _ => rfl
      rw [← this]
      exact q H1 e1
    | true =>
      obtain ⟨l, rfl, wl⟩ := tv.word hw
      refine iteT ⟨_, rfl, tv.mono e1, fun l' e wl' H2 e2 => ?_, fun z => wordF wl z⟩
      obtain rfl := tx_inj (V.str.inj e)
      refine ⟨rfl, ?_⟩
      have := q H2 (e1.trans e2)
      rw [ringV_vS, show wordB l = true from wl, Bool.true_and] at this
      rw [vS_eq]
      exact this
end
section
variable {P : Program} {w : World} {K : PySem.W.Frag} {mg : Str → Option Value} {base : Heap}
theorem d_need_ring (A : At K mg "need_ring" ["ring", "colours"] s_need_ring) (B : Blt mg) {t_LETTERS : Tok} (gl_LETTERS : mg "LETTERS" = some (.str "abcdefgh" t_LETTERS)) (e_BadRing : Err K mg "BadRing") (D_need_among : DefAt P w K mg base 2 "need_among" ["thing", "least", "most"] (sp_need_among K)) (D_is_ring : DefAt P w K mg base 5 "is_ring" ["thing"] (sp_is_ring K)) : DefAt P w K mg base 6 "need_ring" ["ring", "colours"] (sp_need_ring K) := by
  have nd := sc_need_ring.nd
  refine A.def_ sc_need_ring (fun vs H Q E h => ?_) (fun f cdv A0 outer s H vs Q E hr h => ⟨_, (pss_cons (ps_if (pt_not (pt_val (pe_callD D_is_ring (hr.mono (by decide)) pass_no (pa_cons (pv 0) pa_nil)))) (pss_one (ps_raise rfl (takes_of rfl rfl rfl rfl) (pmk_own PySem.F.excBase_ValueError e_BadRing.ex e_BadRing.g e_BadRing.kp (raises_own e_BadRing.sb e_BadRing.ty) rfl))) pss_nil)
      (pss_cons (ps_expr (pe_callD D_need_among (hr.mono (by decide)) pass_up (pa_cons (pv 1) (pa_cons pe_int (pa_cons (pe_callB call_len_str rfl B.len (by decide +kernel) (pa_cons (pe_glob (v := .str "abcdefgh") rfl gl_LETTERS ⟨_, rfl⟩) pa_nil)) pa_nil)))))
      (pss_one (ps_if (pt_cmpR op_gt_str (pe_callB (call_maxS rfl) rfl B.max (by decide +kernel) (pa_cons (pv 0) pa_nil)) (pe_ix ix_str (pe_glob (v := .str "abcdefgh") rfl gl_LETTERS ⟨_, rfl⟩) (pe_op op_sub (pv 1) pe_int) (fun _ _ => rfl)) (nomark _)) (pss_one (ps_raise rfl (takes_of rfl rfl rfl rfl) (pmk_own PySem.F.excBase_ValueError e_BadRing.ex e_BadRing.g e_BadRing.kp (raises_own e_BadRing.sb e_BadRing.ty) rfl))) pss_nil)))), ?_⟩)
  · obtain ⟨_, _, rfl, _⟩ := h; rfl
  · obtain ⟨v, u, rfl, tv, tu, q1, q2⟩ := h
    walk_at "bd"
    obtain ⟨f1, f2, f3⟩ := q1
    have h8 : ("abcdefgh" : Str).length = 8 := by decide
    refine ⟨v, rfl, tv, fun H1 e1 => ⟨_, rfl, ?_⟩⟩
    cases hr : ringV v with
    | false => exact iteT (f1 hr H1 e1)
    | true =>
      refine iteF ⟨szl (by decide), u, 1, _, rfl, tu.mono e1, fun ha H2 e2 => ?_, fun ha H2 e2 => ?_⟩
      · rw [h8] at ha
        obtain ⟨c, rfl, c1, c8⟩ := among_nat (hi := 8) ha
        obtain ⟨l, rfl, wl, rl⟩ : ∃ l, v = vS l ∧ IsW l ∧ Rg l := by
          cases tv with
          | txt l hl =>
            rw [ringV_vS, Bool.and_eq_true] at hr
            exact ⟨l, rfl, hr.1, of_decide_eq_true hr.2⟩
          | _ => cases hr
        obtain ⟨x, r, rfl⟩ : ∃ x r, l = x :: r := by
          cases l with
          | nil => exact absurd wl.pos (by decide)
          | cons x r => exact ⟨x, r, rfl⟩
        refine ⟨x, r, rfl, (c : Int), rfl, szl (by decide), 96 + c, letter_top c1 c8, ?_⟩
        rw [lt_one]
        have top : inTop (x :: r) c = !decide (96 + c < topC x r) := by
          unfold inTop
          have hm : ∀ (r : List Nat) (x : Nat), (∀ y ∈ x :: r, y ≤ 96 + c) ↔ topC x r ≤ 96 + c := fun r => by
            induction r with
            | nil =>
              intro x
              exact ⟨fun h => h x (.head _), fun h y hy => by rw [List.mem_singleton.mp hy]; exact h⟩
            | cons z r ih =>
              intro x
              have := ih (max x z)
              show _ ↔ topC (max x z) r ≤ 96 + c
              rw [← this]
              constructor
              · intro h y hy
                rcases List.mem_cons.mp hy with rfl | hy
                · have h1 := h x (.head _)
                  have h2 := h z (.tail _ (.head _))
                  omega
                · exact h y (.tail _ (.tail _ hy))
              · intro h y hy
                have h1 := h (max x z) (.head _)
                rcases List.mem_cons.mp hy with rfl | hy
                · omega
                · rcases List.mem_cons.mp hy with rfl | hy
                  · omega
                  · exact h y (.tail _ hy)
          rw [Bool.eq_iff_iff, decide_eq_true_eq, Bool.not_eq_true', decide_eq_false_iff_not, ← mem_gt (P := fun z => z ≤ 96 + c), hm r x]
          omega
        by_cases ct : 96 + c < topC x r
        · rw [decide_eq_true ct]
          rw [decide_eq_true ct] at top
          exact iteT (f3 (x :: r) c rfl hr rfl c1 c8 top H2 (e1.trans e2))
        · rw [decide_eq_false ct]
          rw [decide_eq_false ct] at top
          exact iteF (q2 (x :: r) c ⟨rfl, rfl, wl, rl, c1, c8, top⟩ H2 (e1.trans e2))
      · rw [h8] at ha
        exact f2 hr ha H2 (e1.trans e2)
end
section
variable {P : Program} {w : World} {K : PySem.W.Frag} {mg : Str → Option Value} {base : Heap}
theorem d_need_few (A : At K mg "need_few" ["length", "colours"] s_need_few) (B : Blt mg) {t_MOST_RINGS : Tok} (gl_MOST_RINGS : mg "MOST_RINGS" = some (.int 3000 t_MOST_RINGS)) (e_TooMany : Err K mg "TooMany") (D_need_sizes : DefAt P w K mg base 3 "need_sizes" ["length", "colours"] (sp_need_sizes K)) (D_many_rings : DefAt P w K mg base 4 "many_rings" ["length", "colours"] (sp_many_rings K)) : DefAt P w K mg base 5 "need_few" ["length", "colours"] (sp_need_few K) := by
  have nd := sc_need_few.nd
  refine A.def_ sc_need_few (fun vs H Q E h => ?_) (fun f cdv A0 outer s H vs Q E hr h => ⟨_, (pss_cons (ps_expr (pe_callD D_need_sizes (hr.mono (by decide)) pass_up (pa_cons (pv 0) (pa_cons (pv 1) pa_nil))))
      (pss_one (ps_if (pt_cmpR op_gt (pe_callD D_many_rings (hr.mono (by decide)) pass_up (pa_cons (pv 0) (pa_cons (pv 1) pa_nil))) (pe_glob (v := .int 3000) rfl gl_MOST_RINGS ⟨_, rfl⟩) (nomark _)) (pss_one (ps_raise rfl (takes_of rfl rfl rfl rfl) (pmk_own PySem.F.excBase_ValueError e_TooMany.ex e_TooMany.g e_TooMany.kp (raises_own e_TooMany.sb e_TooMany.ty) rfl))) pss_nil))), ?_⟩)
  · obtain ⟨_, _, rfl, _⟩ := h; rfl
  · obtain ⟨v, u, rfl, tv, tu, q1, q2⟩ := h
    walk_at "bd"
    obtain ⟨f1, f2⟩ := q1
    refine ⟨v, u, rfl, tv, tu, fun hs H1 e1 => ?_, fun hs H1 e1 => f1 hs H1 e1⟩
    obtain ⟨n, c, rfl, rfl, h1, h2, h3, h4⟩ := sizes_nat hs
    refine ⟨_, _, rfl, tv.mono e1, tu.mono e1, fun n' c' hn' hc' _ _ _ _ H2 e2 => ?_, fun z => by rw [hs] at z; cases z⟩
    have en := Int.ofNat.inj (V.int.inj hn')
    have ec := Int.ofNat.inj (V.int.inj hc')
    subst en ec
    refine ⟨_, rfl, ?_⟩
    by_cases c3 : 3000 < mRings n c
    · rw [decide_eq_true c3]
      exact iteT (f2 n c rfl rfl hs c3 H2 (e1.trans e2))
    · rw [decide_eq_false c3]
      exact iteF (q2 n c ⟨rfl, rfl, h1, h2, h3, h4, by omega⟩ H2 (e1.trans e2))
end
section
variable {P : Program} {w : World} {K : PySem.W.Frag} {mg : Str → Option Value} {base : Heap}
theorem d_following (A : At K mg "following" ["word", "top"] s_following) (B : Blt mg) {t_LETTERS : Tok} (gl_LETTERS : mg "LETTERS" = some (.str "abcdefgh" t_LETTERS)) : DefAt P w K mg base 1 "following" ["word", "top"] (sp_following K) := by
  have nd := sc_following.nd
  refine A.def_ sc_following (fun vs H Q E h => ?_) (fun f cdv A0 outer s H vs Q E hr h => ⟨_, (pss_cons (ps_set (i := 2) nd rfl (Or.inl rfl) (pe_callB call_len_str rfl B.len (by decide +kernel) (pa_cons (pe_bm PySem.F.plainAttrs_str PySem.F.slot_str_rstrip PySem.F.type_str_rstrip mt_rstripChars (pv 0) (pa_cons (pv 1) pa_nil)) pa_nil)))
      (pss_cons (ps_if (pt_cmpR op_eq (pv 2) pe_int (nomark _)) (pss_one (ps_ret pe_non)) pss_nil)
      (pss_cons (ps_set (i := 3) nd rfl (Or.inl rfl) (pe_op op_add_str (pe_slice sl_str (pv 0) po_none (po_some (pe_op op_sub (pv 2) pe_int))) (pe_ix ix_str (pe_glob (v := .str "abcdefgh") rfl gl_LETTERS ⟨_, rfl⟩) (pe_op op_add (pe_bm PySem.F.plainAttrs_str PySem.F.slot_str_index PySem.F.type_str_index mt_sindex (pe_glob (v := .str "abcdefgh") rfl gl_LETTERS ⟨_, rfl⟩) (pa_cons (pe_ix ix_str (pv 0) (pe_op op_sub (pv 2) pe_int) (fun _ _ => rfl)) pa_nil)) pe_int) (fun _ _ => rfl))))
      (pss_cons (ps_set (i := 4) nd rfl (Or.inl rfl) (pe_op op_add (pe_op op_fdiv (pe_callB call_len_str rfl B.len (by decide +kernel) (pa_cons (pv 0) pa_nil)) (pv 2)) pe_int))
      (pss_one (ps_ret (pe_tup (pa_cons (pe_slice sl_str (pe_op op_mul_str (pv 3) (pv 4)) po_none (po_some (pe_callB call_len_str rfl B.len (by decide +kernel) (pa_cons (pv 0) pa_nil)))) (pa_cons (pv 2) pa_nil))))))))), ?_⟩)
  · obtain ⟨_, _, rfl, _⟩ := h; rfl
  · obtain ⟨w, top, rfl, hw1, hw2, ht, hl, q1, q2⟩ := h
    walk_at "bd"
    rw [rstrip_tx, tx_len]
    have hk := kept_le w top
    have hkl : (w.take (keptN w top)).length = keptN w top := by rw [List.length_take]; omega
    rw [hkl]
    refine ⟨szl (by omega), szl (by omega), ?_⟩
    by_cases c0 : keptN w top = 0
    · rw [c0]
      exact iteT (q1 (fun y hy => kept_tops (by omega) hy) H (Ex.refl _))
    · rw [decide_eq_false (show ¬ ((keptN w top : Nat) : Int) = 0 by omega)]
      have fo := foll_of (w := w) (top := top) (s := keptN w top) (by omega) rfl (fun y hy => (hl y hy).2)
      have hlt := fo.lt
      have hlo := (hl (keptN w top - 1) (by omega)).1
      generalize hs : keptN w top = s at *
      have es : ((s : Int) - 1) = ((s - 1 : Nat) : Int) := by omega
      rw [es, cut_to]
      refine iteF ⟨szl (by omega), szl (by omega), gt w (s - 1), atI_nat (gt_some (by omega)), gt w (s - 1) - 97, [], letter_place hlo (by omega), szl (by decide), gt w (s - 1) + 1, letter_up hlo (by omega), ?_⟩
      have one : (⟨#[gt w (s - 1) + 1]⟩ : Str) = tx [gt w (s - 1) + 1] := rfl
      rw [one, tx_add]
      have hgl : (w.take (s - 1) ++ [gt w (s - 1) + 1]).length = s := by
        rw [List.length_append, List.length_take, List.length_singleton]
        omega
      have hdv := Nat.div_le_self w.length s
      have et : ((w.length : Int) / (s : Int) + 1).toNat = w.length / s + 1 := by
        rw [show (w.length : Int) / (s : Int) = ((w.length / s : Nat) : Int) by rw [Int.natCast_ediv]]
        exact Int.toNat_natCast (w.length / s + 1)
      have en : (w.length : Int) / (s : Int) = ((w.length / s : Nat) : Int) := by rw [Int.natCast_ediv]
      have hbig : (w.length / s + 1) * s ≤ 6000 := Nat.le_trans (Nat.mul_le_mul (show w.length / s + 1 ≤ 61 by omega) (show s ≤ 60 by omega)) (by decide)
      have hbig2 : s * (w.length / s + 1) ≤ 6000 := by rw [Nat.mul_comm]; exact hbig
      rw [et, tx_cps, tx_len, hgl, cut_to]
      refine ⟨szl (by first | omega | (rw [List.length_take]; omega) | (rw [tx_len, List.length_take]; omega)), szl (by omega), ⟨by omega, by omega⟩, by rw [en]; exact Int.natCast_nonneg (w.length / s + 1), by rw [en]; exact Int.ofNat_le.mpr (show w.length / s + 1 ≤ 100000 by omega), szl (by first | exact Nat.le_trans hbig2 (by decide) | (rw [tx_len, hgl]; exact Nat.le_trans hbig2 (by decide))), szl (by omega), szl (by first | exact Nat.le_trans hbig (by decide) | omega), szl (by decide), fun p np => ?_⟩
      exact q2 _ s fo p _ np (Ex.new np) upd_same
end
section
variable {P : Program} {w : World} {K : PySem.W.Frag} {mg : Str → Option Value} {base : Heap}
theorem d_next_ring (A : At K mg "next_ring" ["ring", "colours"] s_next_ring) (B : Blt mg) {t_LETTERS : Tok} (gl_LETTERS : mg "LETTERS" = some (.str "abcdefgh" t_LETTERS)) (D_need_ring : DefAt P w K mg base 6 "need_ring" ["ring", "colours"] (sp_need_ring K)) (D_following : DefAt P w K mg base 1 "following" ["word", "top"] (sp_following K)) : DefAt P w K mg base 7 "next_ring" ["ring", "colours"] (sp_next_ring K) := by
  have nd := sc_next_ring.nd
  refine A.def_ sc_next_ring (fun vs H Q E h => ?_) (fun f cdv A0 outer s H vs Q E hr h => ⟨_, (pss_cons (ps_expr (pe_callD D_need_ring (hr.mono (by decide)) pass_up (pa_cons (pv 0) (pa_cons (pv 1) pa_nil))))
      (pss_cons (ps_set (i := 2) nd rfl (Or.inl rfl) (pe_callD D_following (hr.mono (by decide)) pass_no (pa_cons (pv 0) (pa_cons (pe_ix ix_str (pe_glob (v := .str "abcdefgh") rfl gl_LETTERS ⟨_, rfl⟩) (pe_op op_sub (pv 1) pe_int) (fun _ _ => rfl)) pa_nil))))
      (pss_cons (ps_while (passes_of rfl) (PW.pt (pw_and (pt_cmpR op_notN (pv 2) pe_non (nomark _)) (pw_and1 (pt_cmpR op_gt (pe_op op_mod (pe_callB call_len_str rfl B.len (by decide +kernel) (pa_cons (pv 0) pa_nil)) (pe_ix ix_tup (pv 2) pe_int (fun _ _ => rfl))) pe_int (nomark _))))) (pss_one (ps_set (i := 2) nd rfl (Or.inl rfl) (pe_callD D_following (hr.mono (by decide)) pass_no (pa_cons (pe_ix ix_tup (pv 2) pe_int (fun _ _ => rfl)) (pa_cons (pe_ix ix_str (pe_glob (v := .str "abcdefgh") rfl gl_LETTERS ⟨_, rfl⟩) (pe_op op_sub (pv 1) pe_int) (fun _ _ => rfl)) pa_nil))))))
      (pss_one (ps_ret (pe_ifExp (pt_cmpR op_isN (pv 2) pe_non (nomark _)) pe_non (pe_ix ix_tup (pv 2) pe_int (fun _ _ => rfl)))))))), ?_⟩)
  · obtain ⟨_, _, rfl, _⟩ := h; rfl
  · obtain ⟨v, u, rfl, tv, tu, q1, q2⟩ := h
    walk_at "bd"
    refine ⟨v, u, rfl, tv, tu, q1, fun l c hok H1 e1 => ?_⟩
    have hok' := hok
    obtain ⟨rfl, rfl, wl, rl, c1, c8, tl⟩ := hok
    have h60 := wl.le
    have hp := wl.pos
    have tl' : ∀ y, y < l.length → gt l y ≤ 96 + c := of_decide_eq_true tl
    have hg : Good2 l.length (96 + c) l := ⟨rl, rfl, fun y hy => ⟨((mem_gt (P := fun x => 97 ≤ x ∧ x ≤ 104)).mp wl.let_ y hy).1, tl' y hy⟩⟩
    refine ⟨(c : Int), rfl, szl (by decide), 96 + c, letter_top c1 c8, ?_⟩
    -- what a call of following gives
    have foll : ∀ (w : List Nat) (H2 : Hp) (R : VK), Seek l (96 + c) w → (IsNext l (96 + c) none → ∀ H3, Ex H2 H3 → R .non H3) → (∀ x s T H3, Foll w (96 + c) s x → Ex H2 H3 → H3 T = some (.tup [vS x, .int ((s : Nat) : Int)]) → R (.ref T) H3) → ∀ E', sp_following K [vS w, .str ⟨#[96 + c]⟩] H2 R E' := fun w H2 R k r1 r2 E' =>
      ⟨w, 96 + c, rfl, by rw [k.len]; exact hp, by rw [k.len]; exact h60, by omega, k.let_, fun ht H3 e3 => r1 (k.none_ ht) H3 e3, fun x s f T H3 _ e3 hT => r2 x s T H3 f e3 hT⟩
    -- what the loop keeps
    have loop : ∀ (y2 : V) (H2 : Hp), ((y2 = .non ∧ IsNext l (96 + c) none) ∨ ∃ w x s T, y2 = .ref T ∧ Seek l (96 + c) w ∧ Foll w (96 + c) s x ∧ H2 T = some (.tup [vS x, .int ((s : Nat) : Int)])) → Ex H H2 →
      tWhile (tAnd (tTest (tOp (fun x y H Q => y = V.non ∧ Q (V.bl !decide (x = V.non)) H) (tVar 2) (tC V.non)))
          (tTest (tOp (rI0 fun i j => V.bl (decide (j < i))) (tOp (rI (fun x j => 0 < j) fun i j => V.int (i % j)) (tCB (fun xs H Q => ∃ z, xs = [V.str z] ∧ z.length ≤ sizeLine ∧ Q (V.int (z.length : Int)) H) (tCons (tVar 0) tNil)) (tOp (rIxT K) (tVar 2) (tC (V.int 1)))) (tC (V.int 0)))))
        (tAsg (tCallS (sp_following K) (fun σ x x_1 x_2 => False) (tCons (tOp (rIxT K) (tVar 2) (tC (V.int 0))) (tCons (tOp rIxS (tC (V.str "abcdefgh")) (tOp (rI0 fun i j => V.int (i - j)) (tVar 1) (tC (V.int 1)))) tNil))) (gName 2))
        { nx := tRet (tIf (tTest (tOp (fun x y H Q => y = V.non ∧ Q (V.bl (decide (x = V.non))) H) (tVar 2) (tC V.non))) (tC V.non) (tOp (rIxT K) (tVar 2) (tC (V.int 0)))) { nx := fun x H' => Q V.non H', rt := Q }, rt := Q }
        [some (vS l), some (V.int (c : Int)), some y2] H2 := fun y2 H2 hI e2 => by
      refine while_L (fun σ' H' => ∃ y2, σ' = [some (vS l), some (V.int (c : Int)), some y2] ∧ ((y2 = .non ∧ IsNext l (96 + c) none) ∨ ∃ w x s T, y2 = .ref T ∧ Seek l (96 + c) w ∧ Foll w (96 + c) s x ∧ H' T = some (.tup [vS x, .int ((s : Nat) : Int)])) ∧ Ex H H') (fun σ' H' => seekMu 2 σ' H') ⟨y2, rfl, hI, e2⟩ (fun σ' H' w => ?_)
      obtain ⟨y2, rfl, hI, e3⟩ := w
      rcases hI with ⟨rfl, hn⟩ | ⟨w, x, s, T, rfl, sk, fo, hT⟩
      · refine ⟨false, fun H4 e4 Q' q' => ?_, fun z => (nomatch z), fun _ H4 e4 => ?_⟩
        · walk_at "bd"
          exact q' _ (Ex.refl _)
        · walk_at "bd"
          exact q2 l c hok' none hn H4 (e3.trans e4)
      · have hs1 := fo.s1
        refine ⟨decide (0 < l.length % s), fun H4 e4 Q' q' => ?_, fun hb H4 e4 => ?_, fun hb H4 e4 => ?_⟩
        · walk_at "bd"
          refine ⟨szl (by omega), T, _, _, _, rfl, rfl, SqT.of (e4 _ _ hT), atI_nat (j := 1) rfl, ?_⟩
          refine ⟨(s : Int), rfl, by omega, ?_⟩
          rw [show decide ((0 : Int) < (l.length : Int) % (s : Int)) = decide (0 < l.length % s) from decide_eq_decide.mpr (by omega)]
          exact q' _ (Ex.refl _)
        · have hd := of_decide_eq_true hb
          walk_at "bd"
          have sk2 := sk.step fo (by omega)
          have hw9 := sk2.word c8
          have hv := val_lt60 (by rw [sk2.len]; exact h60) fun y hy => (hw9 y hy).2
          refine ⟨T, _, _, _, rfl, rfl, SqT.of (e4 _ _ hT), atI_nat (j := 0) rfl, szl (by decide), 96 + c, letter_top c1 c8, ?_⟩
          refine foll x H4 _ sk2 (fun hn H5 e5 => ⟨.inl ⟨rfl, hn⟩, (e3.trans e4).trans e5, ?_⟩) (fun x2 s2 T2 H5 f2 e5 hT2 => ⟨.inr ⟨x, x2, s2, T2, rfl, sk2, f2, hT2⟩, (e3.trans e4).trans e5, ?_⟩) _
          · rw [seekMu_non rfl, seekMu_ref rfl hT]
            omega
          · rw [seekMu_ref rfl hT2, seekMu_ref rfl hT]
            have sk3 : ∀ y ∈ x2, 97 ≤ y ∧ y ≤ 104 := (mem_gt (P := fun z => 97 ≤ z ∧ z ≤ 104)).mpr fun y hy => by
              have := f2.letters sk2.let_ y hy
              omega
            have := valW_mono f2.len.symm hw9 sk3 f2.gt_
            omega
        · have hd : l.length % s = 0 := by have := of_decide_eq_false hb; omega
          walk_at "bd"
          refine ⟨T, _, _, _, rfl, rfl, SqT.of (e4 _ _ hT), atI_nat (j := 0) rfl, ?_⟩
          exact q2 l c hok' (some x) (sk.done fo hd) H4 (e3.trans e4)
    exact foll l H1 _ (Seek.start hp hg) (fun hn H3 e3 => loop _ _ (.inl ⟨rfl, hn⟩) (e1.trans e3)) (fun x s T H3 f e3 hT => loop _ _ (.inr ⟨l, x, s, T, rfl, Seek.start hp hg, f, hT⟩) (e1.trans e3)) _
end
section
variable {P : Program} {w : World} {K : PySem.W.Frag} {mg : Str → Option Value} {base : Heap}
theorem d_all_rings (A : At K mg "all_rings" ["length", "colours"] s_all_rings) (B : Blt mg) {t_LETTERS : Tok} (gl_LETTERS : mg "LETTERS" = some (.str "abcdefgh" t_LETTERS)) (D_need_few : DefAt P w K mg base 5 "need_few" ["length", "colours"] (sp_need_few K)) (D_next_ring : DefAt P w K mg base 7 "next_ring" ["ring", "colours"] (sp_next_ring K)) : DefAt P w K mg base 8 "all_rings" ["length", "colours"] (sp_all_rings K) := by
  have nd := sc_all_rings.nd
  refine A.def_ sc_all_rings (fun vs H Q E h => ?_) (fun f cdv A0 outer s H vs Q E hr h => ⟨_, (pss_cons (ps_expr (pe_callD D_need_few (hr.mono (by decide)) pass_up (pa_cons (pv 0) (pa_cons (pv 1) pa_nil))))
      (pss_cons (ps_set (i := 2) nd rfl (Or.inl rfl) (pe_lst pa_nil))
      (pss_cons (ps_set (i := 3) nd rfl (Or.inl rfl) (pe_op op_mul_str (pe_ix ix_str (pe_glob (v := .str "abcdefgh") rfl gl_LETTERS ⟨_, rfl⟩) pe_int (fun _ _ => rfl)) (pv 0)))
      (pss_cons (ps_while (passes_of rfl) (pt_cmpR op_notN (pv 3) pe_non (nomark _)) (pss_cons (ps_expr (pe_bm PySem.F.plainAttrs_list PySem.F.slot_list_append PySem.F.type_list_append mt_append (pv 2) (pa_cons (pv 3) pa_nil)))
      (pss_one (ps_set (i := 3) nd rfl (Or.inl rfl) (pe_callD D_next_ring (hr.mono (by decide)) pass_up (pa_cons (pv 3) (pa_cons (pv 1) pa_nil)))))))
      (pss_one (ps_ret (pv 2))))))), ?_⟩)
  · obtain ⟨_, _, rfl, _⟩ := h; rfl
  · obtain ⟨v, u, rfl, tv, tu, q1, q2⟩ := h
    walk_at "bd"
    refine ⟨v, u, rfl, tv, tu, q1, fun n c hok H1 e1 => ⟨szl (by decide), fun p np => ?_⟩⟩
    obtain ⟨hfew, q3⟩ := q2 n c hok
    obtain ⟨rfl, rfl, n1, n60, c1, c8, _⟩ := hok
    refine ⟨szl (by decide), 97, by rw [letters_list]; rfl, (n : Int), rfl, by omega, by omega, szl (by rw [Int.toNat_natCast]; omega), ?_⟩
    rw [Int.toNat_natCast, rep_one]
    have hlen := some_len hfew
    have npH : H p = none := fresh_back e1 np
    refine while_L (fun σ' H' => ∃ i : Nat, i ≤ (someW n c).length ∧ σ' = [some (.int (n : Int)), some (.int (c : Int)), some (.ref p), some (optW (someW n c)[i]?)] ∧ H' p = some (.lst (((someW n c).take i).map vS)) ∧ Ex H H') (fun _ H' => (someW n c).length - lenAt p H')
      ⟨0, Nat.zero_le _, by rw [some_first n1 c1 c8]; rfl, by rw [List.take_zero]; exact upd_same, e1.trans (Ex.new np)⟩ (fun σ' H' w => ?_)
    obtain ⟨i, hi, rfl, hp, e2⟩ := w
    by_cases hlt : i < (someW n c).length
    · have hg : (someW n c)[i]? = some (someW n c)[i] := List.getElem?_eq_getElem hlt
      have hm := List.getElem_mem hlt
      have hnx := some_next c8 hg
      have htk : (someW n c).take (i + 1) = (someW n c).take i ++ [(someW n c)[i]] := List.take_succ_eq_append_getElem hlt
      rw [hg]
      have hrok := some_ok n1 n60 c1 c8 hm
      generalize (someW n c)[i] = l at *
      refine ⟨true, fun H3 e3 Q' q' => ?_, fun _ H3 e3 => ?_, fun z => nomatch z⟩
      · walk_at "bd"
        have : (!decide (optW (some l) = V.non)) = true := by rw [decide_eq_false (fun z => nomatch z)]; rfl
        rw [this]
        exact q' _ (Ex.refl _)
      · walk_at "bd"
        have hl3 := e3 _ _ hp
        refine ⟨.inl ⟨_, SqL.of hl3⟩, p, _, _, rfl, rfl, hl3, szlt (by rw [List.length_map, List.length_take]; exact Nat.lt_of_le_of_lt (Nat.min_le_left _ _) (by omega)), ?_⟩
        refine ⟨_, _, rfl, Thing.ofW hrok.2.2.1, .int _, hrok.noE, fun l' c' hok' r hr H4 e4 => ?_⟩
        have el := tx_inj (V.str.inj hok'.1)
        have ec := Int.ofNat.inj (V.int.inj hok'.2.1)
        subst el ec
        obtain rfl := hnx.uniq hr
        have h4 := e4 _ _ (upd_same (H := H3) (a := p) (o := .lst (((someW n c).take i).map vS ++ [vS l])))
        refine ⟨⟨i + 1, hlt, rfl, ?_, ((e2.trans e3).mut npH).trans e4⟩, ?_⟩
        · rw [htk, List.map_append]
          exact h4
        · rw [lenAt_of h4, lenAt_of hp, List.length_append, List.length_map, List.length_take, List.length_singleton]
          omega
    · have : i = (someW n c).length := by omega
      subst this
      have hg : (someW n c)[(someW n c).length]? = none := List.getElem?_eq_none_iff.mpr (Nat.le_refl _)
      rw [hg]
      rw [List.take_length] at hp
      refine ⟨false, fun H3 e3 Q' q' => ?_, fun z => (nomatch z), fun _ H3 e3 => ?_⟩
      · walk_at "bd"
        exact q' _ (Ex.refl _)
      · walk_at "bd"
        exact q3 p H3 npH (e2.trans e3) (e3 _ _ hp)
end
section
variable {P : Program} {w : World} {K : PySem.W.Frag} {mg : Str → Option Value} {base : Heap}
theorem d_number_of (A : At K mg "number_of" ["ring", "colours"] s_number_of) (B : Blt mg) (D_need_ring : DefAt P w K mg base 6 "need_ring" ["ring", "colours"] (sp_need_ring K)) (D_all_rings : DefAt P w K mg base 8 "all_rings" ["length", "colours"] (sp_all_rings K)) : DefAt P w K mg base 9 "number_of" ["ring", "colours"] (sp_number_of K) := by
  have nd := sc_number_of.nd
  refine A.def_ sc_number_of (fun vs H Q E h => ?_) (fun f cdv A0 outer s H vs Q E hr h => ⟨_, (pss_cons (ps_expr (pe_callD D_need_ring (hr.mono (by decide)) pass_up (pa_cons (pv 0) (pa_cons (pv 1) pa_nil))))
      (pss_one (ps_ret (pe_bm PySem.F.plainAttrs_list PySem.F.slot_list_index PySem.F.type_list_index mt_index (pe_callD D_all_rings (hr.mono (by decide)) pass_up (pa_cons (pe_callB call_len_str rfl B.len (by decide +kernel) (pa_cons (pv 0) pa_nil)) (pa_cons (pv 1) pa_nil))) (pa_cons (pv 0) pa_nil))))), ?_⟩)
  · obtain ⟨_, _, rfl, _⟩ := h; rfl
  · obtain ⟨v, u, rfl, tv, tu, q1, q2⟩ := h
    walk_at "bd"
    refine ⟨v, u, rfl, tv, tu, q1, fun l c hok H1 e1 => ?_⟩
    obtain ⟨f1, f2⟩ := q2 l c hok
    obtain ⟨rfl, rfl, wl, rl, c1, c8, tl⟩ := hok
    have h60 := wl.le
    have hp := wl.pos
    have hs := sizes_of hp h60 c1 c8
    refine ⟨tx l, rfl, szl (by rw [tx_len]; omega), ?_⟩
    rw [tx_len]
    refine ⟨_, _, rfl, .int _, .int _, ⟨fun z => (by rw [hs] at z; cases z), fun n' c' hn' hc' _ h3 H2 e2 => ?_⟩, fun n c' hok2 => ?_⟩
    · have en := Int.ofNat.inj (V.int.inj hn')
      have ec := Int.ofNat.inj (V.int.inj hc')
      subst en ec
      exact f1 h3 H2 (e1.trans e2)
    · obtain ⟨hn', hc', _, _, _, _, h3⟩ := hok2
      have en := Int.ofNat.inj (V.int.inj hn')
      have ec := Int.ofNat.inj (V.int.inj hc')
      subst en ec
      obtain ⟨hf, g⟩ := f2 h3
      refine ⟨hf, fun p H2 np e2 h2 => ⟨.inl ⟨_, SqL.of h2⟩, ?_⟩⟩
      have hm : l ∈ someW l.length c := (some_mem c8).mpr ⟨rl, rfl, fun y hy => ⟨((mem_gt (P := fun x => 97 ≤ x ∧ x ≤ 104)).mp wl.let_ y hy).1, (of_decide_eq_true tl : ∀ y, y < l.length → gt l y ≤ 96 + c) y hy⟩⟩
      obtain ⟨i, hi, e⟩ := List.getElem_of_mem hm
      have pw := List.pairwise_iff_getElem.mp (some_pw (n := l.length) c8)
      refine ⟨p, _, vS l, i, vS l, rfl, rfl, SqL.of h2, rfl, flat_map_vS _, by rw [List.getElem?_map, List.getElem?_eq_getElem hi, e]; rfl, eqV_S_self l, fun m z hm' hz => ?_, g i (by rw [List.getElem?_eq_getElem hi, e]) H2 (e1.trans e2)⟩
      rw [List.getElem?_map, List.getElem?_eq_getElem (by omega)] at hz
      obtain rfl := Option.some.inj hz
      refine eqV_S_ne fun z => ?_
      have := pw m i (by omega) hi hm'
      rw [z, e] at this
      exact List.lt_irrefl l this
end
section
variable {P : Program} {w : World} {K : PySem.W.Frag} {mg : Str → Option Value} {base : Heap}
theorem d_ring_at (A : At K mg "ring_at" ["number", "length", "colours"] s_ring_at) (B : Blt mg) (e_NoRing : Err K mg "NoRing") (D_all_rings : DefAt P w K mg base 8 "all_rings" ["length", "colours"] (sp_all_rings K)) (D_is_whole : DefAt P w K mg base 1 "is_whole" ["thing"] (sp_is_whole K)) : DefAt P w K mg base 9 "ring_at" ["number", "length", "colours"] (sp_ring_at K) := by
  have nd := sc_ring_at.nd
  refine A.def_ sc_ring_at (fun vs H Q E h => ?_) (fun f cdv A0 outer s H vs Q E hr h => ⟨_, (pss_cons (ps_set (i := 3) nd rfl (Or.inl rfl) (pe_callD D_all_rings (hr.mono (by decide)) pass_up (pa_cons (pv 1) (pa_cons (pv 2) pa_nil))))
      (pss_cons (ps_if (PW.pt (pw_or (pt_not (pt_val (pe_callD D_is_whole (hr.mono (by decide)) pass_no (pa_cons (pv 0) pa_nil)))) (pw_or1 (pt_not (pt_chain op_le op_lt pe_int (pv 0) (pe_callB call_len_seq rfl B.len (by decide +kernel) (pa_cons (pv 3) pa_nil))))))) (pss_one (ps_raise rfl (takes_of rfl rfl rfl rfl) (pmk_own PySem.F.excBase_ValueError e_NoRing.ex e_NoRing.g e_NoRing.kp (raises_own e_NoRing.sb e_NoRing.ty) rfl))) pss_nil)
      (pss_one (ps_ret (pe_ix ix_list (pv 3) (pv 0) (fun _ _ => rfl)))))), ?_⟩)
  · obtain ⟨_, _, _, rfl, _⟩ := h; rfl
  · obtain ⟨t, v, u, rfl, tt, tv, tu, q1, q2⟩ := h
    walk_at "bd"
    refine ⟨v, u, rfl, tv, tu, q1, fun n c hok => ?_⟩
    obtain ⟨hf, q3, q4⟩ := q2 n c hok
    refine ⟨hf, fun p H1 np e1 h1 => ⟨t, rfl, tt.mono e1, fun H2 e2 => ⟨_, rfl, ?_⟩⟩⟩
    cases t with
    | int i =>
      refine iteF ⟨i, rfl, ?_⟩
      have hr : inRange (.int i) (someW n c).length = (decide (0 ≤ i) && decide (i < ((someW n c).length : Int))) := rfl
      by_cases c0 : 0 ≤ i
      · rw [decide_eq_true c0]
        refine iteT ⟨p, rfl, _, .inl (SqL.of (e2 _ _ h1)), i, rfl, ?_⟩
        rw [List.length_map]
        by_cases c1 : i < ((someW n c).length : Int)
        · rw [decide_eq_true c1]
          obtain ⟨j, rfl⟩ := Int.eq_ofNat_of_zero_le c0
          have hj : j < (someW n c).length := by omega
          refine iteF ⟨p, _, _, vS (someW n c)[j], rfl, rfl, SqL.of (e2 _ _ h1), atI_nat (by rw [List.getElem?_map, List.getElem?_eq_getElem hj]; rfl), ?_⟩
          exact q4 j _ rfl (List.getElem?_eq_getElem hj) H2 (e1.trans e2)
        · rw [decide_eq_false c1]
          exact iteT (q3 (by rw [hr, decide_eq_false c1, Bool.and_false]) H2 (e1.trans e2))
      · rw [decide_eq_false c0]
        exact iteF (q3 (by rw [hr, decide_eq_false c0, Bool.false_and]) H2 (e1.trans e2))
    | _ => exact iteT (q3 rfl H2 (e1.trans e2))
end
section
variable {P : Program} {w : World} {K : PySem.W.Frag} {mg : Str → Option Value} {base : Heap}
theorem d_run_from (A : At K mg "run_from" ["word", "begin"] s_run_from) (B : Blt mg) : DefAt P w K mg base 1 "run_from" ["word", "begin"] (sp_run_from K) := by
  have nd := sc_run_from.nd
  refine A.def_ sc_run_from (fun vs H Q E h => ?_) (fun f cdv A0 outer s H vs Q E hr h => ⟨_, (pss_cons (ps_set (i := 2) nd rfl (Or.inl rfl) (pe_op op_add (pv 1) pe_int))
      (pss_cons (ps_set (i := 3) nd rfl (Or.inl rfl) (pv 1))
      (pss_cons (ps_while (passes_of rfl) (PW.pt (pw_and (pt_cmpR op_lt (pv 2) (pe_callB call_len_str rfl B.len (by decide +kernel) (pa_cons (pv 0) pa_nil)) (nomark _)) (pw_and1 (pt_cmpR op_le_str (pe_ix ix_str (pv 0) (pv 3) (fun _ _ => rfl)) (pe_ix ix_str (pv 0) (pv 2) (fun _ _ => rfl)) (nomark _))))) (pss_cons (ps_set (i := 3) nd rfl (Or.inl rfl) (pe_ifExp (pt_cmpR op_lt_str (pe_ix ix_str (pv 0) (pv 3) (fun _ _ => rfl)) (pe_ix ix_str (pv 0) (pv 2) (fun _ _ => rfl)) (nomark _)) (pv 1) (pe_op op_add (pv 3) pe_int)))
      (pss_one (ps_aug (i := 2) nd rfl (Or.inl rfl) pe_int ip_add))))
      (pss_one (ps_ret (pe_tup (pa_cons (pe_op op_sub (pv 2) (pv 3)) (pa_cons (pv 3) pa_nil)))))))), ?_⟩)
  · obtain ⟨_, _, rfl, _⟩ := h; rfl
  · obtain ⟨l, b, rfl, wl, hb, q⟩ := h
    have h60 := wl.le
    walk_at "bd"
    refine while_L (fun σ' H' => ∃ (j p : Nat), σ' = [some (vS l), some (.int (b : Int)), some (.int (j : Int)), some (.int ((j - p : Nat) : Int))] ∧ Run l b j p ∧ Ex H H') (fun σ' _ => farN 2 l.length σ') ⟨b + 1, 1, by rw [Nat.add_sub_cancel]; rfl, Run.start hb, Ex.refl _⟩ (fun σ' H' w => ?_)
    obtain ⟨j, p, rfl, run, e1⟩ := w
    have hj := run.jl
    have hp := run.pj
    have hp1 := run.p1
    refine ⟨decide (j < l.length) && decide (gt l (j - p) ≤ gt l j), fun H2 e2 Q' q' => ?_, fun hbt H1 e2 => ?_, fun hbf H1 e2 => ?_⟩
    · walk_at "bd"
      refine ⟨szl (by omega), ?_⟩
      by_cases c : j < l.length
      · rw [decide_eq_true (show (j : Int) < (l.length : Int) by omega)]
        rw [decide_eq_true c, Bool.true_and] at q'
        refine iteT ⟨szl (by omega), gt l (j - p), at_gt (by omega), szl (by omega), gt l j, at_gt c, ?_⟩
        have e : (!decide (([gt l j] : List Nat) < [gt l (j - p)])) = decide (gt l (j - p) ≤ gt l j) := by
          rw [lt_one4]
          by_cases z : gt l j < gt l (j - p)
          · rw [decide_eq_true z, decide_eq_false (by omega)]; rfl
          · rw [decide_eq_false z, decide_eq_true (by omega)]; rfl
        have := q' _ (Ex.refl _)
        rw [← e] at this
        exact this
      · rw [decide_eq_false (show ¬ (j : Int) < (l.length : Int) by omega)]
        rw [decide_eq_false c, Bool.false_and] at q'
        exact iteF (q' _ (Ex.refl _))
    · rw [Bool.and_eq_true, decide_eq_true_eq, decide_eq_true_eq] at hbt
      obtain ⟨c, hle⟩ := hbt
      walk_at "bd"
      refine ⟨szl (by omega), gt l (j - p), at_gt (by omega), szl (by omega), gt l j, at_gt c, ?_⟩
      rw [lt_one4]
      have far : ∀ (z : Option V), farN 2 l.length [some (vS l), some (.int (b : Int)), some (.int ((j : Int) + 1)), z] < farN 2 l.length [some (vS l), some (.int (b : Int)), some (.int (j : Int)), some (.int ((j - p : Nat) : Int))] := fun z => by
        show l.length - ((j : Int) + 1).toNat < l.length - ((j : Int)).toNat
        omega
      by_cases z : gt l (j - p) < gt l j
      · rw [decide_eq_true z]
        exact iteT ⟨⟨j + 1, by omega, j + 1 - b, by omega, run.more c z, e1.trans e2⟩, far _⟩
      · rw [decide_eq_false z]
        exact iteF ⟨⟨j + 1, by omega, p, by omega, run.same c (by omega), e1.trans e2⟩, far _⟩
    · have st : Stop l j p := by
        unfold Stop
        rw [Bool.and_eq_false_iff, decide_eq_false_iff_not, decide_eq_false_iff_not] at hbf
        rcases hbf with h | h
        · exact .inl (by omega)
        · exact .inr (by omega)
      walk_at "bd"
      refine ⟨szl (by decide), fun T hT => ?_⟩
      have := q j p run st T (upd H1 T (.tup [V.int ((j : Int) - ((j - p : Nat) : Int)), V.int ((j - p : Nat) : Int)])) (fresh_back (e1.trans e2) hT) ((e1.trans e2).trans (Ex.new hT)) (by
        rw [upd_same, show (j : Int) - ((j - p : Nat) : Int) = (p : Int) by omega])
      exact this
end
section
variable {P : Program} {w : World} {K : PySem.W.Frag} {mg : Str → Option Value} {base : Heap}
theorem d_parts_of (A : At K mg "parts_of" ["word"] s_parts_of) (B : Blt mg) (D_need_word : DefAt P w K mg base 2 "need_word" ["thing"] (sp_need_word K)) (D_run_from : DefAt P w K mg base 1 "run_from" ["word", "begin"] (sp_run_from K)) : DefAt P w K mg base 3 "parts_of" ["word"] (sp_parts_of K) := by
  have nd := sc_parts_of.nd
  refine A.def_ sc_parts_of (fun vs H Q E h => ?_) (fun f cdv A0 outer s H vs Q E hr h => ⟨_, (pss_cons (ps_expr (pe_callD D_need_word (hr.mono (by decide)) pass_up (pa_cons (pv 0) pa_nil)))
      (pss_cons (ps_set (i := 1) nd rfl (Or.inl rfl) (pe_lst pa_nil))
      (pss_cons (ps_set (i := 2) nd rfl (Or.inl rfl) pe_int)
      (pss_cons (ps_while (passes_of rfl) (pt_cmpR op_lt (pv 2) (pe_callB call_len_str rfl B.len (by decide +kernel) (pa_cons (pv 0) pa_nil)) (nomark _)) (pss_cons (ps_asg (pe_callD D_run_from (hr.mono (by decide)) pass_no (pa_cons (pv 0) (pa_cons (pv 2) pa_nil))) (pg_tup (n := 2) rfl (pgs_cons (pg_name (i := 3) nd rfl (Or.inl rfl)) (pgs_cons (pg_name (i := 4) nd rfl (Or.inl rfl)) pgs_nil))))
      (pss_one (ps_while (passes_of rfl) (pt_cmpR op_le (pv 2) (pv 4) (nomark _)) (pss_cons (ps_expr (pe_bm PySem.F.plainAttrs_list PySem.F.slot_list_append PySem.F.type_list_append mt_append (pv 1) (pa_cons (pe_slice sl_str (pv 0) (po_some (pv 2)) (po_some (pe_op op_add (pv 2) (pv 3)))) pa_nil)))
      (pss_one (ps_aug (i := 2) nd rfl (Or.inl rfl) (pv 3) ip_add)))))))
      (pss_one (ps_ret (pv 1))))))), ?_⟩)
  · obtain ⟨_, rfl, _⟩ := h; rfl
  · obtain ⟨v, rfl, tv, q1, q2⟩ := h
    walk_at "bd"
    refine ⟨v, rfl, tv, fun hw H1 e1 => ⟨szl (by decide), fun p np => ?_⟩, fun hw H1 e1 => q2 hw H1 e1⟩
    obtain ⟨l, rfl, wl⟩ := tv.word hw
    have h60 := wl.le
    refine while_L (fun σ' H' => ∃ (b : Nat) (ps : List (List Nat)) (y3 y4 : Option V), σ' = [some (vS l), some (.ref p), some (.int (b : Int)), y3, y4] ∧ b ≤ l.length ∧ Good (l.take b) ps ∧ (∀ x ∈ ps, ∀ n, (l.drop b).take n ≤ x) ∧ Ex H1 H' ∧ H' p = some (.lst (ps.map vS)))
      (fun σ' _ => farN 2 l.length σ') ⟨0, [], none, none, rfl, Nat.zero_le _, ⟨rfl, (fun _ h => nomatch h), .nil⟩, (fun _ h => nomatch h), Ex.new np, upd_same⟩ (fun σ' H' w => ?_)
    obtain ⟨b, ps, y3, y4, rfl, hb, g, bd, e2, hf⟩ := w
    refine ⟨decide (b < l.length), fun H2 e3 Q' q' => ?_, fun hbt H2 e3 => ?_, fun hbf H2 e3 => ?_⟩
    · walk_at "bd"
      refine ⟨szl (by omega), ?_⟩
      have := q' _ (Ex.refl _)
      rw [show decide ((b : Int) < (l.length : Int)) = decide (b < l.length) from decide_eq_decide.mpr (by omega)]
      exact this
    · have hlt : b < l.length := of_decide_eq_true hbt
      walk_at "bd"
      refine ⟨l, b, rfl, wl, hlt, fun j z run st T H3 hT e4 hTt => ?_⟩
      walk_at "bd"
      refine ⟨_, SqT.of hTt, rfl, _, _, rfl, _, _, rfl, rfl, ?_⟩
      have hz1 := run.p1
      have hzj := run.pj
      have hjl := run.jl
      have hw : Lyn (stretch l b z) := run.lynW
      have h3 : H3 p = some (.lst (ps.map vS)) := e4 _ _ (e3 _ _ hf)
      refine while_L (fun σ' H' => ∃ (m : Nat) (qs : List (List Nat)), σ' = [some (vS l), some (.ref p), some (.int ((b + m * z : Nat) : Int)), some (.int (z : Int)), some (.int ((j - z : Nat) : Int))] ∧ b + m * z ≤ j ∧ Good (l.take (b + m * z)) qs ∧ (∀ x ∈ qs, stretch l b z ≤ x) ∧ Ex H1 H' ∧ H' p = some (.lst (qs.map vS)))
        (fun σ' _ => farN 2 l.length σ') ⟨0, ps, by rw [Nat.zero_mul, Nat.add_zero], by omega, by rw [Nat.zero_mul, Nat.add_zero]; exact g, fun x hx => bd x hx z, (e2.trans e3).trans e4, h3⟩ (fun σ' H' w => ?_)
      obtain ⟨m, qs, rfl, hm, gq, wq, e5, hq⟩ := w
      refine ⟨decide (b + m * z ≤ j - z), fun H4 e6 Q' q' => ?_, fun hbt H4 e6 => ?_, fun hbf H4 e6 => ?_⟩
      · walk_at "bd"
        have := q' _ (Ex.refl _)
        rw [show decide (((b + m * z : Nat) : Int) ≤ ((j - z : Nat) : Int)) = decide (b + m * z ≤ j - z) from decide_eq_decide.mpr (by omega)]
        exact this
      · have hle := of_decide_eq_true hbt
        have hmz : (m + 1) * z = m * z + z := by rw [Nat.add_mul, Nat.one_mul]
        have hlen := gq.len
        rw [List.length_take] at hlen
        walk_at "bd"
        rw [show ((b + m * z : Nat) : Int) + (z : Int) = ((b + (m + 1) * z : Nat) : Int) by rw [hmz]; omega, cut_mid]
        have blk := run.block (m := m) (by omega)
        refine ⟨.inl ⟨_, SqL.of (e6 _ _ hq)⟩, szl (by omega), p, _, _, rfl, rfl, e6 _ _ hq, szlt (by rw [List.length_map]; omega), ?_⟩
        rw [show b + (m + 1) * z - (b + m * z) = z by omega]
        have eb : (l.drop (b + m * z)).take z = stretch l b z := blk
        rw [eb]
        refine ⟨⟨m + 1, rfl, by omega, qs ++ [stretch l b z], ?_, fun x hx => ?_, (e5.trans e6).mut np, ?_⟩, ?_⟩
        · rw [show b + (m + 1) * z = b + m * z + z by omega, take_more]
          have : stretch l (b + m * z) z = stretch l b z := blk
          rw [this]
          exact gq.snoc hw wq
        · rcases List.mem_append.mp hx with hx | hx
          · exact wq x hx
          · rw [List.mem_singleton.mp hx]; exact List.le_refl _
        · rw [upd_same, List.map_append]
          rfl
        · show l.length - (((b + (m + 1) * z : Nat) : Int)).toNat < l.length - (((b + m * z : Nat) : Int)).toNat
          omega
      · have hgt : ¬ b + m * z ≤ j - z := of_decide_eq_false hbf
        have hm1 : 1 ≤ m := Nat.one_le_iff_ne_zero.mpr fun c => by rw [c, Nat.zero_mul] at hgt; omega
        have hmz : z ≤ m * z := Nat.le_mul_of_pos_left z hm1
        refine ⟨⟨b + m * z, qs, _, _, rfl, by omega, gq, fun x hx n => ?_, e5.trans e6, e6 _ _ hq⟩, ?_⟩
        · exact List.le_trans (run.behind st hm (by omega) hm1 n) (wq x hx)
        · show l.length - (((b + m * z : Nat) : Int)).toNat < l.length - (((b : Nat) : Int)).toNat
          omega
    · have e : b = l.length := by have := of_decide_eq_false hbf; omega
      subst e
      rw [List.take_length] at g
      walk_at "bd"
      exact q1 l rfl wl ps g p H2 (fresh_back e1 np) (e1.trans (e2.trans e3)) (e3 _ _ hf)
end
section
variable {P : Program} {w : World} {K : PySem.W.Frag} {mg : Str → Option Value} {base : Heap}
theorem d_is_prime (A : At K mg "is_prime" ["thing"] s_is_prime) (B : Blt mg) (D_is_word : DefAt P w K mg base 1 "is_word" ["thing"] (sp_is_word K)) (D_parts_of : DefAt P w K mg base 3 "parts_of" ["word"] (sp_parts_of K)) : DefAt P w K mg base 4 "is_prime" ["thing"] (sp_is_prime K) := by
  have nd := sc_is_prime.nd
  refine A.def_ sc_is_prime (fun vs H Q E h => ?_) (fun f cdv A0 outer s H vs Q E hr h => ⟨_, (pss_one (ps_ret (pe_and (pe_callD D_is_word (hr.mono (by decide)) pass_no (pa_cons (pv 0) pa_nil)) (pe_one (pe_cmpR op_eq (pe_callB call_len_seq rfl B.len (by decide +kernel) (pa_cons (pe_callD D_parts_of (hr.mono (by decide)) pass_up (pa_cons (pv 0) pa_nil)) pa_nil)) pe_int (nomark _)))))), ?_⟩)
  · obtain ⟨_, rfl, _⟩ := h; rfl
  · obtain ⟨v, rfl, tv, q⟩ := h
    walk_at "bd"
    refine ⟨v, rfl, tv, fun H1 e1 => ⟨_, rfl, ?_⟩⟩
    cases hw : wordV v with
    | false =>
      have := q H1 e1
      rw [primeV_no hw] at this
      exact iteF this
    | true =>
      obtain ⟨l, rfl, wl⟩ := tv.word hw
      refine iteT ⟨_, rfl, tv.mono e1, fun l' el wl' ps g p H2 hp e2 h2 => ⟨p, rfl, _, .inl (SqL.of h2), ?_⟩, fun z => wordF wl z⟩
      obtain rfl := tx_inj (V.str.inj el)
      have := q H2 (e1.trans e2)
      rw [primeV_vS, show wordB l = true from wl, Bool.true_and] at this
      rw [List.length_map, g.prime wl.pos]
      exact this
end
section
variable {P : Program} {w : World} {K : PySem.W.Frag} {mg : Str → Option Value} {base : Heap}
theorem d_long_word (A : At K mg "long_word" ["length", "colours"] s_long_word) (B : Blt mg) {t_MOST_WORDS : Tok} (gl_MOST_WORDS : mg "MOST_WORDS" = some (.int 3000 t_MOST_WORDS)) (e_TooMany : Err K mg "TooMany") (D_need_sizes : DefAt P w K mg base 3 "need_sizes" ["length", "colours"] (sp_need_sizes K)) (D_divisors : DefAt P w K mg base 1 "divisors" ["number"] (sp_divisors K)) (D_power : DefAt P w K mg base 1 "power" ["number", "times"] (sp_power K)) (D_all_rings : DefAt P w K mg base 8 "all_rings" ["length", "colours"] (sp_all_rings K)) (D_is_prime : DefAt P w K mg base 4 "is_prime" ["thing"] (sp_is_prime K)) : DefAt P w K mg base 9 "long_word" ["length", "colours"] (sp_long_word K) := by
  have nd := sc_long_word.nd
  refine A.def_ sc_long_word (fun vs H Q E h => ?_) (fun f cdv A0 outer s H vs Q E hr h => ⟨_, (pss_cons (ps_expr (pe_callD D_need_sizes (hr.mono (by decide)) pass_up (pa_cons (pv 0) (pa_cons (pv 1) pa_nil))))
      (pss_cons (ps_if (pt_cmpR op_gt (pe_callD D_power (hr.mono (by decide)) pass_no (pa_cons (pv 1) (pa_cons (pv 0) pa_nil))) (pe_glob (v := .int 3000) rfl gl_MOST_WORDS ⟨_, rfl⟩) (nomark _)) (pss_one (ps_raise rfl (takes_of rfl rfl rfl rfl) (pmk_own PySem.F.excBase_ValueError e_TooMany.ex e_TooMany.g e_TooMany.kp (raises_own e_TooMany.sb e_TooMany.ty) rfl))) pss_nil)
      (pss_cons (ps_set (i := 2) nd rfl (Or.inl rfl) (pe_lst pa_nil))
      (pss_cons (ps_for (passes_of rfl) rfl (pi_list (pe_callD D_divisors (hr.mono (by decide)) pass_no (pa_cons (pv 0) pa_nil))) (pg_name (i := 3) nd rfl (Or.inl rfl)) (pss_one (ps_expr (pe_bm PySem.F.plainAttrs_list PySem.F.slot_list_extend PySem.F.type_list_extend mt_extend (pv 2) (pa_cons (pe_lc (own := [("ring", 4)]) (g := (gName 4)) rfl nd (pi_list (pe_callD D_all_rings (hr.mono (by decide)) pass_up (pa_cons (pv 3) (pa_cons (pv 1) pa_nil)))) (blkOk_by (own := [("ring", 4)]) (N := ["length", "colours", "found", "part", "ring"]) (sc := defScope s_long_word) (by decide +kernel)) (fun _ _ _ _ _ => (pg_name (i := 4) nd rfl (Or.inl rfl))) (fun _ _ _ _ _ => (pts_one (pt_val (pe_callD D_is_prime (hr.mono (by decide)) pass_no (pa_cons (pv 4) pa_nil))))) (fun _ _ _ _ _ => (pv 4))) pa_nil)))))
      (pss_one (ps_ret (pe_join pe_str (pe_callB (call_sortW hr.units) rfl B.sorted (by decide +kernel) (pa_cons (pv 2) pa_nil))))))))), ?_⟩)
  · obtain ⟨_, _, rfl, _⟩ := h; rfl
  · obtain ⟨v, u, rfl, tv, tu, q1, q2⟩ := h
    walk_at "bd"
    obtain ⟨f1, f2⟩ := q1
    refine ⟨v, u, rfl, tv, tu, fun hs H1 e1 => ?_, fun hs H1 e1 => f1 hs H1 e1⟩
    obtain ⟨n, c, rfl, rfl, n1, n60, c1, c8⟩ := sizes_nat hs
    refine ⟨c, n, rfl, by omega, by omega, fun H2 e2 => ⟨_, rfl, ?_⟩⟩
    by_cases c3 : 3000 < c ^ n
    · rw [decide_eq_true (show (3000 : Int) < ((c ^ n : Nat) : Int) from Int.ofNat_lt.mpr c3)]
      exact iteT (f2 n c rfl rfl hs c3 H2 (e1.trans e2))
    · have hcn : c ^ n ≤ 3000 := Nat.le_of_not_lt c3
      rw [decide_eq_false (show ¬ (3000 : Int) < ((c ^ n : Nat) : Int) from fun h => c3 (Int.ofNat_lt.mp h))]
      refine iteF ⟨szl (by decide), fun p np => ?_⟩
      have q3 := q2 n c ⟨rfl, rfl, n1, n60, c1, c8, hcn⟩
      have npH : H p = none := fresh_back (e1.trans e2) np
      have x0 := Ex.new (o := .lst []) np
      have k0 : (upd H2 p (.lst [])) p = some (.lst []) := upd_same
      have call : ∀ R : VK, (∀ dl H3, Ex (upd H2 p (.lst [])) H3 → H3 dl = some (.lst ((divs n).map fun d : Nat => V.int (d : Int))) → dl ≠ p → R (.ref dl) H3) → tCallS (sp_divisors K) (fun σ x x_1 x_2 => False) (tCons (tVar 0) tNil) [some (.int (n : Int)), some (.int (c : Int)), some (.ref p), none, none] (upd H2 p (.lst [])) R := fun R r => by
        walk_at "bd"
        exact ⟨n, rfl, n60, fun dl H3 hdl e3 h3 => r dl H3 e3 h3 (fun z => by rw [z, k0] at hdl; cases hdl)⟩
      refine call _ fun dl H3 e3 h3 hne => ?_
      refine ⟨dl, rfl, ⟨_, SqL.of h3⟩, ?_⟩
      have hd0 := e3 _ _ k0
      have e03 := ((e1.trans e2).trans x0).trans e3
      clear call k0 x0
      have dl60 := divs_le n
      have part : ∀ d ∈ divs n, 1 ≤ d ∧ d ≤ 60 ∧ c ^ d ≤ 3000 := fun d hd => by
        obtain ⟨h1, h2, _⟩ := divs_mem.mp hd
        exact ⟨h1, by omega, Nat.le_trans (Nat.pow_le_pow_right c1 h2) hcn⟩
      have plen : ∀ ds : List Nat, (∀ d ∈ ds, d ∈ divs n) → (ds.flatMap fun d => (someW d c).filter primeB).length ≤ ds.length * 3000 := fun ds => by
        induction ds with
        | nil => intro _; exact Nat.le_refl _
        | cons d ds ih =>
          intro hd
          have h1 := ih fun x hx => hd x (.tail _ hx)
          have h2 : ((someW d c).filter primeB).length ≤ 3000 := Nat.le_trans (List.length_filter_le _ _) (Nat.le_trans (List.length_filter_le _ _) (by rw [allW_len]; exact (part d (hd d (.head _))).2.2))
          rw [List.flatMap_cons, List.length_append, List.length_cons, Nat.add_mul, Nat.one_mul]
          omega
      refine for_list (K := K) (a := dl) (xs := (divs n).map fun d : Nat => V.int (d : Int)) (fun i σ' H' => (∃ y3, σ' = [some (.int (n : Int)), some (.int (c : Int)), some (.ref p), y3, none]) ∧ Ex H H' ∧ H' p = some (.lst ((((divs n).take i).flatMap fun d => (someW d c).filter primeB).map vS)) ∧ H' dl = some (.lst ((divs n).map fun d : Nat => V.int (d : Int)))) ⟨⟨_, rfl⟩, e03, hd0, h3⟩ (fun i σ' H' _ w => SqL.of w.2.2.2) (fun i x σ' H' hx w => ?_) (fun σ' H' w => ?_)
      · obtain ⟨⟨y3, rfl⟩, e4, hp, hl⟩ := w
        rw [List.getElem?_map] at hx
        obtain ⟨d, hd, rfl⟩ := Option.map_eq_some_iff.mp hx
        obtain ⟨hi, rfl⟩ := List.getElem?_eq_some_iff.mp hd
        have hdm := List.getElem_mem hi
        have htk : (divs n).take (i + 1) = (divs n).take i ++ [(divs n)[i]] := List.take_succ_eq_append_getElem hi
        rw [htk]
        have hpl := plen ((divs n).take i) fun x hx => List.mem_of_mem_take hx
        rw [List.length_take] at hpl
        generalize (divs n)[i] = d at *
        obtain ⟨d1, d60, dc⟩ := part d hdm
        walk_at "bd"
        have hfn : FewN d c := Nat.le_trans dc (by decide)
        have hfew := few_of d1 d60 c1 c8 dc
        have hsl := some_len hfn
        have hsw : ∀ w ∈ someW d c, IsW w := fun w hw => (some_ok d1 d60 c1 c8 hw).2.2.1
        have hs3 : (someW d c).length ≤ 3000 := Nat.le_trans (List.length_filter_le _ _) (by rw [allW_len]; exact dc)
        refine ⟨.inl ⟨_, SqL.of hp⟩, lc_filterW (someW d c) primeB (fun R r => ?_) (by omega) (fun _ => rfl) (fun _ => rfl) (fun w hw H5 e5 => ?_) (fun p5 H5 np5 e5 h5 => ?_)⟩
        · walk_at "bd"
          refine ⟨_, _, rfl, .int _, .int _, ⟨fun z => (by rw [sizes_of d1 d60 c1 c8] at z; cases z), fun n' c' hn' hc' _ h3 => ?_⟩, fun n' c' hf => ?_⟩
          · have en := Int.ofNat.inj (V.int.inj hn')
            have ec := Int.ofNat.inj (V.int.inj hc')
            subst en ec
            omega
          · obtain ⟨hn', hc', _⟩ := hf
            have en := Int.ofNat.inj (V.int.inj hn')
            have ec := Int.ofNat.inj (V.int.inj hc')
            subst en ec
            exact ⟨hfn, fun q H5 _ e5 h5 => r q H5 e5 (SqL.of h5)⟩
        · intro H6 e6 Q' q'
          walk_at "bd"
          refine ⟨_, rfl, Thing.ofW (hsw w hw), fun H7 e7 => ⟨_, rfl, ?_⟩⟩
          rw [primeV_vS, show wordB w = true from hsw w hw, Bool.true_and]
          exact q' _ e7
        · have ne5 : p5 ≠ p := fun z => by rw [z, hp] at np5; cases np5
          refine ⟨p, p5, _, _, rfl, rfl, e5 _ _ hp, h5, by rw [sizeLine_eq, List.length_map, List.length_map]; have := List.length_filter_le primeB (someW d c); omega, (e4.trans e5).mut npH, ?_, by rw [upd_ne hne]; exact e5 _ _ hl⟩
          rw [upd_same, List.flatMap_append, List.map_append, List.flatMap_singleton]
      · obtain ⟨⟨y3, rfl⟩, e4, hp, hl⟩ := w
        rw [List.length_map, List.take_length] at hp
        walk_at "bd"
        have hpw : ∀ w ∈ primesW n c, IsW w := primesW_word n60 c8
        have hpl := primesW_len n60 c1 hcn
        refine ⟨p, primesW n c, rfl, SqL.of hp, fun ys p2 perm pw np2 => ⟨p2, rfl, ys.map tx, .inl (SqL.of (by rw [upd_same, map_vS])), ?_, ?_⟩⟩
        · have h1 := sum_le (ws := ys) fun w hw => (hpw w (perm.mem_iff.mp hw)).le
          have h2 := perm.length_eq
          have h3 : (Str.ofString "").length = 0 := rfl
          rw [h3, Nat.mul_zero]
          omega
        · have := join_nil ys
          rw [show Txt.join (Str.ofString "") (ys.map tx) = tx ys.flatten from this]
          exact q3 ys ⟨perm, pw⟩ _ (e4.trans (Ex.new np2))
end
section
variable {P : Program} {w : World} {K : PySem.W.Frag} {mg : Str → Option Value} {base : Heap}
theorem d_place_of (A : At K mg "place_of" ["text", "length", "colours"] s_place_of) (B : Blt mg) {t_LETTERS : Tok} (gl_LETTERS : mg "LETTERS" = some (.str "abcdefgh" t_LETTERS)) (e_BadWord : Err K mg "BadWord") (D_long_word : DefAt P w K mg base 9 "long_word" ["length", "colours"] (sp_long_word K)) (D_is_word : DefAt P w K mg base 1 "is_word" ["thing"] (sp_is_word K)) : DefAt P w K mg base 10 "place_of" ["text", "length", "colours"] (sp_place_of K) := by
  have nd := sc_place_of.nd
  refine A.def_ sc_place_of (fun vs H Q E h => ?_) (fun f cdv A0 outer s H vs Q E hr h => ⟨_, (pss_cons (ps_set (i := 3) nd rfl (Or.inl rfl) (pe_callD D_long_word (hr.mono (by decide)) pass_up (pa_cons (pv 1) (pa_cons (pv 2) pa_nil))))
      (pss_cons (ps_if (PW.pt (pw_or (pt_not (pt_val (pe_callD D_is_word (hr.mono (by decide)) pass_no (pa_cons (pv 0) pa_nil)))) (pw_or (pt_cmpR op_ne (pe_callB call_len_str rfl B.len (by decide +kernel) (pa_cons (pv 0) pa_nil)) (pv 1) (nomark _)) (pw_or1 (pt_cmpR op_gt_str (pe_callB (call_maxS rfl) rfl B.max (by decide +kernel) (pa_cons (pv 0) pa_nil)) (pe_ix ix_str (pe_glob (v := .str "abcdefgh") rfl gl_LETTERS ⟨_, rfl⟩) (pe_op op_sub (pv 2) pe_int) (fun _ _ => rfl)) (nomark _)))))) (pss_one (ps_raise rfl (takes_of rfl rfl rfl rfl) (pmk_own PySem.F.excBase_ValueError e_BadWord.ex e_BadWord.g e_BadWord.kp (raises_own e_BadWord.sb e_BadWord.ty) rfl))) pss_nil)
      (pss_cons (ps_set (i := 4) nd rfl (Or.inl rfl) (pe_op op_add (pe_op op_fdiv (pv 1) (pe_callB call_len_str rfl B.len (by decide +kernel) (pa_cons (pv 3) pa_nil))) pe_int))
      (pss_one (ps_ret (pe_bm PySem.F.plainAttrs_str PySem.F.slot_str_index PySem.F.type_str_index mt_sindex (pe_op op_mul_str (pv 3) (pv 4)) (pa_cons (pv 0) pa_nil))))))), ?_⟩)
  · obtain ⟨_, _, _, rfl, _⟩ := h; rfl
  · obtain ⟨t, v, u, rfl, tt, tv, tu, q1, q2⟩ := h
    walk_at "bd"
    refine ⟨v, u, rfl, tv, tu, q1, fun n c hok ys hys H1 e1 => ?_⟩
    obtain ⟨q3, q4⟩ := q2 n c hok
    obtain ⟨rfl, rfl, n1, n60, c1, c8, hcn⟩ := hok
    refine ⟨t, rfl, tt.mono e1, fun H2 e2 => ⟨_, rfl, ?_⟩⟩
    have e02 := e1.trans e2
    by_cases hw : wordV t = true
    · rw [hw]
      refine iteF ?_
      obtain ⟨l, rfl, wl⟩ := tt.word hw
      have hg : goodText (vS l) n c = (decide (l.length = n) && inTop l c) := by
        show (wordB l && _) = _
        rw [show wordB l = true from wl, Bool.true_and]
      have h60 := wl.le
      refine ⟨tx l, rfl, szl (by rw [tx_len]; omega), rfl, ?_⟩
      rw [tx_len]
      by_cases hl : l.length = n
      · rw [decide_eq_true (show V.int (l.length : Int) = V.int (n : Int) by rw [hl])]
        obtain ⟨x, r, rfl⟩ : ∃ x r, l = x :: r := by
          cases l with
          | nil => exact absurd wl.pos (by decide)
          | cons x r => exact ⟨x, r, rfl⟩
        refine iteF ⟨x, r, rfl, (c : Int), rfl, szl (by decide), 96 + c, letter_top c1 c8, ?_⟩
        rw [top_lt]
        rw [decide_eq_true hl, Bool.true_and] at hg
        cases ht : inTop (x :: r) c with
        | false => exact iteT (q3 (by rw [hg, ht]) H2 e02)
        | true =>
          obtain ⟨k, hk, q5⟩ := q4 _ rfl (by rw [hg, ht]) ys hys
          obtain ⟨l1, l2⟩ := long_len n1 n60 c1 c8 hcn hys
          refine iteF ⟨tx ys.flatten, rfl, by rw [tx_len, sizeLine_eq]; omega, (n : Int), rfl, ?_⟩
          rw [tx_len]
          have ed : ((n : Nat) : Int) / ((ys.flatten.length : Nat) : Int) = ((n / ys.flatten.length : Nat) : Int) := rfl
          have hdl : n / ys.flatten.length ≤ n := Nat.div_le_self _ _
          have hmul := Nat.div_mul_le_self n ys.flatten.length
          rw [ed]
          generalize n / ys.flatten.length = m at *
          have et : ((m : Int) + 2).toNat = m + 2 := rfl
          rw [et]
          refine ⟨⟨by omega, by omega⟩, tx ys.flatten, rfl, by omega, by omega, ?_, tx (x :: r), rfl, k, [], ?_, q5 H2 e02⟩
          · rw [tx_len, sizeLine_eq, Nat.mul_comm, Nat.add_mul]
            omega
          · have := index_start hk
            rw [tx_len, repW_len] at this
            exact this
      · rw [decide_eq_false (show ¬ V.int (l.length : Int) = V.int (n : Int) from fun z => hl (Int.ofNat.inj (V.int.inj z)))]
        exact iteT (q3 (by rw [hg, decide_eq_false hl, Bool.false_and]) H2 e02)
    · have hw' : wordV t = false := by
        cases h : wordV t
        · rfl
        · exact absurd h hw
      rw [hw']
      refine iteT (q3 ?_ H2 e02)
      cases t with
      | str z =>
        show (wordB z.cps.toList && _) = false
        rw [show wordB z.cps.toList = false from hw', Bool.false_and]
      | _ => rfl
end
section
variable {P : Program} {w : World} {K : PySem.W.Frag} {mg : Str → Option Value} {base : Heap}
theorem d__law_mixed (A : At K mg "_law_mixed" ["_law_cell", "_law_k"] s__law_mixed) (B : Blt mg) : DefAt P w K mg base 1 "_law_mixed" ["_law_cell", "_law_k"] (sp__law_mixed K) := by
  have nd := sc__law_mixed.nd
  refine A.def_ sc__law_mixed (fun vs H Q E h => ?_) (fun f cdv A0 outer s H vs Q E hr h => ⟨_, (pss_cons (ps_set (i := 2) nd rfl (Or.inl rfl) (pe_op op_mod (pe_op op_mul (pe_op op_add (pe_op op_add (pe_op op_add (pe_op op_mod (pv 0) pe_int) (pe_op op_mul (pe_op op_mul pe_int (pv 1)) (pv 1))) (pe_op op_mul pe_int (pv 1))) pe_int) pe_int) pe_int))
      (pss_one (ps_ret (pe_op op_fdiv (pe_op op_mod (pe_op op_mul (pv 2) (pe_op op_add (pe_op op_mod (pv 2) pe_int) pe_int)) pe_int) pe_int)))), ?_⟩)
  · obtain ⟨_, _, rfl, _⟩ := h; rfl
  · obtain ⟨c, k, rfl, ⟨hk0, hk1⟩, q⟩ := h
    walk_at "bd"
    have h1 : 7919 * k * k ≥ 0 := Int.mul_nonneg (by omega) hk0
    generalize 7919 * k * k = z at *
    refine ⟨.inl (by decide), .inl (by omega), .inl (by decide), .inr (by decide), ?_⟩
    generalize hn : (c % 1000000007 + z + 31 * k + 17) * 48271 % 2147483647 = n
    have n0 : 0 ≤ n := by omega
    have n1 : n < 2147483647 := by omega
    refine ⟨.inl (by omega), ⟨by decide, by decide⟩, ?_⟩
    generalize n * (n % 65521 + 16807) = m
    exact q _ (by omega) (by omega)
end
section
variable {P : Program} {w : World} {K : PySem.W.Frag} {mg : Str → Option Value} {base : Heap}
theorem d__law_number (A : At K mg "_law_number" ["_law_script", "_law_k"] s__law_number) (B : Blt mg) (D__law_mixed : DefAt P w K mg base 1 "_law_mixed" ["_law_cell", "_law_k"] (sp__law_mixed K)) : DefAt P w K mg base 2 "_law_number" ["_law_script", "_law_k"] (sp__law_number K) := by
  have nd := sc__law_number.nd
  refine A.def_ sc__law_number (fun vs H Q E h => ?_) (fun f cdv A0 outer s H vs Q E hr h => ⟨_, (pss_cons (ps_set (i := 2) nd rfl (Or.inl rfl) pe_int)
      (pss_cons (ps_if (pt_cmpR op_gt (pe_callB call_len_seq rfl B.len (by decide +kernel) (pa_cons (pv 0) pa_nil)) pe_int (nomark _)) (pss_one (ps_set (i := 2) nd rfl (Or.inl rfl) (pe_ix ix_list (pv 0) (pe_op op_mod (pv 1) (pe_callB call_len_seq rfl B.len (by decide +kernel) (pa_cons (pv 0) pa_nil))) (fun _ _ => rfl)))) pss_nil)
      (pss_one (ps_ret (pe_callD D__law_mixed (hr.mono (by decide)) pass_no (pa_cons (pv 2) (pa_cons (pv 1) pa_nil))))))), ?_⟩)
  · obtain ⟨_, _, _, rfl, _⟩ := h; rfl
  · obtain ⟨a, ns, k, rfl, hS, hk, q⟩ := h
    walk_at "bd"
    refine ⟨_, .inl hS, ?_⟩
    have mixed : ∀ c : Int, sp__law_mixed K [V.int c, V.int k] H Q fun x x_1 x_2 => False := fun c => ⟨c, k, rfl, hk, q⟩
    by_cases h0 : (0 : Int) < ((ns.map V.int).length : Int)
    · rw [decide_eq_true h0, if_pos rfl]
      refine ⟨_, .inl hS, h0, ?_⟩
      have hl : (ns.map V.int).length = ns.length := List.length_map _
      have hm : (k % ((ns.map V.int).length : Int)).toNat < ns.length := by
        have := Int.emod_lt_of_pos k h0
        have := Int.emod_nonneg k (show ((ns.map V.int).length : Int) ≠ 0 by omega)
        omega
      refine ⟨a, _, _, V.int (ns[(k % ((ns.map V.int).length : Int)).toNat]), rfl, rfl, hS, ?_, mixed _⟩
      have := atI_nat (xs := ns.map V.int) (j := (k % ((ns.map V.int).length : Int)).toNat) (v := V.int (ns[(k % ((ns.map V.int).length : Int)).toNat])) (by rw [List.getElem?_map, List.getElem?_eq_getElem hm]; rfl)
      rw [Int.toNat_of_nonneg (Int.emod_nonneg k (by omega))] at this
      exact this
    · rw [decide_eq_false h0]
      exact iteF (mixed 0)
end
theorem ev_isK {K : PySem.W.Frag} {σ : L2.St} {H : Hp} {a : Addr} {x y : Str} (I5 : ∀ x ∈ five, IsC K x) (hx : x ∈ five) (hy : y ∈ five) (hv : σ[0]? = some (some (.ref a))) (ha : H a = some (ExK (.ref (He.ga K x)) a)) :
    Ev (tCB (rIsK K) (tCons (tVar 0) (tCons (tC (.ref (He.ga K y))) tNil))) σ H (.bl (decide (x = y))) := fun H1 e Q q =>
  ⟨_, hv, a, He.ga K x, _, _, _, rfl, .own _, e a _ ha, (I5 x hx).ex, (I5 x hx).own y hy, q H1 (Ex.refl _)⟩
theorem ev_isVE {K : PySem.W.Frag} {σ : L2.St} {H : Hp} {a : Addr} {x : Str} (I5 : ∀ x ∈ five, IsC K x) (hx : x ∈ five) (hv : σ[0]? = some (some (.ref a))) (ha : H a = some (ExK (.ref (He.ga K x)) a)) :
    Ev (tNotV (tCB (rIsK K) (tCons (tVar 0) (tCons (tC (.ty "ValueError")) tNil)))) σ H (.bl false) := ev_notV (a := true) fun H1 e Q q =>
  ⟨_, hv, a, He.ga K x, _, _, _, rfl, .ty _, e a _ ha, (I5 x hx).ex, (I5 x hx).ve, q H1 (Ex.refl _)⟩
theorem kind_text : ∀ x ∈ five, Txt.join "/" (((if decide (x = "BadNumber") then [("number" : Str)] else []) ++ (if decide (x = "BadRing") then [("ring" : Str)] else []) ++ (if decide (x = "BadWord") then [("word" : Str)] else []) ++ (if decide (x = "NoRing") then [("none" : Str)] else []) ++ (if decide (x = "TooMany") then [("many" : Str)] else [])) : List Str) = kindOf x := by
  decide +kernel
section
variable {P : Program} {w : World} {K : PySem.W.Frag} {mg : Str → Option Value} {base : Heap}
theorem d__law_kind (A : At K mg "_law_kind" ["_law_e"] s__law_kind) (B : Blt mg) (e_BadNumber : Err K mg "BadNumber") (e_BadRing : Err K mg "BadRing") (e_NoRing : Err K mg "NoRing") (e_TooMany : Err K mg "TooMany") (e_BadWord : Err K mg "BadWord") (I5 : ∀ x ∈ five, IsC K x) : DefAt P w K mg base 1 "_law_kind" ["_law_e"] (sp__law_kind K) := by
  have nd := sc__law_kind.nd
  refine A.def_ sc__law_kind (fun vs H Q E h => ?_) (fun f cdv A0 outer s H vs Q E hr h => ⟨_, (pss_cons (ps_set (i := 1) nd rfl (Or.inl rfl) (pe_op op_cat (pe_op op_rep (pe_lst (pa_cons pe_str pa_nil)) (pe_callTy call_intB rfl B.int (by decide +kernel) (pa_cons (pe_callB call_isK rfl B.isinstance (by decide +kernel) (pa_cons (pv 0) (pa_cons (pe_glob (v := .ref _) rfl e_BadNumber.g rfl) pa_nil))) pa_nil))) (pe_op op_rep (pe_lst (pa_cons pe_str pa_nil)) (pe_callTy call_intB rfl B.int (by decide +kernel) (pa_cons (pe_callB call_isK rfl B.isinstance (by decide +kernel) (pa_cons (pv 0) (pa_cons (pe_glob (v := .ref _) rfl e_BadRing.g rfl) pa_nil))) pa_nil)))))
      (pss_cons (ps_set (i := 1) nd rfl (Or.inl rfl) (pe_op op_cat (pe_op op_cat (pv 1) (pe_op op_rep (pe_lst (pa_cons pe_str pa_nil)) (pe_callTy call_intB rfl B.int (by decide +kernel) (pa_cons (pe_callB call_isK rfl B.isinstance (by decide +kernel) (pa_cons (pv 0) (pa_cons (pe_glob (v := .ref _) rfl e_BadWord.g rfl) pa_nil))) pa_nil)))) (pe_op op_rep (pe_lst (pa_cons pe_str pa_nil)) (pe_callTy call_intB rfl B.int (by decide +kernel) (pa_cons (pe_callB call_isK rfl B.isinstance (by decide +kernel) (pa_cons (pv 0) (pa_cons (pe_glob (v := .ref _) rfl e_NoRing.g rfl) pa_nil))) pa_nil)))))
      (pss_cons (ps_set (i := 1) nd rfl (Or.inl rfl) (pe_op op_cat (pv 1) (pe_op op_rep (pe_lst (pa_cons pe_str pa_nil)) (pe_callTy call_intB rfl B.int (by decide +kernel) (pa_cons (pe_callB call_isK rfl B.isinstance (by decide +kernel) (pa_cons (pv 0) (pa_cons (pe_glob (v := .ref _) rfl e_TooMany.g rfl) pa_nil))) pa_nil)))))
      (pss_one (ps_ret (pe_join pe_str (pe_op op_cat (pv 1) (pe_op op_rep (pe_lst (pa_cons pe_str pa_nil)) (pe_callTy call_intB rfl B.int (by decide +kernel) (pa_cons (pe_not (pe_callB call_isK rfl B.isinstance (by decide +kernel) (pa_cons (pv 0) (pa_cons (pe_bltn (v := .ty "ValueError") rfl B.ValueError (by decide +kernel) rfl) pa_nil)))) pa_nil)))))))))), ?_⟩)
  · obtain ⟨_, _, rfl, _⟩ := h; rfl
  · obtain ⟨a, x, rfl, hx, ha, q⟩ := h
    simp only [tSeq]
    have one : ∀ {H1 : Hp} {σ : L2.St} (z : Str), EvL (tLst (tCons (tC (.str z)) tNil)) σ H1 [.str z] := fun z => el_lst (ea_cons ev_c ea_nil) (by simp)
    refine s_asgL (el_cat (el_rep (one _) (ev_isK I5 hx (y := "BadNumber") (by decide) rfl ha) (by decide)) (el_rep (one _) (ev_isK I5 hx (y := "BadRing") (by decide) rfl ha) (by decide)) (by split <;> split <;> decide)) fun p1 H1 hp1 e1 h1 => ?_
    have ha1 := e1 a _ ha
    refine s_asgL (el_cat (el_catV rfl h1 (el_rep (one _) (ev_isK I5 hx (y := "BadWord") (by decide) rfl ha1) (by decide)) (by split <;> split <;> split <;> decide)) (el_rep (one _) (ev_isK I5 hx (y := "NoRing") (by decide) rfl ha1) (by decide)) (by split <;> split <;> split <;> split <;> decide)) fun p2 H2 hp2 e2 h2 => ?_
    have ha2 := e2 a _ ha1
    refine s_asgL (el_catV rfl h2 (el_rep (one _) (ev_isK I5 hx (y := "TooMany") (by decide) rfl ha2) (by decide)) (by split <;> split <;> split <;> split <;> split <;> decide)) fun p3 H3 hp3 e3 h3 => ?_
    have ha3 := e3 a _ ha2
    refine ⟨⟨_, rfl⟩, (el_catV rfl h3 (el_rep (one "base") (ev_isVE I5 hx rfl ha3) (by decide)) (by split <;> split <;> split <;> split <;> split <;> decide)) H3 (Ex.refl _) _ fun p4 H4 hp4 e4 h4 => ?_⟩
    have eq : ∀ (b1 b2 b3 b4 b5 : Bool), ((((if b1 then [V.str "number"] else []) ++ (if b2 then [V.str "ring"] else []) ++ (if b3 then [V.str "word"] else []) ++ (if b4 then [V.str "none"] else []) ++ (if b5 then [V.str "many"] else [])) ++ (if false = true then [V.str "base"] else [])) : List V) =
        (((if b1 then [("number" : Str)] else []) ++ (if b2 then [("ring" : Str)] else []) ++ (if b3 then [("word" : Str)] else []) ++ (if b4 then [("none" : Str)] else []) ++ (if b5 then [("many" : Str)] else [])) : List Str).map V.str := by
      intro b1 b2 b3 b4 b5
      cases b1 <;> cases b2 <;> cases b3 <;> cases b4 <;> cases b5 <;> rfl
    rw [eq] at h4
    refine ⟨"/", p4, _, rfl, rfl, .inl (SqL.of h4), ?_, ?_⟩
    · generalize decide (x = "BadNumber") = b1
      generalize decide (x = "BadRing") = b2
      generalize decide (x = "BadWord") = b3
      generalize decide (x = "NoRing") = b4
      generalize decide (x = "TooMany") = b5
      revert b1 b2 b3 b4 b5
      decide +kernel
    · rw [kind_text x hx]
      exact q H4 (((e1.trans e2).trans e3).trans e4)
end
section
variable {P : Program} {w : World} {K : PySem.W.Frag} {mg : Str → Option Value} {base : Heap}
theorem d__law_called (A : At K mg "_law_called" ["_law_way", "_law_things"] s__law_called) (B : Blt mg) (D_place_of : DefAt P w K mg base 10 "place_of" ["text", "length", "colours"] (sp_place_of K)) (D_next_ring : DefAt P w K mg base 7 "next_ring" ["ring", "colours"] (sp_next_ring K)) (D_number_of : DefAt P w K mg base 9 "number_of" ["ring", "colours"] (sp_number_of K)) (D_all_rings : DefAt P w K mg base 8 "all_rings" ["length", "colours"] (sp_all_rings K)) (D_long_word : DefAt P w K mg base 9 "long_word" ["length", "colours"] (sp_long_word K)) (D_ring_at : DefAt P w K mg base 9 "ring_at" ["number", "length", "colours"] (sp_ring_at K)) : DefAt P w K mg base 11 "_law_called" ["_law_way", "_law_things"] (sp__law_called K) := by
  have nd := sc__law_called.nd
  refine A.def_ sc__law_called (fun vs H Q E h => ?_) (fun f cdv A0 outer s H vs Q E hr h => ⟨_, (pss_cons (ps_if (pt_cmpR op_eq (pv 0) pe_int (nomark _)) (pss_one (ps_ret (pe_callD D_next_ring (hr.mono (by decide)) pass_up (pa_cons (pe_ix ix_list (pv 1) pe_int (fun _ _ => rfl)) (pa_cons (pe_ix ix_list (pv 1) pe_int (fun _ _ => rfl)) pa_nil))))) pss_nil)
      (pss_cons (ps_if (pt_cmpR op_eq (pv 0) pe_int (nomark _)) (pss_one (ps_ret (pe_callD D_number_of (hr.mono (by decide)) pass_up (pa_cons (pe_ix ix_list (pv 1) pe_int (fun _ _ => rfl)) (pa_cons (pe_ix ix_list (pv 1) pe_int (fun _ _ => rfl)) pa_nil))))) pss_nil)
      (pss_cons (ps_if (pt_cmpR op_eq (pv 0) pe_int (nomark _)) (pss_one (ps_ret (pe_callD D_all_rings (hr.mono (by decide)) pass_up (pa_cons (pe_ix ix_list (pv 1) pe_int (fun _ _ => rfl)) (pa_cons (pe_ix ix_list (pv 1) pe_int (fun _ _ => rfl)) pa_nil))))) pss_nil)
      (pss_cons (ps_if (pt_cmpR op_eq (pv 0) pe_int (nomark _)) (pss_one (ps_ret (pe_callD D_long_word (hr.mono (by decide)) pass_up (pa_cons (pe_ix ix_list (pv 1) pe_int (fun _ _ => rfl)) (pa_cons (pe_ix ix_list (pv 1) pe_int (fun _ _ => rfl)) pa_nil))))) pss_nil)
      (pss_cons (ps_if (pt_cmpR op_eq (pv 0) pe_int (nomark _)) (pss_one (ps_ret (pe_callD D_ring_at (hr.mono (by decide)) pass_up (pa_cons (pe_ix ix_list (pv 1) pe_int (fun _ _ => rfl)) (pa_cons (pe_ix ix_list (pv 1) pe_int (fun _ _ => rfl)) (pa_cons (pe_ix ix_list (pv 1) pe_int (fun _ _ => rfl)) pa_nil)))))) pss_nil)
      (pss_one (ps_ret (pe_callD D_place_of (hr.mono (by decide)) pass_up (pa_cons (pe_ix ix_list (pv 1) pe_int (fun _ _ => rfl)) (pa_cons (pe_ix ix_list (pv 1) pe_int (fun _ _ => rfl)) (pa_cons (pe_ix ix_list (pv 1) pe_int (fun _ _ => rfl)) pa_nil))))))))))), ?_⟩)
  · obtain ⟨_, _, _, rfl, _⟩ := h; rfl
  · obtain ⟨w, t, xs, rfl, ht, hw, hl, h⟩ := h
    walk_at "bd"
    have one : ∀ (i : Nat) (x : V) (Q' : VK), xs[i]? = some x → Q' x H → rIxL K (.ref t) (.int (i : Int)) H Q' := fun i x Q' hx r => ⟨t, _, _, x, rfl, rfl, SqL.of ht, atI_nat hx, r⟩
    by_cases c4 : w < 4
    · unfold wayN at hl
      rw [if_pos c4] at hl
      obtain ⟨v, u, rfl⟩ : ∃ v u, xs = [v, u] := by
        match xs, hl with
        | [v, u], _ => exact ⟨v, u, rfl⟩
      have : w = 0 ∨ w = 1 ∨ w = 2 ∨ w = 3 := by omega
      rcases this with rfl | rfl | rfl | rfl
      · exact iteT (one 0 v _ rfl (one 1 u _ rfl h))
      · exact iteF (iteT (one 0 v _ rfl (one 1 u _ rfl h)))
      · exact iteF (iteF (iteT (one 0 v _ rfl (one 1 u _ rfl h))))
      · exact iteF (iteF (iteF (iteT (one 0 v _ rfl (one 1 u _ rfl h)))))
    · unfold wayN at hl
      rw [if_neg c4] at hl
      obtain ⟨v, u, z, rfl⟩ : ∃ v u z, xs = [v, u, z] := by
        match xs, hl with
        | [v, u, z], _ => exact ⟨v, u, z, rfl⟩
      have : w = 4 ∨ w = 5 := by omega
      rcases this with rfl | rfl
      · exact iteF (iteF (iteF (iteF (iteT (one 0 v _ rfl (one 1 u _ rfl (one 2 z _ rfl h)))))))
      · exact iteF (iteF (iteF (iteF (iteF (one 0 v _ rfl (one 1 u _ rfl (one 2 z _ rfl h)))))))
end
section
variable {P : Program} {w : World} {K : PySem.W.Frag} {mg : Str → Option Value} {base : Heap}
theorem d__law_said (A : At K mg "_law_said" ["_law_way", "_law_things"] s__law_said) (B : Blt mg) (e_BeadError : Err K mg "BeadError") (D__law_called : DefAt P w K mg base 11 "_law_called" ["_law_way", "_law_things"] (sp__law_called K)) (D__law_kind : DefAt P w K mg base 1 "_law_kind" ["_law_e"] (sp__law_kind K)) (EM : ∀ x ∈ five, PySem.W.exmOne K (.ref (He.ga K x)) (.ref (He.ga K "BeadError")) = some true) : DefAt P w K mg base 12 "_law_said" ["_law_way", "_law_things"] (sp_k11_said K) := by
  have nd := sc__law_said.nd
  refine A.def_ sc__law_said (fun vs H Q E h => ?_) (fun f cdv A0 outer s H vs Q E hr h => ⟨_, (pss_cons (ps_set (i := 2) nd rfl (Or.inl rfl) pe_non)
      (pss_cons (ps_try_keep (i := 3) rfl rfl rfl nd rfl rfl ⟨rfl, by decide, Or.inl e_BeadError.g⟩ (fun W pn xe tk _ => (pss_one (ps_expr (pe_callD D__law_called (hr.mono (by decide)) (fun σ => passAt tk σ) (pa_cons (pv 0) (pa_cons (pv 1) pa_nil)))))) (fun a oe cls pn => (pss_one (ps_set (i := 2) nd rfl (Or.inl rfl) (pv 3)))))
      (pss_one (ps_ret (pe_ifExp (pt_cmpR op_isN (pv 2) pe_non (nomark _)) pe_str (pe_callD D__law_kind (hr.mono (by decide)) pass_no (pa_cons (pv 2) pa_nil))))))), ?_⟩)
  · obtain ⟨_, _, _, _, rfl, _⟩ := h; rfl
  · obtain ⟨w, t, xs, o, rfl, ht, hx, ho, q⟩ := h
    walk_at "bd"
    obtain ⟨h5, hl, hf, run⟩ := ho
    refine ⟨w, t, xs, rfl, ht, h5, hl, run H _ _ hx ?_⟩
    cases o with
    | none => exact fun v H' e => q H' e
    | some x =>
      intro H1 e1
      have hx5 := hf x rfl
      refine ⟨EM x hx5, rfl, fun a ha => ?_⟩
      walk_at "bd"
      intro na
      refine ⟨a, x, rfl, hx5, upd_same, fun H2 e2 => ?_⟩
      exact q H2 (e1.trans ((Ex.new na).trans e2))
end
section
variable {P : Program} {w : World} {K : PySem.W.Frag} {mg : Str → Option Value} {base : Heap}
theorem d__law_all (A : At K mg "_law_all" ["_law_tried"] s__law_all) (B : Blt mg) (D__law_said : DefAt P w K mg base 12 "_law_said" ["_law_way", "_law_things"] (sp_k11_said K)) : DefAt P w K mg base 13 "_law_all" ["_law_tried"] (sp__law_all K) := by
  have nd := sc__law_all.nd
  refine A.def_ sc__law_all (fun vs H Q E h => ?_) (fun f cdv A0 outer s H vs Q E hr h => ⟨_, (pss_one (ps_ret (pe_cmpR (op_eqD hr.units) (pe_lc (own := [("_law_one", 1)]) (g := (gName 1)) rfl nd (pi_list (pv 0)) (blkOk_by (own := [("_law_one", 1)]) (N := ["_law_tried", "_law_one"]) (sc := defScope s__law_all) (by decide +kernel)) (fun _ _ _ _ _ => (pg_name (i := 1) nd rfl (Or.inl rfl))) (fun _ _ _ _ _ => (pts_one (pt_cmpR op_ne (pe_callD D__law_said (hr.mono (by decide)) pass_no (pa_cons (pe_ix (show IxR _ (rIxT K) from ix_tup) (pv 1) pe_int (fun _ _ => rfl)) (pa_cons (pe_ix (show IxR _ (rIxT K) from ix_tup) (pv 1) pe_int (fun _ _ => rfl)) pa_nil))) (pe_ix (show IxR _ (rIxT K) from ix_tup) (pv 1) pe_int (fun _ _ => rfl)) (nomark _)))) (fun _ _ _ _ _ => (pv 1))) (pe_lst pa_nil) (nomark _)))), ?_⟩)
  · obtain ⟨_, _, rfl, _⟩ := h; rfl
  · obtain ⟨a, Ts, rfl, ha, hn, hT, q⟩ := h
    walk_at "bd"
    refine el_lcL (a := a) (xs := Ts.map V.ref) (fun _ => false) (fun _ => V.non) (ev_var rfl) (SqL.of ha) (by rw [List.length_map]; omega) (fun _ => rfl) (fun i x H1 e1 hx H2 e2 Q' q' => ?_) (fun _ _ _ _ _ z => nomatch z) H (Ex.refl _) _ fun D H2 hD e2 h2 => ?_
    · rw [List.getElem?_map] at hx
      obtain ⟨T, hTi, rfl⟩ := Option.map_eq_some_iff.mp hx
      obtain ⟨w, t, xs, o, h1, _, h3, _, h5, h6⟩ := (hT T (List.mem_of_getElem? hTi)).keep (.of (e1.trans e2))
      walk_at "bd"
      refine ⟨T, _, 0, _, rfl, rfl, SqT.of h1, atI_nat (j := 0) rfl, T, _, 1, _, rfl, rfl, SqT.of h1, atI_nat (j := 1) rfl, ?_⟩
      refine ⟨w, t, xs, o, rfl, h3, fun x hx => (h5 x hx).1, h6, fun H3 e3 => ?_⟩
      refine ⟨T, _, 2, _, rfl, rfl, SqT.of (e3 _ _ h1), atI_nat (j := 2) rfl, rfl, ?_⟩
      rw [decide_eq_true rfl]
      exact q' _ e3
    · have hg : given (Ts.map V.ref).length (fun _ => false) (fun _ => V.non) = [] := by simp [given]
      rw [hg] at h2
      refine ⟨Nat.zero_le _, fun p hp => ?_⟩
      have xp := Ex.new (o := .lst []) hp
      exact eqD_S (ws := []) (vs := []) (SqL.of (xp _ _ h2)) (SqL.of upd_same) (fun _ h => nomatch h) (fun _ h => nomatch h) (by decide) (by decide) (q _ (e2.trans xp))
end
section
variable {P : Program} {w : World} {K : PySem.W.Frag} {mg : Str → Option Value} {base : Heap}
theorem d__law_rings_right (A : At K mg "_law_rings_right" ["_law_odd", "_law_bad"] s__law_rings_right) (B : Blt mg) (D__law_all : DefAt P w K mg base 13 "_law_all" ["_law_tried"] (sp__law_all K)) : DefAt P w K mg base 14 "_law_rings_right" ["_law_odd", "_law_bad"] (sp__law_rings_right K) := by
  have nd := sc__law_rings_right.nd
  refine A.def_ sc__law_rings_right (fun vs H Q E h => ?_) (fun f cdv A0 outer s H vs Q E hr h => ⟨_, (pss_cons (ps_set (i := 2) nd rfl (Or.inl rfl) (pe_lst pa_nil))
      (pss_cons (ps_for (passes_of rfl) rfl (pi_tup (pe_tup (pa_cons pe_int (pa_cons pe_int pa_nil)))) (pg_name (i := 3) nd rfl (Or.inl rfl)) (pss_cons (ps_set (i := 2) nd rfl (Or.inl rfl) (pe_op op_cat (pv 2) (pe_lst (pa_cons (pe_tup (pa_cons (pv 3) (pa_cons (pe_lst (pa_cons (pv 0) (pa_cons pe_int pa_nil))) (pa_cons pe_str pa_nil)))) (pa_cons (pe_tup (pa_cons (pv 3) (pa_cons (pe_lst (pa_cons (pv 0) (pa_cons (pv 1) pa_nil))) (pa_cons pe_str pa_nil)))) (pa_cons (pe_tup (pa_cons (pv 3) (pa_cons (pe_lst (pa_cons pe_str (pa_cons (pv 1) pa_nil))) (pa_cons pe_str pa_nil)))) pa_nil))))))
      (pss_cons (ps_set (i := 2) nd rfl (Or.inl rfl) (pe_op op_cat (pv 2) (pe_lst (pa_cons (pe_tup (pa_cons (pv 3) (pa_cons (pe_lst (pa_cons pe_str (pa_cons pe_int pa_nil))) (pa_cons pe_str pa_nil)))) (pa_cons (pe_tup (pa_cons (pv 3) (pa_cons (pe_lst (pa_cons pe_str (pa_cons pe_int pa_nil))) (pa_cons pe_str pa_nil)))) pa_nil)))))
      (pss_one (ps_set (i := 2) nd rfl (Or.inl rfl) (pe_op op_cat (pv 2) (pe_lst (pa_cons (pe_tup (pa_cons (pv 3) (pa_cons (pe_lst (pa_cons pe_str (pa_cons pe_int pa_nil))) (pa_cons pe_str pa_nil)))) (pa_cons (pe_tup (pa_cons (pv 3) (pa_cons (pe_lst (pa_cons pe_str (pa_cons pe_int pa_nil))) (pa_cons pe_str pa_nil)))) (pa_cons (pe_tup (pa_cons (pv 3) (pa_cons (pe_lst (pa_cons pe_str (pa_cons pe_int pa_nil))) (pa_cons pe_str pa_nil)))) pa_nil))))))))))
      (pss_cons (ps_set (i := 2) nd rfl (Or.inl rfl) (pe_op op_cat (pv 2) (pe_lst (pa_cons (pe_tup (pa_cons pe_int (pa_cons (pe_lst (pa_cons (pe_op op_mul_str pe_str pe_int) (pa_cons pe_int pa_nil))) (pa_cons pe_str pa_nil)))) (pa_cons (pe_tup (pa_cons pe_int (pa_cons (pe_lst (pa_cons (pe_op op_mul_str pe_str pe_int) (pa_cons pe_int pa_nil))) (pa_cons pe_str pa_nil)))) (pa_cons (pe_tup (pa_cons pe_int (pa_cons (pe_lst (pa_cons (pe_op op_mul_str pe_str pe_int) (pa_cons pe_int pa_nil))) (pa_cons pe_str pa_nil)))) pa_nil))))))
      (pss_one (ps_ret (pe_callD D__law_all (hr.mono (by decide)) pass_no (pa_cons (pe_op op_cat (pv 2) (pe_lst (pa_cons (pe_tup (pa_cons pe_int (pa_cons (pe_lst (pa_cons (pe_op op_add_str (pe_op op_mul_str pe_str pe_int) pe_str) (pa_cons pe_int pa_nil))) (pa_cons pe_str pa_nil)))) (pa_cons (pe_tup (pa_cons pe_int (pa_cons (pe_lst (pa_cons (pe_op op_mul_str pe_str pe_int) (pa_cons pe_int pa_nil))) (pa_cons pe_str pa_nil)))) pa_nil)))) pa_nil))))))), ?_⟩)
  · obtain ⟨_, _, rfl, _⟩ := h; rfl
  · obtain ⟨v, u, rfl, tv, tu, hv, hu, q⟩ := h
    walk_at "bd"
    refine ⟨szl (by decide), fun p hp => ⟨szl (show 2 ≤ 100000 by decide), fun T hT => ?_⟩⟩
    have pv := ThP.fresh tv hp
    have pu := ThP.fresh tu hp
    have xp := Ex.new (o := .lst []) hp
    have kp : (upd H p (.lst [])) p = some (.lst (([] : List Addr).map V.ref)) := upd_same
    have pv := pv.mono xp
    have pu := pu.mono xp
    generalize upd H p (.lst []) = H1 at *
    have xT := Ex.new (o := .tup [.int 0, .int 1]) hT
    have kT : (upd H1 T (.tup [.int 0, .int 1])) T = some (.tup [.int 0, .int 1]) := upd_same
    have kp := xT _ _ kp
    have pv := pv.mono xT
    have pu := pu.mono xT
    have e0 := xp.trans xT
    generalize upd H1 T (.tup [.int 0, .int 1]) = H2 at *
    refine ⟨T, rfl, ⟨_, SqT.of kT⟩, for_tup (K := K) (a := T) (xs := [.int 0, .int 1]) (fun i σ' H' => ∃ a Ts y3, σ' = [some v, some u, some (V.ref a), y3] ∧ H' a = some (.lst (Ts.map V.ref)) ∧ Ts.length = 8 * i ∧ (∀ T ∈ Ts, OkT K H' (some a) T) ∧ ThP (some a) H' v ∧ ThP (some a) H' u ∧ H' T = some (.tup [.int 0, .int 1]) ∧ Ex H H') ⟨p, [], _, rfl, kp, rfl, (fun _ h => nomatch h), pv, pu, kT, e0⟩ (fun i σ' H' _ w => ?_) (fun i x σ' H' hx w => ?_) (fun σ' H' w => ?_)⟩
    · obtain ⟨_, _, _, _, _, _, _, _, _, h, _⟩ := w
      exact SqT.of h
    · obtain ⟨a, Ts, y3, rfl, ha, hl, hok, pv, pu, kT, e1⟩ := w
      have hi : i < 2 := (List.getElem?_eq_some_iff.mp hx).1
      obtain ⟨w, hw, rfl⟩ : ∃ w : Nat, w ≤ 1 ∧ x = .int (w : Int) := by
        match i, hx with
        | 0, hx => exact ⟨0, by decide, (Option.some.inj hx).symm⟩
        | 1, hx => exact ⟨1, by decide, (Option.some.inj hx).symm⟩
        | i + 2, hx => simp at hx
      simp only [tSeq, gName, List.set_cons_zero, List.set_cons_succ]
      refine s_more rfl ha hok (evk_cons (evk_tupA (w := w) (o := some "BadRing") (out_ringBad hw (.inl ⟨rfl, hv⟩)) (by decide) (ev_var rfl) (ea2 (ev_var rfl) ev_c) (ha2 pv th_int) (al ha))
        (evk_cons (evk_tupA (w := w) (o := some "BadRing") (out_ringBad hw (.inl ⟨rfl, hv⟩)) (by decide) (ev_var rfl) (ea2 (ev_var rfl) (ev_var rfl)) (ha2 pv pu) (al ha))
        (evk_cons (evk_tupA (w_aab hu hw) (by decide) (ev_var rfl) (ea2 (ev_s (by decide)) (ev_var rfl)) (ha2 (th_txt (by decide)) pu) (al ha)) evk_nil))) (by omega) fun a2 Ts2 H3 hn2 e2 ha2' hl2 hok2 => ?_
      have pv2 := (ThP.fresh pv.1 hn2).mono e2
      have pu2 := (ThP.fresh pu.1 hn2).mono e2
      refine s_more rfl ha2' hok2 (evk_cons (evk_tupA (w_ok (w := w) (c := 2) (l := [97, 97, 98]) (rok (by decide)) (by decide +kernel) (by unfold FewN; decide) hw) (by decide) (ev_var rfl) (ea2 (ev_s (by decide)) ev_c) (ha2 (th_txt (by decide)) th_int) (al ha2'))
        (evk_cons (evk_tupA (w_in (w := w) (c := 1) (l := [97, 97, 98]) (by decide) (by decide) (by decide) (by decide) hw) (by decide) (ev_var rfl) (ea2 (ev_s (by decide)) ev_c) (ha2 (th_txt (by decide)) th_int) (al ha2')) evk_nil)) (by omega) fun a3 Ts3 H4 hn3 e3 ha3' hl3 hok3 => ?_
      have pv3 := (ThP.fresh pv2.1 hn3).mono e3
      have pu3 := (ThP.fresh pu2.1 hn3).mono e3
      refine s_more rfl ha3' hok3 (evk_cons (evk_tupA (w_in (w := w) (c := 7) (l := [97, 98, 104]) (by decide) (by decide) (by decide) (by decide) hw) (by decide) (ev_var rfl) (ea2 (ev_s (by decide)) ev_c) (ha2 (th_txt (by decide)) th_int) (al ha3'))
        (evk_cons (evk_tupA (w_ok (w := w) (c := 8) (l := [97, 98, 104]) (rok (by decide)) (by decide +kernel) (by unfold FewN; decide) hw) (by decide) (ev_var rfl) (ea2 (ev_s (by decide)) ev_c) (ha2 (th_txt (by decide)) th_int) (al ha3'))
        (evk_cons (evk_tupA (w_in (w := w) (c := 2) (l := [97, 99, 98]) (by decide) (by decide) (by decide) (by decide) hw) (by decide) (ev_var rfl) (ea2 (ev_s (by decide)) ev_c) (ha2 (th_txt (by decide)) th_int) (al ha3')) evk_nil))) (by omega) fun a4 Ts4 H5 hn4 e4 ha4' hl4 hok4 => ?_
      have pv4 := (ThP.fresh pv3.1 hn4).mono e4
      have pu4 := (ThP.fresh pu3.1 hn4).mono e4
      exact ⟨a4, Ts4, _, rfl, ha4', by omega, hok4, pv4, pu4, e4 _ _ (e3 _ _ (e2 _ _ kT)), ((e1.trans e2).trans e3).trans e4⟩
    · obtain ⟨a, Ts, y3, rfl, ha, hl, hok, pv, pu, kT, e1⟩ := w
      have hl : Ts.length = 16 := hl
      simp only [tSeq, gName, List.set_cons_zero, List.set_cons_succ]
      refine s_more rfl ha hok (evk_cons (evk_tupA (w := 1) (out_numMany (c := 2) (l := repW 10 [97, 98]) (rok (by decide +kernel)) (by decide +kernel)) (by decide) ev_c (ea2 (ev_mulS (n := 10) (ev_s (by decide)) ev_c (by decide) (by decide)) ev_c) (ha2 (th_txt (by decide)) th_int) (al ha))
        (evk_cons (evk_tupA (w := 1) (out_numMany (c := 2) (l := repW 16 [97]) (rok (by decide +kernel)) (by decide +kernel)) (by decide) ev_c (ea2 (ev_mulS (n := 16) (ev_s (by decide)) ev_c (by decide) (by decide)) ev_c) (ha2 (th_txt (by decide)) th_int) (al ha))
        (evk_cons (evk_tupA (w := 0) (out_next (c := 8) (l := repW 60 [97]) (rok (by decide +kernel))) (by decide) ev_c (ea2 (ev_mulS (n := 60) (ev_s (by decide)) ev_c (by decide) (by decide)) ev_c) (ha2 (th_txt (by decide)) th_int) (al ha)) evk_nil))) (by omega) fun a2 Ts2 H3 hn2 e2 ha2' hl2 hok2 => ?_
      refine s_fin (E := fun _ _ _ _ => False) rfl ha2' hok2 (evk_cons (evk_tupA (w := 1) (w_in (c := 1) (l := repW 16 [97] ++ [98]) (by decide +kernel) (by decide) (by decide) (by decide) (by decide)) (by decide) ev_c (ea2 (ev_addS (ev_mulS (n := 16) (ev_s (by decide)) ev_c (by decide) (by decide)) (ev_s (by decide)) fun H1 Q q => ⟨_, rfl, _, rfl, szl (by decide), q⟩) ev_c) (ha2 (th_txt (by decide)) th_int) (al ha2'))
        (evk_cons (evk_tupA (w := 1) (out_num (c := 1) (l := repW 60 [97]) (rok (by decide +kernel)) (by decide +kernel) (by unfold FewN; decide +kernel)) (by decide) ev_c (ea2 (ev_mulS (n := 60) (ev_s (by decide)) ev_c (by decide) (by decide)) ev_c) (ha2 (th_txt (by decide)) th_int) (al ha2')) evk_nil)) (by omega) fun H4 e4 => q H4 ((e1.trans e2).trans e4)
end
section
variable {P : Program} {w : World} {K : PySem.W.Frag} {mg : Str → Option Value} {base : Heap}
theorem d__law_bounds_right (A : At K mg "_law_bounds_right" [] s__law_bounds_right) (B : Blt mg) (D__law_all : DefAt P w K mg base 13 "_law_all" ["_law_tried"] (sp__law_all K)) : DefAt P w K mg base 14 "_law_bounds_right" [] (sp__law_bounds_right K) := by
  have nd := sc__law_bounds_right.nd
  refine A.def_ sc__law_bounds_right (fun vs H Q E h => ?_) (fun f cdv A0 outer s H vs Q E hr h => ⟨_, (pss_cons (ps_set (i := 0) nd rfl (Or.inl rfl) (pe_lst (pa_cons (pe_tup (pa_cons pe_int (pa_cons (pe_lst (pa_cons pe_int (pa_cons pe_int pa_nil))) (pa_cons pe_str pa_nil)))) (pa_cons (pe_tup (pa_cons pe_int (pa_cons (pe_lst (pa_cons pe_int (pa_cons pe_int pa_nil))) (pa_cons pe_str pa_nil)))) (pa_cons (pe_tup (pa_cons pe_int (pa_cons (pe_lst (pa_cons pe_int (pa_cons pe_int pa_nil))) (pa_cons pe_str pa_nil)))) (pa_cons (pe_tup (pa_cons pe_int (pa_cons (pe_lst (pa_cons pe_int (pa_cons pe_int pa_nil))) (pa_cons pe_str pa_nil)))) (pa_cons (pe_tup (pa_cons pe_int (pa_cons (pe_lst (pa_cons (pe_op op_mul_str pe_str pe_int) (pa_cons pe_int pa_nil))) (pa_cons pe_str pa_nil)))) pa_nil)))))))
      (pss_cons (ps_set (i := 0) nd rfl (Or.inl rfl) (pe_op op_cat (pv 0) (pe_lst (pa_cons (pe_tup (pa_cons pe_int (pa_cons (pe_lst (pa_cons pe_int (pa_cons pe_int pa_nil))) (pa_cons pe_str pa_nil)))) (pa_cons (pe_tup (pa_cons pe_int (pa_cons (pe_lst (pa_cons pe_int (pa_cons pe_int pa_nil))) (pa_cons pe_str pa_nil)))) (pa_cons (pe_tup (pa_cons pe_int (pa_cons (pe_lst (pa_cons pe_int (pa_cons pe_int pa_nil))) (pa_cons pe_str pa_nil)))) (pa_cons (pe_tup (pa_cons pe_int (pa_cons (pe_lst (pa_cons pe_str (pa_cons pe_int pa_nil))) (pa_cons pe_str pa_nil)))) pa_nil)))))))
      (pss_cons (ps_set (i := 0) nd rfl (Or.inl rfl) (pe_op op_cat (pv 0) (pe_lst (pa_cons (pe_tup (pa_cons pe_int (pa_cons (pe_lst (pa_cons pe_str (pa_cons pe_int (pa_cons pe_int pa_nil)))) (pa_cons pe_str pa_nil)))) (pa_cons (pe_tup (pa_cons pe_int (pa_cons (pe_lst (pa_cons pe_str (pa_cons pe_int (pa_cons pe_int pa_nil)))) (pa_cons pe_str pa_nil)))) (pa_cons (pe_tup (pa_cons pe_int (pa_cons (pe_lst (pa_cons pe_str (pa_cons pe_int pa_nil))) (pa_cons pe_str pa_nil)))) pa_nil))))))
      (pss_cons (ps_set (i := 0) nd rfl (Or.inl rfl) (pe_op op_cat (pv 0) (pe_lst (pa_cons (pe_tup (pa_cons pe_int (pa_cons (pe_lst (pa_cons pe_str (pa_cons pe_int pa_nil))) (pa_cons pe_str pa_nil)))) (pa_cons (pe_tup (pa_cons pe_int (pa_cons (pe_lst (pa_cons pe_int (pa_cons pe_int (pa_cons pe_int pa_nil)))) (pa_cons pe_str pa_nil)))) (pa_cons (pe_tup (pa_cons pe_int (pa_cons (pe_lst (pa_cons pe_int (pa_cons pe_int pa_nil))) (pa_cons pe_str pa_nil)))) (pa_cons (pe_tup (pa_cons pe_int (pa_cons (pe_lst (pa_cons pe_int (pa_cons pe_int pa_nil))) (pa_cons pe_str pa_nil)))) pa_nil)))))))
      (pss_one (ps_ret (pe_callD D__law_all (hr.mono (by decide)) pass_no (pa_cons (pe_op op_cat (pv 0) (pe_lst (pa_cons (pe_tup (pa_cons pe_int (pa_cons (pe_lst (pa_cons pe_int (pa_cons pe_int pa_nil))) (pa_cons pe_str pa_nil)))) (pa_cons (pe_tup (pa_cons pe_int (pa_cons (pe_lst (pa_cons pe_int (pa_cons pe_int pa_nil))) (pa_cons pe_str pa_nil)))) (pa_cons (pe_tup (pa_cons pe_int (pa_cons (pe_lst (pa_cons pe_str (pa_cons pe_int (pa_cons pe_int pa_nil)))) (pa_cons pe_str pa_nil)))) pa_nil))))) pa_nil)))))))), ?_⟩)
  · obtain ⟨rfl, _⟩ := h; rfl
  · obtain ⟨rfl, q⟩ := h
    simp only [tSeq, L2.start, List.map_nil, List.nil_append, List.length_nil, List.length_cons, List.replicate]
    refine s_lit (K := K) (evk_cons (evk_tupA (w := 2) (out_all (n := 15) (c := 2) ⟨by decide, by decide, by decide, by decide⟩ (by decide +kernel) (by unfold FewN; decide +kernel)) (by decide) ev_c (ea2 ev_c ev_c) (ha2 th_int th_int) nal)
        (evk_cons (evk_tupA (w := 2) (out_all (n := 6) (c := 5) ⟨by decide, by decide, by decide, by decide⟩ (by decide +kernel) (by unfold FewN; decide +kernel)) (by decide) ev_c (ea2 ev_c ev_c) (ha2 th_int th_int) nal)
        (evk_cons (evk_tupA (w := 2) (out_few2 (v := .int (5 : Nat)) (u := .int (7 : Nat)) (.inr ⟨rfl, 5, 7, rfl, rfl, by decide, by decide +kernel⟩)) (by decide) ev_c (ea2 ev_c ev_c) (ha2 th_int th_int) nal)
        (evk_cons (evk_tupA (w := 2) (out_few2 (v := .int (16 : Nat)) (u := .int (2 : Nat)) (.inr ⟨rfl, 16, 2, rfl, rfl, by decide, by decide +kernel⟩)) (by decide) ev_c (ea2 ev_c ev_c) (ha2 th_int th_int) nal)
        (evk_cons (evk_tupA (w := 1) (out_num (l := (repW 15 [97])) (c := 2) (rok (by decide +kernel)) (by decide +kernel) (by unfold FewN; decide +kernel)) (by decide) ev_c (ea2 (ev_mulS (n := 15) (ev_s (by decide)) ev_c (by decide) (by decide)) ev_c) (ha2 (th_txt (by decide)) th_int) nal)
        evk_nil))))) (by decide) fun a Ts H1 hn e1 ha hl hok => ?_
    refine s_more rfl ha hok (evk_cons (evk_tupA (w := 2) (out_few2 (v := .int 61) (u := .int 1) (.inl ⟨rfl, by decide⟩)) (by decide) ev_c (ea2 ev_c ev_c) (ha2 th_int th_int) (al ha))
        (evk_cons (evk_tupA (w := 3) (out_long3 (v := .int 61) (u := .int 1) (.inl ⟨rfl, by decide⟩)) (by decide) ev_c (ea2 ev_c ev_c) (ha2 th_int th_int) (al ha))
        (evk_cons (evk_tupA (w := 2) (out_few2 (v := .int 3) (u := .int 9) (.inl ⟨rfl, by decide⟩)) (by decide) ev_c (ea2 ev_c ev_c) (ha2 th_int th_int) (al ha))
        (evk_cons (evk_tupA (w := 1) (out_ringBad (w := 1) (v := vS [97, 97, 98]) (u := .int 9) (by decide) (.inr (.inl ⟨rfl, by decide, by decide⟩))) (by decide) ev_c (ea2 (ev_s (by decide)) ev_c) (ha2 (th_txt (by decide)) th_int) (al ha))
        evk_nil)))) (by omega) fun a2 Ts2 H2 hn2 e2 ha2' hl2 hok2 => ?_
    refine s_more rfl ha2' hok2 (evk_cons (evk_tupA (w := 5) (out_placeNo (t := vS [98, 97, 97, 97]) (n := 4) (c := 1) ⟨by decide, by decide, by decide, by decide⟩ (by decide +kernel) (by decide)) (by decide) ev_c (ea3 (ev_s (by decide)) ev_c ev_c) (ha3 (th_txt (by decide)) th_int th_int) (al ha2'))
        (evk_cons (evk_tupA (w := 5) (out_placeNo (t := vS [97, 99, 97, 97]) (n := 4) (c := 2) ⟨by decide, by decide, by decide, by decide⟩ (by decide +kernel) (by decide)) (by decide) ev_c (ea3 (ev_s (by decide)) ev_c ev_c) (ha3 (th_txt (by decide)) th_int th_int) (al ha2'))
        (evk_cons (evk_tupA (w := 0) (out_next (l := [97, 99, 98]) (c := 3) (rok (by decide +kernel))) (by decide) ev_c (ea2 (ev_s (by decide)) ev_c) (ha2 (th_txt (by decide)) th_int) (al ha2'))
        evk_nil))) (by omega) fun a3 Ts3 H3 hn3 e3 ha3' hl3 hok3 => ?_
    refine s_more rfl ha3' hok3 (evk_cons (evk_tupA (w := 1) (out_numMany (l := [97, 97, 97, 97, 103]) (c := 7) (rok (by decide +kernel)) (by decide +kernel)) (by decide) ev_c (ea2 (ev_s (by decide)) ev_c) (ha2 (th_txt (by decide)) th_int) (al ha3'))
        (evk_cons (evk_tupA (w := 4) (out_few4 (t := .int 0) (v := .int (5 : Nat)) (u := .int (7 : Nat)) (.inr ⟨rfl, 5, 7, rfl, rfl, by decide, by decide +kernel⟩)) (by decide) ev_c (ea3 ev_c ev_c ev_c) (ha3 th_int th_int th_int) (al ha3'))
        (evk_cons (evk_tupA (w := 3) (out_long (n := 11) (c := 2) ⟨by decide, by decide, by decide, by decide⟩ (by decide +kernel)) (by decide) ev_c (ea2 ev_c ev_c) (ha2 th_int th_int) (al ha3'))
        (evk_cons (evk_tupA (w := 3) (out_long (n := 4) (c := 7) ⟨by decide, by decide, by decide, by decide⟩ (by decide +kernel)) (by decide) ev_c (ea2 ev_c ev_c) (ha2 th_int th_int) (al ha3'))
        evk_nil)))) (by omega) fun a4 Ts4 H4 hn4 e4 ha4' hl4 hok4 => ?_
    refine s_fin (E := fun _ _ _ _ => False) rfl ha4' hok4 (evk_cons (evk_tupA (w := 3) (out_long3 (v := .int (5 : Nat)) (u := .int (5 : Nat)) (.inr ⟨rfl, 5, 5, rfl, rfl, by decide, by decide +kernel⟩)) (by decide) ev_c (ea2 ev_c ev_c) (ha2 th_int th_int) (al ha4'))
        (evk_cons (evk_tupA (w := 3) (out_long3 (v := .int (12 : Nat)) (u := .int (2 : Nat)) (.inr ⟨rfl, 12, 2, rfl, rfl, by decide, by decide +kernel⟩)) (by decide) ev_c (ea2 ev_c ev_c) (ha2 th_int th_int) (al ha4'))
        (evk_cons (evk_tupA (w := 5) (out_long5 (t := vS [97, 97, 97, 97, 97]) (v := .int (5 : Nat)) (u := .int (5 : Nat)) (.inr ⟨rfl, 5, 5, rfl, rfl, by decide, by decide +kernel⟩)) (by decide) ev_c (ea3 (ev_s (by decide)) ev_c ev_c) (ha3 (th_txt (by decide)) th_int th_int) (al ha4'))
        evk_nil))) (by omega) fun H5 e5 => q H5 ((((e1.trans e2).trans e3).trans e4).trans e5)
end
section
variable {P : Program} {w : World} {K : PySem.W.Frag} {mg : Str → Option Value} {base : Heap}
theorem d__law_sizes_right (A : At K mg "_law_sizes_right" ["_law_length", "_law_bad"] s__law_sizes_right) (B : Blt mg) (D__law_all : DefAt P w K mg base 13 "_law_all" ["_law_tried"] (sp__law_all K)) : DefAt P w K mg base 14 "_law_sizes_right" ["_law_length", "_law_bad"] (sp__law_sizes_right K) := by
  have nd := sc__law_sizes_right.nd
  refine A.def_ sc__law_sizes_right (fun vs H Q E h => ?_) (fun f cdv A0 outer s H vs Q E hr h => ⟨_, (pss_cons (ps_set (i := 2) nd rfl (Or.inl rfl) (pe_lst pa_nil))
      (pss_cons (ps_for (passes_of rfl) rfl (pi_tup (pe_tup (pa_cons pe_int (pa_cons pe_int pa_nil)))) (pg_name (i := 3) nd rfl (Or.inl rfl)) (pss_cons (ps_set (i := 2) nd rfl (Or.inl rfl) (pe_op op_cat (pv 2) (pe_lst (pa_cons (pe_tup (pa_cons (pv 3) (pa_cons (pe_lst (pa_cons (pv 0) (pa_cons pe_int pa_nil))) (pa_cons pe_str pa_nil)))) (pa_cons (pe_tup (pa_cons (pv 3) (pa_cons (pe_lst (pa_cons (pv 0) (pa_cons (pv 1) pa_nil))) (pa_cons pe_str pa_nil)))) (pa_cons (pe_tup (pa_cons (pv 3) (pa_cons (pe_lst (pa_cons pe_int (pa_cons (pv 1) pa_nil))) (pa_cons pe_str pa_nil)))) pa_nil))))))
      (pss_one (ps_set (i := 2) nd rfl (Or.inl rfl) (pe_op op_cat (pv 2) (pe_lst (pa_cons (pe_tup (pa_cons (pv 3) (pa_cons (pe_lst (pa_cons pe_int (pa_cons pe_int pa_nil))) (pa_cons pe_str pa_nil)))) (pa_cons (pe_tup (pa_cons (pv 3) (pa_cons (pe_lst (pa_cons pe_int (pa_cons pe_int pa_nil))) (pa_cons pe_str pa_nil)))) (pa_cons (pe_tup (pa_cons (pv 3) (pa_cons (pe_lst (pa_cons pe_int (pa_cons pe_int pa_nil))) (pa_cons pe_str pa_nil)))) pa_nil)))))))))
      (pss_cons (ps_for (passes_of rfl) rfl (pi_tup (pe_tup (pa_cons pe_int (pa_cons pe_int pa_nil)))) (pg_name (i := 3) nd rfl (Or.inl rfl)) (pss_one (ps_for (passes_of rfl) rfl (pi_tup (pe_tup (pa_cons pe_non (pa_cons pe_int (pa_cons pe_str pa_nil))))) (pg_name (i := 4) nd rfl (Or.inl rfl)) (pss_cons (ps_set (i := 2) nd rfl (Or.inl rfl) (pe_op op_cat (pv 2) (pe_lst (pa_cons (pe_tup (pa_cons (pv 3) (pa_cons (pe_lst (pa_cons (pv 4) (pa_cons (pv 0) (pa_cons pe_int pa_nil)))) (pa_cons pe_str pa_nil)))) (pa_cons (pe_tup (pa_cons (pv 3) (pa_cons (pe_lst (pa_cons (pv 4) (pa_cons pe_int (pa_cons (pv 1) pa_nil)))) (pa_cons pe_str pa_nil)))) pa_nil)))))
      (pss_one (ps_expr (pe_bm PySem.F.plainAttrs_list PySem.F.slot_list_append PySem.F.type_list_append mt_append (pv 2) (pa_cons (pe_tup (pa_cons (pv 3) (pa_cons (pe_lst (pa_cons (pv 4) (pa_cons pe_int (pa_cons pe_int pa_nil)))) (pa_cons pe_str pa_nil)))) pa_nil))))))))
      (pss_one (ps_ret (pe_callD D__law_all (hr.mono (by decide)) pass_no (pa_cons (pv 2) pa_nil))))))), ?_⟩)
  · obtain ⟨_, _, rfl, _⟩ := h; rfl
  · obtain ⟨v, u, rfl, tv, tu, hv, hu, q⟩ := h
    walk_at "bd"
    refine ⟨szl (by decide), fun p hp => ?_⟩
    have xp := Ex.new (o := .lst []) hp
    have kp : (upd H p (.lst [])) p = some (.lst (([] : List Addr).map V.ref)) := upd_same
    have pv := (ThP.fresh tv hp).mono xp
    have pu := (ThP.fresh tu hp).mono xp
    generalize upd H p (.lst []) = H1 at *
    refine for_F (p := none) (n := 2) (F := fun x => ∃ w : Nat, (w = 2 ∨ w = 3) ∧ x = .int (w : Int)) nal (efs_cons (ef_v ev_c th_int ⟨2, .inl rfl, rfl⟩) (efs_cons (ef_v ev_c th_int ⟨3, .inr rfl, rfl⟩) efs_nil)) (by decide)
      (fun i σ' H' => ∃ a Ts y3, σ' = [some v, some u, some (V.ref a), y3, none] ∧ H' a = some (.lst (Ts.map V.ref)) ∧ Ts.length = 6 * i ∧ (∀ T ∈ Ts, OkT K H' (some a) T) ∧ ThP (some a) H' v ∧ ThP (some a) H' u ∧ Ex H H')
      (fun H2 e2 => ⟨p, [], _, rfl, e2 _ _ kp, rfl, (fun _ h => nomatch h), pv.mono e2, pu.mono e2, xp.trans e2⟩) (fun H2 _ i x σ' H' hi hx _ w kk => ?_) (fun σ' H' w => ?_)
    · obtain ⟨a, Ts, y3, rfl, ha, hl, hok, pv, pu, e1⟩ := w
      obtain ⟨w, hw, rfl⟩ := hx
      simp only [tSeq, gName, List.set_cons_zero, List.set_cons_succ]
      refine s_more rfl ha hok (evk_cons (evk_tupA (w2_num hw (sz_v hv)) (by decide) (ev_var rfl) (ea2 (ev_var rfl) ev_c) (ha2 pv th_int) (al ha))
        (evk_cons (evk_tupA (w2_num hw (sz_v hv)) (by decide) (ev_var rfl) (ea2 (ev_var rfl) (ev_var rfl)) (ha2 pv pu) (al ha))
        (evk_cons (evk_tupA (w2_num hw (sz_u hu)) (by decide) (ev_var rfl) (ea2 ev_c (ev_var rfl)) (ha2 th_int pu) (al ha)) evk_nil))) (by omega) fun a2 Ts2 H3 hn2 e2 ha2' hl2 hok2 => ?_
      have pv2 := (ThP.fresh pv.1 hn2).mono e2
      have pu2 := (ThP.fresh pu.1 hn2).mono e2
      refine s_more rfl ha2' hok2 (evk_cons (evk_tupA (w2_ok (n := 60) (c := 1) hw ⟨by decide, by decide, by decide, by decide⟩ (by decide +kernel) (by unfold FewN; decide +kernel) (by decide +kernel)) (by decide) (ev_var rfl) (ea2 ev_c ev_c) (ha2 th_int th_int) (al ha2'))
        (evk_cons (evk_tupA (w2_many (n := 60) (c := 2) hw (by decide) (by decide +kernel) (by decide +kernel)) (by decide) (ev_var rfl) (ea2 ev_c ev_c) (ha2 th_int th_int) (al ha2'))
        (evk_cons (evk_tupA (w2_ok (n := 1) (c := 8) hw ⟨by decide, by decide, by decide, by decide⟩ (by decide +kernel) (by unfold FewN; decide) (by decide)) (by decide) (ev_var rfl) (ea2 ev_c ev_c) (ha2 th_int th_int) (al ha2')) evk_nil))) (by omega) fun a3 Ts3 H4 hn3 e3 ha3' hl3 hok3 => ?_
      have pv3 := (ThP.fresh pv2.1 hn3).mono e3
      have pu3 := (ThP.fresh pu2.1 hn3).mono e3
      exact ⟨⟨a3, Ts3, _, rfl, ha3', by omega, hok3, pv3, pu3, (e1.trans e2).trans e3⟩, kk.trans (.of (e2.trans e3))⟩
    · obtain ⟨a, Ts, y3, rfl, ha, hl, hok, pv, pu, e1⟩ := w
      simp only [tSeq]
      refine for_F (p := none) (n := 2) (F := fun x => ∃ w : Nat, (w = 4 ∨ w = 5) ∧ x = .int (w : Int)) nal (efs_cons (ef_v ev_c th_int ⟨4, .inl rfl, rfl⟩) (efs_cons (ef_v ev_c th_int ⟨5, .inr rfl, rfl⟩) efs_nil)) (by decide)
        (fun i σ' H' => ∃ a Ts y3 y4, σ' = [some v, some u, some (V.ref a), y3, y4] ∧ H' a = some (.lst (Ts.map V.ref)) ∧ Ts.length = 12 + 9 * i ∧ (∀ T ∈ Ts, OkT K H' (some a) T) ∧ ThP (some a) H' v ∧ ThP (some a) H' u ∧ Ex H H')
        (fun H2 e2 => ⟨a, Ts, _, _, rfl, e2 _ _ ha, hl, fun T hT => (hok T hT).keep (.of e2), pv.mono e2, pu.mono e2, e1.trans e2⟩) (fun H2 _ i x σ' H' hi hx _ w kk => ?_) (fun σ' H' w => ?_)
      · clear ha hl hok pv pu e1 a Ts y3
        obtain ⟨a, Ts, y3, y4, rfl, ha, hl, hok, pv, pu, e1⟩ := w
        obtain ⟨w, hw, rfl⟩ := hx
        simp only [gName, List.set_cons_zero, List.set_cons_succ]
        refine for_F (p := none) (n := 3) (F := fun x => ∀ p H, ThP p H x) nal (efs_cons (ef_v ev_c th_non fun _ _ => th_non) (efs_cons (ef_v ev_c th_int fun _ _ => th_int) (efs_cons (ef_v (ev_s (l := [97, 98]) (by decide)) (th_txt (by decide)) fun _ _ => th_txt (by decide)) efs_nil))) (by decide)
          (fun j σ' H' => ∃ a Ts y4, σ' = [some v, some u, some (V.ref a), some (V.int (w : Int)), y4] ∧ H' a = some (.lst (Ts.map V.ref)) ∧ Ts.length = 12 + 9 * i + 3 * j ∧ (∀ T ∈ Ts, OkT K H' (some a) T) ∧ ThP (some a) H' v ∧ ThP (some a) H' u ∧ Ex H H' ∧ Keeps none H2 H')
          (fun H2 e2 => ⟨a, Ts, _, rfl, e2 _ _ ha, hl, fun T hT => (hok T hT).keep (.of e2), pv.mono e2, pu.mono e2, e1.trans e2, kk.trans (.of e2)⟩) (fun H5 _ j x σ' H' hj hx _ w kk => ?_) (fun σ' H' w => ?_)
        · clear ha hl hok pv pu e1 a Ts y4
          obtain ⟨a, Ts, y4, rfl, ha, hl, hok, pv, pu, e1, k2⟩ := w
          simp only [tSeq, gName, List.set_cons_zero, List.set_cons_succ]
          refine s_more rfl ha hok (evk_cons (evk_tupA (w4_num hw (sz_v hv)) (by decide) (ev_var rfl) (ea3 (ev_var rfl) (ev_var rfl) ev_c) (ha3 (hx _ _) pv th_int) (al ha))
            (evk_cons (evk_tupA (w4_num hw (sz_u hu)) (by decide) (ev_var rfl) (ea3 (ev_var rfl) ev_c (ev_var rfl)) (ha3 (hx _ _) th_int pu) (al ha)) evk_nil)) (by omega) fun a2 Ts2 H3 hn2 e2 ha2' hl2 hok2 => ?_
          have pv2 := (ThP.fresh pv.1 hn2).mono e2
          have pu2 := (ThP.fresh pu.1 hn2).mono e2
          refine s_app rfl ha2' hok2 (evk_tupA (w4_many (n := 60) (c := 8) hw (by decide) (by decide +kernel) (by decide +kernel)) (by decide) (ev_var rfl) (ea3 (ev_var rfl) ev_c ev_c) (ha3 (hx _ _) th_int th_int) (al ha2')) (by omega) fun Ts3 H4 k4 ha3' hl3 hok3 => ?_
          have back : ∀ {G : Hp}, Keeps none G H' → Keeps none G H4 := fun {G} k => (Keeps.of (Keeps.ex (fun b o h => e2 b o (k b o (fun z => nomatch z) h)) k4 (by
            cases hG : G a2 with
            | none => rfl
            | some o => rw [k a2 o (fun z => nomatch z) hG] at hn2; cases hn2)))
          exact ⟨⟨a2, Ts3, _, rfl, ha3', by omega, hok3, pv2.keep k4, pu2.keep k4, fun b o h => back (.of e1) b o (fun z => nomatch z) h, back k2⟩, back kk⟩
        · obtain ⟨a, Ts, y4, rfl, ha, hl, hok, pv, pu, e1, k2⟩ := w
          exact ⟨⟨a, Ts, _, _, rfl, ha, by omega, hok, pv, pu, e1⟩, k2⟩
      · clear ha hl hok pv pu e1 a Ts y3
        obtain ⟨a, Ts, y3, y4, rfl, ha, hl, hok, pv, pu, e1⟩ := w
        exact s_fin0 (E := fun _ _ _ _ => False) rfl ha hok (by omega) fun H4 e4 => q H4 (e1.trans e4)
end
theorem good_vS (l : List Nat) (n c : Nat) : goodText (vS l) n c = (wordB l && (decide (l.length = n) && inTop l c)) := by
  show (wordB (tx l).cps.toList && (decide ((tx l).cps.toList.length = n) && inTop (tx l).cps.toList c)) = _
  rw [tx_cps]
theorem good_len {l : List Nat} {n c : Nat} (h : l.length ≠ n) : goodText (vS l) n c = false := by
  rw [good_vS, decide_eq_false h, Bool.false_and, Bool.and_false]
theorem good_sign {z n m c : Nat} (h : letterB z = false) (hm : 1 ≤ m) : goodText (vS (repW m [z])) n c = false := by
  rw [good_vS]
  have : wordB (repW m [z]) = false := by
    rw [rep_one]
    unfold wordB
    rw [show (List.replicate m z).all letterB = false from List.all_eq_false.mpr ⟨z, List.mem_replicate.mpr ⟨by omega, rfl⟩, by rw [h]; exact Bool.false_ne_true⟩, Bool.and_false]
  rw [this, Bool.false_and]
theorem good_beyond {n m c : Nat} {l : List Nat} (hm : 96 + c < m) : goodText (vS (l ++ [m])) n c = false := by
  rw [good_vS]
  have : inTop (l ++ [m]) c = false := decide_eq_false fun h => by
    have := (mem_gt (P := fun z => z ≤ 96 + c)).mpr h m (List.mem_append.mpr (.inr (.head _)))
    omega
  rw [this, Bool.and_false, Bool.and_false]
section
variable {P : Program} {w : World} {K : PySem.W.Frag} {mg : Str → Option Value} {base : Heap}
theorem d__law_last_right (A : At K mg "_law_last_right" ["_law_length", "_law_colours", "_law_cell"] s__law_last_right) (B : Blt mg) (D_many_rings : DefAt P w K mg base 4 "many_rings" ["length", "colours"] (sp_many_rings K)) (D__law_all : DefAt P w K mg base 13 "_law_all" ["_law_tried"] (sp__law_all K)) : DefAt P w K mg base 14 "_law_last_right" ["_law_length", "_law_colours", "_law_cell"] (sp__law_last_right K) := by
  have nd := sc__law_last_right.nd
  refine A.def_ sc__law_last_right (fun vs H Q E h => ?_) (fun f cdv A0 outer s H vs Q E hr h => ⟨_, (pss_cons (ps_set (i := 3) nd rfl (Or.inl rfl) (pe_callD D_many_rings (hr.mono (by decide)) pass_up (pa_cons (pv 0) (pa_cons (pv 1) pa_nil))))
      (pss_cons (ps_set (i := 4) nd rfl (Or.inl rfl) (pe_lst pa_nil))
      (pss_cons (ps_for (passes_of rfl) rfl (pi_tup (pe_tup (pa_cons (pe_op op_sub (pe_un un_neg pe_int) (pv 2)) (pa_cons (pv 3) (pa_cons (pe_op op_add (pv 3) (pv 2)) (pa_cons pe_non (pa_cons pe_bl (pa_cons pe_str (pa_cons (pe_lst (pa_cons pe_int pa_nil)) (pa_cons pe_bl pa_nil)))))))))) (pg_name (i := 5) nd rfl (Or.inl rfl)) (pss_one (ps_expr (pe_bm PySem.F.plainAttrs_list PySem.F.slot_list_append PySem.F.type_list_append mt_append (pv 4) (pa_cons (pe_tup (pa_cons pe_int (pa_cons (pe_lst (pa_cons (pv 5) (pa_cons (pv 0) (pa_cons (pv 1) pa_nil)))) (pa_cons pe_str pa_nil)))) pa_nil)))))
      (pss_cons (ps_set (i := 6) nd rfl (Or.inl rfl) (pe_op op_add_str (pe_op op_mul_str pe_str (pe_op op_sub (pv 0) pe_int)) (pe_ix ix_str pe_str (pe_callB (call_min2 rfl) rfl B.min (by decide +kernel) (pa_cons pe_int (pa_cons (pv 1) pa_nil))) (fun _ _ => rfl))))
      (pss_cons (ps_for (passes_of rfl) rfl (pi_tup (pe_tup (pa_cons (pe_op op_mul_str pe_str (pe_op op_add (pv 0) pe_int)) (pa_cons (pe_op op_mul_str pe_str (pe_op op_sub (pv 0) pe_int)) (pa_cons pe_str (pa_cons pe_non (pa_cons pe_int (pa_cons (pe_lst (pa_cons pe_str pa_nil)) (pa_cons (pe_op op_mul_str pe_str (pv 0)) (pa_cons (pe_op op_mul_str pe_str (pv 0)) (pa_cons pe_bl pa_nil))))))))))) (pg_name (i := 5) nd rfl (Or.inl rfl)) (pss_one (ps_expr (pe_bm PySem.F.plainAttrs_list PySem.F.slot_list_append PySem.F.type_list_append mt_append (pv 4) (pa_cons (pe_tup (pa_cons pe_int (pa_cons (pe_lst (pa_cons (pv 5) (pa_cons (pv 0) (pa_cons (pv 1) pa_nil)))) (pa_cons pe_str pa_nil)))) pa_nil)))))
      (pss_cons (ps_set (i := 4) nd rfl (Or.inl rfl) (pe_op op_cat (pv 4) (pe_lst (pa_cons (pe_tup (pa_cons pe_int (pa_cons (pe_lst (pa_cons pe_int (pa_cons (pv 0) (pa_cons (pv 1) pa_nil)))) (pa_cons pe_str pa_nil)))) (pa_cons (pe_tup (pa_cons pe_int (pa_cons (pe_lst (pa_cons (pe_op op_sub (pv 3) pe_int) (pa_cons (pv 0) (pa_cons (pv 1) pa_nil)))) (pa_cons pe_str pa_nil)))) pa_nil)))))
      (pss_one (ps_ret (pe_callD D__law_all (hr.mono (by decide)) pass_no (pa_cons (pe_op op_cat (pv 4) (pe_lst (pa_cons (pe_tup (pa_cons pe_int (pa_cons (pe_lst (pa_cons (pe_op op_mul_str pe_str (pv 0)) (pa_cons (pv 0) (pa_cons (pv 1) pa_nil)))) (pa_cons pe_str pa_nil)))) (pa_cons (pe_tup (pa_cons pe_int (pa_cons (pe_lst (pa_cons (pv 6) (pa_cons (pv 0) (pa_cons (pv 1) pa_nil)))) (pa_cons pe_str pa_nil)))) pa_nil)))) pa_nil)))))))))), ?_⟩)
  · obtain ⟨_, _, _, rfl, _⟩ := h; rfl
  · obtain ⟨n, c, k, rfl, n1, n5, c1, c4, hk, q⟩ := h
    walk_at "bd"
    refine ⟨_, _, rfl, .int _, .int _, fun n' c' hn' hc' _ _ _ _ H1 e1 => ⟨szl (by decide), fun p hp => ?_⟩, fun z => (by rw [sizes_of n1 (by omega) c1 (by omega)] at z; cases z)⟩
    have en := Int.ofNat.inj (V.int.inj hn')
    have ec := Int.ofNat.inj (V.int.inj hc')
    subst en ec
    have hM := a_rings n1 n5 c1 c4
    have hcn : c ^ n ≤ 1024 := Nat.le_trans (Nat.pow_le_pow_left c4 n) (Nat.le_trans (Nat.pow_le_pow_right (by decide) n5) (by decide))
    have hM2 : (someW n c).length ≤ 1024 := Nat.le_trans (List.length_filter_le _ _) (by rw [allW_len]; exact hcn)
    have hM1 : 1 ≤ (someW n c).length := (List.getElem?_eq_some_iff.mp (some_first n1 c1 (by omega))).1
    have hm : mRings n c ≤ 3000 := by omega
    have hf : FewN n c := by unfold FewN; omega
    have g : GoodN n c := ⟨n1, by omega, c1, by omega⟩
    rw [hM]
    have no0 := fun t => @out_atNo K n c t
    have at0 := fun i => @out_at K n c i
    generalize (someW n c).length = M at *
    have xp := Ex.new (o := .lst []) hp
    have kp : (upd H1 p (.lst [])) p = some (.lst (([] : List Addr).map V.ref)) := upd_same
    have hpH := fresh_back e1 hp
    have e2 := e1.trans xp
    generalize upd H1 p (.lst []) = H2 at *
    refine for_F (p := some p) (n := 8) (F := fun x => inRange x M = false) (al kp) (efs_cons (ef_v (ev_op (ev_un ev_c (fun H1 _ Q q => ⟨1, rfl, q H1 (Ex.refl _)⟩)) (ev_var rfl) rv_I0) th_int (by simp [inRange]; omega))
      (efs_cons (ef_v (ev_var rfl) th_int (by simp [inRange]))
      (efs_cons (ef_v (ev_op (ev_var rfl) (ev_var rfl) rv_I0) th_int (by simp [inRange]; omega))
      (efs_cons (ef_v ev_c th_non rfl)
      (efs_cons (ef_v ev_c th_bl rfl)
      (efs_cons (ef_v (ev_s (l := [48]) (by decide)) (th_txt (by decide)) rfl)
      (efs_cons (ef_l (al kp) (el_lst (ea_cons ev_c ea_nil) (by decide)) fun _ => rfl)
      (efs_cons (ef_v ev_c th_bl rfl) efs_nil)))))))) (by decide)
      (fun i σ' H' => ∃ Ts y5, σ' = [some (.int (n : Int)), some (.int (c : Int)), some (.int (k : Int)), some (.int (M : Int)), some (.ref p), y5, none] ∧ H' p = some (.lst (Ts.map V.ref)) ∧ Ts.length = i ∧ (∀ T ∈ Ts, OkT K H' (some p) T) ∧ Ex H H')
      (fun H3 e3 => ⟨[], _, rfl, e3 _ _ kp, rfl, (fun _ h => nomatch h), e2.trans e3⟩) (fun H3 _ i x σ' H' hi hx tx' w kk => ?_) (fun σ' H' w => ?_)
    · obtain ⟨Ts, y5, rfl, ha, hl, hok, e3⟩ := w
      simp only [gName, List.set_cons_zero, List.set_cons_succ]
      refine s_app rfl ha hok (evk_tupA (w := 4) (no0 _ g hm hf hx) (by decide) ev_c (ea3 (ev_var rfl) (ev_var rfl) (ev_var rfl)) (ha3 tx' th_int th_int) (al ha)) (by omega) fun Us H4 k4 ha' hl' hok' => ?_
      exact ⟨⟨Us, _, rfl, ha', by omega, hok', Keeps.ex e3 k4 hpH⟩, kk.trans k4⟩
    · obtain ⟨Ts, y5, rfl, ha, hl, hok, e3⟩ := w
      simp only [tSeq]
      have sub1 : ∀ {σ' : L2.St} {H' : Hp} {m : Nat} {i : Nat}, 1 ≤ m → σ'[i]? = some (some (.int (m : Int))) → Ev (tOp (rI0 fun i j => V.int (i - j)) (tVar i) (tC (V.int 1))) σ' H' (.int ((m - 1 : Nat) : Int)) := fun hm hv => ev_is (ev_op (ev_var hv) ev_c rv_I0) (congrArg V.int (by omega))
      have add1 : ∀ {σ' : L2.St} {H' : Hp} {m : Nat} {i : Nat}, σ'[i]? = some (some (.int (m : Int))) → Ev (tOp (rI0 fun i j => V.int (i + j)) (tVar i) (tC (V.int 1))) σ' H' (.int ((m + 1 : Nat) : Int)) := fun hv => ev_is (ev_op (ev_var hv) ev_c rv_I0) (congrArg V.int (by omega))
      refine s_asg (ev_addS (l := repW (n - 1) [97]) (m := [97 + c]) (ev_mulS (ev_s (by decide)) (sub1 n1 rfl) (by omega) (by decide)) (ev_op ev_c (ev_cb (ea2 ev_c (ev_var rfl)) (fun H1 _ Q q => ⟨7, c, rfl, q H1 (Ex.refl _)⟩)) (fun H1 _ Q q => ?_)) (fun H1 Q q => ⟨_, rfl, _, rfl, szl ?_, q⟩)) fun H4 e4 => ?_
      · have ha8 := letter_top (c := c + 1) (by omega) (by omega)
        rw [show (((c + 1 : Nat) : Int) - 1) = (c : Int) by omega, show 96 + (c + 1) = 97 + c by omega] at ha8
        exact ⟨_, (c : Int), 97 + c, rfl, congrArg V.int (if_pos (by omega)), szl (by decide), ha8, q H1 (Ex.refl _)⟩
      · rw [tx_len, tx_len, repW_len]
        show (n - 1) * 1 + 1 ≤ _
        omega
      simp only [List.set_cons_zero, List.set_cons_succ]
      have ha := e4 _ _ ha
      have hok : ∀ T ∈ Ts, OkT K H4 (some p) T := fun T hT => (hok T hT).keep (.of e4)
      have e4 := e3.trans e4
      refine for_F (p := some p) (n := 9) (F := fun x => goodText x n c = false) (al ha) (efs_cons (ef_v (ev_mulS (n := n + 1) (l := [97]) (ev_s (by decide)) (add1 rfl) (by omega) (by decide)) (th_txt (by rw [repW_len]; show (n + 1) * 1 ≤ _; omega)) (good_len (by rw [repW_len]; show (n + 1) * 1 ≠ _; omega)))
        (efs_cons (ef_v (ev_mulS (n := n - 1) (l := [97]) (ev_s (by decide)) (sub1 n1 rfl) (by omega) (by decide)) (th_txt (by rw [repW_len]; show (n - 1) * 1 ≤ _; omega)) (good_len (by rw [repW_len]; show (n - 1) * 1 ≠ _; omega)))
        (efs_cons (ef_v (ev_s (l := []) (by decide)) (th_txt (by decide)) (good_len (by show 0 ≠ n; omega)))
        (efs_cons (ef_v ev_c th_non rfl)
        (efs_cons (ef_v ev_c th_int rfl)
        (efs_cons (ef_l (al ha) (el_lst (ea_cons ev_c ea_nil) (by decide)) fun _ => rfl)
        (efs_cons (ef_v (ev_mulS (n := n) (l := [122]) (ev_s (by decide)) (ev_var rfl) (by omega) (by decide)) (th_txt (by rw [repW_len]; show n * 1 ≤ _; omega)) (good_sign (by decide) n1))
        (efs_cons (ef_v (ev_mulS (n := n) (l := [65]) (ev_s (by decide)) (ev_var rfl) (by omega) (by decide)) (th_txt (by rw [repW_len]; show n * 1 ≤ _; omega)) (good_sign (by decide) n1))
        (efs_cons (ef_v ev_c th_bl rfl) efs_nil))))))))) (by decide)
        (fun i σ' H' => ∃ Ts y5, σ' = [some (.int (n : Int)), some (.int (c : Int)), some (.int (k : Int)), some (.int (M : Int)), some (.ref p), y5, some (vS (repW (n - 1) [97] ++ [97 + c]))] ∧ H' p = some (.lst (Ts.map V.ref)) ∧ Ts.length = 8 + i ∧ (∀ T ∈ Ts, OkT K H' (some p) T) ∧ Ex H H')
        (fun H3 e3 => ⟨Ts, _, rfl, e3 _ _ ha, hl, fun T hT => (hok T hT).keep (.of e3), e4.trans e3⟩) (fun H3 _ i x σ' H' hi hx tx' w kk => ?_) (fun σ' H' w => ?_)
      · obtain ⟨Ts, y5, rfl, ha, hl, hok, e3⟩ := w
        simp only [gName, List.set_cons_zero, List.set_cons_succ]
        refine s_app rfl ha hok (evk_tupA (w := 5) (out_placeNo g (by omega) hx) (by decide) ev_c (ea3 (ev_var rfl) (ev_var rfl) (ev_var rfl)) (ha3 tx' th_int th_int) (al ha)) (by omega) fun Us H4 k4 ha' hl' hok' => ?_
        exact ⟨⟨Us, _, rfl, ha', by omega, hok', Keeps.ex e3 k4 hpH⟩, kk.trans k4⟩
      · obtain ⟨Ts, y5, rfl, ha, hl, hok, e3⟩ := w
        simp only [tSeq, gName, List.set_cons_zero, List.set_cons_succ]
        refine s_more rfl ha hok (evk_cons (evk_tupA (w := 4) (at0 0 g hm hf (by omega)) (by decide) ev_c (ea3 ev_c (ev_var rfl) (ev_var rfl)) (ha3 th_int th_int th_int) (al ha))
          (evk_cons (evk_tupA (w := 4) (at0 (M - 1) g hm hf (by omega)) (by decide) ev_c (ea3 (sub1 hM1 rfl) (ev_var rfl) (ev_var rfl)) (ha3 th_int th_int th_int) (al ha)) evk_nil)) (by omega) fun a2 Ts2 H2 hn2 e2 ha2' hl2 hok2 => ?_
        have hgood : goodText (vS (repW n [97])) n c = true := by
          rw [good_vS, rep_one, List.length_replicate, decide_eq_true rfl, Bool.true_and]
          have h1 : wordB (List.replicate n 97) = true := IsW.mk (by rw [List.length_replicate]; exact n1) (by rw [List.length_replicate]; omega) fun x hx => by rw [(List.mem_replicate.mp hx).2]; omega
          have h2 : inTop (List.replicate n 97) c = true := decide_eq_true ((mem_gt (P := fun z => z ≤ 96 + c)).mp fun x hx => by rw [(List.mem_replicate.mp hx).2]; omega)
          rw [h1, h2]
          rfl
        refine s_fin (E := fun _ _ _ _ => False) rfl ha2' hok2 (evk_cons (evk_tupA (w := 5) (out_place (l := repW n [97]) g (by omega) hgood (by rw [rep_one]; exact a_place n1 n5 c1 c4)) (by decide) ev_c (ea3 (ev_mulS (n := n) (ev_s (by decide)) (ev_var rfl) (by omega) (by decide)) (ev_var rfl) (ev_var rfl)) (ha3 (th_txt (by rw [repW_len]; show n * 1 ≤ _; omega)) th_int th_int) (al ha2'))
          (evk_cons (evk_tupA (w := 5) (out_placeNo g (by omega) (good_beyond (by omega))) (by decide) ev_c (ea3 (ev_var rfl) (ev_var rfl) (ev_var rfl)) (ha3 (th_txt (by rw [List.length_append, repW_len]; show (n - 1) * 1 + 1 ≤ _; omega)) th_int th_int) (al ha2')) evk_nil)) (by omega) fun H5 e5 => q H5 ((e3.trans e2).trans e5)
end
section
variable {P : Program} {w : World} {K : PySem.W.Frag} {mg : Str → Option Value} {base : Heap}
theorem d_law (A : At K mg "law" ["_law_script"] s_law) (B : Blt mg) (D__law_bounds_right : DefAt P w K mg base 14 "_law_bounds_right" [] (sp__law_bounds_right K)) (D__law_number : DefAt P w K mg base 2 "_law_number" ["_law_script", "_law_k"] (sp__law_number K)) (D__law_last_right : DefAt P w K mg base 14 "_law_last_right" ["_law_length", "_law_colours", "_law_cell"] (sp__law_last_right K)) (D__law_rings_right : DefAt P w K mg base 14 "_law_rings_right" ["_law_odd", "_law_bad"] (sp__law_rings_right K)) (D__law_sizes_right : DefAt P w K mg base 14 "_law_sizes_right" ["_law_length", "_law_bad"] (sp__law_sizes_right K)) : DefAt P w K mg base 15 "law" ["_law_script"] (sp_law K) := by
  have nd := sc_law.nd
  refine A.def_ sc_law (fun vs H Q E h => ?_) (fun f cdv A0 outer s H vs Q E hr h => ⟨_, (pss_cons (ps_for (passes_of rfl) rfl (pi_range1 rfl B.range (pa_cons (pe_op op_add pe_int (pe_callB (call_min2 rfl) rfl B.min (by decide +kernel) (pa_cons pe_int (pa_cons (pe_callB call_len_seq rfl B.len (by decide +kernel) (pa_cons (pv 0) pa_nil)) pa_nil)))) pa_nil)) (pg_name (i := 1) nd rfl (Or.inl rfl)) (pss_cons (ps_set (i := 2) nd rfl (Or.inl rfl) (pe_callD D__law_number (hr.mono (by decide)) pass_no (pa_cons (pv 0) (pa_cons (pe_op op_mul pe_int (pv 1)) pa_nil))))
      (pss_cons (ps_set (i := 3) nd rfl (Or.inl rfl) (pe_ix ix_list (pe_lst (pa_cons pe_non (pa_cons pe_int (pa_cons pe_bl (pa_cons pe_str (pa_cons pe_str (pa_cons pe_str (pa_cons pe_str (pa_cons (pe_lst (pa_cons pe_str pa_nil)) (pa_cons (pe_tup (pa_cons pe_str pa_nil)) (pa_cons pe_dnewK (pa_cons (pe_op op_add_str pe_str pe_str) (pa_cons (pe_op op_mul_str pe_str pe_int) (pa_cons (pe_op op_add_str pe_str pe_str) pa_nil)))))))))))))) (pe_op op_mod (pv 2) pe_int) (fun _ _ => rfl)))
      (pss_cons (ps_set (i := 4) nd rfl (Or.inl rfl) (pe_ix ix_list (pe_lst (pa_cons pe_int (pa_cons (pe_op op_sub (pe_un un_neg pe_int) (pv 2)) (pa_cons pe_non (pa_cons pe_bl (pa_cons pe_str (pa_cons (pe_lst (pa_cons pe_int pa_nil)) (pa_cons (pe_tup (pa_cons pe_int pa_nil)) (pa_cons pe_dnewK (pa_cons (pe_op op_add pe_int (pv 2)) (pa_cons pe_bl pa_nil))))))))))) (pe_op op_mod (pe_op op_fdiv (pv 2) pe_int) pe_int) (fun _ _ => rfl)))
      (pss_cons (ps_set (i := 5) nd rfl (Or.inl rfl) (pe_ix ix_list (pe_lst (pa_cons pe_int (pa_cons (pe_op op_sub (pe_un un_neg pe_int) (pv 2)) (pa_cons pe_non (pa_cons pe_bl (pa_cons pe_str (pa_cons (pe_lst (pa_cons pe_int pa_nil)) (pa_cons (pe_tup (pa_cons pe_int pa_nil)) (pa_cons pe_dnewK (pa_cons (pe_op op_add pe_int (pv 2)) (pa_cons pe_bl pa_nil))))))))))) (pe_op op_mod (pe_op op_fdiv (pv 2) pe_int) pe_int) (fun _ _ => rfl)))
      (pss_cons (ps_if (PW.pt (pw_or (pt_not (pt_val (pe_callD D__law_rings_right (hr.mono (by decide)) pass_no (pa_cons (pv 3) (pa_cons (pv 4) pa_nil))))) (pw_or1 (pt_not (pt_val (pe_callD D__law_sizes_right (hr.mono (by decide)) pass_no (pa_cons (pv 5) (pa_cons (pv 4) pa_nil)))))))) (pss_one (ps_ret pe_bl)) pss_nil)
      (pss_cons (ps_set (i := 6) nd rfl (Or.inl rfl) (pe_callD D__law_number (hr.mono (by decide)) pass_no (pa_cons (pv 0) (pa_cons (pe_op op_add (pe_op op_mul pe_int (pv 1)) pe_int) pa_nil))))
      (pss_one (ps_if (pt_not (pt_val (pe_callD D__law_last_right (hr.mono (by decide)) pass_no (pa_cons (pe_op op_add pe_int (pe_op op_mod (pv 6) pe_int)) (pa_cons (pe_op op_add pe_int (pe_op op_mod (pe_op op_fdiv (pv 6) pe_int) pe_int)) (pa_cons (pe_op op_mod (pe_op op_fdiv (pv 6) pe_int) pe_int) pa_nil)))))) (pss_one (ps_ret pe_bl)) pss_nil)))))))))
      (pss_one (ps_ret (pe_callD0 D__law_bounds_right (hr.mono (by decide)) pass_no)))), ?_⟩)
  · obtain ⟨_, _, rfl, _⟩ := h; rfl
  · obtain ⟨a, ns, rfl, hS, hl, q⟩ := h
    walk_at "bd"
    refine for_R1 (n := 1 + min 30 ns.length) (fun R r => ?_) (by omega) (fun i σ' H' => (∃ y1 y2 y3 y4 y5 y6, σ' = [some (V.ref a), y1, y2, y3, y4, y5, y6]) ∧ Ex H H') ⟨⟨_, _, _, _, _, _, rfl⟩, Ex.refl _⟩ (fun i σ' H' hi w => ?_) (fun σ' H' w => ?_)
    · walk_at "bd"
      refine ⟨_, .inl hS, ?_⟩
      have e : (1 : Int) + (if ((ns.map V.int).length : Int) < 30 then ((ns.map V.int).length : Int) else 30) = ((1 + min 30 ns.length : Nat) : Int) := by
        rw [List.length_map]
        split <;> omega
      rw [e]
      exact r
    · obtain ⟨⟨y1, y2, y3, y4, y5, y6, rfl⟩, e1⟩ := w
      have hS1 := ex_l e1 hS
      have i30 : i ≤ 30 := by omega
      simp only [tSeq, gName, List.set_cons_zero, List.set_cons_succ]
      refine s_asgF (p := none) (ef_num (ea2 (ev_var rfl) (ev_op ev_c (ev_var rfl) (rv_I (by unfold CMul; omega)))) hS1 (by omega)) fun x H2 e2 _ fx => ?_
      obtain ⟨k, rfl⟩ := fx
      simp only [gName, List.set_cons_zero, List.set_cons_succ]
      have md : ∀ {σ' : L2.St} {H' : Hp} {j m : Nat}, 0 < m → σ'[j]? = some (some (.int (k : Int))) → Ev (tOp (rI (fun x j => 0 < j) fun i j => V.int (i % j)) (tVar j) (tC (V.int (m : Int)))) σ' H' (.int ((k % m : Nat) : Int)) := fun hm hv => ev_op (ev_var hv) ev_c (rv_I (by omega))
      refine s_asgF (p := none) (F := fun x => ringV x = false) (ef_pick (n := 13) (i := k % 13) ?_ (fun _ _ => md (m := 13) (by decide) rfl) (by decide) (Nat.mod_lt _ (by decide))) fun odd H3 e3 todd fodd => ?_
      · exact efs_cons (ef_v ev_c th_non rfl) (efs_cons (ef_v ev_c th_int rfl) (efs_cons (ef_v ev_c th_bl rfl) (efs_cons (ef_v (ev_s (l := []) (by decide)) (th_txt (by decide)) (by decide))
          (efs_cons (ef_v (ev_s (l := [98, 97]) (by decide)) (th_txt (by decide)) (by decide)) (efs_cons (ef_v (ev_s (l := [97, 98, 97]) (by decide)) (th_txt (by decide)) (by decide)) (efs_cons (ef_v (ev_s (l := [105]) (by decide)) (th_txt (by decide)) (by decide))
          (efs_cons (ef_l nal (el_lst (ea_cons ev_c ea_nil) (by decide)) fun _ => rfl) (efs_cons (ef_u nal (eu_tup (ea_cons ev_c ea_nil) (by decide)) fun _ => rfl) (efs_cons (ef_d nal fun _ => rfl)
          (efs_cons (ef_v (ev_addS (l := [97, 98, 97, 98]) (m := [97]) (ev_s (by decide)) (ev_s (by decide)) (fun H1 Q q => ⟨_, rfl, _, rfl, szl (by decide), q⟩)) (th_txt (by decide)) (by decide))
          (efs_cons (ef_v (ev_mulS (n := 61) (l := [97]) (ev_s (by decide)) ev_c (by decide) (by decide)) (th_txt (by decide)) (by decide +kernel))
          (efs_cons (ef_v (ev_addS (l := [98, 98]) (m := [97]) (ev_s (by decide)) (ev_s (by decide)) (fun H1 Q q => ⟨_, rfl, _, rfl, szl (by decide), q⟩)) (th_txt (by decide)) (by decide)) efs_nil))))))))))))
      simp only [gName, List.set_cons_zero, List.set_cons_succ]
      have dm : ∀ {σ' : L2.St} {H' : Hp} {j m t : Nat}, 0 < m → m < 10000 → 0 < t → σ'[j]? = some (some (.int (k : Int))) → Ev (tOp (rI (fun x j => 0 < j) fun i j => V.int (i % j)) (tOp (rI CDiv fun i j => V.int (i / j)) (tVar j) (tC (V.int (m : Int)))) (tC (V.int (t : Int)))) σ' H' (.int ((k / m % t : Nat) : Int)) := fun hm h2 ht hv => ev_op (ev_op (ev_var hv) ev_c (rv_I ⟨by omega, by omega⟩)) ev_c (rv_I (by omega))
      simp only [tSeq]
      refine s_asgF (p := none) (F := fun x => amongB x 1 8 = false) (ef_pick (n := 10) (i := k / 13 % 10) ?_ (fun _ _ => dm (m := 13) (t := 10) (by decide) (by decide) (by decide) rfl) (by decide) (Nat.mod_lt _ (by decide))) fun bad H4 e4 tbad fbad => ?_
      · exact efs_cons (ef_v ev_c th_int (by decide)) (efs_cons (ef_v (ev_op (ev_un ev_c (fun H1 _ Q q => ⟨1, rfl, q H1 (Ex.refl _)⟩)) (ev_var rfl) rv_I0) th_int (by simp [amongB]; omega)) (efs_cons (ef_v ev_c th_non rfl) (efs_cons (ef_v ev_c th_bl rfl)
          (efs_cons (ef_v (ev_s (l := [50]) (by decide)) (th_txt (by decide)) rfl) (efs_cons (ef_l nal (el_lst (ea_cons ev_c ea_nil) (by decide)) fun _ => rfl) (efs_cons (ef_u nal (eu_tup (ea_cons ev_c ea_nil) (by decide)) fun _ => rfl) (efs_cons (ef_d nal fun _ => rfl)
          (efs_cons (ef_v (ev_op ev_c (ev_var rfl) rv_I0) th_int (by simp [amongB]; omega)) (efs_cons (ef_v ev_c th_bl rfl) efs_nil)))))))))
      simp only [tSeq, gName, List.set_cons_zero, List.set_cons_succ]
      refine s_asgF (p := none) (F := fun x => amongB x 1 60 = false) (ef_pick (n := 10) (i := k / 130 % 10) ?_ (fun _ _ => dm (m := 130) (t := 10) (by decide) (by decide) (by decide) rfl) (by decide) (Nat.mod_lt _ (by decide))) fun nn H5 e5 tnn fnn => ?_
      · exact efs_cons (ef_v ev_c th_int (by decide)) (efs_cons (ef_v (ev_op (ev_un ev_c (fun H1 _ Q q => ⟨1, rfl, q H1 (Ex.refl _)⟩)) (ev_var rfl) rv_I0) th_int (by simp [amongB]; omega)) (efs_cons (ef_v ev_c th_non rfl) (efs_cons (ef_v ev_c th_bl rfl)
          (efs_cons (ef_v (ev_s (l := [50]) (by decide)) (th_txt (by decide)) rfl) (efs_cons (ef_l nal (el_lst (ea_cons ev_c ea_nil) (by decide)) fun _ => rfl) (efs_cons (ef_u nal (eu_tup (ea_cons ev_c ea_nil) (by decide)) fun _ => rfl) (efs_cons (ef_d nal fun _ => rfl)
          (efs_cons (ef_v (ev_op ev_c (ev_var rfl) rv_I0) th_int (by simp [amongB]; omega)) (efs_cons (ef_v ev_c th_bl rfl) efs_nil)))))))))
      simp only [tSeq, gName, List.set_cons_zero, List.set_cons_succ]
      walk_at "bd"
      refine ⟨odd, bad, rfl, todd.1.mono (e4.trans e5), tbad.1.mono e5, fodd, fbad, fun H6 e6 => ⟨true, rfl, ?_⟩⟩
      have e06 := ((((e1.trans e2).trans e3).trans e4).trans e5).trans e6
      refine iteF ⟨nn, bad, rfl, tnn.1.mono e6, tbad.1.mono (e5.trans e6), fnn, fbad, fun H7 e7 => ⟨true, rfl, iteF ⟨by unfold CMul; omega, a, ns, _, rfl, ex_l (e06.trans e7) hS, by omega, fun z z0 _ => ⟨z, rfl, z, rfl, ⟨by decide, by decide⟩, z, rfl, ⟨by decide, by decide⟩, ?_⟩⟩⟩⟩
      obtain ⟨t, rfl⟩ := Int.eq_ofNat_of_zero_le z0
      refine ⟨1 + t % 5, 1 + t / 5 % 4, t / 20 % 1000, by congr 1, by omega, by omega, by omega, by omega, by omega, fun H8 e8 => ⟨true, rfl, iteF ((e06.trans e7).trans e8)⟩⟩
    · obtain ⟨⟨y1, y2, y3, y4, y5, y6, rfl⟩, e1⟩ := w
      walk_at "bd"
      exact ⟨rfl, fun H2 _ => q H2⟩
end
end Bd
namespace Bd
open PySem PySem.Spec PyProof.Rows L2 Evl
def dd (x : Str) (i : Nat) : He.DefD := ⟨(x, none), x, x, defArgs (topS i), defBody (topS i), defScope (topS i), [], []⟩
def fn : List He.DefD := [dd "is_whole" 10, dd "need_among" 11, dd "need_sizes" 12, dd "is_word" 13, dd "need_word" 14, dd "turnings" 15, dd "divisors" 17, dd "power" 18, dd "primes_by" 19, dd "many_rings" 20, dd "ring_of" 22, dd "is_ring" 23, dd "need_ring" 26, dd "need_few" 27, dd "following" 28, dd "next_ring" 29, dd "all_rings" 30, dd "number_of" 31, dd "ring_at" 32, dd "run_from" 34, dd "parts_of" 35, dd "is_prime" 36, dd "long_word" 39, dd "place_of" 40, dd "_law_mixed" 42, dd "_law_number" 43, dd "_law_kind" 44, dd "_law_called" 45, dd "_law_said" 46, dd "_law_all" 47, dd "_law_rings_right" 48, dd "_law_bounds_right" 49, dd "_law_sizes_right" 50, dd "_law_last_right" 51, dd "law" 52]
def fa : List He.Fa := ([.str "LETTERS" "abcdefgh", .int "MOST_LETTERS" 60, .int "MOST_RINGS" 3000, .int "MOST_WORDS" 3000, .glo "is_whole", .glo "need_among", .glo "need_sizes", .glo "is_word", .glo "need_word", .glo "turnings", .glo "divisors", .glo "power", .glo "primes_by", .glo "many_rings", .glo "ring_of", .glo "is_ring", .glo "need_ring", .glo "need_few", .glo "following", .glo "next_ring", .glo "all_rings", .glo "number_of", .glo "ring_at", .glo "run_from", .glo "parts_of", .glo "is_prime", .glo "long_word", .glo "place_of", .glo "_law_mixed", .glo "_law_number"] : List He.Fa) ++ ([.glo "_law_kind", .glo "_law_called", .glo "_law_said", .glo "_law_all", .glo "_law_rings_right", .glo "_law_bounds_right", .glo "_law_sizes_right", .glo "_law_last_right", .glo "law", .glo "BeadError", .exc "BeadError", .exm "BeadError" "BeadError" true, .glo "BadNumber", .exc "BadNumber", .exm "BadNumber" "BeadError" true, .glo "BadRing", .exc "BadRing", .exm "BadRing" "BeadError" true, .glo "BadWord", .exc "BadWord", .exm "BadWord" "BeadError" true, .glo "NoRing", .exc "NoRing", .exm "NoRing" "BeadError" true, .glo "TooMany", .exc "TooMany", .exm "TooMany" "BeadError" true, .free "len", .free "range", .free "isinstance"] : List He.Fa) ++ ([.free "str", .free "int", .free "bool", .free "list", .free "all", .free "min", .free "max", .free "sorted", .free "repr", .free "enumerate", .free "zip", .free "sum", .free "set", .free "reversed", .free "ValueError"] : List He.Fa)
abbrev R : PySem.W.OpenRow := PySem.W.OpenLaw.row PySem.Challenge.rw_beadrings_k11_refused
abbrev hk : PySem.W.Hook := hookB 4 fa fn bxAll
def ob := obB 4 fa fn bxAll
theorem ob_eq (s : PySem.W.SharedT) : ob s = hk.obs s.abs := obB_eq 4 fa fn bxAll s
def loose : List PySem.Str := (["BeadError", "BadNumber", "BadRing", "BadWord", "NoRing", "TooMany", "LETTERS", "MOST_LETTERS", "MOST_RINGS", "MOST_WORDS", "is_whole", "need_among", "need_sizes", "is_word", "need_word", "turnings", "divisors", "power", "primes_by", "many_rings", "ring_of", "is_ring", "need_ring", "need_few", "following", "next_ring", "all_rings", "number_of", "ring_at", "run_from"] : List PySem.Str) ++ (["parts_of", "is_prime", "long_word", "place_of", "_law_mixed", "_law_number", "_law_kind", "_law_called", "_law_said", "_law_all", "_law_rings_right", "_law_bounds_right", "_law_sizes_right", "_law_last_right"] : List PySem.Str)
set_option maxHeartbeats 0 in
theorem run (w : World) : HandSHeadRun.RunEq R (PySem.W.view R.prog [52]) hk ob 6000 loose w := by
  intro os
  kernel_rfl
theorem facts {P : Program} {w : World} {K : PySem.W.Frag} {mg : Str → Option Value} {base : Heap} (X : K.In base) (G : base.Ns mainGlobals mg) (c : He.SaysD fa fn K) (cb : bxAll K = true) : DefAt P w K mg base 15 "law" ["_law_script"] (sp_law K) := by
  have gl : ∀ (i : Nat) {x : Str}, fa[i]? = some (.glo x) → mg x = some (.ref (He.ga K x)) := fun i x e => He.glo_ok X G (c.fact i e)
  have fr : ∀ (i : Nat) {x : Str}, fa[i]? = some (.free x) → mg x = none := fun i x e => He.free_ok X G (c.fact i e)
  have B : Blt mg := ⟨fr 57 rfl, fr 58 rfl, fr 59 rfl, fr 60 rfl, fr 61 rfl, fr 62 rfl, fr 63 rfl, fr 64 rfl, fr 65 rfl, fr 66 rfl, fr 67 rfl, fr 68 rfl, fr 69 rfl, fr 70 rfl, fr 71 rfl, fr 72 rfl, fr 73 rfl, fr 74 rfl⟩
  have er : ∀ (i : Nat) {x : Str}, fa[i]? = some (.glo x) → fa[i + 1]? = some (.exc x) → fa[i + 2]? = some (.exm x "BeadError" true) → Err K mg x := fun i x e1 e2 e3 => by
    obtain ⟨q1, q2, q3, q4⟩ := He.exc_ok (c.fact (i + 1) e2)
    exact ⟨gl i e1, q1, q2, q3, q4, He.exm_ok (c.fact (i + 2) e3)⟩
  obtain ⟨t_LETTERS, gl_LETTERS⟩ := He.str_ok X G (c.fact 0 (f := .str "LETTERS" "abcdefgh") rfl)
  obtain ⟨t_MOST_LETTERS, gl_MOST_LETTERS⟩ := He.int_ok X G (c.fact 1 (f := .int "MOST_LETTERS" 60) rfl)
  obtain ⟨t_MOST_RINGS, gl_MOST_RINGS⟩ := He.int_ok X G (c.fact 2 (f := .int "MOST_RINGS" 3000) rfl)
  obtain ⟨t_MOST_WORDS, gl_MOST_WORDS⟩ := He.int_ok X G (c.fact 3 (f := .int "MOST_WORDS" 3000) rfl)
  have e_BeadError : Err K mg "BeadError" := er 39 rfl rfl rfl
  have e_BadNumber : Err K mg "BadNumber" := er 42 rfl rfl rfl
  have e_BadRing : Err K mg "BadRing" := er 45 rfl rfl rfl
  have e_BadWord : Err K mg "BadWord" := er 48 rfl rfl rfl
  have e_NoRing : Err K mg "NoRing" := er 51 rfl rfl rfl
  have e_TooMany : Err K mg "TooMany" := er 54 rfl rfl rfl
  have A_is_whole : At K mg "is_whole" ["thing"] s_is_whole := by
    obtain ⟨fd, F⟩ := c.def_ 0 (d := dd "is_whole" 10) rfl
    exact ⟨_, fd, F, gl 4 rfl, fun s us hl => FunD.bindsA F (fun _ _ _ _ _ _ us hl => match us, hl with | [_], _ => rfl) s us hl⟩
  have D_is_whole : DefAt P w K mg base 1 "is_whole" ["thing"] (sp_is_whole K) := d_is_whole A_is_whole B
  have A_is_word : At K mg "is_word" ["thing"] s_is_word := by
    obtain ⟨fd, F⟩ := c.def_ 3 (d := dd "is_word" 13) rfl
    exact ⟨_, fd, F, gl 7 rfl, fun s us hl => FunD.bindsA F (fun _ _ _ _ _ _ us hl => match us, hl with | [_], _ => rfl) s us hl⟩
  have D_is_word : DefAt P w K mg base 1 "is_word" ["thing"] (sp_is_word K) := d_is_word A_is_word B gl_MOST_LETTERS gl_LETTERS
  have A_divisors : At K mg "divisors" ["number"] s_divisors := by
    obtain ⟨fd, F⟩ := c.def_ 6 (d := dd "divisors" 17) rfl
    exact ⟨_, fd, F, gl 10 rfl, fun s us hl => FunD.bindsA F (fun _ _ _ _ _ _ us hl => match us, hl with | [_], _ => rfl) s us hl⟩
  have D_divisors : DefAt P w K mg base 1 "divisors" ["number"] (sp_divisors K) := d_divisors A_divisors B
  have A_power : At K mg "power" ["number", "times"] s_power := by
    obtain ⟨fd, F⟩ := c.def_ 7 (d := dd "power" 18) rfl
    exact ⟨_, fd, F, gl 11 rfl, fun s us hl => FunD.bindsA F (fun _ _ _ _ _ _ us hl => match us, hl with | [_, _], _ => rfl) s us hl⟩
  have D_power : DefAt P w K mg base 1 "power" ["number", "times"] (sp_power K) := d_power A_power B
  have A_following : At K mg "following" ["word", "top"] s_following := by
    obtain ⟨fd, F⟩ := c.def_ 14 (d := dd "following" 28) rfl
    exact ⟨_, fd, F, gl 18 rfl, fun s us hl => FunD.bindsA F (fun _ _ _ _ _ _ us hl => match us, hl with | [_, _], _ => rfl) s us hl⟩
  have D_following : DefAt P w K mg base 1 "following" ["word", "top"] (sp_following K) := d_following A_following B gl_LETTERS
  have A_run_from : At K mg "run_from" ["word", "begin"] s_run_from := by
    obtain ⟨fd, F⟩ := c.def_ 19 (d := dd "run_from" 34) rfl
    exact ⟨_, fd, F, gl 23 rfl, fun s us hl => FunD.bindsA F (fun _ _ _ _ _ _ us hl => match us, hl with | [_, _], _ => rfl) s us hl⟩
  have D_run_from : DefAt P w K mg base 1 "run_from" ["word", "begin"] (sp_run_from K) := d_run_from A_run_from B
  have A__law_mixed : At K mg "_law_mixed" ["_law_cell", "_law_k"] s__law_mixed := by
    obtain ⟨fd, F⟩ := c.def_ 24 (d := dd "_law_mixed" 42) rfl
    exact ⟨_, fd, F, gl 28 rfl, fun s us hl => FunD.bindsA F (fun _ _ _ _ _ _ us hl => match us, hl with | [_, _], _ => rfl) s us hl⟩
  have D__law_mixed : DefAt P w K mg base 1 "_law_mixed" ["_law_cell", "_law_k"] (sp__law_mixed K) := d__law_mixed A__law_mixed B
  have A__law_kind : At K mg "_law_kind" ["_law_e"] s__law_kind := by
    obtain ⟨fd, F⟩ := c.def_ 26 (d := dd "_law_kind" 44) rfl
    exact ⟨_, fd, F, gl 30 rfl, fun s us hl => FunD.bindsA F (fun _ _ _ _ _ _ us hl => match us, hl with | [_], _ => rfl) s us hl⟩
  have I5 : ∀ x ∈ five, IsC K x := fun x hx => isB_ok (List.all_eq_true.mp cb x hx)
  have D__law_kind : DefAt P w K mg base 1 "_law_kind" ["_law_e"] (sp__law_kind K) := d__law_kind A__law_kind B e_BadNumber e_BadRing e_NoRing e_TooMany e_BadWord I5
  have A_need_among : At K mg "need_among" ["thing", "least", "most"] s_need_among := by
    obtain ⟨fd, F⟩ := c.def_ 1 (d := dd "need_among" 11) rfl
    exact ⟨_, fd, F, gl 5 rfl, fun s us hl => FunD.bindsA F (fun _ _ _ _ _ _ us hl => match us, hl with | [_, _, _], _ => rfl) s us hl⟩
  have D_need_among : DefAt P w K mg base 2 "need_among" ["thing", "least", "most"] (sp_need_among K) := d_need_among A_need_among B e_BadNumber D_is_whole
  have A_need_word : At K mg "need_word" ["thing"] s_need_word := by
    obtain ⟨fd, F⟩ := c.def_ 4 (d := dd "need_word" 14) rfl
    exact ⟨_, fd, F, gl 8 rfl, fun s us hl => FunD.bindsA F (fun _ _ _ _ _ _ us hl => match us, hl with | [_], _ => rfl) s us hl⟩
  have D_need_word : DefAt P w K mg base 2 "need_word" ["thing"] (sp_need_word K) := d_need_word A_need_word B e_BadWord D_is_word
  have A_primes_by : At K mg "primes_by" ["length", "colours"] s_primes_by := by
    obtain ⟨fd, F⟩ := c.def_ 8 (d := dd "primes_by" 19) rfl
    exact ⟨_, fd, F, gl 12 rfl, fun s us hl => FunD.bindsA F (fun _ _ _ _ _ _ us hl => match us, hl with | [_, _], _ => rfl) s us hl⟩
  have D_primes_by : DefAt P w K mg base 2 "primes_by" ["length", "colours"] (sp_primes_by K) := d_primes_by A_primes_by B D_divisors D_power
  have A__law_number : At K mg "_law_number" ["_law_script", "_law_k"] s__law_number := by
    obtain ⟨fd, F⟩ := c.def_ 25 (d := dd "_law_number" 43) rfl
    exact ⟨_, fd, F, gl 29 rfl, fun s us hl => FunD.bindsA F (fun _ _ _ _ _ _ us hl => match us, hl with | [_, _], _ => rfl) s us hl⟩
  have D__law_number : DefAt P w K mg base 2 "_law_number" ["_law_script", "_law_k"] (sp__law_number K) := d__law_number A__law_number B D__law_mixed
  have A_need_sizes : At K mg "need_sizes" ["length", "colours"] s_need_sizes := by
    obtain ⟨fd, F⟩ := c.def_ 2 (d := dd "need_sizes" 12) rfl
    exact ⟨_, fd, F, gl 6 rfl, fun s us hl => FunD.bindsA F (fun _ _ _ _ _ _ us hl => match us, hl with | [_, _], _ => rfl) s us hl⟩
  have D_need_sizes : DefAt P w K mg base 3 "need_sizes" ["length", "colours"] (sp_need_sizes K) := d_need_sizes A_need_sizes B gl_MOST_LETTERS gl_LETTERS D_need_among
  have A_turnings : At K mg "turnings" ["word"] s_turnings := by
    obtain ⟨fd, F⟩ := c.def_ 5 (d := dd "turnings" 15) rfl
    exact ⟨_, fd, F, gl 9 rfl, fun s us hl => FunD.bindsA F (fun _ _ _ _ _ _ us hl => match us, hl with | [_], _ => rfl) s us hl⟩
  have D_turnings : DefAt P w K mg base 3 "turnings" ["word"] (sp_turnings K) := d_turnings A_turnings B D_need_word
  have A_parts_of : At K mg "parts_of" ["word"] s_parts_of := by
    obtain ⟨fd, F⟩ := c.def_ 20 (d := dd "parts_of" 35) rfl
    exact ⟨_, fd, F, gl 24 rfl, fun s us hl => FunD.bindsA F (fun _ _ _ _ _ _ us hl => match us, hl with | [_], _ => rfl) s us hl⟩
  have D_parts_of : DefAt P w K mg base 3 "parts_of" ["word"] (sp_parts_of K) := d_parts_of A_parts_of B D_need_word D_run_from
  have A_many_rings : At K mg "many_rings" ["length", "colours"] s_many_rings := by
    obtain ⟨fd, F⟩ := c.def_ 9 (d := dd "many_rings" 20) rfl
    exact ⟨_, fd, F, gl 13 rfl, fun s us hl => FunD.bindsA F (fun _ _ _ _ _ _ us hl => match us, hl with | [_, _], _ => rfl) s us hl⟩
  have D_many_rings : DefAt P w K mg base 4 "many_rings" ["length", "colours"] (sp_many_rings K) := d_many_rings A_many_rings B D_need_sizes D_primes_by
  have A_ring_of : At K mg "ring_of" ["word"] s_ring_of := by
    obtain ⟨fd, F⟩ := c.def_ 10 (d := dd "ring_of" 22) rfl
    exact ⟨_, fd, F, gl 14 rfl, fun s us hl => FunD.bindsA F (fun _ _ _ _ _ _ us hl => match us, hl with | [_], _ => rfl) s us hl⟩
  have D_ring_of : DefAt P w K mg base 4 "ring_of" ["word"] (sp_ring_of K) := d_ring_of A_ring_of B D_turnings
  have A_is_prime : At K mg "is_prime" ["thing"] s_is_prime := by
    obtain ⟨fd, F⟩ := c.def_ 21 (d := dd "is_prime" 36) rfl
    exact ⟨_, fd, F, gl 25 rfl, fun s us hl => FunD.bindsA F (fun _ _ _ _ _ _ us hl => match us, hl with | [_], _ => rfl) s us hl⟩
  have D_is_prime : DefAt P w K mg base 4 "is_prime" ["thing"] (sp_is_prime K) := d_is_prime A_is_prime B D_is_word D_parts_of
  have A_is_ring : At K mg "is_ring" ["thing"] s_is_ring := by
    obtain ⟨fd, F⟩ := c.def_ 11 (d := dd "is_ring" 23) rfl
    exact ⟨_, fd, F, gl 15 rfl, fun s us hl => FunD.bindsA F (fun _ _ _ _ _ _ us hl => match us, hl with | [_], _ => rfl) s us hl⟩
  have D_is_ring : DefAt P w K mg base 5 "is_ring" ["thing"] (sp_is_ring K) := d_is_ring A_is_ring B D_is_word D_ring_of
  have A_need_few : At K mg "need_few" ["length", "colours"] s_need_few := by
    obtain ⟨fd, F⟩ := c.def_ 13 (d := dd "need_few" 27) rfl
    exact ⟨_, fd, F, gl 17 rfl, fun s us hl => FunD.bindsA F (fun _ _ _ _ _ _ us hl => match us, hl with | [_, _], _ => rfl) s us hl⟩
  have D_need_few : DefAt P w K mg base 5 "need_few" ["length", "colours"] (sp_need_few K) := d_need_few A_need_few B gl_MOST_RINGS e_TooMany D_need_sizes D_many_rings
  have A_need_ring : At K mg "need_ring" ["ring", "colours"] s_need_ring := by
    obtain ⟨fd, F⟩ := c.def_ 12 (d := dd "need_ring" 26) rfl
    exact ⟨_, fd, F, gl 16 rfl, fun s us hl => FunD.bindsA F (fun _ _ _ _ _ _ us hl => match us, hl with | [_, _], _ => rfl) s us hl⟩
  have D_need_ring : DefAt P w K mg base 6 "need_ring" ["ring", "colours"] (sp_need_ring K) := d_need_ring A_need_ring B gl_LETTERS e_BadRing D_need_among D_is_ring
  have A_next_ring : At K mg "next_ring" ["ring", "colours"] s_next_ring := by
    obtain ⟨fd, F⟩ := c.def_ 15 (d := dd "next_ring" 29) rfl
    exact ⟨_, fd, F, gl 19 rfl, fun s us hl => FunD.bindsA F (fun _ _ _ _ _ _ us hl => match us, hl with | [_, _], _ => rfl) s us hl⟩
  have D_next_ring : DefAt P w K mg base 7 "next_ring" ["ring", "colours"] (sp_next_ring K) := d_next_ring A_next_ring B gl_LETTERS D_need_ring D_following
  have A_all_rings : At K mg "all_rings" ["length", "colours"] s_all_rings := by
    obtain ⟨fd, F⟩ := c.def_ 16 (d := dd "all_rings" 30) rfl
    exact ⟨_, fd, F, gl 20 rfl, fun s us hl => FunD.bindsA F (fun _ _ _ _ _ _ us hl => match us, hl with | [_, _], _ => rfl) s us hl⟩
  have D_all_rings : DefAt P w K mg base 8 "all_rings" ["length", "colours"] (sp_all_rings K) := d_all_rings A_all_rings B gl_LETTERS D_need_few D_next_ring
  have A_number_of : At K mg "number_of" ["ring", "colours"] s_number_of := by
    obtain ⟨fd, F⟩ := c.def_ 17 (d := dd "number_of" 31) rfl
    exact ⟨_, fd, F, gl 21 rfl, fun s us hl => FunD.bindsA F (fun _ _ _ _ _ _ us hl => match us, hl with | [_, _], _ => rfl) s us hl⟩
  have D_number_of : DefAt P w K mg base 9 "number_of" ["ring", "colours"] (sp_number_of K) := d_number_of A_number_of B D_need_ring D_all_rings
  have A_ring_at : At K mg "ring_at" ["number", "length", "colours"] s_ring_at := by
    obtain ⟨fd, F⟩ := c.def_ 18 (d := dd "ring_at" 32) rfl
    exact ⟨_, fd, F, gl 22 rfl, fun s us hl => FunD.bindsA F (fun _ _ _ _ _ _ us hl => match us, hl with | [_, _, _], _ => rfl) s us hl⟩
  have D_ring_at : DefAt P w K mg base 9 "ring_at" ["number", "length", "colours"] (sp_ring_at K) := d_ring_at A_ring_at B e_NoRing D_all_rings D_is_whole
  have A_long_word : At K mg "long_word" ["length", "colours"] s_long_word := by
    obtain ⟨fd, F⟩ := c.def_ 22 (d := dd "long_word" 39) rfl
    exact ⟨_, fd, F, gl 26 rfl, fun s us hl => FunD.bindsA F (fun _ _ _ _ _ _ us hl => match us, hl with | [_, _], _ => rfl) s us hl⟩
  have D_long_word : DefAt P w K mg base 9 "long_word" ["length", "colours"] (sp_long_word K) := d_long_word A_long_word B gl_MOST_WORDS e_TooMany D_need_sizes D_divisors D_power D_all_rings D_is_prime
  have A_place_of : At K mg "place_of" ["text", "length", "colours"] s_place_of := by
    obtain ⟨fd, F⟩ := c.def_ 23 (d := dd "place_of" 40) rfl
    exact ⟨_, fd, F, gl 27 rfl, fun s us hl => FunD.bindsA F (fun _ _ _ _ _ _ us hl => match us, hl with | [_, _, _], _ => rfl) s us hl⟩
  have D_place_of : DefAt P w K mg base 10 "place_of" ["text", "length", "colours"] (sp_place_of K) := d_place_of A_place_of B gl_LETTERS e_BadWord D_long_word D_is_word
  have A__law_called : At K mg "_law_called" ["_law_way", "_law_things"] s__law_called := by
    obtain ⟨fd, F⟩ := c.def_ 27 (d := dd "_law_called" 45) rfl
    exact ⟨_, fd, F, gl 31 rfl, fun s us hl => FunD.bindsA F (fun _ _ _ _ _ _ us hl => match us, hl with | [_, _], _ => rfl) s us hl⟩
  have D__law_called : DefAt P w K mg base 11 "_law_called" ["_law_way", "_law_things"] (sp__law_called K) := d__law_called A__law_called B D_place_of D_next_ring D_number_of D_all_rings D_long_word D_ring_at
  have A__law_said : At K mg "_law_said" ["_law_way", "_law_things"] s__law_said := by
    obtain ⟨fd, F⟩ := c.def_ 28 (d := dd "_law_said" 46) rfl
    exact ⟨_, fd, F, gl 32 rfl, fun s us hl => FunD.bindsA F (fun _ _ _ _ _ _ us hl => match us, hl with | [_, _], _ => rfl) s us hl⟩
  have D__law_said : DefAt P w K mg base 12 "_law_said" ["_law_way", "_law_things"] (sp_k11_said K) := d__law_said A__law_said B e_BeadError D__law_called D__law_kind (fun x hx => by simp only [five, List.mem_cons, List.not_mem_nil, or_false] at hx; rcases hx with rfl | rfl | rfl | rfl | rfl; exacts [e_BadNumber.em, e_BadRing.em, e_BadWord.em, e_NoRing.em, e_TooMany.em])
  have A__law_all : At K mg "_law_all" ["_law_tried"] s__law_all := by
    obtain ⟨fd, F⟩ := c.def_ 29 (d := dd "_law_all" 47) rfl
    exact ⟨_, fd, F, gl 33 rfl, fun s us hl => FunD.bindsA F (fun _ _ _ _ _ _ us hl => match us, hl with | [_], _ => rfl) s us hl⟩
  have D__law_all : DefAt P w K mg base 13 "_law_all" ["_law_tried"] (sp__law_all K) := d__law_all A__law_all B D__law_said
  have A__law_rings_right : At K mg "_law_rings_right" ["_law_odd", "_law_bad"] s__law_rings_right := by
    obtain ⟨fd, F⟩ := c.def_ 30 (d := dd "_law_rings_right" 48) rfl
    exact ⟨_, fd, F, gl 34 rfl, fun s us hl => FunD.bindsA F (fun _ _ _ _ _ _ us hl => match us, hl with | [_, _], _ => rfl) s us hl⟩
  have D__law_rings_right : DefAt P w K mg base 14 "_law_rings_right" ["_law_odd", "_law_bad"] (sp__law_rings_right K) := d__law_rings_right A__law_rings_right B D__law_all
  have A__law_bounds_right : At K mg "_law_bounds_right" [] s__law_bounds_right := by
    obtain ⟨fd, F⟩ := c.def_ 31 (d := dd "_law_bounds_right" 49) rfl
    exact ⟨_, fd, F, gl 35 rfl, fun s us hl => FunD.bindsA F (fun _ _ _ _ _ _ us hl => match us, hl with | [], _ => rfl) s us hl⟩
  have D__law_bounds_right : DefAt P w K mg base 14 "_law_bounds_right" [] (sp__law_bounds_right K) := d__law_bounds_right A__law_bounds_right B D__law_all
  have A__law_sizes_right : At K mg "_law_sizes_right" ["_law_length", "_law_bad"] s__law_sizes_right := by
    obtain ⟨fd, F⟩ := c.def_ 32 (d := dd "_law_sizes_right" 50) rfl
    exact ⟨_, fd, F, gl 36 rfl, fun s us hl => FunD.bindsA F (fun _ _ _ _ _ _ us hl => match us, hl with | [_, _], _ => rfl) s us hl⟩
  have D__law_sizes_right : DefAt P w K mg base 14 "_law_sizes_right" ["_law_length", "_law_bad"] (sp__law_sizes_right K) := d__law_sizes_right A__law_sizes_right B D__law_all
  have A__law_last_right : At K mg "_law_last_right" ["_law_length", "_law_colours", "_law_cell"] s__law_last_right := by
    obtain ⟨fd, F⟩ := c.def_ 33 (d := dd "_law_last_right" 51) rfl
    exact ⟨_, fd, F, gl 37 rfl, fun s us hl => FunD.bindsA F (fun _ _ _ _ _ _ us hl => match us, hl with | [_, _, _], _ => rfl) s us hl⟩
  have D__law_last_right : DefAt P w K mg base 14 "_law_last_right" ["_law_length", "_law_colours", "_law_cell"] (sp__law_last_right K) := d__law_last_right A__law_last_right B D_many_rings D__law_all
  have A_law : At K mg "law" ["_law_script"] s_law := by
    obtain ⟨fd, F⟩ := c.def_ 34 (d := dd "law" 52) rfl
    exact ⟨_, fd, F, gl 38 rfl, fun s us hl => FunD.bindsA F (fun _ _ _ _ _ _ us hl => match us, hl with | [_], _ => rfl) s us hl⟩
  have D_law : DefAt P w K mg base 15 "law" ["_law_script"] (sp_law K) := d_law A_law B D__law_bounds_right D__law_number D__law_last_right D__law_rings_right D__law_sizes_right
  exact D_law
end Bd
open PySem PySem.W PySem.Calls PyProof.Rows
set_option maxRecDepth 100000 in
set_option maxHeartbeats 0 in
theorem PySem.Challenge.cw_beadrings_k11_refused_holds : PySem.Challenge.rw_beadrings_k11_refused.Holds := by
  w_on; o_law
  refine HandSHeadRun.head_any (r := OpenLaw.row PySem.Challenge.rw_beadrings_k11_refused) (q := view (OpenLaw.row PySem.Challenge.rw_beadrings_k11_refused).prog [52]) (H := Bd.hk) (ob := Bd.ob) (M := 6000) (loose := Bd.loose) (d := HandSHeadRun.topDef (OpenLaw.row PySem.Challenge.rw_beadrings_k11_refused).prog 52) (kwd := []) Bd.ob_eq
    (by kernel_rfl) (fun s => by kernel_rfl) Bd.run (by kernel_rfl) (by kernel_rfl) (by kernel_rfl) (by rfl) (by first | assumption | decide +kernel) (by decide +kernel) ⟨rfl, rfl, rfl, rfl, rfl, by decide +kernel⟩ ?hw ?hc
  case hw => w_witness2
  case hc =>
    refine Bd.walk_end (l := PySem.Challenge.rw_beadrings_k11_refused) (n := 63) (k := 15) (x := "_law_script") rfl (by decide) (by kernel_rfl) ⟨rfl, by decide, by decide⟩ ?F
    intro w mg h Y G
    obtain ⟨K, KX, c, cb⟩ := Y
    exact ⟨K, Bd.sp_law K, KX, (by kernel_rfl), fun H a ns hl _ hS => Bd.law_start hl hS, fun base hK hN => Bd.facts hK hN c cb⟩
