import PyProof.Rows.All
import Wide.All
import OpenK.AllK
import Wide.FinOn
import HandS.ForMost
import HandS.Flow
import HandS.Style
import HandS.MakeKwOnly
import HandS.DictComp
import HandS.FStr
import HandS.IsInst
import HandS.OwnEq
import HandS.RaiseMore
import HandS.EndBits
import HandS.Evl
import PyProof.Rows.StrRev
import PyProof.ReprRoads
import PyProof.CollectStr
import HandS.Exc
import HandS.ExcInit
import HandS.WordsExc
import HandS.CallSlots
import HandS.More
import KE.KExcInit
import KE.KExcIs
import KE.KExcHand
import HandS.Wide
import HandS.Small
import HandS.Defaults
import HandS.StrMore
import KE.KUnpackStar
import HandS.TupAny
import HandS.SortKw
import PyProof.MinMaxWalk
import PyProof.WalkInts
import PySem.Challenge.RW_cellranks_k05_lists_that_are_ragged
import PyProof.Rows.StrDigitsNeg
import KE.KExcLine
import HandS.ExcIs
set_option Elab.async false
set_option linter.all false
set_option maxRecDepth 100000
set_option maxHeartbeats 4000000
/-! Cr0: what every law here uses: defs by place, the ghost part of the heap. -/
namespace Cr
open PySem L2

structure FnAt (K : PySem.W.Frag) (mg : Str → Option Value) (x qual : Str) (st : Stmt) (ps : List Str) where
  f : Addr
  fd : FuncData
  F : Fun K x qual st f fd
  b : Binds K fd ps []
  mg : mg x = some (.ref f)
structure MtAt (K : PySem.W.Frag) (C : Addr) (x qual : Str) (st : Stmt) (ps : List Str) where
  f : Addr
  fd : FuncData
  F : Fun K x qual st f fd
  b : Binds K fd ps []
  m : Meth K C x f
structure ClAt (K : PySem.W.Frag) (mg : Str → Option Value) (x : Str) (C fI : Addr) : Prop where
  mkk : Mk K C fI
  cl : Cls K C
  mg : mg x = some (.ref C)

/-! ### the ghost part: G stands in H -/
theorem Same.new {G H : Hp} {p : Addr} {o : HO} (s : Same G H) (h : H p = none) : Same G (upd H p o) := fun a u e => by
  rw [upd_ne (ne_of_none (s a u e) h)]
  exact s a u e
theorem Same.put {G H : Hp} {p : Addr} {o : HO} (s : Same G H) (h : G p = none) : Same G (upd H p o) := fun a u e => by
  rw [upd_ne (ne_of_none e h)]
  exact s a u e
theorem Same.add {G H : Hp} {p : Addr} {o : HO} (s : Same G H) (h : H p = some o) : Same (upd G p o) H := fun a u e => by
  by_cases q : a = p
  · subst q
    rw [upd_same] at e
    cases e
    exact h
  · rw [upd_ne q] at e
    exact s a u e
theorem Same.two {G H : Hp} {p : Addr} {o : HO} (s : Same G H) : Same (upd G p o) (upd H p o) := fun a u e => by
  by_cases q : a = p
  · subst q
    rw [upd_same] at e ⊢
    exact e
  · rw [upd_ne q] at e ⊢
    exact s a u e
theorem same_up {G : Hp} {p : Addr} {o : HO} (h : G p = none) : Same G (upd G p o) := fun a u e => by
  rw [upd_ne (ne_of_none e h)]
  exact e
theorem Same.lst {G H : Hp} {a : Addr} {u : HO} (s : Same G H) (h : Rd G a u) : Rd H a u := by
  rcases h with h | ⟨o, h⟩
  · exact .inl (s _ _ h)
  · exact .inr ⟨o, s _ _ h⟩
theorem Same.sqL {K : PySem.W.Frag} {G H : Hp} {a : Addr} {xs : List V} (s : Same G H) (h : SqL K G a xs) : SqL K H a xs := s.seq h
theorem Same.sqT {K : PySem.W.Frag} {G H : Hp} {a : Addr} {xs : List V} (s : Same G H) (h : SqT K G a xs) : SqT K H a xs := by
  rcases h with h | h
  · exact .inl (Same.lst s h)
  · exact .inr h
theorem pss_cut {X : Cx} {st : Stmt} {rest : List Stmt} {t u : TS} (h1 : PS X st t) (h2 : PSs X rest u) : PSs X (st :: rest) (Evl.tCut t u) := Evl.pss_cut h1 h2
theorem dpInts {K : PySem.W.Frag} {H : Hp} : ∀ ns : List Int, DpAll K H (ns.map V.int) (ns.map PyData.int)
  | [] => .nil
  | n :: r => .cons (.int n) (dpInts r)
theorem canInts : ∀ ns : List Int, PyData.canLayAll0 (ns.map PyData.int) = true
  | [] => rfl
  | n :: r => by simp [PyData.canLayAll0, PyData.canLay0, canInts r]
theorem depInts : ∀ ns : List Int, PyData.depthAll (ns.map PyData.int) ≤ 1
  | [] => by simp [PyData.depthAll]
  | n :: r => by have := depInts r; simp [PyData.depthAll, PyData.depth]; omega
theorem shInts (ns : List Int) : SeqAt.shaped (.list (ns.map PyData.int)) = true := by
  have h1 := canInts ns
  have h2 := depInts ns
  unfold SeqAt.shaped
  rw [show PyData.canLay0 (.list (ns.map PyData.int)) = true by rw [PyData.canLay0]; exact h1]
  simp [PyData.depth]
  omega
theorem fmod_rng (x : Int) {n : Int} (h : 0 < n) : 0 ≤ x.fmod n ∧ x.fmod n < n := ⟨Int.fmod_nonneg_of_pos _ h, Int.fmod_lt_of_pos _ h⟩
theorem ofL {K : PySem.W.Frag} {H : Hp} {a : Addr} {xs : List V} (h : H a = some (.lst xs)) : SqL K H a xs := .inl (.inl h)
theorem ofT {K : PySem.W.Frag} {H : Hp} {a : Addr} {xs : List V} (h : H a = some (.tup xs)) : SqT K H a xs := .inl (.inl h)
end Cr

/-! Cr1: rules that the layer lacks. -/
namespace Cr
open PySem PySem.Spec PyProof.Rows L2

/-! ### s[::-1] -/
def revS (z : Str) : Str := ⟨z.cps.toList.reverse.toArray⟩
theorem revS_length (z : Str) : (revS z).length = z.length := by simp [revS, Str.length]
def tRevS (te : TE) : TE := fun σ H Q => te σ H fun x H1 => ∃ z : Str, x = .str z ∧ z.length ≤ sizeLine ∧ Q (.str (revS z)) H1
theorem rev_picked (z : Str) : ((Builtin.Str.strSliceIndices none none (-1) z.length).filterMap (z.cps[·]?)).toArray = z.cps.toList.reverse.toArray := by
  rw [picked_rev]
  have e : z.length = z.cps.size := rfl
  rw [e, PySem.W.krv_range, List.filterMap_reverse, PySem.W.krv_all]
theorem pe_revS {X : Cx} {e : Expr} {te : TE} {k : Nat} {p1 p2 p3 pos : Pos} (he : PE X e te) : PE X (.Subscript e (.Slice none none (some (.UnaryOp .USub (.Constant (.int 1) k p1) p2)) p3) pos) (tRevS te) := by
  refine ⟨fun pins s σ H Q I h => ?_⟩
  refine Subscript_ (thn (he.run pins s σ H _ I h) fun v s1 ⟨x, H1, I1, r1, q1⟩ => ?_)
  obtain ⟨z, ex, hz, q⟩ := q1
  subst ex
  obtain ⟨t, rfl⟩ := r1
  have hst : PO X (some (.UnaryOp .USub (.Constant (.int 1) k p1) p2)) (tPart (tUn (rU fun i => .int (-i)) (tC (.int 1)))) := po_some (pe_un un_neg pe_int)
  refine wpAny_Slice (thn (po_none.run pins s1 σ H1 (fun o H2 => o = none ∧ H2 = H1) I1 ⟨rfl, rfl⟩) fun vl s2 ⟨l, H2, I2, pl, el, e2⟩ => ?_)
  subst el e2
  refine thn (po_none.run pins s2 σ H2 (fun o H3 => o = none ∧ H3 = H2) I2 ⟨rfl, rfl⟩) fun vu s3 ⟨u, H3, I3, pu, eu, e3⟩ => ?_
  subst eu e3
  refine thn (hst.run pins s3 σ H3 (fun o H4 => o = some (-1) ∧ H4 = H3) I3 ⟨1, rfl, -1, rfl, rfl, rfl⟩) fun vs s4 ⟨o, H4, I4, ps, eo, e4⟩ => ?_
  subst eo e4
  have I5 : Inv X pins σ H4 { s4 with heap := s4.heap.push { cls := .type "slice", data := .fields #[vl, vu, vs] } } := I4.kept (t' := s4.toks) fun b ob q => Heap.get?_push_of_some _ q
  obtain ⟨l, rfl, hl⟩ := IsPart.raw pl
  obtain ⟨u, rfl, hu⟩ := IsPart.raw pu
  obtain ⟨st, rfl, hst'⟩ := IsPart.raw ps
  have hl0 : l.map (·.1) = none := hl
  have hu0 : u.map (·.1) = none := hu
  have hs0 : st.map (·.1) = some (-1) := hst'
  show wpAny (model X.prog X.w) X.A (subscriptTail e (.Slice none none (some (.UnaryOp .USub (.Constant (.int 1) k p1) p2)) p3) (.str z t) (.ref s4.heap.objs.size)) (EP X pins σ Q) X.xe { s4 with heap := s4.heap.push { cls := .type "slice", data := .fields #[partValue l, partValue u, partValue st] } }
  refine tail_any (ops := [.str z t, .ref s4.heap.objs.size]) (typeIs_str _ _ _) F.slot_str_getitem.lookup ?_ (by with_unfolding_all rfl)
  refine wpAny_getItem_str_slice (l := l) (u := u) (st := st) ⟨_, Heap.get?_push_size _ rfl, rfl, rfl⟩ (by rw [hs0]; rfl) ?_
  have key : Made.post (if (((st.map (·.1)).getD 1 == 1) && (Builtin.Str.strSliceIndices (l.map (·.1)) (u.map (·.1)) ((st.map (·.1)).getD 1) z.length).length == z.length) = true then Made.val (.str z t)
    else Made.str ⟨((Builtin.Str.strSliceIndices (l.map (·.1)) (u.map (·.1)) ((st.map (·.1)).getD 1) z.length).filterMap (z.cps[·]?)).toArray⟩) (EP X pins σ Q) { s4 with heap := s4.heap.push { cls := .type "slice", data := .fields #[partValue l, partValue u, partValue st] } } := by
    rw [hl0, hu0, hs0]
    rw [if_neg (by rw [show (((some (-1) : Option Int)).getD 1 == 1) = false from rfl, Bool.false_and]; exact Bool.false_ne_true)]
    show Made.post (Made.str ⟨((Builtin.Str.strSliceIndices none none (-1) z.length).filterMap (z.cps[·]?)).toArray⟩) _ _
    rw [rev_picked]
    exact ⟨by have := revS_length z; unfold revS at this; rw [this]; exact hz, .str _, H4, I5.tok _, ⟨_, rfl⟩, q⟩
  exact key

/-! ### sorted(text) -/
def signs (z : Str) : List Str := z.cps.toList.map fun c => ⟨#[c]⟩
theorem signs_len (z : Str) : (signs z).length = z.length := by simp [signs, Str.length]
theorem call_sortedT {X : Cx} (hcalm : X.calm = true) : CallR X (.builtin "sorted") (fun xs H Q => ∃ z : Str, xs = [.str z] ∧ z.length < 64 ∧
    ∀ ys p, ys.Perm (signs z) → sortedS ys = true → H p = none → Q (.ref p) (upd H p (.lst (ys.map V.str)))) := by
  intro pins s σ H xs us Q I r q
  obtain ⟨z, ex, h64, q⟩ := q
  subst ex
  obtain ⟨u, eu, rx⟩ := vals1 r
  subst eu
  obtain ⟨t, rfl⟩ := rx
  have hsz : z.cps.size ≤ sizeLine := by
    have : z.length = z.cps.size := rfl
    rw [← this, sizeLine_eq]; omega
  refine Calls.call_function_entry PyProof.Rows.kind_sorted PyProof.Rows.plain_sorted PyProof.Rows.entry_sorted (PyProof.Rows.args_sorted1 _) ?_
  unfold Builtin.«sorted»
  refine wpAny_bind (m := checkCount "sorted" 1 1 _) (wpAny_pure ?_)
  refine wpAny_bind (PySem.wpAny_collect_str (A := X.A.in1) (I.ok.hd hcalm) z t (fun s' acc hk hg hd ho hacc => ?_) hsz)
  have hal : acc.toList.length = (signs z).length := by rw [Array.length_toList, hacc.1, signs_len]; rfl
  have hS : StrsAre acc.toList (signs z) := strs_at hal fun j v e => by
    obtain ⟨c, x, e1, e2⟩ := hacc.2 j v (by rw [← Array.getElem?_toList]; exact e)
    refine ⟨⟨#[c]⟩, x, ?_, e2⟩
    unfold signs
    rw [List.getElem?_map, Array.getElem?_toList, e1]
    rfl
  obtain ⟨h', g', d', tk, os'⟩ := s'
  have e0 : os' = s.os := ho
  have e1 : g' = s.gens := hg
  have e2 : d' = s.drawn := hd
  subst e0 e1 e2
  have I1 : Inv X pins σ H ⟨h', s.gens, s.drawn, tk, s.os⟩ := I.kept hk
  refine wpAny_bind (wpAny_newList ?_ (by rw [hal, signs_len, sizeLine_eq]; omega))
  have hoL : (h'.push (seqObj "list" acc.toList.toArray 0)).get? h'.objs.size = some (seqObj "list" acc.toList.toArray 0) := Heap.get?_push_size _ rfl
  show wpAny _ _ _ _ _ ⟨h'.push (seqObj "list" acc.toList.toArray 0), s.gens, s.drawn, tk, s.os⟩
  refine wpAny_bind (wpAny_holding (wpAny_call_entry PyProof.Rows.slot_list_sort ⟨_, hoL, rfl⟩ PyProof.Rows.entry_list_sort
    (list_sort_treeK strKind_oneLt (s := ⟨h'.push (seqObj "list" acc.toList.toArray 0), s.gens, s.drawn, tk, s.os⟩) hoL hS.keysOf (fun v₁ v₂ rest e => keyKind_strs (by rw [← e]; exact hS)) (by rw [hal, signs_len]; exact h64) fun st' hp hs => ⟨_, rfl, ?_⟩)
    (PyProof.Rows.args_list_sort _)))
  obtain ⟨ys, g1, g2, g3⟩ := sorted_out_str hS hp hs
  obtain ⟨e', he'⟩ := PyProof.Rows.sortedHeap_at (vs := acc.toList) (out := (arrOf st').map (·.2)) hoL
  have hlen : (ys.map V.str).length ≤ sizeLine := by
    rw [List.length_map, g2.length_eq, signs_len]
    exact Nat.le_trans (Nat.le_of_lt h64) (by decide)
  refine wpAny_pure ⟨_, rfl, .ref h'.objs.size, upd H h'.objs.size (.lst (ys.map V.str)), I1.laid (t' := tk) (fun b u e => ?_) (Nat.le_refl _)
    (show ObjOk X.prog X.w _ _ _ (.lst (ys.map V.str)) from ⟨hlen, ((arrOf st').map (·.2)).toList, e', vals_of_strs g1, by rw [Array.toArray_toList]; exact he'⟩), rfl, q ys _ g2 g3 (I1.hok.fresh (Nat.le_refl _))⟩
  have hb : b < h'.objs.size := Heap.lt_size e
  rw [PyProof.Rows.sortedHeap_old (Nat.ne_of_lt hb) (by rw [size_push']; exact Nat.lt_succ_of_lt hb)]
  exact Heap.get?_push_of_some _ e

/-! ### repr(data), where no repr runs around -/
theorem call_reprD {X : Cx} (hg : X.A.guards = some []) (hu : X.A.units + 66 < cLine) : CallR X (.builtin "repr") (fun xs H Q => ∃ (a : Addr) (d : PyData), xs = [.ref a] ∧ Dp X.K H (.ref a) d ∧ d.showable = true ∧ d.hasDict = false ∧ d.depth ≤ 64 ∧ d.shown.length ≤ sizeLine ∧ Q (.str d.shown) H) := by
  intro pins s σ H xs us Q I r h
  obtain ⟨a, d, ex, hd, hs, hnd, hdep, hsz, q⟩ := h
  subst ex
  obtain ⟨u, eu, rx⟩ := vals1 r
  subst eu
  cases rx
  obtain ⟨as, r1⟩ := Dp.reads I d _ _ hd rfl
  refine repr_of_reads' r1 hs (fun z => by rw [hnd] at z; cases z) hg (by omega) (fun b o e => e) (fun h' u tk hk => ⟨.str d.shown, H, I.kept (t' := tk) hk, ⟨u, rfl⟩, q⟩) hsz

/-! ### defs that are only run where no repr runs around -/
structure FnG (P : Program) (w : World) (K : PySem.W.Frag) (mg : Str → Option Value) (base : Heap) (CX : CXT) (k : Nat) (f : Addr) (fd : FuncData) (ps : List Str) (sp : Sp) : Prop where
  len : ∀ vs H Q E, sp vs H Q E → vs.length = ps.length
  run : ∀ (A : Around) (outer : List Env) (s : Shared) (H : Hp) (args : Args) (us : List Value) (vs : List V) (Q : VK) (E : XK), Room k A → A.guards = some [] → Env0 P w K mg base A outer s H → BindsTo s fd args (ps.zip us) → Vals vs us → sp vs H Q E →
    codeAny (model P w) A (.call (.ref f) args) (CR CX outer P w H s Q E) s
/-- what a body's end says of the call -/
theorem CE.of {X : Cx} {σ' : L2.St} {H' : Hp} {v : V} {u : Value} {s' : Shared} {Q : VK} (J : Inv X [] σ' H' s') (h0 : X.fs = frs X.outer) (hx : X.ex = []) (rv : RelV v u) (q : Q v H') : CE X.outer X.prog X.w X.H_0 X.s_0 Q u s' := by
  have b := J.base
  rw [hx] at b
  exact ⟨v, H', J.os, J.bare, b, J.hok, rv, q⟩
theorem okG {P : Program} {w : World} {K : PySem.W.Frag} {mg : Str → Option Value} {base : Heap} {x qual : Str} {st : Stmt} {f : Addr} {fd : FuncData} {N ps : List Str} {k : Nat} {sp : Sp}
    (F : Fun K x qual st f fd) (S : FnScope N ps (defScope st)) (hlen : ∀ vs H Q E, sp vs H Q E → vs.length = ps.length)
    (body : ∀ cdv A outer s H vs Q E, Room k (A.deeper (envOfC qual (defScope st) s.heap.objs.size f cdv)) → A.guards = some [] → sp vs H Q E →
      ∃ t, PSs (cxOf CX0 P w K mg base N qual (defScope st) f cdv A outer s H E).nox (defBody st) t ∧ t ⟨fun _ H' => Q .non H', Q, fun _ _ => False, fun _ _ => False⟩ (start N vs) H) :
    FnG P w K mg base CX0 (k + 1) f fd ps sp := by
  obtain ⟨oc, od, kV, doc, pm, an, cd, ct, osl, rfl, look, hc⟩ := F.ex
  refine ⟨hlen, fun A outer s H args us vs Q E room grd env bind rel want => ?_⟩
  have keep : ∀ b o, base.get? b = some o → s.heap.get? b = some o := fun b o e => (env.bs b o e).1
  have KX := env.mod.kin.keeps keep
  have par : ∀ y ∈ ps.zip us, (defScope st).names.lookup y.1 = some .local ∨
      ((defScope st).names.lookup y.1 = some .cell ∧ ((cellsFrom (s.heap.objs.size + 1) (defScope st).names []).lookup y.1).isSome = true) := by
    rintro ⟨n, v⟩ hy
    exact (S.par n (List.of_mem_zip hy).1).imp id fun q => ⟨q, PySem.W.cellsFrom_some _ _ _ (.inl q)⟩
  refine codeAny_call_function room.depth (KX _ _ look) rfl S.co S.gen rfl (PySem.W.codeRec_of KX hc) (bind _ _ _ _ ?_)
  refine wpAny_newFunctionEnv_cells S.kind par fun e he s1 x1 => ?_
  subst he
  obtain ⟨t, d, q⟩ := body cd A outer s H vs Q E (room.deeper _) grd want
  refine ⟨(env.mod.nolimit.keeps keep).keeps x1.toInCall.keep, codeAny_func (wpAny_mono (d.nox.run [] s1 _ H _ (inv_start S room.hd env (hlen _ _ _ _ want) rel x1) q) (fun fl s' hs => ?_) fun _ _ z => z)⟩
  cases fl with
  | ret u => let ⟨_, _, _, J, rv, z⟩ := hs; exact CE.of J rfl rfl rv z
  | next => let ⟨_, _, J, z⟩ := hs; exact CE.of (v := V.non) J rfl rfl rfl z
  | brk => exact hs.elim fun _ z => z.elim fun _ z => z.2.elim
  | cont => exact hs.elim fun _ z => z.elim fun _ z => z.2.elim
theorem FnG.of {P : Program} {w : World} {K : PySem.W.Frag} {mg : Str → Option Value} {base : Heap} {CX : CXT} {k : Nat} {f : Addr} {fd : FuncData} {ps : List Str} {sp : Sp} (F : FnOk P w K mg base CX k f fd ps sp) : FnG P w K mg base CX k f fd ps sp :=
  ⟨F.len, fun A outer s H args us vs Q E hr _ => F.run A outer s H args us vs Q E hr⟩

/-! ### the law's end by FnG: the script is tracked, locked, unless it is one of the written things -/
section
variable {P : Program} {w : World} {K : PySem.W.Frag} {a : Addr} {vs : List Value} {ns : List Int} {h : Heap}
def scrO (vs : List Value) : Obj := { cls := .type "list", data := .seq vs.toArray }
def scr (K : PySem.W.Frag) (a : Addr) (vs : List Value) (ns : List Int) : Hp := fun b => if b = a ∧ K.lookup a = none then some (.frz (scrO vs) (.lst (ns.map V.int))) else none
theorem scr_some {b : Addr} {u : HO} (e : scr K a vs ns b = some u) : b = a ∧ K.lookup a = none ∧ u = .frz (scrO vs) (.lst (ns.map V.int)) := by
  unfold scr at e
  split at e
  · next c => cases e; exact ⟨c.1, c.2, rfl⟩
  · cases e
theorem scr_only : Only (scr K a vs ns) := fun b => by
  cases e : scr K a vs ns b with
  | none => exact .inl rfl
  | some u => obtain ⟨_, _, rfl⟩ := scr_some e; exact .inr ⟨_, _, rfl⟩
theorem scr_ok (ha : h.get? a = some (scrO vs)) (hi : IntsAre vs ns) (hl : ns.length ≤ sizeLine) : HOk P w (scr K a vs ns) h := fun b u e => by
  obtain ⟨rfl, _, rfl⟩ := scr_some e
  exact ⟨ha, by rw [List.length_map]; exact hl, vs, _, vals_ints hi, ha⟩
theorem scr_sq (KX : K.In h) (ha : h.get? a = some (scrO vs)) (hi : IntsAre vs ns) (hl : ns.length ≤ sizeLine) : SqL K (scr K a vs ns) a (ns.map V.int) := by
  cases e : K.lookup a with
  | none => exact .inl (.inr ⟨scrO vs, if_pos ⟨rfl, e⟩⟩)
  | some o =>
    obtain rfl : scrO vs = o := Option.some.inj (ha.symm.trans (KX a o e))
    exact .inr ⟨_, vs.toArray, _, e, rfl, rfl, rfl, by rw [List.size_toArray, hi.length]; exact hl, by simpa using vals_ints hi⟩
theorem scr_dict {b : Addr} {o : Obj} {es : Array DictEntry} {ep : Nat} (ha : h.get? a = some (scrO vs)) (e : h.get? b = some o) (d : o.data = .dict es ep) : scr K a vs ns b = none := by
  cases q : scr K a vs ns b with
  | none => rfl
  | some u =>
    obtain ⟨rfl, _⟩ := scr_some q
    obtain rfl := Option.some.inj (ha.symm.trans e)
    cases d
theorem scr_free (b : Addr) (o : Obj) (e : K.lookup b = some o) : scr K a vs ns b = none := by
  cases q : scr K a vs ns b with
  | none => rfl
  | some u =>
    obtain ⟨rfl, n, _⟩ := scr_some q
    rw [n] at e
    cases e
theorem endG {l : PySem.W.OpenLaw} {n k : Nat} {q : Program} {loose : List Str} {XP : (Str → Option Value) → Heap → Prop} {YP : World → Heap → Prop} {d : DefRec} {K : Params → PySem.W.Frag} {sp : World → Sp} {x : Str}
    (hn : l.most = some n) (hn2 : n ≤ sizeLine) (hdf : d.params.defaults = []) (room : Room k callerA) (hY : ∀ w h, YP w h → (K w.params).In h)
    (F : ∀ w mg fa h, (K w.params).In h → h.Ns mainGlobals mg → mg d.name = some (.ref fa) →
      ∃ fd : FuncData, (∀ s u, BindsTo s fd ⟨[u], []⟩ [(x, u)]) ∧ ∀ base : Heap, (K w.params).In base → base.Ns mainGlobals mg → FnG l.prog w (K w.params) mg base CX0 k fa fd [x] (sp w))
    (hsp : ∀ (w : World) (H : Hp) (a : Addr) (ns : List Int), ns.length ≤ n → Only H → SqL (K w.params) H a (ns.map V.int) → sp w [.ref a] H (fun v _ => v = .bl true) fun _ _ _ => False) :
    PySem.W.WalkO q loose XP YP l.row.toRowW d [] (fun f vs => PySem.call f vs) := by
  refine Att.attach_callB hn hdf fun w s₀ s₁ mg mb fa o pm cd doc a vs ns G Y ho hd hcd hmg hobj hints hlen _ hg => ?_
  have KX := hY w _ Y
  have hl : ns.length ≤ sizeLine := Nat.le_trans hlen hn2
  obtain ⟨fd, hb, hF⟩ := F w mg fa _ KX G.T.g hmg
  have hobj : s₁.heap.get? a = some (scrO vs) := hobj
  generalize hH : scr (K w.params) a vs ns = H
  have ns' : ∀ {b : Addr} {m : Str → Option Value}, s₁.heap.Ns b m → (hidT s₁.heap H).Ns b m := fun ⟨o, es, ep, e, d, r⟩ => ⟨o, es, ep, hidT_get e (hH ▸ scr_dict hobj e d), d, r⟩
  have kin : (K w.params).In (hidT s₁.heap H) := fun b o e => hidT_get (KX b o e) (hH ▸ scr_free b o e)
  have okH : HOk l.prog w H s₁.heap := hH ▸ scr_ok hobj hints hl
  have only : Only H := hH ▸ scr_only
  have env : Env0 l.prog w (K w.params) mg (hidT s₁.heap H) callerA [] s₁ H := by
    refine ⟨rfl, ⟨kin, ns' G.T.g, ⟨mb, ns' G.T.b, G.T.builtins⟩, ?_⟩, fun b o e => of_hidT e, Nat.le_of_eq (hidT_size _ _), trivial, fun b z => (nomatch z), okH, .of_eq hg⟩
    obtain ⟨mc, h1, h2⟩ := G.T.nolimit
    exact ⟨mc, ns' h1, h2⟩
  have sq : SqL (K w.params) H a (ns.map V.int) := hH ▸ scr_sq KX hobj hints hl
  refine codeAny_mono ((hF _ kin (ns' G.T.g)).run callerA [] s₁ H ⟨[.ref a], []⟩ [.ref a] [.ref a] _ _ room rfl env (hb s₁ (.ref a)) (.cons rfl .nil) (hsp w H a ns hlen only sq)) fun r s' z => ?_
  match r, z with
  | .error _, z => exact False.elim z
  | .ok .next, z => exact False.elim z
  | .ok .brk, z => exact False.elim z
  | .ok .cont, z => exact False.elim z
  | .ok (.ret u), ⟨v, H', os, bare, un, ok', rel, qv⟩ =>
    have ev : v = .bl true := qv
    subst ev
    obtain rfl : u = Value.bool true := rel
    refine ⟨rfl, OldK.of_keep fun b o e => ?_, os, bare⟩
    rcases only b with z | ⟨ob, xs, z⟩
    · exact un.keep b o e z (fun y => nomatch y) (fun y => nomatch y)
    · have z2 := un.frzs b ob _ z
      have e1 := (okH b _ z).1
      rw [e] at e1
      cases e1
      exact (ok' b _ z2).1
end

/-- e.f, the written part named -/
theorem pe_fldK {X : Cx} (K : PySem.W.Frag) (hK : X.K = K) {e : Expr} {f : Str} {pos : Pos} {ta : TE} (he : PE X e ta) (hb : attributeBase e f X.env (eval e X.env) = eval e X.env) : PE X (.Attribute e f pos) (tFld K ta f) := by
  subst hK
  exact pe_fld he hb
end Cr

/-! CrE: the end, with the dict of modules among what stays. -/
namespace Cr
open PySem PySem.Spec PyProof.Rows L2
theorem endS {l : PySem.W.OpenLaw} {n k : Nat} {q : Program} {loose : List Str} {XP : (Str → Option Value) → Heap → Prop} {YP : World → Heap → Prop} {d : DefRec} {K : Params → PySem.W.Frag} {sp : World → Sp} {x : Str}
    (imp : importsNone q = true) (hn : l.most = some n) (hn2 : n ≤ sizeLine) (hdf : d.params.defaults = []) (room : Room k callerA) (hY : ∀ w h, YP w h → (K w.params).In h)
    (F : ∀ w mg fa h, (K w.params).In h → h.Ns mainGlobals mg → mg d.name = some (.ref fa) →
      ∃ fd : FuncData, (∀ s u, BindsTo s fd ⟨[u], []⟩ [(x, u)]) ∧ ∀ base : Heap, (K w.params).In base → base.Ns mainGlobals mg → (∃ o, base.get? sysModules = some o) → FnG l.prog w (K w.params) mg base CX0 k fa fd [x] (sp w))
    (hsp : ∀ (w : World) (H : Hp) (a : Addr) (ns : List Int), ns.length ≤ n → Only H → SqL (K w.params) H a (ns.map V.int) → sp w [.ref a] H (fun v _ => v = .bl true) fun _ _ _ => False) :
    PySem.W.WalkO q loose XP YP l.row.toRowW d [] (fun f vs => PySem.call f vs) := by
  refine Att.attach_callB hn hdf fun w s₀ s₁ mg mb fa o pm cd doc a vs ns G Y ho hd hcd hmg hobj hints hlen _ hg => ?_
  have KX := hY w _ Y
  have hl : ns.length ≤ sizeLine := Nat.le_trans hlen hn2
  obtain ⟨fd, hb, hF⟩ := F w mg fa _ KX G.T.g hmg
  have hobj : s₁.heap.get? a = some (scrO vs) := hobj
  generalize hH : scr (K w.params) a vs ns = H
  have ns' : ∀ {b : Addr} {m : Str → Option Value}, s₁.heap.Ns b m → (hidT s₁.heap H).Ns b m := fun ⟨o, es, ep, e, d, r⟩ => ⟨o, es, ep, hidT_get e (hH ▸ scr_dict hobj e d), d, r⟩
  have kin : (K w.params).In (hidT s₁.heap H) := fun b o e => hidT_get (KX b o e) (hH ▸ scr_free b o e)
  have okH : HOk l.prog w H s₁.heap := hH ▸ scr_ok hobj hints hl
  have only : Only H := hH ▸ scr_only
  have env : Env0 l.prog w (K w.params) mg (hidT s₁.heap H) callerA [] s₁ H := by
    refine ⟨rfl, ⟨kin, ns' G.T.g, ⟨mb, ns' G.T.b, G.T.builtins⟩, ?_⟩, fun b o e => of_hidT e, Nat.le_of_eq (hidT_size _ _), trivial, fun b z => (nomatch z), okH, .of_eq hg⟩
    obtain ⟨mc, h1, h2⟩ := G.T.nolimit
    exact ⟨mc, ns' h1, h2⟩
  have sq : SqL (K w.params) H a (ns.map V.int) := hH ▸ scr_sq KX hobj hints hl
  have smod : ∃ o, (hidT s₁.heap H).get? sysModules = some o := by
    obtain ⟨ms, h1, _⟩ := (G.T.seer imp).mods
    obtain ⟨o, es, ep, e, _⟩ := ns' h1
    exact ⟨o, e⟩
  refine codeAny_mono ((hF _ kin (ns' G.T.g) smod).run callerA [] s₁ H ⟨[.ref a], []⟩ [.ref a] [.ref a] _ _ room rfl env (hb s₁ (.ref a)) (.cons rfl .nil) (hsp w H a ns hlen only sq)) fun r s' z => ?_
  match r, z with
  | .error _, z => exact False.elim z
  | .ok .next, z => exact False.elim z
  | .ok .brk, z => exact False.elim z
  | .ok .cont, z => exact False.elim z
  | .ok (.ret u), ⟨v, H', os, bare, un, ok', rel, qv⟩ =>
    have ev : v = .bl true := qv
    subst ev
    obtain rfl : u = Value.bool true := rel
    refine ⟨rfl, OldK.of_keep fun b o e => ?_, os, bare⟩
    rcases only b with z | ⟨ob, xs, z⟩
    · exact un.keep b o e z (fun y => nomatch y) (fun y => nomatch y)
    · have z2 := un.frzs b ob _ z
      have e1 := (okH b _ z).1
      rw [e] at e1
      cases e1
      exact (ok' b _ z2).1
end Cr

/-! Cr2: == and != where an own __eq__ answers, str() by an own __str__. -/
namespace Cr
open PySem PySem.Spec PyProof.Rows L2

/-- what the text says of a class with an own ==: f the def; ne the inherited != -/
structure OwnE (K : PySem.W.Frag) (C f : Addr) : Prop where
  eq : PySem.W.findIn K (.ref C) "__eq__" = some (some (.ref f))
  fn : PySem.W.isFn K (.ref f) = true
  ne : PySem.W.findIn K (.ref C) "__ne__" = some (some (.builtin "object.__ne__"))
  ob : PySem.W.mroIn K C (.type "object") = some true
  noL : PySem.W.mroIn K C (.type "list") = some false
  noT : PySem.W.mroIn K C (.type "tuple") = some false
  noD : PySem.W.mroIn K C (.type "dict") = some false
  noS : PySem.W.mroIn K C (.type "str") = some false
  noI : PySem.W.mroIn K C (.type "int") = some false
  noB : PySem.W.mroIn K C (.type "bool") = some false
  noN : PySem.W.mroIn K C (.type "NoneType") = some false

section
variable {prog : Program} {w : World} {A : Around} {E : Value → Shared → Prop} {s : Shared} {K : PySem.W.Frag} {x C f : Addr} {ox : Obj} {od : Option Obj}
/-- T's own == declines, then the instance's is asked -/
theorem rc_back {y : Value} {T ide : String} {Q : Value → Shared → Prop} (hu : A.units < cLine) (ty : s.TypeIs y T) (X : K.In s.heap) (J : PySem.W.InstAt s.heap x ox C od) (hsub : PySem.W.mroIn K C (.type T) = some false)
    (slot : Slot T "__eq__" ide) (hs : PySem.W.findIn K (.ref C) "__eq__" = some (some (.ref f))) (hf : PySem.W.isFn K (.ref f) = true)
    (dec : ∀ Q' : Value → Shared → Prop, Q' .notImplemented s → wpAny (model prog w) A (call (.builtin ide) [y, .ref x]) Q' E s)
    (h : wpAny (model prog w) A (call (.ref f) [.ref x, y]) (PySem.W.CmpBack Q) E s) : wpAny (model prog w) A (richCompare .Eq y (.ref x)) Q E s := by
  have two : wpAny (model prog w) A (tryCompare (.ref x) "__eq__" y) (fun r s' => ∃ v, r = some v ∧ Q v s') E s := by
    unfold tryCompare
    refine wpAny_bind (PySem.W.ifBound_K X J hs hf (wpAny_mono h (fun v s' hv => ?_) fun _ _ e => e))
    cases v <;> first | exact hv.elim | exact wpAny_pure ⟨_, rfl, hv⟩
  unfold richCompare
  rw [ty.oneThing_none]
  refine wpAny_holding (wpAny_bind (wpAny_cRoomFor hu ?_))
  refine wpAny_bind (wpAny_typeOf ty (wpAny_bind (J.type.here ?_)))
  rw [show (Value.type T != Value.ref C) = true from rfl, if_pos rfl]
  refine wpAny_bind ((PySem.W.looks_mroIn X hsub).here ?_)
  simp only [Bool.false_eq_true, if_false, Bool.not_false, if_true]
  refine wpAny_bind (m := tryCompare y _ (.ref x)) (wpAny_tryCompare_declines ty slot (dec _ ⟨rfl, ?_⟩))
  refine wpAny_bind (m := tryCompare (.ref x) _ y) (wpAny_mono two (fun r s' z => ?_) fun _ _ e => e)
  obtain ⟨v, rfl, hq⟩ := z
  exact wpAny_pure hq

/-! the built-in types' own == declines -/
theorem dec_none {Q' : Value → Shared → Prop} (h : Q' .notImplemented s) : wpAny (model prog w) A (call (.builtin "NoneType.__eq__") [.none, .ref x]) Q' E s := by
  refine GQ.call_here F.slot_NoneType_eq rfl F.entry_NoneType_eq (F.args_NoneType_eq_2 _ _) ?_
  wp_walk
  exact h
theorem dec_list {a : Addr} {Q' : Value → Shared → Prop} (ty : s.TypeIs (.ref a) "list") (X : K.In s.heap) (J : PySem.W.InstAt s.heap x ox C od) (hsub : PySem.W.mroIn K C (.type "list") = some false) (h : Q' .notImplemented s) :
    wpAny (model prog w) A (call (.builtin "list.__eq__") [.ref a, .ref x]) Q' E s := by
  refine GQ.call_here F.slot_list_eq ty F.entry_list_eq (F.args_list_eq_2 _ _) ?_
  have hi : PySem.W.Looks (model prog w) s.heap (isInstance (.ref x) (.type "list")) false := J.type.andThen (PySem.W.looks_mroIn X hsub)
  wp_walk using hi.here
  exact h
theorem dec_tuple {a : Addr} {Q' : Value → Shared → Prop} (ty : s.TypeIs (.ref a) "tuple") (X : K.In s.heap) (J : PySem.W.InstAt s.heap x ox C od) (hsub : PySem.W.mroIn K C (.type "tuple") = some false) (h : Q' .notImplemented s) :
    wpAny (model prog w) A (call (.builtin "tuple.__eq__") [.ref a, .ref x]) Q' E s := by
  refine GQ.call_here F.slot_tuple_eq ty F.entry_tuple_eq (F.args_tuple_eq_2 _ _) ?_
  have hi : PySem.W.Looks (model prog w) s.heap (isInstance (.ref x) (.type "tuple")) false := J.type.andThen (PySem.W.looks_mroIn X hsub)
  wp_walk using hi.here
  exact h
theorem dec_dict {a : Addr} {Q' : Value → Shared → Prop} (ty : s.TypeIs (.ref a) "dict") (X : K.In s.heap) (J : PySem.W.InstAt s.heap x ox C od) (hsub : PySem.W.mroIn K C (.type "dict") = some false) (h : Q' .notImplemented s) :
    wpAny (model prog w) A (call (.builtin "dict.__eq__") [.ref a, .ref x]) Q' E s := by
  refine GQ.call_here F.slot_dict_eq ty F.entry_dict_eq (F.args_dict_eq_2 _ _) ?_
  have hi : PySem.W.Looks (model prog w) s.heap (isInstance (.ref x) (.type "dict")) false := J.type.andThen (PySem.W.looks_mroIn X hsub)
  wp_walk using hi.here
  exact h
theorem dec_str {z : Str} {t : Tok} {Q' : Value → Shared → Prop} (hx : s.heap.get? x = some ox) (hp : ox.data = .plain) (h : Q' .notImplemented s) :
    wpAny (model prog w) A (call (.builtin "str.__eq__") [.str z t, .ref x]) Q' E s := by
  obtain ⟨oc, odd, dt, sl⟩ := ox
  simp only at hp
  subst hp
  refine GQ.call_here F.slot_str_eq rfl F.entry_str_eq (F.args_str_eq_2 _ _) ?_
  wp_walk
  exact h
theorem dec_int {i : Int} {t : Tok} {Q' : Value → Shared → Prop} (hx : s.heap.get? x = some ox) (hp : ox.data = .plain) (h : Q' .notImplemented s) :
    wpAny (model prog w) A (call (.builtin "int.__eq__") [.int i t, .ref x]) Q' E s := by
  obtain ⟨oc, odd, dt, sl⟩ := ox
  simp only at hp
  subst hp
  refine GQ.call_here F.slot_int_eq rfl F.entry_int_eq (F.args_int_eq_2 _ _) ?_
  wp_walk
  exact h
theorem bound_B {name : Str} {id : String} {args : List Value} {Q : Option Value → Shared → Prop} (X : K.In s.heap) (J : PySem.W.InstAt s.heap x ox C od) (hs : PySem.W.findIn K (.ref C) name = some (some (.builtin id)))
    (hb : ∀ self, bindSpecial (.builtin id) self = pure (.builtin id, [self])) (h : wpAny (model prog w) A (call (.builtin id) (.ref x :: args)) (fun v => Q (some v)) E s) : wpAny (model prog w) A (callSpecialIfBound? (.ref x) name args) Q E s := by
  have go : ∀ (T : Sem (Option (Value × List Value))), T = (do return some (← bindSpecial (.builtin id) (.ref x))) → wpAny (model prog w) A T (fun r s' => r = some (.builtin id, [.ref x]) ∧ s' = s) E s := by
    rintro T rfl
    exact wpAny_bind ((PySem.W.Looks.of_pure (hb _)).here (wpAny_pure ⟨rfl, rfl⟩))
  simp only [callSpecialIfBound?, bindSpecialIfBound?]
  refine wpAny_holding (wpAny_bind (wpAny_bind (wpAny_bind (J.type.here ((PySem.W.looks_findIn X hs).here ?_)))))
  refine wpAny_bind (wpAny_askSetting (wpAny_ite ?_))
  have fin : wpAny (model prog w) A (call (.builtin id) ([.ref x] ++ args) >>= fun v => pure (some v)) Q E s := wpAny_bind (wpAny_mono h (fun v s' z => wpAny_pure z) fun _ _ z => z)
  split
  · exact wpAny_mono (go _ rfl) (fun r s' ⟨a, b⟩ => by subst a b; exact fin) fun _ _ z => z
  · exact wpAny_tryCatch (wpAny_bind ((PySem.W.Looks.of_pure (hb _)).here (wpAny_pure (by exact fin))))
/-- x != y by the inherited !=, which asks the own == -/
theorem rc_ne {y ty : Value} {Q : Value → Shared → Prop} (hu : A.units + 1 < cLine) (X : K.In s.heap) (J : PySem.W.InstAt s.heap x ox C od) (O : OwnE K C f) (hb : PySem.W.Looks (model prog w) s.heap (typeOf y) ty) (hn : PySem.W.notFirst K C ty = true)
    (h : wpAny (model prog w) A.in1 (call (.ref f) [.ref x, y]) (fun v s' => ∃ b, v = .bool b ∧ Q (.bool (!b)) s') E s) : wpAny (model prog w) A (richCompare .NotEq (.ref x) y) Q E s := by
  have ne : ∀ Q' : Value → Shared → Prop, (∀ v s', (∃ b, v = .bool (!b) ∧ Q (.bool (!b)) s') → Q' v s') → wpAny (model prog w) A (call (.builtin "object.__ne__") [.ref x, y]) Q' E s := by
    intro Q' hQ
    refine wpAny_call (codeAny_call_builtin F.slot_object_ne.plain F.entry_object_ne (PySem.W.check_slot (i := "object.__ne__") (owner := "object") (n := "__ne__") (by decide +kernel) (by decide +kernel) (J.type.andThen (PySem.W.looks_mroIn X O.ob)) (F.args_object_ne_2 _ _) ?_))
    unfold Builtin.«object.__ne__»
    refine wpAny_bind (m := slotArgs "__ne__" 1 _) (wpAny_pure ?_)
    refine wpAny_bind (m := cRoomFor _ _) (wpAny_cRoomFor (by show A.units + 1 < cLine; exact hu) ?_)
    refine wpAny_bind (m := callSpecialIfBound? (.ref x) (Str.ofString "__eq__") _) (PySem.W.ifBound_K X J O.eq O.fn (wpAny_mono h (fun r s' hq => ?_) fun _ _ z => z))
    obtain ⟨b, rfl, hq⟩ := hq
    refine wpAny_bind (wpAny_truthy_bool (wpAny_pure ?_))
    exact hQ _ _ ⟨b, rfl, hq⟩
  have one : wpAny (model prog w) A (tryCompare (.ref x) "__ne__" y) (fun r s' => ∃ v, r = some v ∧ Q v s') E s := by
    unfold tryCompare
    refine wpAny_bind (bound_B X J O.ne F.slot_object_ne.bind (ne _ fun v s' z => ?_))
    obtain ⟨b, rfl, q⟩ := z
    exact wpAny_pure ⟨_, rfl, q⟩
  unfold richCompare
  rw [oneThing_ref]
  refine wpAny_holding (wpAny_bind (wpAny_cRoomFor (by omega) ?_))
  refine wpAny_bind (J.type.here (wpAny_bind (hb.here ?_)))
  by_cases e : ty = .ref C
  · subst e
    rw [if_neg (by simp)]
    refine wpAny_bind (wpAny_pure ?_)
    simp only [Bool.false_eq_true, if_false]
    refine wpAny_bind (wpAny_mono one (fun r s' z => ?_) fun _ _ z => z)
    obtain ⟨v, rfl, q⟩ := z
    exact wpAny_pure q
  · have e1 : PySem.W.subIn K ty (.ref C) = some false := by
      rcases Bool.or_eq_true_iff.mp hn with z | z
      · exact absurd (beq_iff_eq.mp z) e
      · exact beq_iff_eq.mp z
    rw [if_pos (by simp [bne, beq_iff_eq]; exact fun z => e z.symm)]
    refine wpAny_bind ((PySem.W.looks_subIn X e1).here ?_)
    simp only [Bool.false_eq_true, if_false]
    refine wpAny_bind (wpAny_mono one (fun r s' z => ?_) fun _ _ z => z)
    obtain ⟨v, rfl, q⟩ := z
    exact wpAny_pure q
end

/-! ### in, index: the list read anew at each turn -/
section
variable {prog : Program} {w : World} {A : Around} {R : Result → Shared → Prop} {E : Value → Shared → Prop}
def ReadsL (I : Nat → Shared → Prop) (l : Addr) (N : Nat) (T : Nat → Value → Shared → Prop) : Prop :=
  ∀ i s, I i s → ∃ (items : Array Value) (n : Nat), s.heap.get? l = some { cls := .type "list", data := .seq items n } ∧ items.size = N ∧ ∀ h : i < items.size, T i items[i] s
theorem contains_loopG (l : Addr) (x : Value) (N : Nat) (I : Nat → Shared → Prop)
    (hl : ReadsL I l N fun i y s => wpAny (model prog w) A.in1 (eqBool y x) (fun r s' => if r = true then R (.ok (.ret (.bool true))) s' else I (i + 1) s') (fun e s' => R (.error e) s') s)
    (fin : ∀ s, I N s → R (.ok (.ret (.bool false))) s) : ∀ k i : Nat, N - i = k → i ≤ N → ∀ s, I i s →
      wpAny (model prog w) A.in1 (Builtin.«list.__contains__.loop» ⟨[.ref l, x, rawInt i], []⟩) (GQ.FinOf prog w A R) (fun e s' => R (.error e) s') s := by
  intro k
  induction k with
  | zero =>
    intro i hk hi s h
    obtain ⟨items, n, hl1, hs1, _⟩ := hl _ _ h
    have ei : i = N := by omega
    have hR := fin s (ei ▸ h)
    have hnone : items[((i : Nat) : Int).toNat]? = none := by simp; omega
    obtain ⟨hp, g, d, tk, os⟩ := s
    wp_walk using AutoSeq1.wpAny_loadPart' hl1
    rw [hnone]
    wp_walk
    exact hR
  | succ k ih =>
    intro i hk hi s h
    obtain ⟨items, n, hl1, hs1, turn⟩ := hl _ _ h
    have hlt : i < items.size := by omega
    have ht := turn hlt
    have hsome : items[((i : Nat) : Int).toNat]? = some items[i] := by simp [hlt]
    have hc : ((i : Int) + 1) = ((i + 1 : Nat) : Int) := by omega
    obtain ⟨hp, g, d, tk, os⟩ := s
    wp_walk using AutoSeq1.wpAny_loadPart' hl1
    rw [hsome]
    refine wpAny_bind (wpAny_mono ht (fun r s2 h2 => ?_) fun _ _ z => z)
    cases r with
    | true =>
      rw [if_pos rfl] at h2 ⊢
      exact wpAny_pure h2
    | false =>
      rw [if_neg Bool.false_ne_true] at h2 ⊢
      have hrec := ih (i + 1) (by omega) (by omega) s2 h2
      rw [hc]
      refine wpAny_pure ⟨plainId_quiet MeetsSeq.plain_contains_loop _, codeAny_builtin MeetsSeq.entry_contains_loop (by
        rw [Around.under_plainId MeetsSeq.plain_contains_loop _]
        exact hrec)⟩
theorem index_loopG (l : Addr) (x : Value) (N : Nat) (upto : Int) (hN : (N : Int) < upto) (I : Nat → Shared → Prop)
    (hl : ReadsL I l N fun i y s => wpAny (model prog w) A.in1 (eqBool y x) (fun r s' => if r = true then (∀ t k, R (.ok (.ret (.int i t))) { s' with toks := k }) else I (i + 1) s') (fun e s' => R (.error e) s') s)
    (fin : ∀ s, I N s → False) : ∀ k i : Nat, N - i = k → i ≤ N → ∀ s, I i s →
      wpAny (model prog w) A.in1 (Builtin.«list.index.loop» ⟨[.ref l, x, rawInt i, rawInt upto], []⟩) (GQ.FinOf prog w A R) (fun e s' => R (.error e) s') s := by
  intro k
  induction k with
  | zero =>
    intro i hk hi s h
    have ei : i = N := by omega
    exact (fin s (ei ▸ h)).elim
  | succ k ih =>
    intro i hk hi s h
    obtain ⟨items, n, hl1, hs1, turn⟩ := hl _ _ h
    have hlt : i < items.size := by omega
    have ht := turn hlt
    have hsome : (if (i : Int) < upto then items[((i : Nat) : Int).toNat]? else none) = some items[i] := by
      rw [if_pos (by omega)]
      simp [hlt]
    have hc : ((i : Int) + 1) = ((i + 1 : Nat) : Int) := by omega
    obtain ⟨hp, g, d, tk, os⟩ := s
    wp_walk using AutoSeq1.wpAny_loadPart' hl1
    rw [hsome]
    refine wpAny_bind (wpAny_mono ht (fun r s2 h2 => ?_) fun _ _ z => z)
    cases r with
    | true =>
      rw [if_pos rfl] at h2 ⊢
      obtain ⟨hp2, g2, d2, tk2, os2⟩ := s2
      wp_walk
      exact h2 _ _
    | false =>
      rw [if_neg Bool.false_ne_true] at h2 ⊢
      have hrec := ih (i + 1) (by omega) (by omega) s2 h2
      rw [hc]
      refine wpAny_pure ⟨plainId_quiet MeetsSeq.plain_index_loop _, codeAny_builtin MeetsSeq.entry_index_loop (by
        rw [Around.under_plainId MeetsSeq.plain_index_loop _]
        exact hrec)⟩
end

/-! ### over the layer -/
section
variable {X : Cx} {CX : CXT} {k : Nat} {f C : Addr} {fd : FuncData} {ps : List Str} {sp : Sp}
theorem run_at {A : Around} {E : XK} {pins : List (Addr × Obj)} {σ : L2.St} {H : Hp} {s : Shared} {Q : VK} {us : List Value} {vs : List V} (F : FnOk X.prog X.w X.K X.mg X.base CX k f fd ps sp) (room : Room k A) (fr : A.frames = X.A.frames)
    (hb : Binds X.K fd ps []) (hx : Passes CX X E) (I : Inv X pins σ H s) (r : Vals vs us) (h : sp vs H Q E) : wpAny (model X.prog X.w) A (call (.ref f) us) (EP X pins σ Q) X.xe s := by
  have hl : us.length = ps.length := r.length.symm.trans (F.len _ _ _ _ h)
  have e := I.env0
  have b := hb s us I.kIn (by rw [List.append_nil]; exact hl)
  rw [List.append_nil] at b
  refine wpAny_call (codeAny_mono (F.run A X.stack s H ⟨us, []⟩ us vs Q E room ⟨fr.trans e.frames, e.mod, e.bs, e.bsz, e.funs, e.frf, e.hok, e.bare⟩ b r h) fun r s' q => ?_)
  match r, q with
  | .error e, q => exact hx pins σ H s e s' I q
  | .ok (.ret u), q => exact I.after q
/-- an own == answers b, and K of it -/
def OwnB (K : Bool → Hp → Prop) : VK := fun v H' => ∃ r, v = .bl r ∧ K r H'
theorem inst_at {pins : List (Addr × Obj)} {σ : L2.St} {H : Hp} {s : Shared} {a dx : Addr} {fs : List (Str × V)} (I : Inv X pins σ H s) (h : H a = some (.ins C dx fs)) :
    ∃ od, PySem.W.InstAt s.heap a (PySem.W.instObj C dx) C od := by
  obtain ⟨mA, J, _⟩ := ins_get I.hok h
  obtain ⟨od, J, _⟩ := J.look
  exact ⟨od, J⟩
theorem eq_run {A : Around} {pins : List (Addr × Obj)} {σ : L2.St} {H : Hp} {s : Shared} {a dx : Addr} {fs : List (Str × V)} {y : V} {u t : Value} {K : Bool → Hp → Prop} (O : OwnE X.K C f) (F : FnOk X.prog X.w X.K X.mg X.base CX0 k f fd ps sp)
    (hb : Binds X.K fd ps []) (room : Room k A) (fr : A.frames = X.A.frames) (I : Inv X pins σ H s) (ha : H a = some (.ins C dx fs)) (ry : RelV y u) (ty : TyX X.K H y t) (hn : PySem.W.notFirst X.K C t = true) (h : sp [.ref a, y] H (OwnB K) E0) :
    wpAny (model X.prog X.w) A (richCompare .Eq (.ref a) u) (fun v s' => ∃ b H', v = .bool b ∧ Inv X pins σ H' s' ∧ K b H') X.xe s := by
  obtain ⟨od, J⟩ := inst_at I ha
  obtain ⟨P, Z, p, _⟩ := kit_of I ry ty
  obtain ⟨m, hF⟩ := I.fr
  refine PySem.W.cmp_K (op := .Eq) room.units0 hF I.ok.mod.kin J (Z.ty _ _ I.kIn p) hn O.eq O.fn ?_
  refine wpAny_mono (run_at F room fr hb pass0 I (vs := [.ref a, y]) (us := [.ref a, u]) (.cons rfl (.cons ry .nil)) h) (fun v s' z => ?_) fun _ _ z => z
  obtain ⟨w, H', I', rw', b, rfl, q⟩ := z
  obtain rfl : v = .bool b := rw'
  exact ⟨b, H', rfl, I', q⟩
/-- x == y, x an instance of the class with an own == -/
theorem op_eqO (O : OwnE X.K C f) (F : FnOk X.prog X.w X.K X.mg X.base CX0 k f fd ps sp) (hb : Binds X.K fd ps []) (room : Room k X.A) :
    OpR X (compareOp .Eq) (fun x y H Q => ∃ a dx fs t, x = .ref a ∧ H a = some (.ins C dx fs) ∧ TyX X.K H y t ∧ PySem.W.notFirst X.K C t = true ∧ sp [.ref a, y] H (OwnB fun r H' => Q (.bl r) H') E0) := by
  intro pins s σ H x y v u Q I rx ry h
  obtain ⟨a, dx, fs, t, rfl, ha, ty, hn, h⟩ := h
  cases rx
  show wpAny _ _ (richCompare .Eq (.ref a) u) _ _ _
  refine wpAny_mono (eq_run O F hb room rfl I ha ry ty hn h) (fun v s' z => ?_) fun _ _ z => z
  obtain ⟨b, H', rfl, I', q⟩ := z
  exact ⟨.bl b, H', I', rfl, q⟩
theorem op_neO (O : OwnE X.K C f) (F : FnOk X.prog X.w X.K X.mg X.base CX0 k f fd ps sp) (hb : Binds X.K fd ps []) (room : Room (k + 1) X.A) :
    OpR X (compareOp .NotEq) (fun x y H Q => ∃ a dx fs t, x = .ref a ∧ H a = some (.ins C dx fs) ∧ TyX X.K H y t ∧ PySem.W.notFirst X.K C t = true ∧ sp [.ref a, y] H (OwnB fun r H' => Q (.bl (!r)) H') E0) := by
  intro pins s σ H x y v u Q I rx ry h
  obtain ⟨a, dx, fs, t, rfl, ha, ty, hn, h⟩ := h
  cases rx
  show wpAny _ _ (richCompare .NotEq (.ref a) u) _ _ _
  obtain ⟨od, J⟩ := inst_at I ha
  obtain ⟨P, Z, p, _⟩ := kit_of I ry ty
  refine rc_ne (by have := room.un; omega) I.kIn J O (Z.ty _ _ I.kIn p) hn (wpAny_mono (run_at F room.in1 rfl hb pass0 I (vs := [.ref a, y]) (us := [.ref a, u]) (.cons rfl (.cons ry .nil)) h) (fun v s' z => ?_) fun _ _ z => z)
  obtain ⟨w, H', I', rw', b, rfl, q⟩ := z
  obtain rfl : v = .bool b := rw'
  exact ⟨b, rfl, .bl (!b), H', I', rfl, q⟩
/-- what stands left of == : its own == declines -/
inductive Bk (K : PySem.W.Frag) (H : Hp) : V → Prop where
  | non : Bk K H .non
  | int (i : Int) : Bk K H (.int i)
  | str (z : Str) : Bk K H (.str z)
  | lst {a : Addr} {xs : List V} (h : SqL K H a xs) : Bk K H (.ref a)
  | tup {a : Addr} {xs : List V} (h : SqT K H a xs) : Bk K H (.ref a)
  | dK {a : Addr} {kvs : List (Key × V)} (h : H a = some (.dK kvs)) : Bk K H (.ref a)
theorem op_eqB (O : OwnE X.K C f) (F : FnOk X.prog X.w X.K X.mg X.base CX0 k f fd ps sp) (hb : Binds X.K fd ps []) (room : Room k X.A) :
    OpR X (compareOp .Eq) (fun x y H Q => ∃ a dx fs, y = .ref a ∧ H a = some (.ins C dx fs) ∧ Bk X.K H x ∧ sp [.ref a, x] H (OwnB fun r H' => Q (.bl r) H') E0) := by
  intro pins s σ H x y v u Q I rx ry h
  obtain ⟨a, dx, fs, rfl, ha, bk, h⟩ := h
  cases ry
  show wpAny _ _ (richCompare .Eq v (.ref a)) _ _ _
  obtain ⟨od, J⟩ := inst_at I ha
  have go : wpAny (model X.prog X.w) X.A (call (.ref f) [.ref a, v]) (PySem.W.CmpBack (EP X pins σ Q)) X.xe s := by
    refine wpAny_mono (run_at F room rfl hb pass0 I (vs := [.ref a, x]) (us := [.ref a, v]) (.cons rfl (.cons rx .nil)) h) (fun v s' z => ?_) fun _ _ z => z
    obtain ⟨w, H', I', rw', b, rfl, q⟩ := z
    obtain rfl : v = .bool b := rw'
    exact ⟨.bl b, H', I', rfl, q⟩
  have kin := I.kIn
  have hu := room.units0
  cases bk with
  | non =>
    cases rx
    exact rc_back hu rfl kin J O.noN PySem.F.slot_NoneType_eq O.eq O.fn (fun Q' q => dec_none q) go
  | int i =>
    obtain ⟨t, rfl⟩ := rx
    exact rc_back hu rfl kin J O.noI PySem.F.slot_int_eq O.eq O.fn (fun Q' q => dec_int J.at_ rfl q) go
  | str z =>
    obtain ⟨t, rfl⟩ := rx
    exact rc_back hu rfl kin J O.noS PySem.F.slot_str_eq O.eq O.fn (fun Q' q => dec_str J.at_ rfl q) go
  | lst hs =>
    cases rx
    obtain ⟨its, r, pl, hz⟩ := I.list hs
    exact rc_back hu pl.isList.typeIs kin J O.noL PySem.F.slot_list_eq O.eq O.fn (fun Q' q => dec_list pl.isList.typeIs kin J O.noL q) go
  | tup hs =>
    cases rx
    obtain ⟨its, r, ⟨o, ho, hc, _⟩, hz⟩ := I.tuple hs
    have ty : s.TypeIs (.ref _) "tuple" := ⟨o, ho, hc⟩
    exact rc_back hu ty kin J O.noT PySem.F.slot_tuple_eq O.eq O.fn (fun Q' q => dec_tuple ty kin J O.noT q) go
  | dK hd =>
    cases rx
    obtain ⟨_, _, vs, _, dd⟩ := dk_of I.hok hd
    exact rc_back hu dd.typeIs kin J O.noD PySem.F.slot_dict_eq O.eq O.fn (fun Q' q => dec_dict dd.typeIs kin J O.noD q) go

/-- == inside a list, of two instances -/
def eqW (sp : Sp) (C : Addr) (z x : V) (H : Hp) (K : Bool → Hp → Prop) : Prop :=
  ∃ a b dx dy fs gs, z = .ref a ∧ x = .ref b ∧ H a = some (.ins C dx fs) ∧ H b = some (.ins C dy gs) ∧ (a = b → K true H) ∧ (a ≠ b → sp [.ref a, .ref b] H (OwnB K) E0)
theorem eqW_run {A : Around} {pins : List (Addr × Obj)} {σ : L2.St} {H : Hp} {s : Shared} {z x : V} {u v : Value} {K : Bool → Hp → Prop} (O : OwnE X.K C f) (cl : Cls X.K C) (tyO : ∀ {H : Hp} {b dy : Addr} {gs : List (Str × V)}, H b = some (.ins C dy gs) → TyX X.K H (.ref b) (.ref C))
    (F : FnOk X.prog X.w X.K X.mg X.base CX0 k f fd ps sp) (hb : Binds X.K fd ps []) (room : Room k A) (fr : A.frames = X.A.frames) (I : Inv X pins σ H s) (rz : RelV z u) (rx : RelV x v) (h : eqW sp C z x H K) :
    wpAny (model X.prog X.w) A (eqBool u v) (fun r s' => ∃ H', Inv X pins σ H' s' ∧ K r H') X.xe s := by
  obtain ⟨a, b, dx, dy, fs, gs, rfl, rfl, ha, hb', h1, h2⟩ := h
  cases rz
  cases rx
  by_cases e : a = b
  · subst e
    exact SeqAt.EqAt.same (A := A) (s := s) (.ref a) X.prog X.w X.xe _ ⟨H, I, h1 rfl⟩
  · refine GQ.eqBool_refG e (wpAny_mono (eq_run O F hb room fr I ha (y := .ref b) rfl (tyO hb') (by simp [PySem.W.notFirst]) (h2 e)) (fun w s' q => ?_) fun _ _ q => q)
    obtain ⟨r, H', rfl, I', q⟩ := q
    exact ⟨r, rfl, H', I', q⟩
end
end Cr

/-! Cr3: in and index by an own ==, str() by an own __str__, == of dicts. -/
namespace Cr
open PySem PySem.Spec PyProof.Rows L2

section
variable {X : Cx} {CX : CXT} {k : Nat} {f C : Addr} {fd : FuncData} {ps : List Str} {sp : Sp}
/-- z in all, from the items that are left -/
def inW (sp : Sp) (C l : Addr) (all : List V) (x : V) : List V → Hp → VK → Prop
  | [], H, Q => Q (.bl false) H
  | z :: r, H, Q => eqW sp C z x H fun b H' => (b = true → Q (.bl true) H') ∧ (b = false → H' l = some (.lst all) ∧ inW sp C l all x r H' Q)
/-- the place of x in all: j items were passed -/
def ixW (sp : Sp) (C l : Addr) (all : List V) (x : V) : Nat → List V → Hp → VK → Prop
  | _, [], _, _ => False
  | j, z :: r, H, Q => eqW sp C z x H fun b H' => (b = true → Q (.int j) H') ∧ (b = false → H' l = some (.lst all) ∧ ixW sp C l all x (j + 1) r H' Q)
/-- the class's facts for a type told by an instance -/
structure OwnT (K : PySem.W.Frag) (C : Addr) : Prop where
  cl : Cls K C
  ty : ∀ {H : Hp} {b dy : Addr} {gs : List (Str × V)}, H b = some (.ins C dy gs) → TyX K H (.ref b) (.ref C)
theorem op_inO (O : OwnE X.K C f) (T : OwnT X.K C) (F : FnOk X.prog X.w X.K X.mg X.base CX0 k f fd ps sp) (hb : Binds X.K fd ps []) (room : Room (k + 2) X.A) :
    OpR X (compareOp .In) (fun x y H Q => ∃ l all, y = .ref l ∧ H l = some (.lst all) ∧ inW sp C l all x all H Q) := by
  intro pins s σ H x y v u Q I rx ry h
  obtain ⟨l, all, rfl, hl, h⟩ := h
  cases ry
  obtain ⟨z0, its0, n0, r0, e0⟩ := (show ObjOk X.prog X.w H s.heap l (.lst all) from I.hok l _ hl)
  have ty : s.TypeIs (.ref l) "list" := ⟨_, e0, rfl⟩
  show wpAny (model X.prog X.w) X.A (do return Value.bool (← contains (.ref l) v)) (EP X pins σ Q) X.xe s
  refine wpAny_bind (wpAny_contains_slot ty PySem.F.slot_list_contains (Q := fun b s' => wpAny (model X.prog X.w) X.A (pure (Value.bool b)) (EP X pins σ Q) X.xe s') ?_)
  refine GQ.call_here PySem.F.slot_list_contains ty PySem.F.entry_list_contains (PySem.F.args_list_contains_2 _ _) ?_
  have key : ∀ (b : Bool) (H' : Hp) (s' : Shared), Inv X pins σ H' s' → Q (.bl b) H' →
      wants (fun r s' => wpAny (model X.prog X.w) X.A (truthy r) (fun b s' => wpAny (model X.prog X.w) X.A (pure (Value.bool b)) (EP X pins σ Q) X.xe s') X.xe s') X.xe (.ok (.ret (.bool b))) s' := by
    intro b H' s' I' q
    exact wpAny_truthy_bool (wpAny_pure ⟨.bl b, H', I', rfl, q⟩)
  have loop := contains_loopG (prog := X.prog) (w := X.w) (A := X.A) (R := wants (fun r s' => wpAny (model X.prog X.w) X.A (truthy r) (fun b s' => wpAny (model X.prog X.w) X.A (pure (Value.bool b)) (EP X pins σ Q) X.xe s') X.xe s') X.xe) l v all.length
    (fun i s' => ∃ H', Inv X pins σ H' s' ∧ H' l = some (.lst all) ∧ inW sp C l all x (all.drop i) H' Q)
    (fun i s' ⟨H', I', hl', h'⟩ => by
      obtain ⟨z1, its, n1, r1, e1⟩ := (show ObjOk X.prog X.w H' s'.heap l (.lst all) from I'.hok l _ hl')
      refine ⟨its.toArray, n1, e1, by rw [List.size_toArray, ← r1.length], fun hi => ?_⟩
      have hi' : i < all.length := by rw [r1.length]; simpa using hi
      obtain ⟨u, hu, ru⟩ := r1.get (List.getElem?_eq_getElem hi')
      have eu : its.toArray[i] = u := by
        have hi2 : i < its.length := by simpa using hi
        rw [List.getElem?_eq_getElem hi2] at hu
        simpa using hu
      rw [eu]
      rw [List.drop_eq_getElem_cons hi'] at h'
      refine wpAny_mono (eqW_run O T.cl (fun h => T.ty h) F hb (Room.mono room.in1 (by omega)) rfl I' ru rx h') (fun r s2 q => ?_) fun _ _ q => q
      obtain ⟨H2, I2, q1, q2⟩ := q
      cases r with
      | true => rw [if_pos rfl]; exact key true H2 s2 I2 (q1 rfl)
      | false =>
        rw [if_neg Bool.false_ne_true]
        obtain ⟨a1, a2⟩ := q2 rfl
        exact ⟨H2, I2, a1, a2⟩)
    (fun s' ⟨H', I', hl', h'⟩ => by
      rw [List.drop_length] at h'
      exact key false H' s' I' h') all.length 0 (by omega) (Nat.zero_le _) s ⟨H, I, hl, by rw [List.drop_zero]; exact h⟩
  obtain ⟨hp, g, d, tk, os⟩ := s
  wp_walk using AutoSeq1.wpAny_loadPart' e0
  exact ⟨plainId_quiet MeetsSeq.plain_contains_loop _, codeAny_builtin MeetsSeq.entry_contains_loop (by
    rw [Around.under_plainId MeetsSeq.plain_contains_loop _]
    exact loop)⟩
theorem mt_indexO (O : OwnE X.K C f) (T : OwnT X.K C) (F : FnOk X.prog X.w X.K X.mg X.base CX0 k f fd ps sp) (hb : Binds X.K fd ps []) (room : Room (k + 2) X.A) :
    MtR X "list.index" (fun o xs H Q => ∃ l all x, o = .ref l ∧ xs = [x] ∧ H l = some (.lst all) ∧ ixW sp C l all x 0 all H Q) := by
  intro pins s σ H o xs v us Q I ro rxs h
  obtain ⟨l, all, x, rfl, rfl, hl, h⟩ := h
  cases ro
  obtain ⟨vx, rfl, rx⟩ := vals1 rxs
  obtain ⟨z0, its0, n0, r0, e0⟩ := (show ObjOk X.prog X.w H s.heap l (.lst all) from I.hok l _ hl)
  have ty : s.TypeIs (.ref l) "list" := ⟨_, e0, rfl⟩
  refine GQ.call_here PySem.F.slot_list_index ty PySem.F.entry_list_index (PySem.F.args_list_index_2 _ _) ?_
  have hN : (all.length : Int) < 2 ^ 63 - 1 := by rw [sizeLine_eq] at z0; omega
  have loop := index_loopG (prog := X.prog) (w := X.w) (A := X.A) (R := wants (EP X pins σ Q) X.xe) l vx all.length (2 ^ 63 - 1) hN
    (fun i s' => ∃ H', Inv X pins σ H' s' ∧ H' l = some (.lst all) ∧ ixW sp C l all x i (all.drop i) H' Q)
    (fun i s' ⟨H', I', hl', h'⟩ => by
      obtain ⟨z1, its, n1, r1, e1⟩ := (show ObjOk X.prog X.w H' s'.heap l (.lst all) from I'.hok l _ hl')
      refine ⟨its.toArray, n1, e1, by rw [List.size_toArray, ← r1.length], fun hi => ?_⟩
      have hi' : i < all.length := by rw [r1.length]; simpa using hi
      obtain ⟨u, hu, ru⟩ := r1.get (List.getElem?_eq_getElem hi')
      have eu : its.toArray[i] = u := by
        have hi2 : i < its.length := by simpa using hi
        rw [List.getElem?_eq_getElem hi2] at hu
        simpa using hu
      rw [eu]
      rw [List.drop_eq_getElem_cons hi'] at h'
      refine wpAny_mono (eqW_run O T.cl (fun h => T.ty h) F hb (Room.mono room.in1 (by omega)) rfl I' ru rx h') (fun r s2 q => ?_) fun _ _ q => q
      obtain ⟨H2, I2, q1, q2⟩ := q
      cases r with
      | true => rw [if_pos rfl]; exact fun t kk => ⟨.int i, H2, I2.tok kk, ⟨t, rfl⟩, q1 rfl⟩
      | false =>
        rw [if_neg Bool.false_ne_true]
        obtain ⟨a1, a2⟩ := q2 rfl
        exact ⟨H2, I2, a1, a2⟩)
    (fun s' ⟨H', I', hl', h'⟩ => by
      rw [List.drop_length] at h'
      exact h') all.length 0 (by omega) (Nat.zero_le _) s ⟨H, I, hl, by rw [List.drop_zero]; exact h⟩
  obtain ⟨hp, g, d, tk, os⟩ := s
  wp_walk using AutoSeq1.wpAny_loadPart' e0
  have a1 : ((fun i : Int => if i < 0 then max 0 (i + (its0.toArray.size : Int)) else i) ((none : Option Int).getD 0)) = ((0 : Nat) : Int) := by simp
  have a2 : ((fun i : Int => if i < 0 then max 0 (i + (its0.toArray.size : Int)) else i) ((none : Option Int).getD (2 ^ 63 - 1))) = 2 ^ 63 - 1 := by simp
  rw [a1, a2]
  exact ⟨plainId_quiet MeetsSeq.plain_index_loop _, codeAny_builtin MeetsSeq.entry_index_loop (by
    rw [Around.under_plainId MeetsSeq.plain_index_loop _]
    exact loop)⟩
/-- str(o) by an own __str__ -/
theorem call_strO (hs : PySem.W.findIn X.K (.ref C) "__str__" = some (some (.ref f))) (hf : PySem.W.isFn X.K (.ref f) = true) (F : FnOk X.prog X.w X.K X.mg X.base CX0 k f fd ps sp) (hb : Binds X.K fd ps []) (room : Room (k + 2) X.A) :
    CallR X (.type "str") (fun xs H Q => ∃ a dx fs, xs = [.ref a] ∧ H a = some (.ins C dx fs) ∧ sp [.ref a] H (fun v H' => ∃ z, v = .str z ∧ Q (.str z) H') E0) := by
  intro pins s σ H xs us Q I r h
  obtain ⟨a, dx, fs, rfl, ha, h⟩ := h
  obtain ⟨u, rfl, ru⟩ := vals1 r
  cases ru
  obtain ⟨od, J⟩ := inst_at I ha
  refine PySem.W.kso_call (by have := room.un; show X.A.units + 1 + 1 < cLine; omega) I.kIn J hs hf ?_
  refine wpAny_mono (run_at F (room.in1.in1.mono (by omega)) rfl hb pass0 I (vs := [.ref a]) (us := [.ref a]) (.cons rfl .nil) h) (fun v s' z => ?_) fun _ _ z => z
  obtain ⟨w, H', I', rw', b, rfl, q⟩ := z
  obtain ⟨t, rfl⟩ : ∃ t, v = .str b t := rw'
  exact ⟨.str b, H', I', ⟨t, rfl⟩, q⟩
end

/-! ### d == e of dicts with flat values -/
def dEq (ks ls : List (Key × V)) : Bool := ks.length == ls.length && ks.all fun p => match valV ls p.1 with
  | some v => eqV p.2 v
  | none => false
theorem hits_any {A : Around} {s : Shared} {ls : List (Key × V)} {vb : List (Key × Value)} (rb : KV ls vb) (fl : ∀ p ∈ ls, flatV p.2 = true) {ks : List (Key × V)} {va : List (Key × Value)} (ra : KV ks va) :
    (∀ p ∈ ks, flatV p.2 = true) → PySem.W.KeqHits A s vb va (ks.all fun p => match valV ls p.1 with | some v => eqV p.2 v | none => false) := by
  unfold KV at ra
  induction ra with
  | nil => intro _; exact .nil
  | @cons p q ps qs h t ih =>
    intro hp
    obtain ⟨h1, h2⟩ := h
    obtain ⟨k, v⟩ := q
    have h1' : p.1 = k := h1
    have ih' := ih fun p' hm => hp p' (List.mem_cons_of_mem _ hm)
    rw [List.all_cons]
    have rr : RelO (valV ls p.1) (valueAt vb p.1) := rb.val p.1
    cases e : valV ls p.1 with
    | none =>
      rw [e] at rr
      cases e2 : valueAt vb p.1 with
      | none =>
        rw [h1'] at e2
        exact .miss e2
      | some y => rw [e2] at rr; exact rr.elim
    | some y =>
      rw [e] at rr
      obtain ⟨z, hz, rz⟩ := rr.some_of
      rw [h1'] at hz
      have fy : flatV y = true := by
        unfold valV at e
        obtain ⟨kv, hkv, rfl⟩ := Option.map_eq_some_iff.mp e
        exact fl kv (List.mem_of_find?_eq_some hkv)
      exact .hit hz (eqAt_V h2 rz (hp p List.mem_cons_self) fy) ih'
theorem op_eqDK {X : Cx} (hu : X.A.units < cLine) : OpR X (compareOp .Eq) (fun x y H Q => ∃ a b ks ls, x = .ref a ∧ y = .ref b ∧ H a = some (.dK ks) ∧ H b = some (.dK ls) ∧ (∀ p ∈ ks, flatV p.2 = true) ∧ (∀ p ∈ ls, flatV p.2 = true) ∧ Q (.bl (dEq ks ls)) H) := by
  intro pins s σ H x y v u Q I rx ry h
  obtain ⟨a, b, ks, ls, rfl, rfl, ea, eb, f1, f2, q⟩ := h
  cases rx
  cases ry
  obtain ⟨_, ya, va, ra, da⟩ := dk_of I.hok ea
  obtain ⟨_, yb, vb, rb, db⟩ := dk_of I.hok eb
  refine PySem.W.keq_eq (knd := mixKind X.prog X.w) ya yb da db hu (fun _ => hits_any rb f2 ra f1) ⟨.bl (dEq ks ls), H, I, ?_, q⟩
  show Value.bool _ = Value.bool _
  rw [← ra.length, ← rb.length]
  rfl
end Cr

/-! CrR: repr of anything: data without dicts, and dicts of plain things. -/
namespace Cr
open PySem PySem.Spec PyProof.Rows L2
mutual
theorem dpNoDict {K : PySem.W.Frag} {H : Hp} : ∀ {v : V} {d : PyData}, Dp K H v d → d.hasDict = false
  | _, _, .non => by simp only [PyData.hasDict]
  | _, _, .bl b => by simp only [PyData.hasDict]
  | _, _, .int i => by simp only [PyData.hasDict]
  | _, _, .str x => by simp only [PyData.hasDict]
  | _, _, .lst h a => by simp only [PyData.hasDict]; exact dpNoDicts a
  | _, _, .tup h a => by simp only [PyData.hasDict]; exact dpNoDicts a
theorem dpNoDicts {K : PySem.W.Frag} {H : Hp} : ∀ {vs : List V} {ds : List PyData}, DpAll K H vs ds → PyData.hasDictAll ds = false
  | _, _, .nil => by simp only [PyData.hasDictAll]
  | _, _, .cons h t => by simp only [PyData.hasDictAll, dpNoDict h, dpNoDicts t, Bool.or_self]
end
def keyD : Key → PyData
  | .inl i => .int i
  | .inr z => .str z
/-- plain values as data -/
inductive Fl : V → PyData → Prop where
  | non : Fl .non .none
  | bl (b : Bool) : Fl (.bl b) (.bool b)
  | int (i : Int) : Fl (.int i) (.int i)
  | str (z : Str) : Fl (.str z) (.str z)
theorem Fl.reads {h : Heap} {v : V} {d : PyData} {u : Value} (f : Fl v d) (r : RelV v u) : Reads h u d [] := by
  cases f with
  | non => cases r; exact .none
  | bl b => cases r; exact .bool b
  | int i => obtain ⟨t, rfl⟩ := r; exact .int i t
  | str z => obtain ⟨t, rfl⟩ := r; exact .str z t
abbrev KvD : List (Key × V) → List (PyData × PyData) → Prop := Paired fun p d => keyD p.1 = d.1 ∧ Fl p.2 d.2
theorem key_reads {h : Heap} {k : Key} {v : Value} (e : keyIs k v = true) : Reads h v (keyD k) [] := by
  rcases keyIs_shape e with ⟨i, t, rfl, rfl⟩ | ⟨x, t, rfl, rfl⟩
  · exact .int i t
  · exact .str x t
theorem kv_reads {P : Program} {w : World} {h : Heap} {es : List DictEntry} {vs : List (Key × Value)} (hp : Pairs (mixKind P w) es vs) : ∀ {kvs : List (Key × V)} {ds : List (PyData × PyData)}, KV kvs vs → KvD kvs ds →
    ReadsAll h (es.map (·.key)) (ds.map (·.1)) [] ∧ ReadsAll h (es.map (·.val)) (ds.map (·.2)) [] := by
  induction hp with
  | nil =>
    intro kvs ds r f
    unfold KV at r
    cases r
    cases f
    exact ⟨.nil, .nil⟩
  | @cons en kv es vs hk hv ht ih =>
    intro kvs ds r f
    unfold KV at r
    cases r with
    | cons r rt =>
      cases f with
      | cons f ft =>
        obtain ⟨i1, i2⟩ := ih rt ft
        obtain ⟨e1, e2⟩ := r
        obtain ⟨f1, f2⟩ := f
        have k1 : Reads h en.key (keyD kv.1) [] := key_reads hk
        refine ⟨?_, ?_⟩
        · rw [← e1, f1] at k1
          exact ReadsAll.cons (as := []) (bs := []) k1 i1
        · rw [← hv] at e2
          exact ReadsAll.cons (as := []) (bs := []) (f2.reads e2) i2
/-- anything that repr is asked of -/
inductive Th (K : PySem.W.Frag) (H : Hp) : V → PyData → Prop where
  | dp {v : V} {d : PyData} (h : Dp K H v d) : Th K H v d
  | dk {a : Addr} {kvs : List (Key × V)} {ds : List (PyData × PyData)} (h : H a = some (.dK kvs)) (f : KvD kvs ds) : Th K H (.ref a) (.dict ds)
theorem call_reprA {X : Cx} (hg : X.A.guards = some []) (hu : X.A.units + 66 < cLine) : CallR X (.builtin "repr") (fun xs H Q => ∃ (v : V) (d : PyData), xs = [v] ∧ Th X.K H v d ∧ d.showable = true ∧ d.depth ≤ 64 ∧ d.shown.length ≤ sizeLine ∧ Q (.str d.shown) H) := by
  intro pins s σ H xs us Q I r h
  obtain ⟨v, d, ex, hd, hs, hdep, hsz, q⟩ := h
  subst ex
  obtain ⟨u, eu, rx⟩ := vals1 r
  subst eu
  cases hd with
  | dk ha f =>
    rename_i a kvs ds
    cases rx
    obtain ⟨_, sm, vs, rv, o, es, ep, ho, ⟨hc, _, _⟩, hdat, _, hp, _⟩ := dk_of I.hok ha
    obtain ⟨r1, r2⟩ := kv_reads (h := s.heap) hp rv f
    have rr : Reads s.heap (.ref a) (.dict ds) (a :: [] ++ []) := .dict ho hc hdat r1 r2
    exact repr_of_reads' rr hs (fun _ hm => by
      have e : sysModules = a := by simpa using hm
      rw [← e] at sm
      exact absurd sm (by decide)) hg (by omega) (fun b o e => e) (fun h' u tk hk => ⟨.str _, H, I.kept (t' := tk) hk, ⟨u, rfl⟩, q⟩) hsz
  | dp hd =>
    cases hd with
    | non => cases rx; exact PySem.P.repr_of_none ⟨.str _, H, I.tok _, ⟨_, rfl⟩, by simpa only [PyData.shown] using q⟩
    | bl b => cases rx; exact PySem.P.repr_of_bool ⟨.str _, H, I.tok _, ⟨_, rfl⟩, by simpa only [PyData.shown] using q⟩
    | int i =>
      obtain ⟨t, rfl⟩ := rx
      exact PySem.P.repr_of_int (by simpa [PyData.showable] using hs) ⟨.str _, H, I.tok _, ⟨_, rfl⟩, by simpa only [PyData.shown] using q⟩
    | str z =>
      obtain ⟨t, rfl⟩ := rx
      simp only [PyData.shown] at hsz
      exact PySem.P.repr_of_str ⟨.str _, H, I.tok _, ⟨_, rfl⟩, by simpa only [PyData.shown] using q⟩ hsz
    | lst h1 h2 =>
      cases rx
      obtain ⟨as, r1⟩ := Dp.reads I _ _ _ (.lst h1 h2) rfl
      exact repr_of_reads' r1 hs (PyData.noDict_hsm (dpNoDict (.lst h1 h2))) hg (by omega) (fun b o e => e) (fun h' u tk hk => ⟨.str _, H, I.kept (t' := tk) hk, ⟨u, rfl⟩, q⟩) hsz
    | tup h1 h2 =>
      cases rx
      obtain ⟨as, r1⟩ := Dp.reads I _ _ _ (.tup h1 h2) rfl
      exact repr_of_reads' r1 hs (PyData.noDict_hsm (dpNoDict (.tup h1 h2))) hg (by omega) (fun b o e => e) (fun h' u tk hk => ⟨.str _, H, I.kept (t' := tk) hk, ⟨u, rfl⟩, q⟩) hsz
end Cr

/-! CrT: texts: joins, sorted signs. -/
namespace Cr
open PySem L2
theorem str_ext {x y : Str} (h : x.cps.toList = y.cps.toList) : x = y := by
  cases x; cases y
  simp at h
  simp [h]
theorem glue_fold (g : Str) : ∀ (r : List Str) (acc : Array Nat), (r.foldl (fun acc p => acc ++ g.cps ++ p.cps) acc).toList = acc.toList ++ (r.map fun p => g.cps.toList ++ p.cps.toList).flatten
  | [], acc => by simp
  | p :: r, acc => by
    rw [List.foldl_cons, glue_fold g r]
    simp
theorem join_list (g : Str) (x : Str) (r : List Str) : (Txt.join g (x :: r)).cps.toList = x.cps.toList ++ (r.map fun p => g.cps.toList ++ p.cps.toList).flatten := by
  exact glue_fold g r x.cps
theorem empty_cps : ("" : Str).cps = #[] := by decide +kernel
theorem join0 : ∀ ys : List Str, (Txt.join "" ys).cps.toList = (ys.map (·.cps.toList)).flatten
  | [] => by decide +kernel
  | x :: r => by
    rw [join_list, empty_cps]
    simp
theorem join0_len (ys : List Str) (n : Nat) (h : ∀ y ∈ ys, y.length = 1) (hn : ys.length = n) : (Txt.join "" ys).length = n := by
  have e : (Txt.join "" ys).length = (Txt.join "" ys).cps.toList.length := by simp [Str.length]
  rw [e, join0, List.length_flatten]
  subst hn
  clear e
  induction ys with
  | nil => rfl
  | cons y r ih =>
    have h1 := h y List.mem_cons_self
    have h2 := ih fun z hz => h z (List.mem_cons_of_mem _ hz)
    simp only [List.map_cons, List.sum_cons, List.length_cons]
    rw [h2]
    have : y.cps.toList.length = 1 := by simpa [Str.length] using h1
    omega
/-- small letters -/
def lets (z : Str) : Prop := ∀ c ∈ z.cps.toList, 97 ≤ c ∧ c ≤ 122
theorem lets_join {ys : List Str} (h : ∀ y ∈ ys, lets y) : lets (Txt.join "" ys) := by
  intro c hc
  rw [join0] at hc
  obtain ⟨l, hl, hcl⟩ := List.mem_flatten.mp hc
  obtain ⟨y, hy, rfl⟩ := List.mem_map.mp hl
  exact h y hy c hcl
theorem lets_rev {z : Str} (h : lets z) : lets (revS z) := fun c hc => h c (by simpa [revS] using hc)
theorem lets_ok {z : Str} (h : lets z) : PyData.strOk z = true := by
  unfold PyData.strOk
  rw [Array.all_eq_true']
  intro x hx
  have := h x (by simpa using hx)
  simp only [decide_eq_true_eq]
  omega
/-! ### the one sorted list -/
def leS (a b : Str) : Prop := ¬ b.cps.toList < a.cps.toList
theorem leS_trans {a b c : Str} (h1 : leS a b) (h2 : leS b c) : leS a c := List.le_trans (α := Nat) h1 h2
theorem leS_antisymm {a b : Str} (h1 : leS a b) (h2 : leS b a) : a = b := str_ext (List.le_antisymm (α := Nat) h1 h2)
open PyProof.Rows in
theorem pw_rising : ∀ (r : List Str) (x : Str), risingS x r = true → (x :: r).Pairwise leS
  | [], x, _ => by simp
  | y :: r, x, h => by
    unfold risingS at h
    rw [Bool.and_eq_true, ltCps_eq] at h
    have hx : leS x y := by
      unfold leS
      simpa using h.1
    have ih := pw_rising r y h.2
    refine List.pairwise_cons.mpr ⟨fun z hz => ?_, ih⟩
    rcases List.mem_cons.mp hz with rfl | hz
    · exact hx
    · exact leS_trans hx ((List.pairwise_cons.mp ih).1 z hz)
open PyProof.Rows in
theorem pw_sorted {l : List Str} (h : sortedS l = true) : l.Pairwise leS := by
  cases l with
  | nil => exact List.Pairwise.nil
  | cons x r => exact pw_rising r x h
theorem sorted_one {l m : List Str} (hl : l.Pairwise leS) (hm : m.Pairwise leS) (p : l.Perm m) : l = m :=
  List.Perm.eq_of_pairwise (fun a b _ _ h1 h2 => leS_antisymm h1 h2) hl hm p
/-- a fixed way to sort: by insertion -/
def insS (x : Str) : List Str → List Str
  | [] => [x]
  | y :: r => if y.cps.toList < x.cps.toList then y :: insS x r else x :: y :: r
def srtL : List Str → List Str
  | [] => []
  | x :: r => insS x (srtL r)
theorem insS_perm (x : Str) : ∀ l : List Str, (insS x l).Perm (x :: l)
  | [] => List.Perm.refl _
  | y :: r => by
    unfold insS
    split
    · exact ((insS_perm x r).cons y).trans (List.Perm.swap x y r)
    · exact List.Perm.refl _
theorem srtL_perm : ∀ l : List Str, (srtL l).Perm l
  | [] => List.Perm.refl _
  | x :: r => (insS_perm x (srtL r)).trans ((srtL_perm r).cons x)
theorem insS_pw (x : Str) : ∀ l : List Str, l.Pairwise leS → (insS x l).Pairwise leS
  | [], _ => by simp [insS]
  | y :: r, h => by
    obtain ⟨h1, h2⟩ := List.pairwise_cons.mp h
    unfold insS
    split
    · next c =>
      refine List.pairwise_cons.mpr ⟨fun z hz => ?_, insS_pw x r h2⟩
      rcases List.mem_cons.mp ((insS_perm x r).mem_iff.mp hz) with rfl | hz
      · exact List.lt_asymm c
      · exact h1 z hz
    · next c =>
      refine List.pairwise_cons.mpr ⟨fun z hz => ?_, h⟩
      rcases List.mem_cons.mp hz with rfl | hz
      · exact c
      · exact leS_trans c (h1 z hz)
theorem srtL_pw : ∀ l : List Str, (srtL l).Pairwise leS
  | [] => List.Pairwise.nil
  | x :: r => insS_pw x _ (srtL_pw r)
open PyProof.Rows in
theorem sorted_is {ys l : List Str} (p : ys.Perm l) (h : sortedS ys = true) : ys = srtL l :=
  sorted_one (pw_sorted h) (srtL_pw l) (p.trans (srtL_perm l).symm)
theorem srtL_filter (f : Str → Bool) (l : List Str) : (srtL l).filter f = srtL (l.filter f) :=
  sorted_one ((srtL_pw l).filter f) (srtL_pw _) (((srtL_perm l).filter f).trans (srtL_perm _).symm)
/-- a text's signs in order -/
def srt (z : Str) : Str := Txt.join "" (srtL (signs z))
theorem sign_len {z y : Str} (h : y ∈ signs z) : y.length = 1 := by
  obtain ⟨c, _, rfl⟩ := List.mem_map.mp h
  rfl
theorem srt_len (z : Str) : (srt z).length = z.length :=
  join0_len _ _ (fun y hy => sign_len ((srtL_perm _).mem_iff.mp hy)) (by rw [(srtL_perm _).length_eq, signs_len])
theorem srt_lets {z : Str} (h : lets z) : lets (srt z) := lets_join fun y hy => by
  obtain ⟨c, hc, rfl⟩ := List.mem_map.mp ((srtL_perm _).mem_iff.mp hy)
  intro d hd
  have : d = c := by simpa using hd
  subst this
  exact h d hc
end Cr

/-! Cr4: comprehensions over a locked dict's keys. -/
namespace Cr
open PySem L2
section
variable {d : Addr} {o : Obj} {kvs : List (Key × V)} {g : TG} {tt : TT} {te tk tv : TE} {vs : List Nat} {σ : L2.St} {H1 : Hp} {D : Addr} {Qd : Hp → Prop}
theorem lc_keys (Pv : Nat → Hp → Prop) (h0 : Pv 0 (upd H1 D (.lst []))) (hl : ∀ i H, i ≤ kvs.length → Pv i H → H d = some (.frz o (.dK kvs)))
    (hs : ∀ i k v H, kvs[i]? = some (k, v) → Pv i H → g (kV k) (wipe σ vs) H fun σ2 H2 => wipe σ2 vs = wipe σ vs ∧ tt σ2 H2 fun b H3 =>
      if b = true then te σ2 H3 fun y H4 => ∃ acc, H4 D = some (.lst acc) ∧ acc.length < sizeLine ∧ Pv (i + 1) (upd H4 D (.lst (acc ++ [y]))) else Pv (i + 1) H3) (hd : ∀ H, Pv kvs.length H → Qd H) :
    ∃ W : Nat → Nat → Hp → Prop, (∃ m, W 0 m (upd H1 D (.lst []))) ∧ ∀ i m H, W i m H → ((Itk d o kvs).stop i H ∧ Qd H) ∨ ((Itk d o kvs).go i H ∧ ∃ Nx : Hp → Prop, (∀ H', Nx H' → ∃ m', m' < m ∧ W (i + 1) m' H') ∧
      ∀ x H', (Itk d o kvs).yld i H x H' → g x (wipe σ vs) H' fun σ2 H2 => wipe σ2 vs = wipe σ vs ∧ tt σ2 H2 fun b H3 =>
        if b = true then te σ2 H3 fun y H4 => ∃ acc, H4 D = some (.lst acc) ∧ acc.length < sizeLine ∧ Nx (upd H4 D (.lst (acc ++ [y]))) else Nx H3) := by
  refine ⟨fun i m H => m + i = kvs.length ∧ Pv i H, ⟨kvs.length, rfl, h0⟩, fun i m H ⟨em, p⟩ => ?_⟩
  have q := hl i H (by omega) p
  by_cases c : i < kvs.length
  · refine .inr ⟨⟨q, c⟩, Pv (i + 1), fun H' p' => ⟨m - 1, by omega, by omega, p'⟩, fun x H' y => ?_⟩
    obtain ⟨rfl, k, v, e, rfl⟩ := y
    exact hs i k v _ e p
  · obtain rfl : i = kvs.length := by omega
    exact .inl ⟨⟨q, Nat.le_refl _⟩, hd H p⟩
theorem dc_keys (Pv : Nat → Hp → Prop) (h0 : Pv 0 (upd H1 D (.dK []))) (hl : ∀ i H, i ≤ kvs.length → Pv i H → H d = some (.frz o (.dK kvs)))
    (hs : ∀ i k v H, kvs[i]? = some (k, v) → Pv i H → g (kV k) (wipe σ vs) H fun σ2 H2 => wipe σ2 vs = wipe σ vs ∧ tt σ2 H2 fun b H3 =>
      if b = true then tk σ2 H3 fun y H4 => tv σ2 H4 fun z H5 => ∃ ls k, y = kV k ∧ H5 D = some (.dK ls) ∧ ls.length < sizeLine ∧ Pv (i + 1) (upd H5 D (.dK (putK ls k z))) else Pv (i + 1) H3) (hd : ∀ H, Pv kvs.length H → Qd H) :
    ∃ W : Nat → Nat → Hp → Prop, (∃ m, W 0 m (upd H1 D (.dK []))) ∧ ∀ i m H, W i m H → ((Itk d o kvs).stop i H ∧ Qd H) ∨ ((Itk d o kvs).go i H ∧ ∃ Nx : Hp → Prop, (∀ H', Nx H' → ∃ m', m' < m ∧ W (i + 1) m' H') ∧
      ∀ x H', (Itk d o kvs).yld i H x H' → g x (wipe σ vs) H' fun σ2 H2 => wipe σ2 vs = wipe σ vs ∧ tt σ2 H2 fun b H3 =>
        if b = true then tk σ2 H3 fun y H4 => tv σ2 H4 fun z H5 => ∃ ls k, y = kV k ∧ H5 D = some (.dK ls) ∧ ls.length < sizeLine ∧ Nx (upd H5 D (.dK (putK ls k z))) else Nx H3) := by
  refine ⟨fun i m H => m + i = kvs.length ∧ Pv i H, ⟨kvs.length, rfl, h0⟩, fun i m H ⟨em, p⟩ => ?_⟩
  have q := hl i H (by omega) p
  by_cases c : i < kvs.length
  · refine .inr ⟨⟨q, c⟩, Pv (i + 1), fun H' p' => ⟨m - 1, by omega, by omega, p'⟩, fun x H' y => ?_⟩
    obtain ⟨rfl, k, v, e, rfl⟩ := y
    exact hs i k v _ e p
  · obtain rfl : i = kvs.length := by omega
    exact .inl ⟨⟨q, Nat.le_refl _⟩, hd H p⟩
end
/-- a locked dict is read -/
theorem dg_frz {H : Hp} {d : Addr} {o : Obj} {kvs : List (Key × V)} {k : Key} {v : V} (h : H d = some (.frz o (.dK kvs))) (e : valV kvs k = some v) : DGet H d (kV k) (some v) := .inl ⟨kvs, k, .inr ⟨o, h⟩, rfl, e.symm⟩
/-- what stands but for the locked d stands again behind the lock -/
theorem same_lock {H H' : Hp} {d : Addr} {u : HO} (hd : H d = some u) (h : ∀ a x, a ≠ d → H a = some x → H' a = some x) : Same H (upd H' d u) := fun a x e => by
  by_cases c : a = d
  · subst c
    rw [hd] at e
    rw [upd_same]
    exact e
  · rw [upd_ne c]
    exact h a x c e
theorem filter_take_yes {α : Type} {l : List α} {f : α → Bool} {i : Nat} {x : α} (e : l[i]? = some x) (h : f x = true) : (l.take (i + 1)).filter f = (l.take i).filter f ++ [x] := by
  rw [List.take_add_one, e, List.filter_append]
  simp [h]
theorem filter_take_no {α : Type} {l : List α} {f : α → Bool} {i : Nat} {x : α} (e : l[i]? = some x) (h : f x = false) : (l.take (i + 1)).filter f = (l.take i).filter f := by
  rw [List.take_add_one, e, List.filter_append]
  simp [h]
end Cr

/-! CrX1: own exception classes straight over any built-in one: made, their fields stored. -/
namespace Cr
open PySem PySem.Spec PyProof.Rows L2
/-- what the written part says of such a class -/
structure ExB (K : PySem.W.Frag) (C : Addr) (B newId initId : String) (tl : List Value) : Prop where
  fb : ExcBaseFacts B newId initId tl
  sf : StoreFacts B tl "object.__setattr__" "object"
  ii : PySem.W.excInitIn K C tl newId = true
  ov : PySem.W.excOver K C tl = true
  hd : PySem.W.hasDictIn K C = true
  sa : PySem.W.findIn K (.ref C) "__setattr__" = some (some (.builtin "object.__setattr__"))
  ga : PySem.W.findIn K (.ref C) "__getattribute__" = some (some (.builtin "BaseException.__getattribute__"))
  gt : ∃ g, PySem.W.findIn K (.ref C) "__getattr__" = some g
  exC : PySem.W.subIn K (.ref C) (.type "BaseException") = some true
  tyC : PySem.W.typeIn K (.ref C) = some (.type "type")
  kC : PySem.W.keepIn K (.ref C) = true
  ci : PySem.W.isClsIn K C = true
  ca : PySem.W.findIn K (.ref C) "__class__" = some (some (.builtin "object.__class__"))
  cn : PySem.W.specialIn K (.builtin "object.__class__") "__get__" = some (some (.builtin "getset_descriptor.__get__"))
  ct : PySem.W.takesIn K (.builtin "object.__class__") = some true
  ob : PySem.W.mroIn K C (.type "object") = some true
section
variable {X : Cx} {pins : List (Addr × Obj)} {σ : L2.St} {H : Hp} {s : Shared} {a C dx : Addr} {f : Str} {y : V} {u : Value} {fs : List (Str × V)} {Q : Unit → Shared → Prop} {E : Value → Shared → Prop} {A : Around} {B newId initId : String} {tl : List Value}
/-- the first field: the dict at dx is new, the exception at a names it now -/
theorem xinv_new {h' : Heap} {tk : Nat} {t1 : Addr} {mA : Str → Option Value} (I : Inv X pins σ H s) (e : H a = some (exo a C none)) (ha : s.heap.get? a = some (PySem.W.excObj C t1 none .none)) (k : ∀ b o, b ≠ a → s.heap.get? b = some o → h'.get? b = some o)
    (dn : s.heap.objs.size ≤ dx) (hx : h'.get? a = some (PySem.W.excObj C t1 (some dx) .none)) (hn : h'.Ns1 dx mA) (rel : ∀ g, RelO (fs.lookup g) (mA g)) :
    Inv X pins σ (upd (upd H dx (exd dx fs)) a (exo a C (some dx))) { s with heap := h', toks := tk } := by
  have nda : dx ≠ a := fun z => absurd (Heap.lt_size ha) (Nat.not_lt.mpr (z ▸ dn))
  -- between: the dict is laid, the exception is as it was
  generalize hm : h'.update a (fun _ => PySem.W.excObj C t1 none .none) = h1
  have h1a : h1.get? a = some (PySem.W.excObj C t1 none .none) := by rw [← hm]; exact Heap.get?_update_self _ hx rfl
  have h1b : ∀ b, b ≠ a → h1.get? b = h'.get? b := fun b hb => by rw [← hm]; exact Heap.get?_update_other _ _ (Ne.symm hb)
  have J := I.laid (t' := tk) (a := dx) (o := exd dx fs) (h' := h1) (fun b o q => by
    by_cases hb : b = a
    · subst hb
      rw [ha] at q
      rw [h1a]; exact q
    · rw [h1b b hb]; exact k b o hb q) dn (exd_ok (hn.at fun o q => by rw [h1b dx nda]; exact q) rel)
  have eJ : (upd H dx (exd dx fs)) a = some (exo a C none) := by rw [upd_ne (Ne.symm nda)]; exact e
  exact J.write (x := a) (e := a) (o := exo a C (some dx)) (t' := tk) (h' := h') (by rw [eJ]; exact True.intro) (.inl rfl) (fun b o hb q => by rw [← h1b b hb]; exact q) ⟨_, hx⟩ (exo_ok hx)
theorem xst_new (T : ExB X.K C B newId initId tl) (I : Inv X pins σ H s) (e : H a = some (exo a C none)) (hno : NoAttr X.K C f) (ry : RelV y u)
    (h : ∀ dx s', H dx = none → dx ≠ a → Inv X pins σ (upd (upd H dx (exd dx [(f, y)])) a (exo a C (some dx))) s' → Q () s') : wpAny (model X.prog X.w) A (setAttr (.ref a) f u) Q E s := by
  obtain ⟨t1, ho⟩ := exo_at I.hok e
  obtain ⟨hp, g, d, t, os⟩ := s
  have IA : PySem.W.InstAt hp a (PySem.W.excObj C t1 none .none) C none := ⟨ho, rfl, rfl, trivial⟩
  refine PySem.W.set_plain I.kIn IA T.sa (PySem.W.osa_openX T.sf I.kIn IA T.ov hno.taker fun b => ?_)
  obtain ⟨cd, hc, hdd⟩ := PySem.W.any_some T.hd
  refine wpAny_bind (wpAny_pure (wpAny_bind (PySem.W.instanceDict_exc (t := t1) (c2 := .none) ho (PySem.W.looks_clsIn I.kIn hc) hdd ?_)))
  have ho' : hp.get? a = some (PySem.W.excObj C t1 none .none) := ho
  have hxs : a ≠ hp.objs.size := Nat.ne_of_lt (Heap.lt_size ho')
  show wpAny _ _ (Builtin.ObjectAttr.storeInDict hp.objs.size _ f u) _ _ ⟨(hp.push (PySem.W.dictOf [] 0)).update a fun o => { o with dict := some hp.objs.size }, g, d, t + 1, os⟩
  generalize hh2 : ((hp.push (PySem.W.dictOf [] 0)).update a fun o => { o with dict := some hp.objs.size }) = h2
  have h2a : h2.get? a = some (PySem.W.excObj C t1 (some hp.objs.size) .none) := by rw [← hh2]; exact Heap.get?_update_self _ (Heap.get?_push_of_some _ ho') rfl
  have h2b : ∀ b o, b ≠ a → hp.get? b = some o → h2.get? b = some o := fun b o hb q => by rw [← hh2, Heap.get?_update_other _ _ (Ne.symm hb)]; exact Heap.get?_push_of_some _ q
  have h2d : h2.Ns hp.objs.size (fun _ => none) := by
    refine ⟨PySem.W.dictOf [] 0, #[], 0, ?_, rfl, fun en q => absurd q (by simp), fun _ => rfl⟩
    rw [← hh2, Heap.get?_update_other _ _ hxs]
    exact Heap.get?_push_at rfl rfl
  refine PySem.HandSPX.store_in_new h2d fun h' tk' hn hs => ?_
  have hfree : H hp.objs.size = none := I.hok.fresh (Nat.le_refl _)
  refine h hp.objs.size _ hfree (Ne.symm hxs) (xinv_new (s := ⟨hp, g, d, t, os⟩) (tk := tk') I e ho' (fun b o hb q => (hs.2 b (Nat.ne_of_lt (Heap.lt_size q))).trans (h2b b o hb q)) (Nat.le_refl _) ((hs.2 a hxs).trans h2a) hn (relO_put (fs := []) ry fun g => True.intro))
theorem xst_old (T : ExB X.K C B newId initId tl) (I : Inv X pins σ H s) (e : H a = some (exo a C (some dx))) (ed : H dx = some (exd dx fs)) (hl : fs.length ≤ 900) (hno : NoAttr X.K C f) (ry : RelV y u)
    (h : ∀ s', Inv X pins σ (upd H dx (exd dx ((f, y) :: fs))) s' → Q () s') : wpAny (model X.prog X.w) A (setAttr (.ref a) f u) Q E s := by
  obtain ⟨t1, ho⟩ := exo_at I.hok e
  obtain ⟨mA, hns, rel⟩ := exd_at I.hok ed
  have hw := within_of rel
  obtain ⟨hp, g, d, t, os⟩ := s
  obtain ⟨oD, _, _, hoD, _, _⟩ := hns.count hw
  have IA : PySem.W.InstAt hp a (PySem.W.excObj C t1 (some dx) .none) C (some oD) := ⟨ho, rfl, rfl, hoD⟩
  refine PySem.W.set_plain I.kIn IA T.sa (PySem.W.osa_openX T.sf I.kIn IA T.ov hno.taker fun b => ?_)
  obtain ⟨cd, hc, hdd⟩ := PySem.W.any_some T.hd
  have ho' : hp.get? a = some (PySem.W.excObj C t1 (some dx) .none) := ho
  have di : ∀ {Q' : Option Addr → Shared → Prop} {E' : Value → Shared → Prop} {s' : Shared}, s'.heap = hp → Q' (some dx) s' → wpAny (model X.prog X.w) A.in1 (instanceDict a true) Q' E' s' := by
    intro Q' E' s' es q
    unfold instanceDict
    refine wpAny_bind (wpAny_loadPart (by rw [es]; exact ho') ?_)
    refine wpAny_bind ((PySem.W.looks_clsIn I.kIn hc) _ _ _ _ (fun _ _ z => by rw [es]; exact z) ?_)
    rw [hdd]
    exact wpAny_pure q
  refine wpAny_bind (wpAny_pure (wpAny_bind (di rfl ?_)))
  show wpAny _ _ (Builtin.ObjectAttr.storeInDict dx _ f u) _ _ _
  refine PySem.OEX.store_in_old hns hw (by rw [List.length_map]; omega) fun h' tk' hn hs => ?_
  have hd : ∃ o, h'.get? dx = some o := by
    obtain ⟨o, _, _, e', _⟩ := hn
    exact ⟨o, e'⟩
  exact h _ (I.write (t' := tk') (x := dx) (e := dx) (o := exd dx ((f, y) :: fs)) (by rw [ed]; exact True.intro) (.inl rfl) (fun b o hb q => (hs.2 b hb).trans q) hd (exd_ok hn (relO_put ry rel)))
/-- B.__init__(self, ..) -/
theorem xinit_ok {us : List Value} {R : Value → Shared → Prop} (T : ExB X.K C B newId initId tl) (I : Inv X pins σ H s) (e : H a = some (exo a C none)) (hl : us.length ≤ sizeLine) (h : ∀ s', Inv X pins σ H s' → R .none s') :
    wpAny (model X.prog X.w) A (call (.builtin initId) (.ref a :: us)) R E s := by
  obtain ⟨nm, N, qn, bs, bm, hd, sn, sub, ab, col, dd, k0, k1, k2, k3, k5, hC, hT⟩ := PySem.W.excInit_of I.kIn T.ii
  obtain ⟨t1, ho⟩ := exo_at I.hok e
  obtain ⟨hp, g, d, t, os⟩ := s
  refine wpAny_call (PySem.HandSPX.init_base T.fb hT hC ho hl fun h' t2 k hx => ?_)
  have J := I.write (t' := t) (x := a) (e := a) (o := exo a C none) (by rw [e]; exact True.intro) (.inl rfl) k ⟨_, hx⟩ (exo_ok hx)
  have same : upd H a (exo a C none) = H := by
    funext b
    by_cases hb : b = a
    · subst hb; rw [upd_same, e]
    · rw [upd_ne hb]
  rw [same] at J
  exact h _ J
end
end Cr

/-! CrX2: rules for __init__ of such classes, and for making them. -/
namespace Cr
open PySem PySem.Spec PyProof.Rows L2
/-- the built-in class B by its name x -/
structure BltE (K : PySem.W.Frag) (x : Str) (B initId : String) : Prop where
  boot : bootBuiltins x = some (.type B)
  ty : typeOf (.type B) = pure (.type "type")
  st : Manifest.isStub B = false
  fi : PySem.W.findCls K (.type B) (.type "type") "__init__" = some (.val (.builtin initId))
  hi : PySem.W.handedIn (.builtin initId) = true
section
variable {X : Cx} {o e : Expr} {es : List Expr} {to te : TE} {ta : TA} {f x : Str} {p p' p1 p2 pos : Pos} {C : Addr} {B newId initId : String} {tl : List Value}
/-- B.__init__(self, ..) -/
def tBI (C : Addr) (ta : TA) : TE := fun σ H Q => ta σ H fun vs H1 => ∃ (a : Addr) (ws : List V), vs = .ref a :: ws ∧ ws.length ≤ 1000 ∧ H1 a = some (exo a C none) ∧ Q .non H1
theorem pe_bi {pl : Sem Bool} (T : ExB X.K C B newId initId tl) (hB : BltE X.K x B initId) (hg : Gl X x) (hm : X.mg x = none) (ha : PA X (e :: es) ta) (hn : x ≠ "__name__" := by decide) (hdb : (x == ("__debug__" : Str)) = false := by decide)
    (hc : eval (.Call (.Attribute (.Name x p1) "__init__" p2) (e :: es) [] pos) X.env = (do
      let z ← eval (.Name x p1) X.env
      standAt p2.atName
      let (g, fst) ← holding [z] (getMethod z "__init__" pl)
      callWith pos g fst (backTo pos (starEach (e :: es) X.env)) (backToKw pos (keywordEach [] X.env))) := by rfl)
    (he : starEach (e :: es) X.env = (false, eval e X.env) :: starEach es X.env := by rfl) (hpl : (backTo pos (starEach es X.env)).any (·.1) = false := by rfl) :
    PE X (.Call (.Attribute (.Name x p1) "__init__" p2) (e :: es) [] pos) (tBI C ta) := by
  refine ⟨fun pins s σ H Q I h => PySem.W.methodCall_KW (ld_blt I hg hm hB.boot ?_ hn hdb) hc⟩
  obtain ⟨m, fr⟩ := I.fr
  refine PySem.W.method_type fr I.ok.mod.kin hB.ty hB.st hB.fi hB.hi ?_
  show wpAny _ _ (callWith pos (Value.builtin initId) [] (backTo pos (starEach (e :: es) X.env)) []) _ _ _
  refine PyProof.Rows.callWith_method1 (thn (ha.run pos pins _ σ H _ (I.tok _) h) fun us s1 z => ?_) he hpl
  obtain ⟨vs, H1, J, rv, a, ws, rfl, hl, ea, q⟩ := z
  cases rv with
  | @cons _ v0 _ vr r0 rr =>
    obtain rfl : v0 = Value.ref a := r0
    have hlen : vr.length ≤ sizeLine := by
      have := Paired.length rr
      rw [sizeLine_eq]; omega
    exact xinit_ok T J ea hlen fun s' J' => ⟨.non, H1, J', rfl, q⟩
/-- self.f = e in such an __init__ -/
def tXst (C : Addr) (f : Str) (to te : TE) : TS := fun D σ H => te σ H fun y H1 => to σ H1 fun z H2 => ∃ a : Addr, z = .ref a ∧
  ((H2 a = some (exo a C none) ∧ ∀ dx, H2 dx = none → dx ≠ a → D.nx σ (upd (upd H2 dx (exd dx [(f, y)])) a (exo a C (some dx)))) ∨
    ∃ (dx : Addr) (fs : List (Str × V)), H2 a = some (exo a C (some dx)) ∧ H2 dx = some (exd dx fs) ∧ fs.length ≤ 900 ∧ D.nx σ (upd H2 dx (exd dx ((f, y) :: fs))))
theorem ps_xst (T : ExB X.K C B newId initId tl) (hno : NoAttr X.K C f) (ho : PE X o to) (he : PE X e te) (hs : swapsWith e (some (.Attribute o f p')) pos.line X.env = pure false := by rfl) :
    PS X (.Assign [.Attribute o f p'] e pos) (tXst C f to te) := by
  refine ⟨fun pins s σ H D I h => plainObj_wpAny_Assign_Attribute (thn (he.run pins s σ H _ I h) fun v s1 z1 => ?_) hs⟩
  obtain ⟨y, H1, I1, r1, q1⟩ := z1
  refine thn (ho.run pins s1 σ H1 _ I1 q1) fun u s2 z2 => ?_
  obtain ⟨z, H2, I2, r2, a, rfl, q⟩ := z2
  obtain rfl : u = Value.ref a := r2
  rcases q with ⟨ea, q⟩ | ⟨dx, fs, ea, ed, hl, q⟩
  · exact xst_new T I2 ea hno r1 fun dx s' n ne J => ⟨σ, _, J, q dx n ne⟩
  · exact xst_old T I2 ea ed hl hno r1 fun s' J => ⟨σ, _, J, q⟩
/-- C(e, ..) -/
theorem pmk_x {CX : CXT} {fI : Addr} {k : Nat} {fd : FuncData} {ps : List Str} {sp : Sp} (T : ExB X.K C B newId initId tl) (M : Meth X.K C "__init__" fI) (F1 : FnOk X.prog X.w X.K X.mg X.base CX k fI fd ps sp) (hr : Room (k + 1) X.A)
    (hb : Binds X.K fd ps []) (hx : Passes CX X (fun _ _ _ => False)) (hg : Gl X x) (hm : X.mg x = some (.ref C)) (ha : PA X (e :: es) ta) (hdb : (x == ("__debug__" : Str)) = false := by decide)
    (he : starEach (e :: es) X.env = (false, eval e X.env) :: starEach es X.env := by rfl) (hpl : (backTo pos (starEach es X.env)).any (·.1) = false := by rfl) :
    PMk X (.Call (.Name x p) (e :: es) [] pos) (tMkO C sp [] ta) := by
  intro pins s σ H Q I h
  refine wpAny_Call_Name_kw (ld_glob I hg hm (PySem.W.callWith_K (h₀ := X.base) I.ok.mod.kin T.kC (thn (ha.run pos pins s σ H _ I h) fun us s1 z => ?_) he hpl) hdb)
  obtain ⟨vs, H1, J, rv, hz, q1⟩ := z
  refine ⟨J.kIn, ?_⟩
  show wpAny _ _ (call (.ref C) us) _ _ _
  obtain ⟨hp, g, dr, tk, os⟩ := s1
  obtain ⟨nm, N, qn, bs, bm, hd, sn, sub, ab, col, dd, k0, k1, k2, k3, k5, hC, hT⟩ := PySem.W.excInit_of J.kIn T.ii
  have sz : hp.objs.size ≤ hp.objs.size + 1 := Nat.le_succ _
  have want := q1 (hp.objs.size + 1) (J.hok.fresh sz)
  generalize hh2 : (hp.push (PySem.W.kdv_tup us)).push (PySem.HandSPX.excO C hp.objs.size) = h2
  have kk : ∀ b o, hp.get? b = some o → h2.get? b = some o := fun b o q => by rw [← hh2]; exact Heap.get?_push_of_some _ (Heap.get?_push_of_some _ q)
  have hget : h2.get? (hp.objs.size + 1) = some (PySem.HandSPX.excO C hp.objs.size) := by rw [← hh2]; heap_get
  have J2 : Inv X pins σ (upd H1 (hp.objs.size + 1) (exo (hp.objs.size + 1) C none)) ⟨h2, g, dr, tk, os⟩ := J.laid (t' := tk) (a := hp.objs.size + 1) (h' := h2) kk sz (exo_ok hget)
  rw [List.append_nil] at want
  have r2 : Vals (V.ref (hp.objs.size + 1) :: vs) (Value.ref (hp.objs.size + 1) :: us) := .cons rfl rv
  have hl : (Value.ref (hp.objs.size + 1) :: us).length = ps.length := r2.length.symm.trans (F1.len _ _ _ _ want)
  have bt := hb ⟨h2, g, dr, tk, os⟩ (Value.ref (hp.objs.size + 1) :: us) J2.kIn (by rw [List.append_nil]; exact hl)
  rw [List.append_nil] at bt
  have hus : us.length ≤ sizeLine := by
    have := Paired.length rv
    rw [sizeLine_eq]; omega
  refine wpAny_call (PySem.HandSPX.call_own T.fb hT hC (PySem.W.looks_findIn J.kIn M.at_) (fun self => PySem.W.bind_fn J.kIn self (beq_iff_eq.mp M.fn)) hus ?_)
  rw [hh2]
  refine codeAny_mono (F1.run _ X.stack _ _ ⟨Value.ref (hp.objs.size + 1) :: us, []⟩ (Value.ref (hp.objs.size + 1) :: us) _ _ (fun _ _ _ => False) (hr.make C us []) (J2.env0.make C us []) bt r2 want) fun r s' w => ?_
  match r, w with
  | .error er, w => exact hx pins σ _ _ er s' J2 w
  | .ok .next, w => exact False.elim w
  | .ok .brk, w => exact False.elim w
  | .ok .cont, w => exact False.elim w
  | .ok (.ret v), ⟨rv', H2, os2, bare2, un2, hok2, rel, en, d, fs, ea, ed, hd1, q2⟩ =>
    subst en
    obtain ⟨h3, g2, d2, t2, os'⟩ := s'
    exact ⟨rel, mk_end (raises_own T.exC T.tyC) J sz kk un2 hok2 os2 bare2 ea ed hd1 q2⟩
end
end Cr

/-! CrX3: a caught exception that is kept behind the suite. -/
namespace Cr
open PySem PySem.Spec PyProof.Rows L2
/-- at a: an exception of the class cls, its own dict at d -/
def ExK (a : Addr) (cls : Value) (d : Option Addr) : HO := .ext fun h => ∃ (oe : Obj) (vs : Array Value), h.get? a = some oe ∧ Zc cls d oe ∧ oe.data = .fields vs
theorem exK_ok {P : Program} {w : World} {H : Hp} {h : Heap} {a : Addr} {cls : Value} {d : Option Addr} {oe : Obj} {vs : Array Value} (e : h.get? a = some oe) (z : Zc cls d oe) (f : oe.data = .fields vs) : ObjOk P w H h a (ExK a cls d) :=
  ⟨⟨oe, vs, e, z, f⟩, ⟨oe, e⟩, fun _ _ ⟨o, v, q, r⟩ k => ⟨o, v, k o q, r⟩⟩
theorem exK_at {P : Program} {w : World} {H : Hp} {h : Heap} {a : Addr} {cls : Value} {d : Option Addr} (hok : HOk P w H h) (e : H a = some (ExK a cls d)) : ∃ (oe : Obj) (vs : Array Value), h.get? a = some oe ∧ Zc cls d oe ∧ oe.data = .fields vs := by
  have q := hok a _ e
  exact q.1
section
variable {X : Cx} {pins : List (Addr × Obj)} {σ : L2.St} {H : Hp} {s : Shared} {a : Addr}
/-- an object that was not followed is followed from here on -/
theorem adopt {oe : Obj} {vs : Array Value} {cls : Value} {d : Option Addr} (I : Inv X pins σ H s) (ha : s.heap.get? a = some oe) (hz : Zc cls d oe) (hd : oe.data = .fields vs) (na : H a = none) (nL : a ≠ X.env.locals) (n0 : X.s_0.heap.get? a = none)
    (np : ∀ p ∈ X.pn ++ pins, p.1 ≠ a) : Inv X pins σ (upd H a (ExK a cls d)) s := by
  have up : ∀ {b : Addr} {o : HO}, H b = some o → (upd H a (ExK a cls d)) b = some o := fun {b o} q => by rw [upd_ne (ne_of_none q na)]; exact q
  refine ⟨I.ok, I.os, I.bare, ⟨I.base.keep, I.base.slot, fun b o q n x => ?_, I.base.there, fun b xs q => up (I.base.tups b xs q), fun b o v q => up (I.base.frzs b o v q), fun b ps q => ?_⟩, I.loc, I.cell, ?_, fun x c q => ?_, fun p hp => ?_, fun b o q => ?_, I.len⟩
  · rw [upd_ne (fun z => by rw [z, n0] at q; cases q)]
    exact I.base.free b o q n x
  · obtain ⟨more, q'⟩ := I.base.tbls b ps q
    exact ⟨more, up q'⟩
  · rw [upd_ne (Ne.symm nL)]; exact I.free
  · obtain ⟨v, oc, ec, dc⟩ := I.cell x c q
    rw [upd_ne (fun z => by
      rw [z, ha] at ec
      cases ec
      rw [hd] at dc
      cases dc)]
    exact I.freeC x c q
  · obtain ⟨p1, p2, p3⟩ := I.pin p hp
    exact ⟨p1, by rw [upd_ne (np p hp)]; exact p2, p3⟩
  · by_cases hb : b = a
    · subst hb
      rw [upd_same] at q
      cases q
      exact exK_ok ha hz hd
    · rw [upd_ne hb] at q
      exact (I.hok b o q).stay (fun _ _ _ z => z) (fun _ z => up z) fun _ _ z => up z
end
/-- what 'except x as n: suite' wishes of an exception of the body, where the exception is kept -/
def wKeep (K : PySem.W.Frag) (c : Value) (i : Nat) (ts : Addr → TS) (D : Ends) : WX := fun cls d σ H =>
  PySem.W.exmOne K cls c = some true ∧ ∀ a, H a = none → ts a { nx := fun σ' H' => D.nx (σ'.set i none) (upd H' a (ExK a cls d)), rt := fun _ _ => False, bk := fun _ _ => False, ct := fun _ _ => False } (σ.set i (some (.ref a))) H
section
variable {X : Cx} {x n : Str} {c : Value} {i : Nat} {body suite : List Stmt} {b₀ : Stmt} {np pos pos' : Pos} {tb : WX → TS} {ts : Addr → TS}
theorem ps_try_keep (hs : X.stack = X.env :: X.outer) (hf : X.env.frame = some X.env.locals) (hex : X.ex = []) (hN : X.N.Nodup) (hi : X.N[i]? = some n) (hln : X.env.kindOf n = some .local) (hc : Names X x c)
    (hb : ∀ (W : WX) (pn : List (Addr × Obj)) (xe : Value → Shared → Prop), Takes (X.tr pn xe) W → PassesOwn (model X.prog X.w) X.A X.env xe → PSs (X.tr pn xe) body (tb W))
    (hsu : ∀ (a : Addr) (oe : Obj) (pn : List (Addr × Obj)), PSs (X.suite a ((a, oe) :: pn)) (b₀ :: suite) (ts a)) :
    PS X (.Try body [.ExceptHandler (some (.Name x np)) (some n) (b₀ :: suite) pos'] [] [] pos) (fun D σ H => tb (wKeep X.K c i ts D) D σ H) := by
  refine ⟨fun pins s σ H D I h => wpAny_Try_except ?_⟩
  have ok := I.ok
  have hfr : X.A.frames = some (X.env :: X.outer) := by rw [ok.frames, hs]
  refine wpAny_mono ((hb (wKeep X.K c i ts D) (X.pn ++ pins) _ ?air PassesOwn.looking).run [] s σ H D (I.toTry _) h) (fun fl s1 w => ?_) fun _ _ z => z
  case air =>
    rintro u s' ⟨a, B, sI, pins', σ', H', cls, d, rfl, J', nb, up, sky, na, os, ag, hm, hyes⟩
    have J : Inv X pins σ' H' sI := J'.ofTry ok
    rw [show (X.tr (X.pn ++ pins) _).stack = X.env :: X.outer from hs] at sky
    refine Sky.land Zc.steady hfr hf sky fun h3 fl3 up3 => ?_
    have gone : B.get? a = none := fl3.2.1
    obtain ⟨oe3, vs3, he3, hz3, hd3⟩ := fl3.there
    have nfr : a ∉ frs (X.env :: X.outer) := fun hm' => by
      obtain ⟨_, o', e', hnf⟩ := fl3.2.2.1.mem hm'
      rw [he3] at e'
      cases e'
      exact hnf _ hd3
    have inB : ∀ o, sI.heap.get? a = some o → False := fun o q => by
      have := nb a o q (by rw [show (X.tr (X.pn ++ pins) _).stack = X.env :: X.outer from hs]; exact nfr)
      rw [gone] at this
      cases this
    have nL : a ≠ X.env.locals := fun z => nfr (List.mem_filterMap.mpr ⟨X.env, List.mem_cons_self, by rw [hf, z]⟩)
    have nF : a ∉ X.fs := fun hm' => by
      obtain ⟨en, hen, q⟩ := List.mem_filterMap.mp hm'
      exact nfr (List.mem_filterMap.mpr ⟨en, List.mem_cons_of_mem _ hen, q⟩)
    have n0 : X.s_0.heap.get? a = none := by
      cases e0 : X.s_0.heap.get? a with
      | none => rfl
      | some o =>
        obtain ⟨o', q⟩ := J.base.there a o e0 (by rw [hex]; simp)
        exact (inB o' q).elim
    have npin : ∀ p ∈ X.pn ++ pins, p.1 ≠ a := fun p hp z => inB p.2 (by rw [← z]; exact (J.pin p hp).1)
    have J3 : Inv X pins σ' H' { s' with heap := h3 } := J.landed nb fl3.1 (up.trans up3) os ag
    have S3 := J3.suite he3 hd3 na nL nF
    have LT : PySem.W.Looks (model X.prog X.w) h3 (typeOf (.ref a)) cls := fun A' Q' E' s1 kk q => wpAny_typeOf_ref (kk _ _ he3) (by rw [hz3.1]; exact q)
    have name : ∀ {Q' : Value → Shared → Prop} {E' : Value → Shared → Prop}, Q' c { s' with heap := h3 } → wpAny (model X.prog X.w) (X.A.mark (some (.ref a))) (eval (.Name x np) X.env) Q' E' { s' with heap := h3 } := fun {Q' E'} q => by
      obtain ⟨hg, hdbg, hm1 | ⟨hm1, hv, hnn⟩⟩ := hc
      · exact ld_glob (X := X.suite a ((a, oe3) :: (X.pn ++ pins))) S3 hg hm1 q hdbg
      · exact ld_blt (X := X.suite a ((a, oe3) :: (X.pn ++ pins))) S3 hg hm1 hv q hnn hdbg
    refine PySem.W.exc_clause_as (name ⟨true, PySem.W.exm_one (M := model X.prog X.w) J3.kIn LT hm, ?_⟩)
    rw [if_pos rfl]
    refine HandSPX.lands_againZ fl3 fun h4 fl4 up4 => ?_
    have J4 : Inv X pins σ' H' { s' with heap := h4 } := J.landed nb fl4.1 ((up.trans up3).trans up4) os ag
    obtain ⟨oe4, vs4, he4, hz4, hd4⟩ := fl4.there
    refine store_ok (X := X.suite a ((a, oe4) :: (X.pn ++ pins))) (v := .ref a) (J4.suite he4 hd4 na nL nF) hN hi (.inl hln) rfl (fun s5 S5 => ?_) (.inr hln)
    refine wpAny_mono ((hsu a oe4 (X.pn ++ pins)).run [] s5 _ H' _ S5 (hyes a na)) (fun fl s6 w => ?_) fun _ _ z => False.elim z
    match fl, w with
    | .next, ⟨σ6, H6, S6, q6⟩ =>
      obtain ⟨p1, p2, _⟩ := S6.pin (a, oe4) (by simp [Cx.suite])
      exact gone_ok (adopt (S6.unsuite ok) p1 hz4 hd4 p2 nL n0 npin) hN hi hln fun s7 J7 => ⟨_, _, J7, q6⟩
    | .brk, ⟨_, _, _, q⟩ => exact q.elim
    | .cont, ⟨_, _, _, q⟩ => exact q.elim
    | .ret _, ⟨_, _, _, _, _, q⟩ => exact q.elim
  · match fl, w with
    | .next, ⟨σ', H', J, q⟩ => exact wpAny_execs_nil ⟨σ', H', J.ofTry ok, q⟩
    | .brk, ⟨σ', H', J, q⟩ => exact ⟨σ', H', J.ofTry ok, q⟩
    | .cont, ⟨σ', H', J, q⟩ => exact ⟨σ', H', J.ofTry ok, q⟩
    | .ret u, ⟨v, σ', H', J, r, q⟩ => exact ⟨v, σ', H', J.ofTry ok, r, q⟩
end
end Cr

/-! CrX4: isinstance and fields of a kept exception. -/
namespace Cr
open PySem PySem.Spec PyProof.Rows L2
/-- a kept exception with its fields -/
def XkAt (H : Hp) (a C : Addr) (fs : List (Str × V)) : Prop := ∃ d, H a = some (ExK a (.ref C) (some d)) ∧ H d = some (.xd fs)
theorem XkAt.up {H H' : Hp} {a C : Addr} {fs : List (Str × V)} (h : XkAt H a C fs) (s : Same H H') : XkAt H' a C fs := by
  obtain ⟨d, e1, e2⟩ := h
  exact ⟨d, s _ _ e1, s _ _ e2⟩
section
variable {X : Cx} {pins : List (Addr × Obj)} {σ : L2.St} {H : Hp} {s : Shared} {a C : Addr} {fs : List (Str × V)} {B newId initId : String} {tl : List Value}
theorem xk_inst (I : Inv X pins σ H s) (h : XkAt H a C fs) : ∃ (oe od : Obj) (mA : Str → Option Value), PySem.W.InstAt s.heap a oe C (some od) ∧ (∀ f, RelO (fs.lookup f) (mA f)) ∧ ∀ f, PySem.W.lookIn f od = some (mA f) := by
  obtain ⟨d, e1, e2⟩ := h
  obtain ⟨oe, vs, he, hz, hd⟩ := exK_at I.hok e1
  obtain ⟨mA, hns, hr⟩ : ∃ mA, s.heap.Ns1 d mA ∧ ∀ f, RelO (fs.lookup f) (mA f) := I.hok d _ e2
  obtain ⟨od, ho, hl⟩ := lookIn_ns hns
  exact ⟨oe, od, mA, ⟨he, hz.1, by unfold PySem.W.notCls; rw [hd] <;> rfl, by rw [hz.2]; exact ho⟩, hr, hl⟩
/-- e.f of a kept exception -/
def tXk (C : Addr) (f : Str) (te : TE) : TE := fun σ H Q => te σ H fun x H1 => ∃ (a : Addr) (fs : List (Str × V)) (v : V), x = .ref a ∧ XkAt H1 a C fs ∧ fs.lookup f = some v ∧ Q v H1
theorem pe_xk {e : Expr} {te : TE} {pos : Pos} {n : Str} (T : ExB X.K C B newId initId tl) (hno : NoAttr X.K C n) (he : PE X e te) (hb : attributeBase e n X.env (eval e X.env) = eval e X.env := by rfl) : PE X (.Attribute e n pos) (tXk C n te) := by
  refine ⟨fun pins s σ H Q I h => attr_of hb (thn (he.run pins s σ H _ I h) fun u s1 z => ?_)⟩
  obtain ⟨x, H1, J, rx, a, fs, v, rfl, hk, l, q⟩ := z
  obtain rfl : u = Value.ref a := rx
  obtain ⟨oe, od, mA, IA, hr, hl⟩ := xk_inst J hk
  obtain ⟨w, hw, rw'⟩ := RelO.some_of (v := v) (o := mA n) (by rw [← l]; exact hr n)
  obtain ⟨g, hg⟩ := T.gt
  exact HandSPX.exc_get J.kIn IA T.ga hg T.exC (PySem.W.findObj_own T.hd hno rfl (by rw [hl, hw])) (handed_of rw') ⟨v, H1, J.tok _, rw', q⟩
theorem xk_kit (T : ExB X.K C B newId initId tl) (I : Inv X pins σ H s) (h : XkAt H a C fs) : ∃ P : Heap → Prop, PySem.W.KitX X.K (.ref a) (.ref C) P ∧ P s.heap := by
  obtain ⟨oe, od, mA, IA, _⟩ := xk_inst I h
  obtain ⟨g, hg⟩ := T.gt
  exact ⟨_, PySem.W.kitx_exc (ox := oe) (od := some od) (show (PySem.W.clsIn X.K C).isSome = true from T.ci) T.ga hg T.exC T.ca T.cn T.ct T.ob, IA⟩
/-- isinstance(e, T) of a kept exception -/
theorem call_isX (T : ExB X.K C B newId initId tl) : CallR X (.builtin "isinstance") (fun xs H Q => ∃ (a : Addr) (fs : List (Str × V)) (c : V) (u : Value) (b : Bool), xs = [.ref a, c] ∧ XkAt H a C fs ∧ ClsV c u ∧ PySem.W.kitOne X.K (.ref C) u = some b ∧ Q (.bl b) H) := by
  intro pins s σ H xs us Q I r h
  obtain ⟨a, fs, c, u, b, rfl, hk, cv, e, q⟩ := h
  obtain ⟨u1, u2, rfl, r1, r2⟩ := vals2 r
  obtain rfl : u1 = Value.ref a := r1
  have e2 := cv.eq r2
  subst e2
  obtain ⟨P, Z, p⟩ := xk_kit T I hk
  exact PySem.W.kia_one Z I.kIn p e (by intro z; cases z) fun tk => ⟨.bl b, H, I.tok tk, rfl, q⟩
/-- isinstance(e, (T, ..)) of a kept exception -/
theorem call_isXT (T : ExB X.K C B newId initId tl) : CallR X (.builtin "isinstance") (fun xs H Q => ∃ (a tp : Addr) (fs : List (Str × V)) (cs : List V) (ws : List Value) (b : Bool), xs = [.ref a, .ref tp] ∧ XkAt H a C fs ∧ H tp = some (.tup cs) ∧ Paired ClsV cs ws ∧ PySem.W.kitAny X.K (.ref C) ws = some b ∧ Q (.bl b) H) := by
  intro pins s σ H xs us Q I r h
  obtain ⟨a, tp, fs, cs, ws, b, rfl, hk, ht, cv, e, q⟩ := h
  obtain ⟨u1, u2, rfl, r1, r2⟩ := vals2 r
  obtain rfl : u1 = Value.ref a := r1
  obtain rfl : u2 = Value.ref tp := r2
  obtain ⟨P, Z, p⟩ := xk_kit T I hk
  have ot : ObjOk X.prog X.w H s.heap tp (.tup cs) := I.hok tp _ ht
  obtain ⟨_, its, rv, ⟨oc, odd, dt, sl⟩, g1, g2, n, g3⟩ := ot
  obtain rfl := ClsV.all cv rv
  simp only at g2 g3
  subst g2 g3
  exact PySem.W.kia_tup Z I.kIn p g1 e (by intro z; cases z) fun tk => ⟨.bl b, H, I.tok tk, rfl, q⟩
end
end Cr

/-! CrX5: o.m(k = v, ..), what is raised wished for at the caller's slots; binding by one keyword; wide products in place. -/
namespace Cr
open PySem PySem.Spec PyProof.Rows L2
theorem kbn_all {K : PySem.W.Frag} {x qual : Str} {st : Stmt} {f : Addr} {fd : FuncData} {ps ks : List Str} {n : Nat} (F : Fun K x qual st f fd)
    (h : ∀ (kV doc pm : Value) (an : Option Addr) (cdv ct : Value) (us ws : List Value), us.length = n → ws.length = ks.length → bindArgs (PySem.W.fnOf x qual (defArgs st) (defBody st) (defScope st) .none kV doc pm an cdv ct) ⟨us, ks.zip ws⟩ = pure (ps.zip (us ++ ws))) :
    KBn K fd ps n ks (fun us ws => us ++ ws) (fun vs zs => vs ++ zs) := by
  obtain ⟨oc, od, kV, doc, pm, an, cdv, ct, osl, rfl, lk, hcd⟩ := F.ex
  exact ⟨fun s us ws X l1 l2 => BindsTo.of_looks fun M => .of_pure (h kV doc pm an cdv ct us ws l1 l2), fun r1 r2 => r1.append r2⟩
section
variable {X : Cx} {CX : CXT} {k : Nat} {f C : Addr} {fd : FuncData} {ps ks : List Str} {sp : Sp} {E : L2.St → XK} {m : Str} {apos pos : Pos} {o : Expr} {ta : TE} {tk : TA} {kws : List Keyword}
def tMethK (C : Addr) (m : Str) (n : Nat) (sp : Sp) (E : L2.St → XK) (ta : TE) (tk : TA) : TE := fun σ H Q => ta σ H fun x H1 => ∃ a dx fs, x = .ref a ∧ H1 a = some (.ins C dx fs) ∧ fs.lookup m = none ∧
  tk σ H1 fun zs H2 => zs.length = n ∧ sp (x :: zs) H2 Q (E σ)
theorem pe_methK {pl : Sem Bool} (he : PE X o ta) (c : Cls X.K C) (hm : Meth X.K C m f) (F : FnOk X.prog X.w X.K X.mg X.base CX k f fd ps sp) (hr : Room k X.A) (hb : KBn X.K fd ps 1 ks (fun us ws => us ++ ws) (fun vs zs => vs ++ zs)) (hx : ∀ σ, PassesAt CX X σ (E σ)) (hkw : PK X kws tk)
    (hall : (backToKw pos (keywordEach kws X.env)).all (·.1.isSome) = true := by rfl) (hks : (backToKw pos (keywordEach kws X.env)).filterMap (·.1) = ks := by rfl)
    (hpl : ((backTo pos (starEach [] X.env)).any (·.1) || (backToKw pos (keywordEach kws X.env)).any (·.1.isNone)) = false := by rfl)
    (ht : eval (.Call (.Attribute o m apos) [] kws pos) X.env = (do
      let z ← eval o X.env
      standAt apos.atName
      let (g, fst) ← holding [z] (getMethod z m pl)
      callWith pos g fst (backTo pos (starEach [] X.env)) (backToKw pos (keywordEach kws X.env))) := by rfl) :
    PE X (.Call (.Attribute o m apos) [] kws pos) (tMethK C m ks.length sp E ta tk) := by
  refine ⟨fun pins s σ H Q I h => PySem.W.methodCall_KW (pl := pl) (thn (he.run pins s σ H _ I h) fun u s1 z => ?_) ht⟩
  obtain ⟨x, H1, I1, rx, a, dx, fs, rfl, ea, l, q⟩ := z
  obtain rfl : u = Value.ref a := rx
  refine getmeth_ok I1 ea c hm l (PySem.W.callWith_KW0 (first := [.ref a]) (h₀ := X.base) I.ok.mod.kin hm.kp hall ?_ hpl)
  refine thn (hkw.run pos pins s1 σ H1 _ I1 q) fun ws s2 w => ?_
  obtain ⟨zs, H2, I2, rz, l2, q2⟩ := w
  refine ⟨I2.kIn, ?_⟩
  rw [hks]
  have r2 : Vals (V.ref a :: zs) (Value.ref a :: ws) := .cons rfl rz
  refine wpAny_call (codeAny_mono (F.run X.A X.stack s2 H2 ⟨[.ref a], ks.zip ws⟩ (.ref a :: ws) (.ref a :: zs) Q (E σ) hr I2.env0 (hb.to s2 [.ref a] ws I2.kIn rfl (rz.length.symm.trans l2)) r2 q2) fun r s' w => ?_)
  match r, w with
  | .error e, w => exact hx σ pins H2 s2 e s' I2 w
  | .ok (.ret u), w => exact I2.after w
  | .ok .next, w => exact False.elim w
  | .ok .brk, w => exact False.elim w
  | .ok .cont, w => exact False.elim w
end
theorem at0 {X : Cx} (σ : L2.St) : PassesAt CX0 X σ E0 := fun pins H s e s' I c => pass0 (X := X) pins σ H s e s' I c
theorem ip_mulW {X : Cx} : PIp X .Mult (rI CMulW fun i j => .int (i * j)) := by
  have h : OpR X (inplaceOp .Mult) (rI CMulW fun i j => .int (i * j)) := opI fun _ _ _ _ _ _ _ hc q => imul_int q hc.ok
  intro pins s σ H x y v u Q I r1 r2 w
  exact h pins s σ H x y v u Q I r1 r2 w
end Cr

/-! Cr6: a walk over a list within any frame of a comprehension. -/
namespace Cr
open PySem L2
theorem lcw {K : PySem.W.Frag} {a : Addr} {xs : List V} {Hs : Hp} {Fin : Hp → Prop} {Body : V → Hp → (Hp → Prop) → Prop} (Pv : Nat → Hp → Prop) (h0 : Pv 0 Hs) (hl : ∀ i H, i ≤ xs.length → Pv i H → SqL K H a xs) (hs : ∀ i x H, xs[i]? = some x → Pv i H → Body x H (Pv (i + 1)))
    (hd : ∀ H, Pv xs.length H → Fin H) :
    ∃ W : Nat → Nat → Hp → Prop, (∃ m, W 0 m Hs) ∧ ∀ i m H, W i m H → ((Itl K a).stop i H ∧ Fin H) ∨ ((Itl K a).go i H ∧ ∃ Nx : Hp → Prop, (∀ H', Nx H' → ∃ m', m' < m ∧ W (i + 1) m' H') ∧ ∀ x H', (Itl K a).yld i H x H' → Body x H' Nx) := by
  refine ⟨fun i m H => m + i = xs.length ∧ Pv i H, ⟨xs.length, rfl, h0⟩, fun i m H ⟨em, p⟩ => ?_⟩
  have q := hl i H (by omega) p
  by_cases c : i < xs.length
  · refine .inr ⟨⟨xs, xs[i], q, List.getElem?_eq_getElem c⟩, Pv (i + 1), fun H' p' => ⟨m - 1, by omega, by omega, p'⟩, fun x H' y => ?_⟩
    obtain ⟨rfl, y⟩ := y
    exact hs i x _ (y xs q) p
  · obtain rfl : i = xs.length := by omega
    exact .inl ⟨⟨xs, q, Nat.le_refl _⟩, hd H p⟩
theorem ix_tupK {X : Cx} (K : PySem.W.Frag) (hK : X.K = K) : IxR X (rIxT K) := by
  subst hK
  exact ix_tup
theorem ix_listK {X : Cx} (K : PySem.W.Frag) (hK : X.K = K) : IxR X (rIxL K) := by
  subst hK
  exact ix_list
/-- the items of a list, the written part named -/
theorem pi_listK {X : Cx} (K : PySem.W.Frag) (hK : X.K = K) {tg l : Expr} {tl : TE} (hl : PE X l tl) : PI X tg l (iList K tl) := by
  subst hK
  exact pi_list hl
section
variable {g : TG} {tb : TS} {D : Ends} {σ : L2.St} {H : Hp}
/-- for c in text -/
theorem for_str {z : Str} (Pv : Nat → L2.St → Hp → Prop) (h0 : Pv 0 σ H)
    (hs : ∀ i c σ H, z.cps.toList[i]? = some c → Pv i σ H → g (.str ⟨#[c]⟩) σ H fun σ2 H2 => tb { nx := Pv (i + 1), rt := D.rt, bk := D.nx, ct := Pv (i + 1) } σ2 H2) (hd : ∀ σ H, Pv z.cps.toList.length σ H → D.nx σ H) :
    ∃ W : Nat → Nat → L2.St → Hp → Prop, (∃ m, W 0 m σ H) ∧ ∀ i m σ H, W i m σ H → ((Its z).stop i H ∧ D.nx σ H) ∨ ((Its z).go i H ∧ ∃ N : L2.St → Hp → Prop, (∀ σ' H', N σ' H' → ∃ m', m' < m ∧ W (i + 1) m' σ' H') ∧
      ∀ x H', (Its z).yld i H x H' → g x σ H' fun σ2 H2 => tb { nx := N, rt := D.rt, bk := D.nx, ct := N } σ2 H2) := by
  have hz : z.cps.size = z.cps.toList.length := by simp
  refine ⟨fun i m σ H => m + i = z.cps.toList.length ∧ Pv i σ H, ⟨z.cps.toList.length, rfl, h0⟩, fun i m σ H ⟨em, p⟩ => ?_⟩
  by_cases c : i < z.cps.toList.length
  · refine .inr ⟨show i < z.cps.size by omega, Pv (i + 1), fun σ' H' p' => ⟨m - 1, by omega, by omega, p'⟩, fun x H' y => ?_⟩
    obtain ⟨rfl, d, ed, rfl⟩ := y
    exact hs i d σ _ (by rw [Array.getElem?_toList]; exact ed) p
  · obtain rfl : i = z.cps.toList.length := by omega
    exact .inl ⟨show z.cps.size ≤ z.cps.toList.length by omega, hd σ H p⟩
/-- for k in d, d locked -/
theorem for_keys {d : Addr} {o : Obj} {kvs : List (Key × V)} (Pv : Nat → L2.St → Hp → Prop) (h0 : Pv 0 σ H) (hl : ∀ i σ H, i ≤ kvs.length → Pv i σ H → H d = some (.frz o (.dK kvs)))
    (hs : ∀ i k v σ H, kvs[i]? = some (k, v) → Pv i σ H → g (kV k) σ H fun σ2 H2 => tb { nx := Pv (i + 1), rt := D.rt, bk := D.nx, ct := Pv (i + 1) } σ2 H2) (hd : ∀ σ H, Pv kvs.length σ H → D.nx σ H) :
    ∃ W : Nat → Nat → L2.St → Hp → Prop, (∃ m, W 0 m σ H) ∧ ∀ i m σ H, W i m σ H → ((Itk d o kvs).stop i H ∧ D.nx σ H) ∨ ((Itk d o kvs).go i H ∧ ∃ N : L2.St → Hp → Prop, (∀ σ' H', N σ' H' → ∃ m', m' < m ∧ W (i + 1) m' σ' H') ∧
      ∀ x H', (Itk d o kvs).yld i H x H' → g x σ H' fun σ2 H2 => tb { nx := N, rt := D.rt, bk := D.nx, ct := N } σ2 H2) := by
  refine ⟨fun i m σ H => m + i = kvs.length ∧ Pv i σ H, ⟨kvs.length, rfl, h0⟩, fun i m σ H ⟨em, p⟩ => ?_⟩
  have q := hl i σ H (by omega) p
  by_cases c : i < kvs.length
  · refine .inr ⟨⟨q, c⟩, Pv (i + 1), fun σ' H' p' => ⟨m - 1, by omega, by omega, p'⟩, fun x H' y => ?_⟩
    obtain ⟨rfl, k, v, e, rfl⟩ := y
    exact hs i k v σ _ e p
  · obtain rfl : i = kvs.length := by omega
    exact .inl ⟨⟨q, Nat.le_refl _⟩, hd σ H p⟩
end
end Cr

/-! CrX6: f(k = v, ..) by keywords alone; a callee that may raise, but does not here. -/
namespace Cr
open PySem PySem.Spec PyProof.Rows L2
theorem passN {P : Program} {w : World} {X : Cx} : Passes (L2.CX P w) X E0 := fun _ _ _ _ _ _ _ h => by
  obtain ⟨_, _, _, _, _, _, _, _, _, _, _, _, h⟩ := h
  exact h.elim
section
variable {X : Cx} {CX : CXT} {k : Nat} {f : Addr} {fd : FuncData} {ps ks : List Str} {sp : Sp} {E : XK} {x : Str} {p pos : Pos} {tk : TA} {kws : List Keyword} {g : List Value → List Value → List Value} {gV : List V → List V → List V}
def tCallK0 (m : Nat) (sp : Sp) (gV : List V → List V → List V) (E : XK) (tk : TA) : TE := fun σ H Q => tk σ H fun zs H2 => zs.length = m ∧ sp (gV [] zs) H2 Q E
theorem pe_callK0 (F : FnOk X.prog X.w X.K X.mg X.base CX k f fd ps sp) (hr : Room k X.A) (hg : Gl X x) (hm : X.mg x = some (.ref f)) (hk : PySem.W.keepIn X.K (.ref f) = true) (hb : KBn X.K fd ps 0 ks g gV) (hx : Passes CX X E)
    (hkw : PK X kws tk) (hall : (backToKw pos (keywordEach kws X.env)).all (·.1.isSome) = true := by rfl) (hks : (backToKw pos (keywordEach kws X.env)).filterMap (·.1) = ks := by rfl)
    (hdb : (x == ("__debug__" : Str)) = false := by decide)
    (hpl : ((backTo pos (starEach [] X.env)).any (·.1) || (backToKw pos (keywordEach kws X.env)).any (·.1.isNone)) = false := by rfl) :
    PE X (.Call (.Name x p) [] kws pos) (tCallK0 ks.length sp gV E tk) := by
  refine ⟨fun pins s σ H Q I h => ?_⟩
  refine wpAny_Call_Name_kw (ld_glob I hg hm ?_ hdb)
  refine PySem.W.callWith_KW0 (h₀ := X.base) I.ok.mod.kin hk hall ?_ hpl
  refine thn (hkw.run pos pins s σ H _ I h) fun ws s2 ⟨zs, H2, I2, rz, l2, q2⟩ => ⟨I2.kIn, ?_⟩
  rw [hks]
  exact run_fnN (us := []) (vs := []) F hr hb hx I2 .nil rz rfl l2 q2
end
end Cr

/-! Cr7: a comprehension over a text's signs. -/
namespace Cr
open PySem L2
theorem lcs {z : Str} {Hs : Hp} {Fin : Hp → Prop} {Body : V → Hp → (Hp → Prop) → Prop} (Pv : Nat → Hp → Prop) (h0 : Pv 0 Hs) (hs : ∀ i c H, z.cps.toList[i]? = some c → Pv i H → Body (.str ⟨#[c]⟩) H (Pv (i + 1)))
    (hd : ∀ H, Pv z.cps.toList.length H → Fin H) :
    ∃ W : Nat → Nat → Hp → Prop, (∃ m, W 0 m Hs) ∧ ∀ i m H, W i m H → ((Its z).stop i H ∧ Fin H) ∨ ((Its z).go i H ∧ ∃ Nx : Hp → Prop, (∀ H', Nx H' → ∃ m', m' < m ∧ W (i + 1) m' H') ∧ ∀ x H', (Its z).yld i H x H' → Body x H' Nx) := by
  have hz : z.cps.size = z.cps.toList.length := by simp
  refine ⟨fun i m H => m + i = z.cps.toList.length ∧ Pv i H, ⟨z.cps.toList.length, rfl, h0⟩, fun i m H ⟨em, p⟩ => ?_⟩
  by_cases c : i < z.cps.toList.length
  · refine .inr ⟨show i < z.cps.size by omega, Pv (i + 1), fun H' p' => ⟨m - 1, by omega, by omega, p'⟩, fun x H' y => ?_⟩
    obtain ⟨rfl, d, ed, rfl⟩ := y
    exact hs i d _ (by rw [Array.getElem?_toList]; exact ed) p
  · obtain rfl : i = z.cps.toList.length := by omega
    exact .inl ⟨show z.cps.size ≤ z.cps.toList.length by omega, hd H p⟩
end Cr

/-! CrS: a, *b = xs. -/
namespace Cr
open PySem PySem.Spec PySem.W PyProof.Rows L2
section
variable {X : Cx} {pos : Pos} {pins : List (Addr × Obj)} {σ : L2.St} {H : Hp} {s : Shared}
theorem pgs_star {e : Expr} {p : Pos} {es : List Expr} {t : TG} {u : TGs} (h1 : PG X e t) (h2 : PGs X es u)
    (hs : (assignEach (.Starred e p :: es) X.env).map (·.2) = assign e X.env :: (assignEach es X.env).map (·.2) := by rfl) : PGs X (.Starred e p :: es) (gCons t u) := by
  refine ⟨fun pins s σ H vs us Q I r h => ?_⟩
  obtain ⟨v, vr, e1, h⟩ := h
  subst e1
  cases r with
  | cons r rr =>
    rw [hs]
    refine assignInOrder_cons (thn (h1.run pins s σ H _ _ _ I r h) fun _ s1 ⟨σ1, H1, I1, q1⟩ => ?_)
    exact h2.run pins s1 σ1 H1 _ _ Q I1 rr q1
theorem vals_take {xs : List V} {its : List Value} (r : Vals xs its) : ∀ i : Nat, Vals (xs.take i) (its.take i) := by
  induction r with
  | nil => intro i; simp only [List.take_nil]; exact .nil
  | cons h t ih =>
    intro i
    cases i with
    | zero => exact .nil
    | succ i => simp only [List.take_succ_cons]; exact .cons h (ih i)
theorem vals_drop {xs : List V} {its : List Value} (r : Vals xs its) : ∀ i : Nat, Vals (xs.drop i) (its.drop i) := by
  induction r with
  | nil => intro i; simp only [List.drop_nil]; exact .nil
  | cons h t ih =>
    intro i
    cases i with
    | zero => exact .cons h t
    | succ i => simp only [List.drop_succ_cons]; exact ih i
/-- the parts of a starred target -/
def gStar (K : PySem.W.Frag) (n i : Nat) (t : TGs) : TG := fun v σ H Q => ∃ a xs, v = .ref a ∧ SqT K H a xs ∧ n ≤ xs.length + 1 ∧ xs.length ≤ 16384 ∧
  ∀ p, H p = none → t (xs.take i ++ [.ref p] ++ (xs.drop i).drop (xs.length + 1 - n)) σ (upd H p (.lst ((xs.drop i).take (xs.length + 1 - n)))) Q
def gStarL (K : PySem.W.Frag) (n i : Nat) (t : TGs) : TG := fun v σ H Q => ∃ a xs, v = .ref a ∧ SqL K H a xs ∧ n ≤ xs.length + 1 ∧ xs.length ≤ 16384 ∧
  ∀ p, H p = none → t (xs.take i ++ [.ref p] ++ (xs.drop i).drop (xs.length + 1 - n)) σ (upd H p (.lst ((xs.drop i).take (xs.length + 1 - n)))) Q
theorem star_end {E : Value → Shared → Prop} {A : Around} {its : List Value} {xs : List V} {n i : Nat} {h₂ : Heap} {tk : Tok} {Q : List Value → Shared → Prop} (I : Inv X pins σ H s) (rv : Vals xs its) (hz : xs.length ≤ 16384) (he : ∀ b o, s.heap.get? b = some o → h₂.get? b = some o)
    (h : ∀ p s', H p = none → Inv X pins σ (upd H p (.lst ((xs.drop i).take (xs.length + 1 - n)))) s' → Q (its.take i ++ [.ref p] ++ (its.drop i).drop (xs.length + 1 - n)) s') :
    wpAny (model X.prog X.w) A (newList ((its.drop i).take (its.length + 1 - n)) >>= fun d => pure (its.take i ++ [d] ++ (its.drop i).drop (its.length + 1 - n))) Q E { s with heap := h₂, toks := tk } := by
  have el : its.length = xs.length := rv.length.symm
  rw [el]
  have J : Inv X pins σ H { s with heap := h₂, toks := tk } := I.kept (t' := tk) he
  have hlen : ((its.drop i).take (xs.length + 1 - n)).length ≤ sizeLine := by
    rw [List.length_take, List.length_drop, sizeLine_eq]; omega
  refine wpAny_bind (wpAny_newList ?_ hlen)
  refine wpAny_pure (h h₂.objs.size _ (J.hok.fresh (Nat.le_refl _)) ?_)
  refine J.laid (t' := tk) (fun b u e => Heap.get?_push_of_some _ e) (Nat.le_refl _) ?_
  refine (show ObjOk X.prog X.w _ _ _ (.lst ((xs.drop i).take (xs.length + 1 - n))) from ⟨?_, (its.drop i).take (xs.length + 1 - n), 0, vals_take (vals_drop rv i) _, ?_⟩)
  · rw [List.length_take, List.length_drop, sizeLine_eq]; omega
  · exact Heap.get?_push_size _ rfl
theorem pg_star {es : List Expr} {k n i : Nat} {t : TGs} (hc : X.calm = true) (h : PGs X es t) (hn : (assignEach es X.env).length = n := by rfl) (hst : (assignEach es X.env).findIdx? (·.1) = some i := by rfl) (hi : i < n := by decide) :
    PG X (.Tuple es k pos) (gStar X.K n i t) := by
  refine ⟨fun pins s σ H v u Q I r hw => ?_⟩
  obtain ⟨a, xs, e1, hq, hl, hz, hw⟩ := hw
  subst e1
  cases r
  obtain ⟨its, rv, ht, _⟩ := I.tuple hq
  have hh := I.ok.hd hc
  have el : its.length = xs.length := rv.length.symm
  have hlt : a ≠ s.heap.objs.size := by obtain ⟨o, ho, _⟩ := ht; exact Nat.ne_of_lt (Heap.lt_size ho)
  rw [assign_Tuple]
  refine wpAny_bind (wpAny_standAt ?_)
  unfold unpack
  rw [hn, hst]
  refine wpAny_bind (wpAny_holding ?_)
  unfold unpackItems
  refine wpAny_bind ?_
  unfold notIterableAtAll
  refine wpAny_bind (wpAny_specialOf ht.typeIs slot_tuple_iter.lookup ?_)
  refine wpAny_pure ?_
  simp only [Bool.false_eq_true, if_false]
  refine wpAny_bind (wpAny_holding (iter_tuple ht ?_))
  refine wpAny_bind (wpAny_holding (draw_tuple hlt i 0 _ _ ⟨_, Heap.get?_push_size _ rfl, rfl, rfl⟩ (ht.push _) (by rw [List.size_toArray]; omega) fun h₁ hit₁ hs₁ => ?_))
  have ht₁ : IsTup h₁ a its.toArray := (ht.push _).extBut hs₁.extBut hlt
  rw [Nat.zero_add] at hit₁
  have hit₁' := hit₁
  obtain ⟨oi, hoi, _⟩ := hit₁'
  have ht₁' := ht₁
  obtain ⟨ol, hol, _⟩ := ht₁'
  rw [List.drop_zero]
  show wpAny _ _ (if (its.take i).length < i then _ else _) _ _ _
  rw [if_neg (by rw [List.length_take]; omega)]
  refine wpAny_bind (wpAny_holding (kun_collect (s := { s with heap := h₁ }) (T := "tuple_iterator") (.inr (.inr (.inr rfl))) (Walks.tuple (A := X.A.in1) hh s.heap.objs.size a hlt its.toArray) (fun j u st => st.1.typeIs) (k := i) (by rw [List.size_toArray]; omega) ⟨hit₁, ht₁⟩ (Heap.lt_size hoi) (Heap.lt_size hol) (fun h₂ tk hk => ?_) (by rw [List.size_toArray, sizeLine_eq]; omega)))
  have hrl : (its.drop i).length = its.length - i := by rw [List.length_drop]
  have hmid : (its.drop i).length - (n - 1 - i) = its.length + 1 - n := by rw [hrl]; omega
  show wpAny _ _ (if (its.drop i).length < n - 1 - i then _ else _) _ _ _
  rw [if_neg (by rw [hrl]; omega)]
  show wpAny _ _ (newList ((its.drop i).take ((its.drop i).length - (n - 1 - i))) >>= fun d => pure (its.take i ++ [d] ++ (its.drop i).drop ((its.drop i).length - (n - 1 - i)))) _ _ _
  rw [hmid]
  refine star_end (s := s) (n := n) (i := i) I rv hz (fun b o e => ?_) fun p s' np J => ?_
  · have hb : b ≠ s.heap.objs.size := Nat.ne_of_lt (Heap.lt_size e)
    exact hk b o hb (hs₁.extBut b o hb (Heap.get?_push_of_some _ e))
  · have r1 : Vals [V.ref p] [Value.ref p] := .cons rfl .nil
    exact h.run pins s' σ _ _ _ Q J (((vals_take rv i).append r1).append (vals_drop (vals_drop rv i) _)) (hw p np)
theorem pg_starL {es : List Expr} {k n i : Nat} {t : TGs} (hc : X.calm = true) (h : PGs X es t) (hn : (assignEach es X.env).length = n := by rfl) (hst : (assignEach es X.env).findIdx? (·.1) = some i := by rfl) (hi : i < n := by decide) :
    PG X (.Tuple es k pos) (gStarL X.K n i t) := by
  refine ⟨fun pins s σ H v u Q I r hw => ?_⟩
  obtain ⟨a, xs, e1, hq, hl, hz, hw⟩ := hw
  subst e1
  cases r
  obtain ⟨its, rv, hp, _⟩ := I.list hq
  have ht : s.heap.IsList a its.toArray := by obtain ⟨o, n', e1, e2, _, e4⟩ := hp; exact ⟨o, e1, e2, n', e4⟩
  have hh := I.ok.hd hc
  have el : its.length = xs.length := rv.length.symm
  have hlt : a ≠ s.heap.objs.size := by obtain ⟨o, ho, _⟩ := ht; exact Nat.ne_of_lt (Heap.lt_size ho)
  rw [assign_Tuple]
  refine wpAny_bind (wpAny_standAt ?_)
  unfold unpack
  rw [hn, hst]
  refine wpAny_bind (wpAny_holding ?_)
  unfold unpackItems
  refine wpAny_bind ?_
  unfold notIterableAtAll
  refine wpAny_bind (wpAny_specialOf ht.typeIs slot_list_iter.lookup ?_)
  refine wpAny_pure ?_
  simp only [Bool.false_eq_true, if_false]
  refine wpAny_bind (wpAny_holding (wpAny_pyIter_list ht ?_))
  refine wpAny_bind (wpAny_holding (kun_draw hlt i 0 _ _ ⟨_, Heap.get?_push_size _ rfl, rfl, rfl⟩ (ht.push _) (by rw [List.size_toArray]; omega) fun h₁ hit₁ hs₁ => ?_))
  have ht₁ : h₁.IsList a its.toArray := (ht.push _).extBut hs₁.extBut hlt
  rw [Nat.zero_add] at hit₁
  have hit₁' := hit₁
  obtain ⟨oi, hoi, _⟩ := hit₁'
  have ht₁' := ht₁
  obtain ⟨ol, hol, _⟩ := ht₁'
  rw [List.drop_zero]
  show wpAny _ _ (if (its.take i).length < i then _ else _) _ _ _
  rw [if_neg (by rw [List.length_take]; omega)]
  refine wpAny_bind (wpAny_holding (kun_collect (s := { s with heap := h₁ }) (T := "list_iterator") (.inr (.inr (.inl rfl))) (Walks.list (A := X.A.in1) hh s.heap.objs.size a hlt its.toArray) (fun j u st => st.1.typeIs) (k := i) (by rw [List.size_toArray]; omega) ⟨hit₁, ht₁⟩ (Heap.lt_size hoi) (Heap.lt_size hol) (fun h₂ tk hk => ?_) (by rw [List.size_toArray, sizeLine_eq]; omega)))
  have hrl : (its.drop i).length = its.length - i := by rw [List.length_drop]
  have hmid : (its.drop i).length - (n - 1 - i) = its.length + 1 - n := by rw [hrl]; omega
  show wpAny _ _ (if (its.drop i).length < n - 1 - i then _ else _) _ _ _
  rw [if_neg (by rw [hrl]; omega)]
  show wpAny _ _ (newList ((its.drop i).take ((its.drop i).length - (n - 1 - i))) >>= fun d => pure (its.take i ++ [d] ++ (its.drop i).drop ((its.drop i).length - (n - 1 - i)))) _ _ _
  rw [hmid]
  refine star_end (s := s) (n := n) (i := i) I rv hz (fun b o e => ?_) fun p s' np J => ?_
  · have hb : b ≠ s.heap.objs.size := Nat.ne_of_lt (Heap.lt_size e)
    exact hk b o hb (hs₁.extBut b o hb (Heap.get?_push_of_some _ e))
  · have r1 : Vals [V.ref p] [Value.ref p] := .cons rfl .nil
    exact h.run pins s' σ _ _ _ Q J (((vals_take rv i).append r1).append (vals_drop (vals_drop rv i) _)) (hw p np)
/-! ### a list against the empty one -/
theorem isList_of (I : Inv X pins σ H s) {a : Addr} {xs : List V} (h : SqL X.K H a xs) : ∃ its : List Value, Vals xs its ∧ s.heap.IsList a its.toArray := by
  obtain ⟨its, rv, hp, _⟩ := I.list h
  obtain ⟨o, n', e1, e2, _, e4⟩ := hp
  exact ⟨its, rv, o, e1, e2, n', e4⟩
theorem op_neE (hu : X.A.units + 64 < cLine) : OpR X (compareOp .NotEq) (fun x y H Q => ∃ (a b : Addr) (xs : List V), x = .ref a ∧ y = .ref b ∧ SqL X.K H a xs ∧ SqL X.K H b [] ∧ Q (.bl (!xs.isEmpty)) H) := by
  intro pins s σ H x y v u Q I rx ry h
  obtain ⟨a, b, xs, rfl, rfl, ha, hb, q⟩ := h
  cases xs with
  | nil => exact op_neD hu pins s σ H _ _ v u Q I rx ry ⟨.list [], .list [], .lst ha .nil, .lst hb .nil, by rfl, by rfl, q⟩
  | cons y ys =>
    cases rx
    cases ry
    obtain ⟨ia, ra, la⟩ := isList_of I ha
    obtain ⟨ib, rb, lb⟩ := isList_of I hb
    have e1 := ra.length
    have e2 := rb.length
    show wpAny _ _ (richCompare .NotEq (.ref a) (.ref b)) _ _ _
    refine PySem.SeqAt.RcNeAt.lists_lengths la lb ?_ (by omega) _ _ _ _ ⟨.bl true, H, I, rfl, q⟩
    rw [List.size_toArray, List.size_toArray, ← e1, ← e2]
    simp
theorem op_eqE (hu : X.A.units + 64 < cLine) : OpR X (compareOp .Eq) (fun x y H Q => ∃ (a b : Addr) (xs : List V), x = .ref a ∧ y = .ref b ∧ SqL X.K H a xs ∧ SqL X.K H b [] ∧ Q (.bl xs.isEmpty) H) := by
  intro pins s σ H x y v u Q I rx ry h
  obtain ⟨a, b, xs, rfl, rfl, ha, hb, q⟩ := h
  cases xs with
  | nil => exact op_eqD hu pins s σ H _ _ v u Q I rx ry ⟨.list [], .list [], .lst ha .nil, .lst hb .nil, by rfl, by rfl, q⟩
  | cons y ys =>
    cases rx
    cases ry
    obtain ⟨ia, ra, la⟩ := isList_of I ha
    obtain ⟨ib, rb, lb⟩ := isList_of I hb
    have e1 := ra.length
    have e2 := rb.length
    show wpAny _ _ (richCompare .Eq (.ref a) (.ref b)) _ _ _
    refine PySem.SeqAt.RcAt.lists_lengths la lb ?_ (by omega) _ _ _ _ ⟨.bl false, H, I, rfl, q⟩
    rw [List.size_toArray, List.size_toArray, ← e1, ← e2]
    simp
end
end Cr

/-! CrU: tuples put together and cut, wherever the outcome stands. -/
namespace Cr
open PySem L2
def rCatU : R2 := fun x y H Q => ∃ (a b : Addr) (xs ys : List V), x = .ref a ∧ y = .ref b ∧ H a = some (.tup xs) ∧ H b = some (.tup ys) ∧ xs.length + ys.length ≤ sizeLine ∧ ∀ (p : Addr) (H' : Hp), Same H H' → H' p = some (.tup (xs ++ ys)) → Q (.ref p) H'
theorem op_catU {X : Cx} : OpR X (binaryOp .Add) rCatU := by
  intro pins s σ H x y v u Q I rx ry h
  obtain ⟨a, b, xs, ys, rfl, rfl, ha, hb, hl, q⟩ := h
  refine op_catA pins s σ H _ _ v u Q I rx ry ⟨a, b, xs, ys, rfl, rfl, ofT ha, ofT hb, hl, fun e => ?_, fun _ e => ?_, fun _ _ p np => ?_⟩
  · subst e
    exact q b H (Same.refl H) hb
  · subst e
    exact q a H (Same.refl H) (by rw [List.append_nil]; exact ha)
  · exact q p _ (same_up np) upd_same
def rSlU : V → Option Int → Option Int → Hp → VK → Prop := fun x lo hi H Q => ∃ (a : Addr) (xs : List V), x = .ref a ∧ H a = some (.tup xs) ∧ ∀ (p : Addr) (H' : Hp), Same H H' → H' p = some (.tup (cutV xs lo hi)) → Q (.ref p) H'
theorem cutV_all {xs : List V} {lo hi : Option Int} (h : HT.sIx xs.length 0 lo = 0 ∧ HT.sIx xs.length xs.length hi = xs.length) : cutV xs lo hi = xs := by
  unfold cutV
  rw [h.1, h.2, List.drop_zero, Nat.sub_zero, List.take_length]
theorem sl_tupU {X : Cx} : SlR X rSlU := by
  intro pins s σ H x v vl vu lo hi sl Q I rx hs pl pu h
  obtain ⟨a, xs, rfl, ha, q⟩ := h
  exact sl_tupA pins s σ H _ v vl vu lo hi sl Q I rx hs pl pu ⟨a, xs, rfl, ofT ha, fun e => q a H (Same.refl H) (by rw [cutV_all e]; exact ha), fun _ p np => q p _ (same_up np) upd_same⟩
theorem call_tuple_ofK {X : Cx} (K : PySem.W.Frag) (hK : X.K = K) : CallR X (.type "tuple") (fun xs H Q => ∃ p ys, xs = [.ref p] ∧ ((SqL K H p ys ∧ ∀ l, H l = none → Q (.ref l) (upd H l (.tup ys))) ∨ (SqT K H p ys ∧ Q (.ref p) H))) := by
  subst hK
  exact call_tuple_of
theorem sl_listK {X : Cx} (K : PySem.W.Frag) (hK : X.K = K) : SlR X (rSlL K) := by
  subst hK
  exact sl_list
theorem call_len_seqK {X : Cx} (K : PySem.W.Frag) (hK : X.K = K) : CallR X (.builtin "len") (fun xs H Q => ∃ p ys, xs = [.ref p] ∧ (SqL K H p ys ∨ SqT K H p ys) ∧ Q (.int ys.length) H) := by
  subst hK
  exact call_len_seq
end Cr

/-! CrV: max(list, default = d). -/
namespace Cr
open PySem PySem.Spec PyProof.Rows L2
section
variable {prog : Program} {w : World} {A : Around} {R : Result → Shared → Prop} {E : Value → Shared → Prop} {I : Addr} {fp wr : List Addr} {n : Nat} {P : Nat → Value → Prop} {St : Nat → Heap → Prop}
theorem maxD_on (W : Walks prog w A.in1 I fp wr n P St) (g : Nat → Nat → Bool) (cm : CmpOf prog w A.in1 .Gt P g) (S : Addr) (hS0 : S ∉ fp) (d : Value) :
    ∀ (k j : Nat) (s : Shared) (b0 : Value) (c : Nat), n - (j + 1) = k → j + 1 ≤ n → St (j + 1) s.heap → P (argBest g j) b0 → s.heap.get? S = some { cls := .type "list", dict := none, data := .seq #[b0, b0] c, slots := #[] } →
    (∀ v h' tk, P (argBest g (n - 1)) v → (∀ b o, b ∉ wr → b ≠ S → s.heap.get? b = some o → h'.get? b = some o) → R (.ok (.ret v)) { s with heap := h', toks := tk }) →
    codeAny (model prog w) A (.builtin "max.loop" ⟨[.ref I, .none, .ref S], [("default", d)]⟩) R s := by
  have hS1 : S ∉ wr := fun h => hS0 (W.sub _ h)
  have hnm : (toString "max" ++ toString ".loop" : String) = "max.loop" := by decide
  intro k
  induction k with
  | zero =>
    intro j s b0 c hk hj st p hS q
    have hin : j + 1 = n := by omega
    refine codeAny_builtin F.entry_max_loop ?_; rw [Around.under_plainId F.plain_max_loop _]
    show wpAny _ A.in1 (seqItems? (Value.ref S) >>= _) _ _ s
    refine wpAny_bind (wpAny_seqItems hS rfl ?_); show wpAny _ A.in1 (tryCatch (pyNext (Value.ref I)) _ >>= _) _ _ s
    refine wpAny_bind (wpAny_tryCatch (W.done s _ _ (hin ▸ st) fun h' tk kp => ?_))
    have hS2 := kp S _ hS1 hS
    show wpAny _ A.in1 (updateSeq S (fun _ => #[]) >>= fun _ => _) _ _ _
    refine wpAny_bind ?_; refine wpAny_updateSeq hS2 rfl (wpAny_bind (wpAny_letGo (wpAny_pure ?_)))
    exact q b0 _ tk (by rw [← hin]; exact p) fun b o n1 n2 e => (Heap.get?_update_other _ _ (Ne.symm n2)).trans (kp b o n1 e)
  | succ k ih =>
    intro j s b0 c hk hj st p hS q
    have hlt : j + 1 < n := by omega
    refine codeAny_builtin F.entry_max_loop ?_; rw [Around.under_plainId F.plain_max_loop _]
    show wpAny _ A.in1 (seqItems? (Value.ref S) >>= _) _ _ s
    refine wpAny_bind (wpAny_seqItems hS rfl ?_); show wpAny _ A.in1 (tryCatch (pyNext (Value.ref I)) _ >>= _) _ _ s
    refine wpAny_bind (wpAny_tryCatch (W.item (j + 1) s _ _ hlt st fun v h' tk pv st' kp => ?_))
    have hS2 := kp S _ hS1 hS
    show wpAny _ A.in1 (tryCatch (holding [v, v] (richCompare .Gt v b0 >>= _)) _ >>= fun _ => _) _ _ _
    refine wpAny_bind (wpAny_tryCatch (wpAny_holding (wpAny_bind (cm (j + 1) (argBest g j) v b0 _ _ _ pv p ?_))))
    refine wpAny_bind (wpAny_holding (wpAny_truthy_bool ?_)); refine wpAny_bind (wpAny_letGo (wpAny_pure ?_))
    cases hb : g (j + 1) (argBest g j) with
    | true =>
      simp only [if_true]
      refine wpAny_bind ?_; refine wpAny_updateSeq hS2 rfl (wpAny_bind (wpAny_letGo ?_)); rw [hnm]
      refine wpAny_pure ⟨plainId_quiet F.plain_max_loop _, ih (j + 1) _ v _ (by omega) hlt (W.frame _ _ _ st' fun b bf o e => ?_) (by simp only [argBest, hb, if_true]; exact pv) (Heap.get?_update_self _ hS2 rfl) fun v' h2 tk2 p2 kp2 => ?_⟩
      · exact (Heap.get?_update_other _ _ (fun h : S = b => hS0 (h ▸ bf))).trans e
      · exact q v' h2 tk2 p2 fun b o n1 n2 e => kp2 b o n1 n2 ((Heap.get?_update_other _ _ (Ne.symm n2)).trans (kp b o n1 e))
    | false =>
      simp only [Bool.false_eq_true, if_false]
      refine wpAny_bind (wpAny_letGo ?_); rw [hnm]
      refine wpAny_pure ⟨plainId_quiet F.plain_max_loop _, ih (j + 1) _ b0 c (by omega) hlt st' (by simp only [argBest, hb, Bool.false_eq_true, if_false]; exact p) hS2 fun v' h2 tk2 p2 kp2 => ?_⟩
      exact q v' h2 tk2 p2 fun b o n1 n2 e => kp2 b o n1 n2 (kp b o n1 e)
theorem maxD_first (W : Walks prog w A.in1 I fp wr n P St) (g : Nat → Nat → Bool) (cm : CmpOf prog w A.in1 .Gt P g) (S : Addr) (hS0 : S ∉ fp) (d : Value) {s : Shared} {c : Nat} (st : St 0 s.heap)
    (hS : s.heap.get? S = some { cls := .type "list", dict := none, data := .seq #[] c, slots := #[] })
    (q0 : n = 0 → ∀ h' tk, (∀ b o, b ∉ wr → b ≠ S → s.heap.get? b = some o → h'.get? b = some o) → R (.ok (.ret d)) { s with heap := h', toks := tk })
    (q : 0 < n → ∀ v h' tk, P (argBest g (n - 1)) v → (∀ b o, b ∉ wr → b ≠ S → s.heap.get? b = some o → h'.get? b = some o) → R (.ok (.ret v)) { s with heap := h', toks := tk }) :
    codeAny (model prog w) A (.builtin "max.loop" ⟨[.ref I, .none, .ref S], [("default", d)]⟩) R s := by
  have hS1 : S ∉ wr := fun h => hS0 (W.sub _ h)
  have hnm : (toString "max" ++ toString ".loop" : String) = "max.loop" := by decide
  refine codeAny_builtin F.entry_max_loop ?_; rw [Around.under_plainId F.plain_max_loop _]
  show wpAny _ A.in1 (seqItems? (Value.ref S) >>= _) _ _ s
  refine wpAny_bind (wpAny_seqItems hS rfl ?_); show wpAny _ A.in1 (tryCatch (pyNext (Value.ref I)) _ >>= _) _ _ s
  rcases Nat.eq_zero_or_pos n with hn | hn
  · refine wpAny_bind (wpAny_tryCatch (W.done s _ _ (hn ▸ st) fun h' tk kp => ?_))
    refine wpAny_bind (wpAny_rule (wpAny_pure (q0 hn h' tk fun b o n1 _ e => kp b o n1 e)))
  · refine wpAny_bind (wpAny_tryCatch (W.item 0 s _ _ hn st fun v h' tk pv st' kp => ?_))
    have hS2 := kp S _ hS1 hS
    show wpAny _ A.in1 (updateSeq S (fun _ => #[v, v]) >>= fun _ => _) _ _ _
    refine wpAny_bind ?_; refine wpAny_updateSeq hS2 rfl ?_; rw [hnm]
    refine wpAny_pure ⟨plainId_quiet F.plain_max_loop _, maxD_on W g cm S hS0 d _ 0 _ v _ rfl hn (W.frame _ _ _ st' fun b bf o e => ?_) pv (Heap.get?_update_self _ hS2 rfl) fun v' h2 tk2 p2 kp2 => ?_⟩
    · exact (Heap.get?_update_other _ _ (fun h : S = b => hS0 (h ▸ bf))).trans e
    · exact q hn v' h2 tk2 p2 fun b o n1 n2 e => kp2 b o n1 n2 ((Heap.get?_update_other _ _ (Ne.symm n2)).trans (kp b o n1 e))
theorem call_treeK {id : String} {b : Builtin} {args : List Value} {kw : List (Str × Value)} {s : Shared} {Q : Value → Shared → Prop} (h1 : builtinKind id = none) (h2 : plainId id = true) (h3 : entryFor table id = some b) (h4 : argsOk id ⟨args, kw⟩)
    (hc : wpAny (model prog w) A.in1 (b ⟨args, kw⟩) (fun fin s' => match fin with
      | .done f => (match (Except.ok f : Result) with | .ok (.ret v) => Q v s' | .ok _ => False | .error e => E e s')
      | .again c' => c'.quiet = true ∧ codeAny (model prog w) A c' (fun r s' => match r with | .ok (.ret v) => Q v s' | .ok _ => False | .error e => E e s') s') E s) :
    wpAny (model prog w) A (call (.builtin id) args kw) Q E s := by
  refine wpAny_call (codeAny_call_builtin h2 h3 ?_); simp only [checkBuiltinCall, h1]
  cases sg : Manifest.signature? id with
  | none => exact wpAny_pure hc
  | some t =>
    have h5 : Bind.checkArgs id t ⟨args, kw⟩ = pure () := by simpa only [argsOk, sg] using h4
    simp only [h5]; exact wpAny_pure hc
theorem args_maxD (a d : Value) : argsOk "max" ⟨[a], [("default", d)]⟩ := by unfold argsOk; kernel_rfl
theorem call_maxD {x d : Value} {s : Shared} {Q : Value → Shared → Prop}
    (h : wpAny (model prog w) A.in1 (pyIter x) (fun it s₂ => ∃ I fp wr n P St g, it = .ref I ∧ Walks prog w A.in1 I fp wr n P St ∧ St 0 s₂.heap ∧ (∀ b ∈ fp, b < s₂.heap.objs.size) ∧ CmpOf prog w A.in1 .Gt P g ∧
      (n = 0 → ∀ h' tk, (∀ b o, b ∉ wr → s₂.heap.get? b = some o → h'.get? b = some o) → Q d { s₂ with heap := h', toks := tk }) ∧
      (0 < n → ∀ v h' tk, P (argBest g (n - 1)) v → (∀ b o, b ∉ wr → s₂.heap.get? b = some o → h'.get? b = some o) → Q v { s₂ with heap := h', toks := tk })) E s) :
    wpAny (model prog w) A (call (.builtin "max") [x] [("default", d)]) Q E s := by
  have hnm : (toString "max" ++ toString ".loop" : String) = "max.loop" := by decide
  refine call_treeK F.kind_max F.plain_max F.entry_max (args_maxD _ _) ?_
  show wpAny _ A.in1 (Builtin.Builtins.bindParams "max" ["key", "default"] 0 ⟨[], [("default", d)]⟩ >>= fun _ => _) _ _ s
  refine wpAny_bind (wpAny_of_eq (show Builtin.Builtins.bindParams "max" ["key", "default"] 0 ⟨[], [("default", d)]⟩ = pure [none, some d] from rfl) ?_)
  refine wpAny_bind (wpAny_pure ?_); refine wpAny_bind (wpAny_mono h (fun it s₂ h₂ => ?_) fun _ _ e => e)
  obtain ⟨I, fp, wr, n, P, St, g, rfl, W, st, hfp, cm, q0, q⟩ := h₂
  have hS0 : s₂.heap.objs.size ∉ fp := fun hm => Nat.lt_irrefl _ (hfp _ hm)
  refine wpAny_bind (wpAny_newObj_type ?_); rw [hnm]
  refine wpAny_pure ⟨plainId_quiet F.plain_max_loop _, maxD_first W g cm s₂.heap.objs.size hS0 d (W.frame _ _ _ st fun b _ o e => Heap.get?_push_of_some _ e) (Heap.get?_push_size _ rfl) (fun n0 h' tk kp => ?_) (fun n0 v h' tk pv kp => ?_)⟩
  · exact q0 n0 h' tk fun b o n1 e => kp b o n1 (Nat.ne_of_lt (Heap.lt_size e)) (Heap.get?_push_of_some _ e)
  · exact q n0 v h' tk pv fun b o n1 e => kp b o n1 (Nat.ne_of_lt (Heap.lt_size e)) (Heap.get?_push_of_some _ e)
theorem maxD_raw {s : Shared} {l : Addr} {its : List Value} {ns : List Int} {d : Value} {Q : Value → Shared → Prop} (hh : A.handled = none) (hl : s.heap.IsList l its.toArray) (hi : IntsAre its ns)
    (q0 : ns = [] → ∀ h' tk, (∀ b o, s.heap.get? b = some o → h'.get? b = some o) → Q d { s with heap := h', toks := tk })
    (q : ∀ h' tk M t', (∀ b o, s.heap.get? b = some o → h'.get? b = some o) → M ∈ ns → (∀ a, a ∈ ns → a ≤ M) → Q (.int M t') { s with heap := h', toks := tk }) :
    wpAny (model prog w) A (call (.builtin "max") [.ref l] [("default", d)]) Q E s := by
  obtain ⟨xs, e⟩ := hi.allInts.items
  have hn : numsOf (intItems xs).toList = ns := by rw [← e]; exact hi.numsOf
  rw [nums_intItems] at hn; subst hn; rw [e] at hl
  refine call_maxD (iter_intList hl fun s₂ e st hfp hlI => ?_); subst e
  refine ⟨_, _, _, _, _, _, _, rfl, Walks.list (A := A.in1) hh _ l hlI (intItems xs), st, hfp, CmpOf.ints_gt (numAt xs) (fun _ _ => intItems_at), fun n0 h' tk hk => ?_, fun n0 v h' tk hP hk => ?_⟩
  · refine q0 ?_ h' tk (old_kept hk)
    have : xs.size = 0 := by simpa [intItems] using n0
    simp [Array.eq_empty_of_size_eq_zero this]
  · have hsz : 0 < xs.size := by simpa [intItems] using n0
    have hv : (intItems xs)[argBest (fun i j => decide (numAt xs i > numAt xs j)) (xs.size - 1)]? = some v := by simpa [intItems] using hP
    obtain ⟨t, rfl⟩ := intItems_at hv
    obtain ⟨h1, h2⟩ := argBest_gt (numAt xs) (xs.size - 1)
    refine q h' tk _ t (old_kept hk) ?_ fun a ha => ?_
    · rw [numAt_eq]; exact PySem.getD_mem (by rw [List.length_map, Array.length_toList]; omega)
    · obtain ⟨j, hj, rfl⟩ := mem_getD ha
      rw [List.length_map, Array.length_toList] at hj
      rw [← numAt_eq]; exact h2 j (by omega)
end
def rMaxD (K : PySem.W.Frag) : List V → List V → Hp → VK → Prop := fun vs zs H Q => ∃ (a : Addr) (ns : List Int) (z : V), vs = [V.ref a] ∧ zs = [z] ∧ SqL K H a (ns.map V.int) ∧ (ns = [] → Q z H) ∧ ∀ m, m ∈ ns → (∀ y, y ∈ ns → y ≤ m) → Q (.int m) H
theorem cr_maxD {X : Cx} (hc : X.calm = true) : CallRK X (.builtin "max") [Str.ofString "default"] (rMaxD X.K) := by
  intro pins s σ H vs zs us ws Q I r rz h
  obtain ⟨a, ns, z, rfl, rfl, hs, q0, q⟩ := h
  obtain ⟨its, rv, hl, _⟩ := I.list hs
  obtain rfl := Vals.ref1 r
  obtain ⟨w1, rfl, e1⟩ := vals1 rz
  exact maxD_raw (I.ok.hd hc) hl.isList rv.ints (fun n0 h' tk hk => ⟨z, H, I.kept hk, e1, q0 n0⟩) fun h' tk m t' hk h1 h2 => ⟨.int _, H, I.kept hk, ⟨_, rfl⟩, q m h1 h2⟩
end Cr

namespace Cr
open PySem L2
def topS (i : Nat) : Stmt := PySem.Challenge.pw_cellranks_k05_lists_that_are_ragged.main.body.getD i (.Pass ⟨0, 0, 0, 0⟩)
abbrev s_Array___init__ : Stmt := inClass (topS 18) 0
abbrev N_Array___init__ : List Str := ["self", "shape", "cells"]
theorem sc_Array___init__ : FnScope N_Array___init__ ["self", "shape", "cells"] (defScope s_Array___init__) := ⟨rfl, rfl, rfl, by decide +kernel, rfl, by decide +kernel, by decide +kernel⟩
abbrev s_Array___eq__ : Stmt := inClass (topS 18) 1
abbrev N_Array___eq__ : List Str := ["self", "other"]
theorem sc_Array___eq__ : FnScope N_Array___eq__ ["self", "other"] (defScope s_Array___eq__) := ⟨rfl, rfl, rfl, by decide +kernel, rfl, by decide +kernel, by decide +kernel⟩
abbrev s_Ragged___init__ : Stmt := inClass (topS 4) 0
abbrev N_Ragged___init__ : List Str := ["self", "at"]
theorem sc_Ragged___init__ : FnScope N_Ragged___init__ ["self", "at"] (defScope s_Ragged___init__) := ⟨rfl, rfl, rfl, by decide +kernel, rfl, by decide +kernel, by decide +kernel⟩
abbrev s_is_whole : Stmt := topS 9
abbrev N_is_whole : List Str := ["thing"]
theorem sc_is_whole : FnScope N_is_whole ["thing"] (defScope s_is_whole) := ⟨rfl, rfl, rfl, by decide +kernel, rfl, by decide +kernel, by decide +kernel⟩
abbrev s_is_from : Stmt := topS 10
abbrev N_is_from : List Str := ["thing", "least", "most"]
theorem sc_is_from : FnScope N_is_from ["thing", "least", "most"] (defScope s_is_from) := ⟨rfl, rfl, rfl, by decide +kernel, rfl, by decide +kernel, by decide +kernel⟩
abbrev s_is_shape : Stmt := topS 14
abbrev N_is_shape : List Str := ["thing", "size"]
theorem sc_is_shape : FnScope N_is_shape ["thing"] (defScope s_is_shape) := ⟨rfl, rfl, rfl, by decide +kernel, rfl, by decide +kernel, by decide +kernel⟩
abbrev s_count : Stmt := topS 15
abbrev N_count : List Str := ["shape", "found", "size"]
theorem sc_count : FnScope N_count ["shape"] (defScope s_count) := ⟨rfl, rfl, rfl, by decide +kernel, rfl, by decide +kernel, by decide +kernel⟩
abbrev s_made_of : Stmt := topS 19
abbrev N_made_of : List Str := ["thing", "at", "rows", "number", "one", "row", "cell"]
theorem sc_made_of : FnScope N_made_of ["thing", "at"] (defScope s_made_of) := ⟨rfl, rfl, rfl, by decide +kernel, rfl, by decide +kernel, by decide +kernel⟩
abbrev s_nested_array : Stmt := topS 20
abbrev N_nested_array : List Str := ["things"]
theorem sc_nested_array : FnScope N_nested_array ["things"] (defScope s_nested_array) := ⟨rfl, rfl, rfl, by decide +kernel, rfl, by decide +kernel, by decide +kernel⟩
abbrev s__law_feed : Stmt := topS 22
abbrev N__law_feed : List Str := ["_law_script"]
theorem sc__law_feed : FnScope N__law_feed ["_law_script"] (defScope s__law_feed) := ⟨rfl, rfl, rfl, by decide +kernel, rfl, by decide +kernel, by decide +kernel⟩
abbrev s__law_draw : Stmt := topS 23
abbrev N__law_draw : List Str := ["_law_feed_here", "_law_many", "_law_digit", "_law_at", "_law_cell", "_law_number_here", "_law_again"]
theorem sc__law_draw : FnScope N__law_draw ["_law_feed_here", "_law_many"] (defScope s__law_draw) := ⟨rfl, rfl, rfl, by decide +kernel, rfl, by decide +kernel, by decide +kernel⟩
abbrev s__law_of : Stmt := topS 24
abbrev N__law_of : List Str := ["_law_feed_here", "_law_some"]
theorem sc__law_of : FnScope N__law_of ["_law_feed_here", "_law_some"] (defScope s__law_of) := ⟨rfl, rfl, rfl, by decide +kernel, rfl, by decide +kernel, by decide +kernel⟩
abbrev s__law_number : Stmt := topS 25
abbrev N__law_number : List Str := ["_law_feed_here", "_law_way"]
theorem sc__law_number : FnScope N__law_number ["_law_feed_here"] (defScope s__law_number) := ⟨rfl, rfl, rfl, by decide +kernel, rfl, by decide +kernel, by decide +kernel⟩
abbrev s__law_base : Stmt := topS 26
abbrev N__law_base : List Str := ["_law_feed_here", "_law_axes", "_law_wide", "_law_k"]
theorem sc__law_base : FnScope N__law_base ["_law_feed_here", "_law_axes", "_law_wide"] (defScope s__law_base) := ⟨rfl, rfl, rfl, by decide +kernel, rfl, by decide +kernel, by decide +kernel⟩
abbrev s__law_lists : Stmt := topS 27
abbrev N__law_lists : List Str := ["_law_feed_here", "_law_shape", "_law_at"]
theorem sc__law_lists : FnScope N__law_lists ["_law_feed_here", "_law_shape"] (defScope s__law_lists) := ⟨rfl, rfl, rfl, by decide +kernel, rfl, by decide +kernel, by decide +kernel⟩
abbrev s__law_spoilt : Stmt := topS 28
abbrev N__law_spoilt : List Str := ["_law_feed_here", "_law_thing", "_law_at", "_law_some"]
theorem sc__law_spoilt : FnScope N__law_spoilt ["_law_feed_here", "_law_thing"] (defScope s__law_spoilt) := ⟨rfl, rfl, rfl, by decide +kernel, rfl, by decide +kernel, by decide +kernel⟩
abbrev s__law_look : Stmt := topS 29
abbrev N__law_look : List Str := ["_law_thing", "_law_at", "_law_shape", "_law_cells", "_law_k", "_law_found"]
theorem sc__law_look : FnScope N__law_look ["_law_thing", "_law_at"] (defScope s__law_look) := ⟨rfl, rfl, rfl, by decide +kernel, rfl, by decide +kernel, by decide +kernel⟩
abbrev s__law_deep : Stmt := topS 30
abbrev N__law_deep : List Str := ["_law_thing", "_law_one"]
theorem sc__law_deep : FnScope N__law_deep ["_law_thing"] (defScope s__law_deep) := ⟨rfl, rfl, rfl, by decide +kernel, rfl, by decide +kernel, by decide +kernel⟩
abbrev s__law_told : Stmt := topS 31
abbrev N__law_told : List Str := ["_law_things", "_law_found", "_law_error", "e", "_law_alone"]
theorem sc__law_told : FnScope N__law_told ["_law_things"] (defScope s__law_told) := ⟨rfl, rfl, rfl, by decide +kernel, rfl, by decide +kernel, by decide +kernel⟩
abbrev s_law : Stmt := topS 32
abbrev N_law : List Str := ["_law_script", "_law_feed_here", "_law_turn", "_law_things", "_law_again", "_law_due", "_law_kept", "_law_told_here"]
theorem sc_law : FnScope N_law ["_law_script"] (defScope s_law) := ⟨rfl, rfl, rfl, by decide +kernel, rfl, by decide +kernel, by decide +kernel⟩

structure Tx (K : PySem.W.Frag) (mg : Str → Option Value) where
  C_Array : Addr
  C_Ragged : Addr
  C_NoShape : Addr
  C_Miscount : Addr
  C_NoText : Addr
  Array___init__ : MtAt K C_Array "__init__" "Array.__init__" s_Array___init__ ["self", "shape", "cells"]
  Array___eq__ : MtAt K C_Array "__eq__" "Array.__eq__" s_Array___eq__ ["self", "other"]
  Array : ClAt K mg "Array" C_Array Array___init__.f
  ow_Array : OwnE K C_Array Array___eq__.f
  ot_Array : OwnT K C_Array
  kc_Array : ((PySem.W.clsIn K C_Array).isSome && PySem.W.typeIn K (.ref C_Array) == some (.type "type")) = true
  n_Array_shape : NoAttr K C_Array "shape"
  n_Array_cells : NoAttr K C_Array "cells"
  Ragged___init__ : MtAt K C_Ragged "__init__" "Ragged.__init__" s_Ragged___init__ ["self", "at"]
  x_Ragged : ExB K C_Ragged "ValueError" "ValueError.__new__" "ValueError.__init__" [.type "ValueError", .type "Exception", .type "BaseException", .type "object"]
  s_Ragged : PySem.W.exmOne K (.ref C_Ragged) (.ref C_Ragged) = some true
  n_Ragged_at : NoAttr K C_Ragged "at"
  m_Ragged : mg "Ragged" = some (.ref C_Ragged)
  m_NoShape : mg "NoShape" = some (.ref C_NoShape)
  m_Miscount : mg "Miscount" = some (.ref C_Miscount)
  m_NoText : mg "NoText" = some (.ref C_NoText)
  be_ValueError : BltE K "ValueError" "ValueError" "ValueError.__init__"
  t_MOST_AXES : Tok
  c_MOST_AXES : mg "MOST_AXES" = some (.int 6 t_MOST_AXES)
  t_MOST_SIZE : Tok
  c_MOST_SIZE : mg "MOST_SIZE" = some (.int 4000 t_MOST_SIZE)
  isV : PySem.W.kitOne K (.ref C_Ragged) (.type "ValueError") = some true
  isO : PySem.W.kitAny K (.ref C_Ragged) [.ref C_NoShape, .ref C_Miscount, .ref C_NoText] = some false
  is_whole : FnAt K mg "is_whole" "is_whole" s_is_whole ["thing"]
  is_from : FnAt K mg "is_from" "is_from" s_is_from ["thing", "least", "most"]
  is_shape : FnAt K mg "is_shape" "is_shape" s_is_shape ["thing"]
  count : FnAt K mg "count" "count" s_count ["shape"]
  made_of : FnAt K mg "made_of" "made_of" s_made_of ["thing", "at"]
  nested_array : FnAt K mg "nested_array" "nested_array" s_nested_array ["things"]
  _law_feed : FnAt K mg "_law_feed" "_law_feed" s__law_feed ["_law_script"]
  _law_draw : FnAt K mg "_law_draw" "_law_draw" s__law_draw ["_law_feed_here", "_law_many"]
  _law_of : FnAt K mg "_law_of" "_law_of" s__law_of ["_law_feed_here", "_law_some"]
  _law_number : FnAt K mg "_law_number" "_law_number" s__law_number ["_law_feed_here"]
  _law_base : FnAt K mg "_law_base" "_law_base" s__law_base ["_law_feed_here", "_law_axes", "_law_wide"]
  _law_lists : FnAt K mg "_law_lists" "_law_lists" s__law_lists ["_law_feed_here", "_law_shape"]
  _law_spoilt : FnAt K mg "_law_spoilt" "_law_spoilt" s__law_spoilt ["_law_feed_here", "_law_thing"]
  _law_look : FnAt K mg "_law_look" "_law_look" s__law_look ["_law_thing", "_law_at"]
  _law_deep : FnAt K mg "_law_deep" "_law_deep" s__law_deep ["_law_thing"]
  _law_told : FnAt K mg "_law_told" "_law_told" s__law_told ["_law_things"]
  b_len : mg "len" = none
  b_list : mg "list" = none
  b_range : mg "range" = none
  b_isinstance : mg "isinstance" = none
  b_int : mg "int" = none
  b_bool : mg "bool" = none
  b_tuple : mg "tuple" = none
  b_all : mg "all" = none
  b_abs : mg "abs" = none
  b_repr : mg "repr" = none
  b_max : mg "max" = none
  b_min : mg "min" = none
  b_enumerate : mg "enumerate" = none
  b_ValueError : mg "ValueError" = none

theorem ps_false {X : Cx} {st : Stmt} : PS X st (fun _ _ _ => False) := ⟨fun _ _ _ _ _ _ h => h.elim⟩
/-! ### the feed: a list -/
abbrev fdL (c : Addr) (a l : Int) : List V := [.ref c, .int a, .int l]
/-- the feed at f (its cells at c, at most k draws so far), beside the ghost part G -/
structure Wo (G H : Hp) (f c : Addr) (k : Nat) : Prop where
  same : Same G H
  nf : G f = none
  cells : ∃ ns : List Int, G c = some (.lst (ns.map V.int))
  feed : ∃ a l : Int, H f = some (.lst (fdL c a l)) ∧ 0 ≤ a ∧ a ≤ k
theorem Wo.ne {G H : Hp} {f c p : Addr} {k : Nat} (W : Wo G H f c k) (h : H p = none) : f ≠ p := by
  obtain ⟨a, l, e, _⟩ := W.feed
  exact ne_of_none e h
theorem Wo.mono {G H : Hp} {f c : Addr} {k m : Nat} (W : Wo G H f c k) (h : k ≤ m) : Wo G H f c m := by
  obtain ⟨a, l, e, a0, ak⟩ := W.feed
  exact ⟨W.same, W.nf, W.cells, a, l, e, a0, by omega⟩
theorem Wo.fresh {G H : Hp} {f c p : Addr} {k : Nat} {o : HO} (W : Wo G H f c k) (h : H p = none) : Wo G (upd H p o) f c k := by
  obtain ⟨a, l, e, r⟩ := W.feed
  exact ⟨Same.new W.same h, W.nf, W.cells, a, l, by rw [upd_ne (W.ne h)]; exact e, r⟩
theorem Wo.new {G H : Hp} {f c p : Addr} {k : Nat} {o : HO} (W : Wo G H f c k) (h : H p = none) : Wo (upd G p o) (upd H p o) f c k := by
  obtain ⟨a, l, e, r⟩ := W.feed
  obtain ⟨ns, hc⟩ := W.cells
  refine ⟨Same.two W.same, by rw [upd_ne (W.ne h)]; exact W.nf, ⟨ns, ?_⟩, a, l, by rw [upd_ne (W.ne h)]; exact e, r⟩
  rw [upd_ne (ne_of_none (W.same _ _ hc) h)]
  exact hc
theorem Wo.put {G H : Hp} {f c p : Addr} {k : Nat} {o : HO} (W : Wo G H f c k) (h : G p = none) (hf : f ≠ p) : Wo G (upd H p o) f c k := by
  obtain ⟨a, l, e, r⟩ := W.feed
  exact ⟨Same.put W.same h, W.nf, W.cells, a, l, by rw [upd_ne hf]; exact e, r⟩
theorem Wo.keep {G H H' : Hp} {f c : Addr} {k : Nat} (W : Wo G H f c k) (s : Same H H') : Wo G H' f c k := by
  obtain ⟨a, l, e, r⟩ := W.feed
  exact ⟨W.same.trans s, W.nf, W.cells, a, l, s _ _ e, r⟩
theorem Wo.sub {G G' H : Hp} {f c : Addr} {k : Nat} (W : Wo G' H f c k) (s : Same G G') (hc : ∃ ns : List Int, G c = some (.lst (ns.map V.int))) : Wo G H f c k :=
  ⟨s.trans W.same, s.free W.nf, hc, W.feed⟩
/-- all but the feed -/
def but (H : Hp) (f : Addr) : Hp := fun a => if a = f then none else H a
theorem but_ne {H : Hp} {f a : Addr} (h : a ≠ f) : but H f a = H a := if_neg h
theorem Wo.all {G H : Hp} {f c : Addr} {k : Nat} (W : Wo G H f c k) : Wo (but H f) H f c k ∧ Same G (but H f) := by
  obtain ⟨ns, hc⟩ := W.cells
  have ncf : c ≠ f := ne_of_none hc W.nf
  refine ⟨⟨fun a o e => ?_, if_pos rfl, ⟨ns, by rw [but_ne ncf]; exact W.same _ _ hc⟩, W.feed⟩, fun a o e => ?_⟩
  · unfold but at e
    split at e
    · cases e
    · exact e
  · rw [but_ne (ne_of_none e W.nf)]
    exact W.same _ _ e
theorem at_of' {α : Type} {xs : List α} {z : Int} {j : Nat} {v : α} (e : z = (j : Int)) (h : xs[j]? = some v) : atI xs z = some v := by
  rw [e]
  exact atI_nat h
section
variable {P : Program} {w : World} {K : PySem.W.Frag} {mg : Str → Option Value} {base : Heap}
def spDraw : Sp := fun vs H Q _ => ∃ (G : Hp) (f c : Addr) (k : Nat) (n : Int), vs = [.ref f, .int n] ∧ 0 < n ∧ n < 2 ^ 62 ∧ Wo G H f c k ∧ k < 1073741824 ∧
  ∀ (d : Int) (H' : Hp), 0 ≤ d → d < n → Wo G H' f c (k + 1) → Q (.int d) H'
theorem ok__law_draw (T : Tx K mg) : FnOk P w K mg base CX0 1 T._law_draw.f T._law_draw.fd ["_law_feed_here", "_law_many"] spDraw := by
  refine T._law_draw.F.ok sc__law_draw (fun vs H Q E h => ?_) (fun cdv A outer s H vs Q E hr h => ?_)
  · obtain ⟨G, f, c, k, n, rfl, _⟩ := h
    rfl
  · obtain ⟨G, f, c, k, n, rfl, n0, n1, ⟨sg, gf, ⟨ns, gc⟩, a, l, hf, a0, ak⟩, kb, q⟩ := h
    have hc := sg _ _ gc
    have nfc : c ≠ f := ne_of_none gc gf
    have cd : CDivW l n := wide_div n0 (b := 62) (by omega) (by decide) (by decide)
    refine ⟨_, (pss_cons (ps_if (pt_cmpR op_gt (pe_ix ix_list (pv 0) pe_int (fun _ _ => rfl)) pe_int (nomark _))
 (pss_cons (ps_set (i := 2) sc__law_draw.nd rfl (Or.inl rfl) (pe_op op_modN (pe_ix ix_list (pv 0) pe_int (fun _ _ => rfl)) (pv 1)))
 (pss_cons (ps_asg (pe_op op_fdivW (pe_ix ix_list (pv 0) pe_int (fun _ _ => rfl)) (pv 1)) (pg_sub (pv 0) pe_int set_list))
 (pss_one (ps_ret (pv 2)))))
 pss_nil)
 (pss_cons (ps_set (i := 3) sc__law_draw.nd rfl (Or.inl rfl) (pe_ix ix_list (pv 0) pe_int (fun _ _ => rfl)))
 (pss_cons (ps_asg (pe_op op_add (pv 3) pe_int) (pg_sub (pv 0) pe_int set_list))
 (pss_cons (ps_set (i := 4) sc__law_draw.nd rfl (Or.inl rfl) (pe_op op_add (pe_op op_mul (pv 3) (pv 3)) pe_int))
 (pss_cut (ps_if (pt_cmpR (op_neD hr.units) (pe_ix ix_list (pv 0) pe_int (fun _ _ => rfl)) (pe_lst pa_nil) (nomark _))
 (pss_one (ps_set (i := 4) sc__law_draw.nd rfl (Or.inl rfl) (pe_ix ix_list (pe_ix ix_list (pv 0) pe_int (fun _ _ => rfl)) (pe_op op_modN (pv 3) (pe_callB call_len_seq (by rfl) T.b_len (by decide +kernel) (pa_cons (pe_ix ix_list (pv 0) pe_int (fun _ _ => rfl)) pa_nil))) (fun _ _ => rfl))))
 pss_nil)
 (pss_cut (ps_if (PW.pt (pw_and (pt_cmpR op_lt (pv 3) (pe_callB call_len_seq (by rfl) T.b_len (by decide +kernel) (pa_cons (pe_ix ix_list (pv 0) pe_int (fun _ _ => rfl)) pa_nil)) (nomark _)) (pw_and1 (pt_cmpR op_ge (pe_callB call_abs (by rfl) T.b_abs (by decide +kernel) (pa_cons (pv 4) pa_nil)) (pe_op op_pow pe_int pe_int) (nomark _)))))
 (pss_cons (ps_asg (pe_op op_fdivW (pe_callB call_abs (by rfl) T.b_abs (by decide +kernel) (pa_cons (pv 4) pa_nil)) (pv 1)) (pg_sub (pv 0) pe_int set_list))
 (pss_one (ps_ret (pe_op op_modN (pe_callB call_abs (by rfl) T.b_abs (by decide +kernel) (pa_cons (pv 4) pa_nil)) (pv 1)))))
 pss_nil)
 (pss_cons (ps_set (i := 5) sc__law_draw.nd rfl (Or.inl rfl) (pe_op op_modN (pe_op op_mul (pe_op op_add (pe_op op_add (pe_op op_modN (pv 4) pe_int) (pe_op op_mul pe_int (pv 3))) pe_int) pe_int) pe_int))
 (pss_cons (ps_for PassesOwn.never rfl (pi_range1 (by rfl) T.b_range (pa_cons pe_int pa_nil)) (pg_name (i := 6) sc__law_draw.nd rfl (Or.inl rfl))
 (pss_cons (ps_set (i := 5) sc__law_draw.nd rfl (Or.inl rfl) (pe_op op_add (pe_op op_add (pe_op op_add (pe_op op_mul (pv 5) (pv 5)) (pe_op op_mul pe_int (pv 5))) (pv 3)) (pv 6)))
 (pss_one (ps_set (i := 5) sc__law_draw.nd rfl (Or.inl rfl) (pe_op op_modN (pv 5) pe_int)))))
 (pss_one (ps_ret (pe_op op_modN (pe_op op_fdivN (pv 5) pe_int) (pv 1)))))))))))), ?_⟩
    refine ⟨_, rfl, f, _, 2, .int l, rfl, rfl, ofL hf, rfl, _, _, rfl, rfl, _, rfl, ?_⟩
    refine ite2 (fun hl => ?_) (fun hl => ?_)
    · refine ⟨_, rfl, f, _, 2, .int l, rfl, rfl, ofL hf, rfl, _, rfl, _, _, rfl, rfl, (by omega), ?_⟩
      refine ⟨_, rfl, f, _, 2, .int l, rfl, rfl, ofL hf, rfl, _, rfl, _, _, rfl, rfl, cd, ?_⟩
      refine ⟨_, rfl, f, _, 2, 2, rfl, rfl, hf, rfl, ?_⟩
      refine ⟨_, rfl, ?_⟩
      obtain ⟨d0, d1⟩ := fmod_rng l n0
      exact q _ _ d0 d1 ⟨Same.put sg gf, gf, ⟨ns, gc⟩, a, _, upd_same, a0, by omega⟩
    · -- at = feed[1]; feed[1] = at + 1
      refine ⟨_, rfl, f, _, 1, .int a, rfl, rfl, ofL hf, rfl, ?_⟩
      refine ⟨_, rfl, _, _, rfl, rfl, _, rfl, f, _, 1, 1, rfl, rfl, hf, rfl, ?_⟩
      have hH1 : (upd H f (.lst ((fdL c a l).set 1 (.int (a + 1))))) f = some (.lst (fdL c (a + 1) l)) := upd_same
      have hc1 : (upd H f (.lst ((fdL c a l).set 1 (.int (a + 1))))) c = some (.lst (ns.map V.int)) := by rw [upd_ne nfc]; exact hc
      have sg1 : Same G (upd H f (.lst ((fdL c a l).set 1 (.int (a + 1))))) := Same.put sg gf
      generalize upd H f (.lst ((fdL c a l).set 1 (.int (a + 1)))) = H1 at hH1 hc1 sg1
      -- cell = at * at + 5
      refine ⟨_, rfl, _, rfl, _, _, rfl, rfl, .inl ⟨by omega, by omega⟩, _, _, rfl, rfl, ?_⟩
      -- if feed[0] != []
      refine ⟨fun σ' H' => ∃ cell : Int, σ' = [some (.ref f), some (.int n), none, some (.int a), some (.int cell), none, none] ∧ Same G H' ∧ H' f = some (.lst (fdL c (a + 1) l)) ∧ H' c = some (.lst (ns.map V.int)), ?_, ?_⟩
      · refine ⟨_, rfl, f, _, 0, .ref c, rfl, rfl, ofL hH1, rfl, Nat.zero_le _, fun p hp => ?_⟩
        have sg2 : Same G (upd H1 p (.lst [])) := Same.new sg1 hp
        have hf2 : (upd H1 p (.lst [])) f = some (.lst (fdL c (a + 1) l)) := by rw [upd_ne (ne_of_none hH1 hp)]; exact hH1
        have hc2 : (upd H1 p (.lst [])) c = some (.lst (ns.map V.int)) := by rw [upd_ne (ne_of_none hc1 hp)]; exact hc1
        have hp2 : (upd H1 p (.lst [])) p = some (.lst []) := upd_same
        generalize upd H1 p (.lst []) = H2 at sg2 hf2 hc2 hp2
        refine ⟨.list (ns.map PyData.int), .list [], .lst (ofL hc2) (dpInts ns), .lst (ofL hp2) .nil, shInts ns, (by rfl), _, rfl, ?_⟩
        refine ite2 (fun hn => ?_) (fun _ => ⟨_, rfl, sg2, hf2, hc2⟩)
        have hpos : 0 < ns.length := by
          cases ns with
          | nil => exact absurd hn (by decide)
          | cons _ _ => exact Nat.succ_pos _
        have hL : 0 < (((ns.map V.int).length : Nat) : Int) := by rw [List.length_map]; omega
        obtain ⟨j0, j1⟩ := fmod_rng a hL
        have hlen : (ns.map V.int).length = ns.length := List.length_map ..
        have hj : (a.fmod ((ns.map V.int).length : Nat)).toNat < ns.length := by omega
        refine ⟨_, rfl, f, _, 0, .ref c, rfl, rfl, ofL hf2, rfl, _, rfl, _, rfl, f, _, 0, .ref c, rfl, rfl, ofL hf2, rfl, c, _, rfl, .inl (ofL hc2), _, _, rfl, rfl, (by omega), c, _, _, .int ns[(a.fmod ((ns.map V.int).length : Nat)).toNat], rfl, rfl, ofL hc2, at_of (j := (a.fmod ((ns.map V.int).length : Nat)).toNat) (by omega) ?_, ?_⟩
        · rw [List.getElem?_map, List.getElem?_eq_getElem hj]; rfl
        · exact ⟨_, rfl, sg2, hf2, hc2⟩
      · rintro σ' H' ⟨cell, rfl, sg2, hf2, hc2⟩
        have fin : ∀ (d l' : Int) (H3 : Hp), 0 ≤ d → d < n → (H3 = H' ∨ H3 = upd H' f (.lst (fdL c (a + 1) l'))) → Q (.int d) H3 := by
          intro d l' H3 d0 d1 e
          rcases e with e | e
          · subst e
            exact q d _ d0 d1 ⟨sg2, gf, ⟨ns, gc⟩, a + 1, l, hf2, by omega, by omega⟩
          · subst e
            exact q d _ d0 d1 ⟨Same.put sg2 gf, gf, ⟨ns, gc⟩, a + 1, l', upd_same, by omega, by omega⟩
        -- if at < len(feed[0]) and abs(cell) >= 10 ** 18
        refine ⟨fun σ2 H2 => σ2 = [some (.ref f), some (.int n), none, some (.int a), some (.int cell), none, none] ∧ H' = H2, ?_, ?_⟩
        · refine ⟨_, rfl, _, rfl, f, _, 0, .ref c, rfl, rfl, ofL hf2, rfl, c, _, rfl, .inl (ofL hc2), _, _, rfl, rfl, _, rfl, ?_⟩
          refine ite2 (fun _ => ?_) (fun _ => ⟨rfl, rfl⟩)
          refine ⟨_, rfl, _, rfl, _, _, rfl, rfl, ⟨by decide, by decide, by decide⟩, _, _, rfl, rfl, _, rfl, ?_⟩
          refine ite2 (fun _ => ?_) (fun _ => ⟨rfl, rfl⟩)
          have cda : CDivW (if cell < 0 then -cell else cell) n := wide_div n0 (b := 62) (by omega) (by decide) (by decide)
          refine ⟨_, rfl, _, rfl, _, rfl, _, _, rfl, rfl, cda, ?_⟩
          refine ⟨_, rfl, f, _, 2, 2, rfl, rfl, hf2, rfl, ?_⟩
          refine ⟨_, rfl, _, rfl, _, rfl, _, _, rfl, rfl, (by omega), ?_⟩
          exact fin _ ((if cell < 0 then -cell else cell) / n) _ (fmod_rng _ n0).1 (fmod_rng _ n0).2 (.inr rfl)
        · rintro σ2 H2 ⟨rfl, rfl⟩
          refine ⟨_, rfl, _, _, rfl, rfl, (by show (4294967311 : Int) ≠ 0; decide), _, rfl, _, _, rfl, rfl, .inl ⟨by decide, by decide⟩, _, _, rfl, rfl, _, _, rfl, rfl, _, _, rfl, rfl, .inr ⟨by decide, by decide⟩, _, _, rfl, rfl, (by show (4294967311 : Int) ≠ 0; decide), ?_⟩
          have y0 := fmod_rng ((cell.fmod 4294967311 + 65539 * a + 17) * 48271) (n := 4294967311) (by decide)
          refine ⟨3, rfl, by decide, by decide, for_range (lo := 0) (n := 3) (fun i σ H2 => ∃ (m : Int) (v6 : Option V), σ = [some (.ref f), some (.int n), none, some (.int a), some (.int cell), some (.int m), v6] ∧ H' = H2 ∧ 0 ≤ m ∧ m < 4294967311) ⟨_, none, rfl, rfl, y0.1, y0.2⟩ ?_ ?_⟩
          · rintro i σ H2 hi ⟨m, v6, rfl, rfl, m0, m1⟩
            refine ⟨_, rfl, _, rfl, _, _, rfl, rfl, .inl ⟨by omega, by omega⟩, _, rfl, _, _, rfl, rfl, .inl ⟨by decide, by decide⟩, _, _, rfl, rfl, _, rfl, _, _, rfl, rfl, _, rfl, _, _, rfl, rfl, ?_⟩
            refine ⟨_, rfl, _, _, rfl, rfl, (by show (4294967311 : Int) ≠ 0; decide), ?_⟩
            exact ⟨_, _, rfl, rfl, (fmod_rng _ (by decide)).1, (fmod_rng _ (by decide)).2⟩
          · rintro σ H2 ⟨m, v6, rfl, rfl, m0, m1⟩
            refine ⟨_, rfl, _, _, rfl, rfl, ⟨by decide, by decide⟩, _, rfl, _, _, rfl, rfl, (by omega), ?_⟩
            exact fin _ 0 _ (fmod_rng _ n0).1 (fmod_rng _ n0).2 (.inl rfl)
end
end Cr

namespace Cr
open PySem L2
theorem cut_ints (ns : List Int) (lo hi : Option Int) : ∃ ms : List Int, cutV (ns.map V.int) lo hi = ms.map V.int := by
  unfold cutV
  exact ⟨(ns.drop (HT.sIx (ns.map V.int).length 0 lo)).take (HT.sIx (ns.map V.int).length (ns.map V.int).length hi - HT.sIx (ns.map V.int).length 0 lo), by rw [List.map_take, List.map_drop]⟩
def signV (z : Str) : List V := z.cps.toList.map fun c => V.str ⟨#[c]⟩
section
variable {P : Program} {w : World} {K : PySem.W.Frag} {mg : Str → Option Value} {base : Heap}
def spFeed (K : PySem.W.Frag) : Sp := fun vs H Q _ => ∃ (a : Addr) (ns : List Int), vs = [.ref a] ∧ SqL K H a (ns.map V.int) ∧
  ∀ (f c : Addr) (G H' : Hp), Same H G → H f = none → Wo G H' f c 0 → Q (.ref f) H'
theorem ok__law_feed (T : Tx K mg) : FnOk P w K mg base CX0 1 T._law_feed.f T._law_feed.fd ["_law_script"] (spFeed K) := by
  refine T._law_feed.F.ok sc__law_feed (fun vs H Q E h => ?_) (fun cdv A outer s H vs Q E hr h => ?_)
  · obtain ⟨a, ns, rfl, _⟩ := h
    rfl
  · obtain ⟨a, ns, rfl, hS, q⟩ := h
    refine ⟨_, (pss_one (ps_ret (pe_lst (pa_cons (pe_callTy call_list_of (by rfl) T.b_list (by decide +kernel) (pa_cons (pe_slice sl_list (pv 0) po_none (po_some pe_int)) pa_nil)) (pa_cons pe_int (pa_cons pe_int pa_nil)))))), ?_⟩
    refine ⟨_, rfl, 63, rfl, a, _, rfl, hS, fun p np => ?_⟩
    obtain ⟨ms, em⟩ := cut_ints ns none (some 63)
    rw [em]
    refine ⟨p, _, rfl, .inl (ofL upd_same), fun c nc => ?_⟩
    refine ⟨by show 3 ≤ sizeLine; decide, fun f nf => ?_⟩
    have ncp : c ≠ p := fun e => by rw [e, upd_same] at nc; cases nc
    have nfc : f ≠ c := fun e => by rw [e, upd_same] at nf; cases nf
    have nfp : f ≠ p := fun e => by rw [e, upd_ne ncp.symm, upd_same] at nf; cases nf
    have nc0 : H c = none := by rw [upd_ne ncp] at nc; exact nc
    have nf0 : H f = none := by rw [upd_ne nfc, upd_ne nfp] at nf; exact nf
    refine q f c (upd H c (.lst (ms.map V.int))) _ (same_up nc0) nf0 ⟨fun b o e => ?_, by rw [upd_ne nfc]; exact nf0, ⟨ms, upd_same⟩, 0, 0, upd_same, Int.le_refl _, by decide⟩
    by_cases hb : b = c
    · subst hb
      rw [upd_same] at e
      rw [upd_ne nfc.symm, upd_same]
      exact e
    · rw [upd_ne hb] at e
      rw [upd_ne (ne_of_none e nf0), upd_ne hb, upd_ne (ne_of_none e np)]
      exact e
/-! ### _law_of -/
def SeqIn (K : PySem.W.Frag) (G : Hp) (x : V) (ys : List V) : Prop := ∃ a, x = .ref a ∧ SqL K G a ys
def spOf (K : PySem.W.Frag) : Sp := fun vs H Q _ => ∃ (G : Hp) (f c : Addr) (k : Nat) (x : V) (ys : List V), vs = [.ref f, x] ∧ SeqIn K G x ys ∧ 0 < ys.length ∧ ys.length < 1000000 ∧ Wo G H f c k ∧ k < 1073741824 ∧
  ∀ (v : V) (H' : Hp), v ∈ ys → Wo G H' f c (k + 1) → Q v H'
theorem ok__law_of (T : Tx K mg) : FnOk P w K mg base CX0 2 T._law_of.f T._law_of.fd ["_law_feed_here", "_law_some"] (spOf K) := by
  refine T._law_of.F.ok sc__law_of (fun vs H Q E h => ?_) (fun cdv A outer s H vs Q E hr h => ?_)
  · obtain ⟨G, f, c, k, x, ys, rfl, _⟩ := h
    rfl
  · obtain ⟨G, f, c, k, x, ys, rfl, ⟨a, rfl, ha⟩, y0, y1, W, kb, q⟩ := h
    refine ⟨_, (pss_one (ps_ret (pe_ix ix_seq (pv 1) (pe_call (ok__law_draw T) (hr.mono (by decide)) (by rfl) T._law_draw.mg T._law_draw.F.kp T._law_draw.b .nil pass0 (pa_cons (pv 0) (pa_cons (pe_callB call_len (by rfl) T.b_len (by decide +kernel) (pa_cons (pv 1) pa_nil)) pa_nil))) (fun _ _ => rfl)))), ?_⟩
    refine ⟨_, rfl, _, rfl, _, rfl, _, ys.length, rfl, .inl ⟨ys, W.same.seq ha, rfl⟩, G, f, c, k, _, rfl, by omega, by omega, W, kb, fun d H' d0 d1 W' => ?_⟩
    have hd : d.toNat < ys.length := by omega
    exact .inl ⟨a, ys, d, _, rfl, rfl, W'.same.seq ha, at_of (j := d.toNat) (by omega) (List.getElem?_eq_getElem hd), q _ H' (List.getElem_mem hd) W'⟩
/-! ### _law_number -/
def spNumber : Sp := fun vs H Q _ => ∃ (G : Hp) (f c : Addr) (k : Nat), vs = [.ref f] ∧ Wo G H f c k ∧ k < 1000000000 ∧
  ∀ (n : Int) (H' : Hp), -(10 ^ 30) ≤ n → n ≤ 10 ^ 30 → Wo G H' f c (k + 4) → Q (.int n) H'
theorem ok__law_number (T : Tx K mg) : FnOk P w K mg base CX0 3 T._law_number.f T._law_number.fd ["_law_feed_here"] spNumber := by
  refine T._law_number.F.ok sc__law_number (fun vs H Q E h => ?_) (fun cdv A outer s H vs Q E hr h => ?_)
  · obtain ⟨G, f, c, k, rfl, _⟩ := h
    rfl
  · obtain ⟨G, f, c, k, rfl, W, kb, q⟩ := h
    refine ⟨_, (pss_cons (ps_set (i := 1) sc__law_number.nd rfl (Or.inl rfl) (pe_call (ok__law_draw T) (hr.mono (by decide)) (by rfl) T._law_draw.mg T._law_draw.F.kp T._law_draw.b .nil pass0 (pa_cons (pv 0) (pa_cons pe_int pa_nil))))
 (pss_cons (ps_if (pt_cmpR op_lt (pv 1) pe_int (nomark _))
 (pss_one (ps_ret (pe_op op_sub (pe_call (ok__law_draw T) (hr.mono (by decide)) (by rfl) T._law_draw.mg T._law_draw.F.kp T._law_draw.b .nil pass0 (pa_cons (pv 0) (pa_cons pe_int pa_nil))) pe_int)))
 pss_nil)
 (pss_cons (ps_if (pt_cmpR op_lt (pv 1) pe_int (nomark _))
 (pss_one (ps_ret (pe_call (ok__law_of T) (hr.mono (by decide)) (by rfl) T._law_of.mg T._law_of.F.kp T._law_of.b .nil pass0 (pa_cons (pv 0) (pa_cons (pe_lst (pa_cons pe_int (pa_cons pe_int (pa_cons pe_int (pa_cons pe_int (pa_cons pe_int (pa_cons (pe_un un_neg pe_int) (pa_cons (pe_un un_neg pe_int) pa_nil)))))))) pa_nil)))))
 pss_nil)
 (pss_one (ps_ret (pe_op op_mul (pe_op op_add (pe_op op_mul (pe_call (ok__law_draw T) (hr.mono (by decide)) (by rfl) T._law_draw.mg T._law_draw.F.kp T._law_draw.b .nil pass0 (pa_cons (pv 0) (pa_cons (pe_op op_pow pe_int pe_int) pa_nil))) (pe_op op_pow pe_int pe_int)) (pe_call (ok__law_draw T) (hr.mono (by decide)) (by rfl) T._law_draw.mg T._law_draw.F.kp T._law_draw.b .nil pass0 (pa_cons (pv 0) (pa_cons (pe_op op_pow pe_int pe_int) pa_nil)))) (pe_ix ix_list (pe_lst (pa_cons pe_int (pa_cons (pe_un un_neg pe_int) pa_nil))) (pe_call (ok__law_draw T) (hr.mono (by decide)) (by rfl) T._law_draw.mg T._law_draw.F.kp T._law_draw.b .nil pass0 (pa_cons (pv 0) (pa_cons pe_int pa_nil))) (fun _ _ => rfl)))))))), ?_⟩
    refine ⟨_, rfl, G, f, c, k, 9, rfl, by decide, by decide, W, by omega, fun way H1 w0 w1 W1 => ?_⟩
    refine ⟨_, rfl, _, _, rfl, rfl, _, rfl, ?_⟩
    refine ite2 (fun c1 => ?_) (fun c1 => ?_)
    · refine ⟨_, rfl, G, f, c, _, 7, rfl, by decide, by decide, W1, by omega, fun d H2 d0 d1 W2 => ?_⟩
      refine ⟨_, _, rfl, rfl, ?_⟩
      exact q _ H2 (by omega) (by omega) (W2.mono (by omega))
    · refine ⟨_, rfl, _, _, rfl, rfl, _, rfl, ?_⟩
      refine ite2 (fun c2 => ?_) (fun c2 => ?_)
      · refine ⟨_, rfl, _, rfl, _, rfl, by show 7 ≤ sizeLine; decide, fun p np => ?_⟩
        refine ⟨_, f, c, _, _, _, rfl, ⟨p, rfl, ofL upd_same⟩, by show 0 < 7; decide, by show 7 < 1000000; decide, W1.new np, by omega, fun v H2 hv W2 => ?_⟩
        have W3 := (W2.sub (same_up (W1.same.free np)) W1.cells).mono (show k + 1 + 1 ≤ k + 4 by omega)
        have hr : ∃ n : Int, v = .int n ∧ -(10 ^ 30) ≤ n ∧ n ≤ 10 ^ 30 := by
          simp only [List.mem_cons, List.not_mem_nil, or_false] at hv
          rcases hv with rfl | rfl | rfl | rfl | rfl | rfl | rfl <;> exact ⟨_, rfl, by decide, by decide⟩
        obtain ⟨n, rfl, n0, n1⟩ := hr
        exact q n H2 n0 n1 W3
      · refine ⟨_, rfl, _, _, rfl, rfl, ⟨by decide, by decide, by decide⟩, G, f, c, _, _, rfl, by decide, by decide, W1, by omega, fun d1 H2 a0 a1 W2 => ?_⟩
        have a1 : d1 < 1000000000000000 := a1
        refine ⟨_, _, rfl, rfl, ⟨by decide, by decide, by decide⟩, _, _, rfl, rfl, .inl ⟨by omega, by omega⟩, ?_⟩
        refine ⟨_, rfl, _, _, rfl, rfl, ⟨by decide, by decide, by decide⟩, G, f, c, _, _, rfl, by decide, by decide, W2, by omega, fun d2 H3 b0 b1 W3 => ?_⟩
        have b1 : d2 < 1000000000000000 := b1
        refine ⟨_, _, rfl, rfl, _, rfl, by show 2 ≤ sizeLine; decide, fun p np => ?_⟩
        have W4 := W3.new (o := .lst [.int 1, .int (-1)]) np
        refine ⟨_, rfl, _, f, c, _, 2, rfl, by decide, by decide, W4, by omega, fun d3 H4 e0 e1 W5 => ?_⟩
        have W6 := (W5.sub (same_up (W3.same.free np)) W1.cells).mono (show k + 1 + 1 + 1 + 1 ≤ k + 4 by omega)
        have hs : ∃ s : Int, ([.int 1, .int (-1)] : List V)[d3.toNat]? = some (.int s) ∧ (s = 1 ∨ s = -1) := by
          rcases (show d3 = 0 ∨ d3 = 1 by omega) with rfl | rfl
          · exact ⟨1, rfl, .inl rfl⟩
          · exact ⟨-1, rfl, .inr rfl⟩
        obtain ⟨s, es, hs⟩ := hs
        have sb : -(2 ^ 64) < s ∧ s < 2 ^ 64 := by rcases hs with rfl | rfl <;> decide
        refine ⟨p, _, d3, _, rfl, rfl, ofL (W5.same _ _ upd_same), at_of (j := d3.toNat) (by omega) es, _, _, rfl, rfl, .inr ⟨by omega, by omega⟩, ?_⟩
        have hb : -(10 ^ 30) ≤ (d1 * 10 ^ (15 : Int).toNat + d2) * s ∧ (d1 * 10 ^ (15 : Int).toNat + d2) * s ≤ 10 ^ 30 := by
          have e : (10 : Int) ^ (15 : Int).toNat = 1000000000000000 := by decide
          rw [e]
          rcases hs with rfl | rfl <;> omega
        exact q _ H4 hb.1 hb.2 W6
/-! ### _law_base -/
def ShOk (sh : List Int) : Prop := sh.length ≤ 6 ∧ ∀ x ∈ sh, 0 ≤ x ∧ x ≤ 3
def spBase : Sp := fun vs H Q _ => ∃ (G : Hp) (f c : Addr) (k : Nat) (m : Int), vs = [.ref f, .int m, .int 4] ∧ 0 ≤ m ∧ m ≤ 6 ∧ Wo G H f c k ∧ k < 1000000000 ∧
  ∀ (p : Addr) (sh : List Int) (G' H' : Hp), Same G G' → G p = none → Wo G' H' f c (k + 20) → G' p = some (.tup (sh.map V.int)) → (sh.length : Int) ≤ m → (∀ x ∈ sh, 0 ≤ x ∧ x ≤ 3) → Q (.ref p) H'
theorem ok__law_base (T : Tx K mg) : FnOk P w K mg base CX0 3 T._law_base.f T._law_base.fd ["_law_feed_here", "_law_axes", "_law_wide"] spBase := by
  refine T._law_base.F.ok sc__law_base (fun vs H Q E h => ?_) (fun cdv A outer s H vs Q E hr h => ?_)
  · obtain ⟨G, f, c, k, m, rfl, _⟩ := h
    rfl
  · obtain ⟨G, f, c, k, m, rfl, m0, m1, W, kb, q⟩ := h
    refine ⟨_, (pss_one (ps_ret (pe_callTy call_tuple_of (by rfl) T.b_tuple (by decide +kernel) (pa_cons (pe_lc (own := [("_law_k", 3)]) (g := gName 3) (by rfl) sc__law_base.nd (pi_range1 (by rfl) T.b_range (pa_cons (pe_call (ok__law_draw T) (hr.mono (by decide)) (by rfl) T._law_draw.mg T._law_draw.F.kp T._law_draw.b .nil pass0 (pa_cons (pv 0) (pa_cons (pe_op op_add (pv 1) pe_int) pa_nil))) pa_nil)) (blkOk_by (own := [("_law_k", 3)]) (N := N__law_base) (sc := defScope s__law_base) (by decide +kernel)) (fun _ _ _ _ _ => (pg_name (i := 3) sc__law_base.nd rfl (Or.inl rfl))) (fun _ _ _ _ _ => pts_nil) (fun _ _ _ _ _ => (pe_call (ok__law_of T) (hr.mono (by decide)) (by rfl) T._law_of.mg T._law_of.F.kp T._law_of.b .nil pass0 (pa_cons (pv 0) (pa_cons (pe_lst (pa_cons pe_int (pa_cons pe_int (pa_cons pe_int (pa_cons pe_int (pa_cons (pe_call (ok__law_draw T) (hr.mono (by decide)) (by rfl) T._law_draw.mg T._law_draw.F.kp T._law_draw.b .nil pass0 (pa_cons (pv 0) (pa_cons (pv 2) pa_nil))) pa_nil)))))) pa_nil))))) pa_nil)))), ?_⟩
    refine ⟨_, rfl, _, rfl, _, _, rfl, rfl, G, f, c, k, _, rfl, by omega, by omega, W, by omega, fun d H1 d0 d1 W1 => ?_⟩
    refine ⟨d, rfl, by omega, by omega, fun D nD => ?_⟩
    have gD : G D = none := W1.same.free nD
    have nfD : f ≠ D := W1.ne nD
    refine lc_range (lo := 0) (n := d.toNat) (fun j H' => ∃ zs : List Int, H' D = some (.lst (zs.map V.int)) ∧ Wo G H' f c (k + 1 + 2 * j) ∧ zs.length = j ∧ ∀ z ∈ zs, 0 ≤ z ∧ z ≤ 3)
      ⟨[], upd_same, (W1.fresh nD).mono (by omega), rfl, fun z hz => nomatch hz⟩ ?_ ?_
    · rintro j H2 hj ⟨zs, hD, W2, ez, hz⟩
      refine ⟨rfl, ?_⟩
      -- of(feed, [1, 2, 2, 3, draw(feed, wide)])
      have W3 : Wo (upd G D (.lst (zs.map V.int))) H2 f c (k + 1 + 2 * j) := by
        obtain ⟨ns, hc⟩ := W2.cells
        exact ⟨Same.add W2.same hD, by rw [upd_ne nfD]; exact W2.nf, ⟨ns, by rw [upd_ne (ne_of_none hc gD)]; exact hc⟩, W2.feed⟩
      refine ⟨_, rfl, _, rfl, _, rfl, _, f, c, _, 4, rfl, by decide, by decide, W3, by omega, fun d4 H3 a0 a1 W4 => ?_⟩
      refine ⟨by show 5 ≤ sizeLine; decide, fun p np => ?_⟩
      refine ⟨_, f, c, _, _, _, rfl, ⟨p, rfl, ofL upd_same⟩, by show 0 < 5; decide, by show 5 < 1000000; decide, W4.new np, by omega, fun v H4 hv W5' => ?_⟩
      have W5 := W5'.sub (same_up (W4.same.free np)) W4.cells
      have hr : ∃ n : Int, v = .int n ∧ 0 ≤ n ∧ n ≤ 3 := by
        simp only [List.mem_cons, List.not_mem_nil, or_false] at hv
        rcases hv with rfl | rfl | rfl | rfl | rfl
        · exact ⟨1, rfl, by decide, by decide⟩
        · exact ⟨2, rfl, by decide, by decide⟩
        · exact ⟨2, rfl, by decide, by decide⟩
        · exact ⟨3, rfl, by decide, by decide⟩
        · exact ⟨d4, rfl, by omega, by omega⟩
      obtain ⟨n, rfl, n0, n1⟩ := hr
      refine ⟨_, W5.same _ _ upd_same, by rw [List.length_map, sizeLine_eq]; omega, zs ++ [n], by rw [upd_same, List.map_append]; rfl, ?_, by rw [List.length_append, ez]; rfl, ?_⟩
      · exact ((W5.sub (same_up gD) W.cells).put gD nfD).mono (by omega)
      · intro z hz'
        rcases List.mem_append.mp hz' with h | h
        · exact hz z h
        · rw [List.mem_singleton.mp h]; exact ⟨n0, n1⟩
    · rintro H2 ⟨zs, hD, W2, ez, hz⟩
      refine ⟨D, _, rfl, .inl ⟨ofL hD, fun p np => ?_⟩⟩
      exact q p zs _ _ (same_up (W2.same.free np)) (W2.same.free np) ((W2.new np).mono (by omega)) upd_same (by omega) hz
end
end Cr

namespace Cr
open PySem L2
/-- no whole number: a truth, or of another class -/
def NoInt (K : PySem.W.Frag) (H : Hp) (v : V) : Prop := (∃ b, v = .bl b) ∨ ∃ t, TyX K H v t ∧ PySem.W.kitOne K t (.type "int") = some false
theorem ip_mul {X : Cx} : PIp X .Mult (rI CMul fun i j => .int (i * j)) := by
  intro pins s σ H x y v u Q I r1 r2 w
  exact (iop_mul (X := X)) pins s σ H x y v u Q I r1 r2 w
def prodI : List Int → Int
  | [] => 1
  | n :: r => n * prodI r
theorem prodI_snoc : ∀ (l : List Int) (n : Int), prodI (l ++ [n]) = prodI l * n
  | [], n => by simp [prodI]
  | m :: r, n => by simp only [List.cons_append, prodI]; rw [prodI_snoc r n, Int.mul_assoc]
theorem prodI_nn : ∀ {l : List Int}, (∀ x ∈ l, 0 ≤ x) → 0 ≤ prodI l
  | [], _ => by decide
  | n :: r, h => Int.mul_nonneg (h n List.mem_cons_self) (prodI_nn fun x hx => h x (List.mem_cons_of_mem _ hx))
theorem lct {K : PySem.W.Frag} {a : Addr} {xs : List V} {Hs : Hp} {Fin : Hp → Prop} {Body : V → Hp → (Hp → Prop) → Prop} (Pv : Nat → Hp → Prop) (h0 : Pv 0 Hs) (hl : ∀ i H, i ≤ xs.length → Pv i H → SqT K H a xs) (hs : ∀ i x H, xs[i]? = some x → Pv i H → Body x H (Pv (i + 1)))
    (hd : ∀ H, Pv xs.length H → Fin H) :
    ∃ W : Nat → Nat → Hp → Prop, (∃ m, W 0 m Hs) ∧ ∀ i m H, W i m H → ((Itt K a).stop i H ∧ Fin H) ∨ ((Itt K a).go i H ∧ ∃ Nx : Hp → Prop, (∀ H', Nx H' → ∃ m', m' < m ∧ W (i + 1) m' H') ∧ ∀ x H', (Itt K a).yld i H x H' → Body x H' Nx) := by
  refine ⟨fun i m H => m + i = xs.length ∧ Pv i H, ⟨xs.length, rfl, h0⟩, fun i m H ⟨em, p⟩ => ?_⟩
  have q := hl i H (by omega) p
  by_cases c : i < xs.length
  · refine .inr ⟨⟨xs, xs[i], q, List.getElem?_eq_getElem c⟩, Pv (i + 1), fun H' p' => ⟨m - 1, by omega, by omega, p'⟩, fun x H' y => ?_⟩
    obtain ⟨rfl, y⟩ := y
    exact hs i x _ (y xs q) p
  · obtain rfl : i = xs.length := by omega
    exact .inl ⟨⟨xs, q, Nat.le_refl _⟩, hd H p⟩
def goodV : V → Bool
  | .int i => decide (0 ≤ i) && decide (i ≤ 4000)
  | _ => false
def shV (ys : List V) : Bool := decide (ys.length ≤ 6) && ys.all goodV
section
variable {P : Program} {w : World} {K : PySem.W.Frag} {mg : Str → Option Value} {base : Heap}
def spWhl (K : PySem.W.Frag) : Sp := fun vs H Q _ => ∃ v : V, vs = [v] ∧ ((∃ i, v = .int i ∧ Q (.bl true) H) ∨ (NoInt K H v ∧ Q (.bl false) H))
theorem ok_is_whole (T : Tx K mg) : FnOk P w K mg base CX0 1 T.is_whole.f T.is_whole.fd ["thing"] (spWhl K) := by
  refine T.is_whole.F.ok sc_is_whole (fun vs H Q E h => ?_) (fun cdv A outer s H vs Q E hr h => ?_)
  · obtain ⟨v, rfl, _⟩ := h
    rfl
  · obtain ⟨v, rfl, h⟩ := h
    refine ⟨_, (pss_one (ps_ret (pe_and (pe_callB call_isi (by rfl) T.b_isinstance (by decide +kernel) (pa_cons (pv 0) (pa_cons (pe_bltn (v := V.ty "int") (by rfl) T.b_int (by decide +kernel) rfl) pa_nil))) (pe_one (pe_not (pe_callB call_isi (by rfl) T.b_isinstance (by decide +kernel) (pa_cons (pv 0) (pa_cons (pe_bltn (v := V.ty "bool") (by rfl) T.b_bool (by decide +kernel) rfl) pa_nil)))))))), ?_⟩
    rcases h with ⟨i, rfl, q⟩ | ⟨⟨b, rfl⟩ | ⟨t, ty, ko⟩, q⟩
    · refine ⟨_, rfl, _, _, _, _, true, rfl, .ty "int", .base (.int i), by simp [PySem.W.kitOne], true, rfl, ?_⟩
      exact ⟨_, rfl, _, _, _, _, false, rfl, .ty "bool", .base (.int i), by rfl, false, rfl, q⟩
    · refine ⟨_, rfl, _, _, _, _, true, rfl, .ty "int", .base (.bl b), by rfl, true, rfl, ?_⟩
      exact ⟨_, rfl, _, _, _, _, true, rfl, .ty "bool", .base (.bl b), by simp [PySem.W.kitOne], true, rfl, q⟩
    · exact ⟨_, rfl, _, _, _, _, false, rfl, .ty "int", ty, ko, false, rfl, q⟩
def spFrom (K : PySem.W.Frag) : Sp := fun vs H Q _ => ∃ (v : V) (lo hi : Int), vs = [v, .int lo, .int hi] ∧ ((∃ i, v = .int i ∧ Q (.bl (decide (lo ≤ i) && decide (i ≤ hi))) H) ∨ (NoInt K H v ∧ Q (.bl false) H))
theorem ok_is_from (T : Tx K mg) : FnOk P w K mg base CX0 2 T.is_from.f T.is_from.fd ["thing", "least", "most"] (spFrom K) := by
  refine T.is_from.F.ok sc_is_from (fun vs H Q E h => ?_) (fun cdv A outer s H vs Q E hr h => ?_)
  · obtain ⟨v, lo, hi, rfl, _⟩ := h
    rfl
  · obtain ⟨v, lo, hi, rfl, h⟩ := h
    refine ⟨_, (pss_one (ps_ret (pe_and (pe_call (ok_is_whole T) (hr.mono (by decide)) (by rfl) T.is_whole.mg T.is_whole.F.kp T.is_whole.b .nil pass0 (pa_cons (pv 0) pa_nil)) (pe_and (pe_cmpR op_ge (pv 0) (pv 1) (nomark _)) (pe_one (pe_or (pe_cmpR op_isN (pv 2) pe_non (nomark _)) (pe_one (pe_cmpR op_le (pv 0) (pv 2) (nomark _))))))))), ?_⟩
    rcases h with ⟨i, rfl, q⟩ | ⟨no, q⟩
    · refine ⟨_, rfl, _, rfl, .inl ⟨i, rfl, ?_⟩⟩
      refine ⟨true, rfl, _, rfl, _, rfl, _, _, rfl, rfl, _, rfl, ?_⟩
      refine ite2 (fun c => ?_) (fun c => ?_)
      · have c : lo ≤ i := by simpa using c
        rw [show (decide (lo ≤ i) && decide (i ≤ hi)) = decide (i ≤ hi) by simp [c]] at q
        exact ⟨_, rfl, rfl, _, rfl, _, rfl, _, rfl, _, _, rfl, rfl, q⟩
      · have c : ¬ lo ≤ i := by simpa using c
        rw [show (decide (lo ≤ i) && decide (i ≤ hi)) = false by simp [c]] at q
        exact q
    · exact ⟨_, rfl, _, rfl, .inr ⟨no, false, rfl, q⟩⟩
def ElOk (K : PySem.W.Frag) (H : Hp) (y : V) : Prop := (∃ i, y = .int i) ∨ ((∀ i, y ≠ .int i) ∧ ∀ H', Same H H' → NoInt K H' y)
def spShp (K : PySem.W.Frag) : Sp := fun vs H Q _ => (∃ (a : Addr) (ys : List V), vs = [.ref a] ∧ H a = some (.tup ys) ∧ (∀ y ∈ ys, ElOk K H y) ∧ ys.length ≤ 100000 ∧ ∀ H', Same H H' → Q (.bl (shV ys)) H') ∨
  ∃ (v : V) (t : Value), vs = [v] ∧ TyX K H v t ∧ PySem.W.kitOne K t (.type "tuple") = some false ∧ Q (.bl false) H
theorem ok_is_shape (T : Tx K mg) : FnOk P w K mg base CX0 3 T.is_shape.f T.is_shape.fd ["thing"] (spShp K) := by
  refine T.is_shape.F.ok sc_is_shape (fun vs H Q E h => ?_) (fun cdv A outer s H vs Q E hr h => ?_)
  · rcases h with ⟨a, ys, rfl, _⟩ | ⟨v, t, rfl, _⟩ <;> rfl
  · rcases h with ⟨a, ys, rfl, ha, hys, hl, q⟩ | ⟨v, t, rfl, ty, ko, q⟩
    rotate_left
    · refine ⟨_, (pss_cons (ps_if (PW.pt (pw_or (pt_not (pt_val (pe_callB call_isi (by rfl) T.b_isinstance (by decide +kernel) (pa_cons (pv 0) (pa_cons (pe_bltn (v := V.ty "tuple") (by rfl) T.b_tuple (by decide +kernel) rfl) pa_nil))))) (pw_or1 (pt_cmpR op_gt (pe_callB call_len_seq (by rfl) T.b_len (by decide +kernel) (pa_cons (pv 0) pa_nil)) (pe_glob (v := V.int 6) (by rfl) T.c_MOST_AXES ⟨_, rfl⟩) (nomark _)))))
 (pss_one (ps_ret pe_bl))
 pss_nil)
 (pss_one (ps_ret (pe_callB (cr_all rfl) (by rfl) T.b_all (by decide +kernel) (pa_cons (pe_lc (own := [("size", 1)]) (g := gName 1) (by rfl) sc_is_shape.nd (pi_tup (pv 0)) (blkOk_by (own := [("size", 1)]) (N := N_is_shape) (sc := defScope s_is_shape) (by decide +kernel)) (fun _ _ _ _ _ => (pg_name (i := 1) sc_is_shape.nd rfl (Or.inl rfl))) (fun _ _ _ _ _ => pts_nil) (fun _ _ _ _ _ => (pe_call (ok_is_from T) (hr.mono (by decide)) (by rfl) T.is_from.mg T.is_from.F.kp T.is_from.b .nil pass0 (pa_cons (pv 1) (pa_cons pe_int (pa_cons (pe_glob (v := V.int 4000) (by rfl) T.c_MOST_SIZE ⟨_, rfl⟩) pa_nil)))))) pa_nil))))), ?_⟩
      exact ⟨_, rfl, _, _, _, _, false, rfl, .ty "tuple", ty, ko, false, rfl, q⟩
    · refine ⟨_, (pss_cons (ps_if (PW.pt (pw_or (pt_not (pt_val (pe_callB call_isi (by rfl) T.b_isinstance (by decide +kernel) (pa_cons (pv 0) (pa_cons (pe_bltn (v := V.ty "tuple") (by rfl) T.b_tuple (by decide +kernel) rfl) pa_nil))))) (pw_or1 (pt_cmpR op_gt (pe_callB call_len_seq (by rfl) T.b_len (by decide +kernel) (pa_cons (pv 0) pa_nil)) (pe_glob (v := V.int 6) (by rfl) T.c_MOST_AXES ⟨_, rfl⟩) (nomark _)))))
 (pss_one (ps_ret pe_bl))
 pss_nil)
 (pss_one (ps_ret (pe_callB (cr_all rfl) (by rfl) T.b_all (by decide +kernel) (pa_cons (pe_lc (own := [("size", 1)]) (g := gName 1) (by rfl) sc_is_shape.nd (pi_tup (pv 0)) (blkOk_by (own := [("size", 1)]) (N := N_is_shape) (sc := defScope s_is_shape) (by decide +kernel)) (fun _ _ _ _ _ => (pg_name (i := 1) sc_is_shape.nd rfl (Or.inl rfl))) (fun _ _ _ _ _ => pts_nil) (fun _ _ _ _ _ => (pe_call (ok_is_from T) (hr.mono (by decide)) (by rfl) T.is_from.mg T.is_from.F.kp T.is_from.b .nil pass0 (pa_cons (pv 1) (pa_cons pe_int (pa_cons (pe_glob (v := V.int 4000) (by rfl) T.c_MOST_SIZE ⟨_, rfl⟩) pa_nil)))))) pa_nil))))), ?_⟩
      refine ⟨_, rfl, _, _, _, _, true, rfl, .ty "tuple", .base (.tup ha), by simp [PySem.W.kitOne], true, rfl, ?_⟩
      refine ⟨_, rfl, a, _, rfl, .inr (ofT ha), _, _, rfl, rfl, _, rfl, ?_⟩
      refine ite2 (fun c => ?_) (fun c => ?_)
      · have c : ¬ ys.length ≤ 6 := by
          have : (6 : Int) < (ys.length : Int) := by simpa using c
          omega
        have := q H (Same.refl H)
        unfold shV at this
        rw [decide_eq_false c] at this
        exact this
      · have c : ys.length ≤ 6 := by
          have : ¬ (6 : Int) < (ys.length : Int) := by simpa using c
          omega
        refine ⟨_, rfl, a, rfl, ⟨_, ofT ha⟩, fun D nD => ?_⟩
        refine lct (K := K) (a := a) (xs := ys) (fun i H2 => Same H H2 ∧ H2 D = some (.lst (((ys.take i).map goodV).map V.bl))) ⟨same_up nD, upd_same⟩ (fun i H2 _ h => ofT (h.1 _ _ ha)) ?_ ?_
        · rintro i y H2 hi ⟨s2, hD⟩
          have fin : ∀ b : Bool, b = goodV y → ∃ acc, H2 D = some (.lst acc) ∧ acc.length < sizeLine ∧ Same H (upd H2 D (.lst (acc ++ [.bl b]))) ∧ (upd H2 D (.lst (acc ++ [.bl b]))) D = some (.lst (((ys.take (i + 1)).map goodV).map V.bl)) := fun b hb => by
            refine ⟨_, hD, by rw [List.length_map, List.length_map, List.length_take, sizeLine_eq]; omega, fun a o e => by rw [upd_ne (ne_of_none e nD)]; exact s2 _ _ e, ?_⟩
            rw [upd_same, List.take_add_one, hi, List.map_append, List.map_append, hb]
            rfl
          refine ⟨rfl, _, rfl, y, 0, 4000, rfl, ?_⟩
          rcases hys y (List.mem_of_getElem? hi) with ⟨n, rfl⟩ | ⟨nn, no⟩
          · exact .inl ⟨n, rfl, fin _ rfl⟩
          · have no2 := no H2 s2
            refine .inr ⟨no2, fin _ ?_⟩
            cases y with
            | int n => exact absurd rfl (nn n)
            | _ => rfl
        · rintro H2 ⟨s2, hD⟩
          rw [List.take_length] at hD
          refine ⟨D, _, rfl, ofL hD, ?_⟩
          have := q H2 s2
          unfold shV at this
          rw [decide_eq_true c, Bool.true_and] at this
          rw [List.all_map]
          exact this
/-! ### count -/
def spCount (K : PySem.W.Frag) : Sp := fun vs H Q _ => ∃ (a : Addr) (ns : List Int), vs = [.ref a] ∧ SqT K H a (ns.map V.int) ∧ (∀ n ∈ ns, 0 ≤ n ∧ n ≤ 4000) ∧ Q (.int (prodI ns)) H
theorem ok_count (T : Tx K mg) : FnOk P w K mg base CX0 1 T.count.f T.count.fd ["shape"] (spCount K) := by
  refine T.count.F.ok sc_count (fun vs H Q E h => ?_) (fun cdv A outer s H vs Q E hr h => ?_)
  · obtain ⟨a, ns, rfl, _⟩ := h
    rfl
  · obtain ⟨a, ns, rfl, ha, hn, q⟩ := h
    refine ⟨_, (pss_cons (ps_set (i := 1) sc_count.nd rfl (Or.inl rfl) pe_int)
 (pss_cons (ps_for PassesOwn.never rfl (pi_tup (pv 0)) (pg_name (i := 2) sc_count.nd rfl (Or.inl rfl))
 (pss_one (ps_aug (i := 1) sc_count.nd rfl (Or.inl rfl) (pv 2) ip_mul)))
 (pss_one (ps_ret (pv 1))))), ?_⟩
    refine ⟨_, rfl, a, rfl, ⟨_, ha⟩, for_tup (K := K) (a := a) (xs := ns.map V.int) (fun i σ H' => ∃ v2, σ = [some (.ref a), some (.int (prodI (ns.take i))), v2] ∧ H = H') ⟨none, rfl, rfl⟩ (fun i σ H' _ ⟨_, _, e⟩ => e ▸ ha) ?_ ?_⟩
    · rintro i x σ H' hi ⟨v2, rfl, rfl⟩
      rw [List.getElem?_map] at hi
      obtain ⟨n, en, rfl⟩ := Option.map_eq_some_iff.mp hi
      obtain ⟨n0, n1⟩ := hn n (List.mem_of_getElem? en)
      refine ⟨_, rfl, _, rfl, _, _, rfl, rfl, .inr ⟨by omega, by omega⟩, some (.int n), ?_, rfl⟩
      rw [List.take_add_one, en]
      show _ = [some (V.ref a), some (V.int (prodI (ns.take i ++ [n]))), _]
      rw [prodI_snoc]
      rfl
    · rintro σ H' ⟨v2, rfl, rfl⟩
      rw [List.length_map, List.take_length]
      exact ⟨_, rfl, q⟩
end
end Cr

namespace Cr
open PySem L2
structure ShpOk (sh : List Int) : Prop where
  len : sh.length ≤ 6
  each : ∀ n ∈ sh, 0 ≤ n ∧ n ≤ 4000
theorem ShpOk.shV {sh : List Int} (h : ShpOk sh) : shV (sh.map V.int) = true := by
  unfold Cr.shV
  rw [List.length_map, decide_eq_true h.len, Bool.true_and, List.all_map, List.all_eq_true]
  intro n hn
  have := h.each n hn
  show (decide (0 ≤ n) && decide (n ≤ 4000)) = true
  simp [this]
def afs (sa ca : Addr) : List (Str × V) := [("shape", .ref sa), ("cells", .ref ca)]
theorem put2 (sa ca : Addr) : putF "cells" (.ref ca) (putF "shape" (.ref sa) []) = afs sa ca := by
  unfold putF putF
  simp only
  rw [if_neg (by decide +kernel)]
  rfl
theorem lk_shape (sa ca : Addr) : (afs sa ca).lookup ("shape" : Str) = some (V.ref sa) := by
  unfold afs List.lookup
  rw [show (("shape" : Str) == "shape") = true by decide +kernel]
theorem lk_cells (sa ca : Addr) : (afs sa ca).lookup ("cells" : Str) = some (V.ref ca) := by
  unfold afs List.lookup
  rw [show (("cells" : Str) == "shape") = false by decide +kernel]
  unfold List.lookup
  rw [show (("cells" : Str) == "cells") = true by decide +kernel]
/-- an Array -/
def ArAt (C : Addr) (H : Hp) (x : Addr) (sh cs : List Int) : Prop := ∃ dx sa ca, H x = some (.ins C dx (afs sa ca)) ∧ H sa = some (.tup (sh.map V.int)) ∧ H ca = some (.tup (cs.map V.int))
theorem ArAt.up {C : Addr} {H H' : Hp} {x : Addr} {sh cs : List Int} (h : ArAt C H x sh cs) (s : Same H H') : ArAt C H' x sh cs := by
  obtain ⟨dx, sa, ca, a, b, c⟩ := h
  exact ⟨dx, sa, ca, s _ _ a, s _ _ b, s _ _ c⟩
section
variable {P : Program} {w : World} {K : PySem.W.Frag} {mg : Str → Option Value} {base : Heap}
def spAInit (C : Addr) : Sp := fun vs H Q _ => ∃ (x dx sa ca : Addr) (sh cs : List Int), vs = [.ref x, .ref sa, .ref ca] ∧ H x = some (.ins C dx []) ∧ H sa = some (.tup (sh.map V.int)) ∧ (H ca = some (.lst (cs.map V.int)) ∨ H ca = some (.tup (cs.map V.int))) ∧ ShpOk sh ∧ (cs.length : Int) = prodI sh ∧
  ∀ (cp : Addr) (H' : Hp), (∀ b o, b ≠ x → H b = some o → H' b = some o) → H' x = some (.ins C dx (afs sa cp)) → H' cp = some (.tup (cs.map V.int)) → Q .non H'
theorem ok_Array___init__ (T : Tx K mg) : FnOk P w K mg base CX0 4 T.Array___init__.f T.Array___init__.fd ["self", "shape", "cells"] (spAInit T.C_Array) := by
  refine T.Array___init__.F.ok sc_Array___init__ (fun vs H Q E h => ?_) (fun cdv A outer s H vs Q E hr h => ?_)
  · obtain ⟨x, dx, sa, ca, sh, cs, rfl, _⟩ := h
    rfl
  · obtain ⟨x, dx, sa, ca, sh, cs, rfl, hx, hsa, hca, hsh, hlen, q⟩ := h
    refine ⟨_, (pss_cons (ps_if (pt_not (pt_val (pe_call (ok_is_shape T) (hr.mono (by decide)) (by rfl) T.is_shape.mg T.is_shape.F.kp T.is_shape.b .nil pass0 (pa_cons (pv 1) pa_nil))))
 (pss_one ps_false)
 pss_nil)
 (pss_cons (ps_if (pt_cmpR op_ne (pe_callB call_len (by rfl) T.b_len (by decide +kernel) (pa_cons (pv 2) pa_nil)) (pe_call (ok_count T) (hr.mono (by decide)) (by rfl) T.count.mg T.count.F.kp T.count.b .nil pass0 (pa_cons (pv 1) pa_nil)) (nomark _))
 (pss_one ps_false)
 pss_nil)
 (pss_cons (ps_fld (pv 0) (pv 1) rfl)
 (pss_one (ps_fld (pv 0) (pe_callTy call_tuple_of (by rfl) T.b_tuple (by decide +kernel) (pa_cons (pv 2) pa_nil)) rfl))))), ?_⟩
    refine ⟨_, rfl, .inl ⟨sa, _, rfl, hsa, fun y hy => ?_, by rw [List.length_map]; have := hsh.len; omega, fun H1 s1 => ?_⟩⟩
    · obtain ⟨n, _, rfl⟩ := List.mem_map.mp hy
      exact .inl ⟨n, rfl⟩
    rw [hsh.shV]
    refine ⟨_, rfl, ?_⟩
    refine ⟨_, rfl, _, cs.length, rfl, ?_, ?_⟩
    · rcases hca with h | h
      · exact .inl ⟨_, ofL (s1 _ _ h), by rw [List.length_map]⟩
      · exact .inr ⟨_, ofT (s1 _ _ h), by rw [List.length_map]⟩
    refine ⟨_, rfl, sa, sh, rfl, ofT (s1 _ _ hsa), hsh.each, rfl, _, rfl, ?_⟩
    refine ite2 (fun c => absurd c (by simp [hlen])) (fun _ => ?_)
    refine ⟨_, rfl, _, rfl, x, T.C_Array, dx, [], rfl, s1 _ _ hx, T.Array.cl, T.n_Array_shape, by show 0 < 1000; decide, ?_⟩
    have hx2 : (upd H1 x (.ins T.C_Array dx (putF "shape" (.ref sa) []))) x = some (.ins T.C_Array dx (putF "shape" (.ref sa) [])) := upd_same
    have k2 : ∀ b o, b ≠ x → H b = some o → (upd H1 x (.ins T.C_Array dx (putF "shape" (.ref sa) []))) b = some o := fun b o c e => by rw [upd_ne c]; exact s1 _ _ e
    generalize upd H1 x (.ins T.C_Array dx (putF "shape" (.ref sa) [])) = H2 at hx2 k2
    rcases hca with h | h
    · have hc2 := k2 ca _ (ne_of h hx (by intro z; cases z)) h
      refine ⟨_, rfl, ca, _, rfl, .inl ⟨ofL hc2, fun cp ncp => ?_⟩⟩
      have nxp : x ≠ cp := ne_of_none hx2 ncp
      refine ⟨_, rfl, x, T.C_Array, dx, _, rfl, by rw [upd_ne nxp]; exact hx2, T.Array.cl, T.n_Array_cells, by show 1 < 1000; decide, ?_⟩
      rw [put2]
      refine q cp _ (fun b o c e => ?_) upd_same (by rw [upd_ne nxp.symm, upd_same])
      have e2 := k2 b o c e
      rw [upd_ne c, upd_ne (ne_of_none e2 ncp)]
      exact e2
    · have nxa : ca ≠ x := ne_of h hx (by intro z; cases z)
      have hc2 := k2 ca _ nxa h
      refine ⟨_, rfl, ca, _, rfl, .inr ⟨ofT hc2, ?_⟩⟩
      refine ⟨_, rfl, x, T.C_Array, dx, _, rfl, hx2, T.Array.cl, T.n_Array_cells, by show 1 < 1000; decide, ?_⟩
      rw [put2]
      exact q ca _ (fun b o c e => by rw [upd_ne c]; exact k2 b o c e) upd_same (by rw [upd_ne nxa]; exact hc2)
/-- a new Array -/
theorem mk_ar {C : Addr} {H : Hp} {sa ca : Addr} {sh cs : List Int} {Q : Addr → Hp → Prop} {E : XK} (hs : H sa = some (.tup (sh.map V.int))) (hc : H ca = some (.lst (cs.map V.int)) ∨ H ca = some (.tup (cs.map V.int))) (ok : ShpOk sh) (hl : (cs.length : Int) = prodI sh)
    (q : ∀ (x : Addr) (H' : Hp), Same H H' → H x = none → ArAt C H' x sh cs → Q x H') :
    ∀ x dx, H x = none → H dx = none → dx ≠ x → spAInit C [.ref x, .ref sa, .ref ca] (upd (upd H dx (.own x)) x (.ins C dx [])) (fun v H2 => v = .non ∧ Q x H2) E := by
  intro x dx nx ndx nex
  have s1 : Same H (upd (upd H dx (.own x)) x (.ins C dx [])) := fun b o e => by
    rw [upd_ne (ne_of_none e nx), upd_ne (ne_of_none e ndx)]
    exact e
  refine ⟨x, dx, sa, ca, sh, cs, rfl, upd_same, s1 _ _ hs, hc.imp (s1 _ _) (s1 _ _), ok, hl, fun cp H' st hx' hp => ⟨rfl, ?_⟩⟩
  have sH : Same H H' := fun b o e => st b o (ne_of_none e nx) (s1 b o e)
  exact q x H' sH nx ⟨dx, sa, cp, hx', sH _ _ hs, hp⟩
/-! ### Array.__eq__ -/
theorem eqvAll_ints : ∀ a b : List Int, PyData.eqvAll (a.map PyData.int) (b.map PyData.int) = decide (a = b)
  | [], [] => by simp [PyData.eqvAll]
  | [], _ :: _ => by simp [PyData.eqvAll]
  | _ :: _, [] => by simp [PyData.eqvAll]
  | x :: a, y :: b => by
    have ih := eqvAll_ints a b
    simp only [List.map_cons, PyData.eqvAll, PyData.eqv, ih]
    by_cases h1 : x = y <;> by_cases h2 : a = b <;> simp [h1, h2]
theorem eqv_ints (a b : List Int) : PyData.eqv (.tuple (a.map PyData.int)) (.tuple (b.map PyData.int)) = decide (a = b) := by
  rw [PyData.eqv]; exact eqvAll_ints a b
theorem eqv_intsL (a b : List Int) : PyData.eqv (.list (a.map PyData.int)) (.list (b.map PyData.int)) = decide (a = b) := by
  rw [PyData.eqv]; exact eqvAll_ints a b
theorem shIntsT (ns : List Int) : SeqAt.shaped (.tuple (ns.map PyData.int)) = true := by
  have h1 := canInts ns
  have h2 := depInts ns
  unfold SeqAt.shaped
  rw [show PyData.canLay0 (.tuple (ns.map PyData.int)) = true by rw [PyData.canLay0]; exact h1]
  simp [PyData.depth]
  omega
def spAEq (K : PySem.W.Frag) (C : Addr) : Sp := fun vs H Q _ => ∃ (x : Addr) (y : V) (sh cs : List Int), vs = [.ref x, y] ∧ ArAt C H x sh cs ∧
  ((∃ (x' : Addr) (sh' cs' : List Int), y = .ref x' ∧ ArAt C H x' sh' cs' ∧ Q (.bl (decide (sh = sh') && decide (cs = cs'))) H) ∨ ∃ t, TyX K H y t ∧ PySem.W.kitOne K t (.ref C) = some false ∧ Q (.bl false) H)
theorem ok_Array___eq__ (T : Tx K mg) : FnOk P w K mg base CX0 1 T.Array___eq__.f T.Array___eq__.fd ["self", "other"] (spAEq K T.C_Array) := by
  refine T.Array___eq__.F.ok sc_Array___eq__ (fun vs H Q E h => ?_) (fun cdv A outer s H vs Q E hr h => ?_)
  · obtain ⟨x, y, sh, cs, rfl, _⟩ := h
    rfl
  · obtain ⟨x, y, sh, cs, rfl, ⟨dx, sa, ca, hx, hsa, hca⟩, h⟩ := h
    refine ⟨_, (pss_one (ps_ret (pe_and (pe_callB call_isi (by rfl) T.b_isinstance (by decide +kernel) (pa_cons (pv 1) (pa_cons (pe_glob (v := V.ref T.C_Array) (by rfl) T.Array.mg rfl) pa_nil))) (pe_and (pe_cmpR (op_eqD hr.units) (pe_fld (pv 0) rfl) (pe_fld (pv 1) rfl) (nomark _)) (pe_one (pe_cmpR (op_eqD hr.units) (pe_fld (pv 0) rfl) (pe_fld (pv 1) rfl) (nomark _))))))), ?_⟩
    rcases h with ⟨x', sh', cs', rfl, ⟨dy, sb, cb, hy, hsb, hcb⟩, q⟩ | ⟨t, ty, ko, q⟩
    · refine ⟨_, rfl, _, _, _, _, true, rfl, .own T.C_Array, T.ot_Array.ty hy, by simp [PySem.W.kitOne], true, rfl, ?_⟩
      refine ⟨_, rfl, x, T.C_Array, dx, _, _, rfl, hx, T.Array.cl, T.n_Array_shape, lk_shape sa ca, _, rfl, x', T.C_Array, dy, _, _, rfl, hy, T.Array.cl, T.n_Array_shape, lk_shape sb cb, ?_⟩
      refine ⟨_, _, .tup (ofT hsa) (dpInts sh), .tup (ofT hsb) (dpInts sh'), shIntsT sh, shIntsT sh', _, rfl, ?_⟩
      rw [eqv_ints]
      refine ite2 (fun c => ?_) (fun c => ?_)
      · have c : sh = sh' := by simpa using c
        rw [decide_eq_true c, Bool.true_and, ← eqv_ints] at q
        exact ⟨_, rfl, x, T.C_Array, dx, _, _, rfl, hx, T.Array.cl, T.n_Array_cells, lk_cells sa ca, _, rfl, x', T.C_Array, dy, _, _, rfl, hy, T.Array.cl, T.n_Array_cells, lk_cells sb cb, _, _, .tup (ofT hca) (dpInts cs), .tup (ofT hcb) (dpInts cs'), shIntsT cs, shIntsT cs', q⟩
      · have c : ¬ sh = sh' := by simpa using c
        rw [decide_eq_false c, Bool.false_and] at q
        exact q
    · exact ⟨_, rfl, _, _, _, _, false, rfl, .own T.C_Array, ty, ko, false, rfl, q⟩
end
end Cr

/-! ArE: plain: lists within lists. -/
namespace Cr
open PySem L2
abbrev Res := Sum (List Int) (List Int × List Int)
def fits (o : Option (List Int)) (s : List Int) : Bool := match o with
  | none => true
  | some s' => decide (s' = s)
mutual
def lookD : PyData → List Int → Res
  | .int i, _ => .inr ([], [i])
  | .list ds, at_ => lookL ds at_ 0 none []
  | .none, at_ => .inl at_
  | .bool _, at_ => .inl at_
  | .str _, at_ => .inl at_
  | .tuple _, at_ => .inl at_
  | .dict _, at_ => .inl at_
def lookL : List PyData → List Int → Nat → Option (List Int) → List Int → Res
  | [], _, k, sh, cs => .inr ((k : Int) :: sh.getD [], cs)
  | d :: r, at_, k, sh, cs => match lookD d (at_ ++ [(k : Int)]) with
    | .inl p => .inl p
    | .inr q => if fits sh q.1 = true then lookL r at_ (k + 1) (some q.1) (cs ++ q.2) else .inl (at_ ++ [(k : Int)])
end
mutual
/-- how deep lists stand within one another -/
def ld : PyData → Nat
  | .list ds => 1 + ldL ds
  | .int _ => 0
  | .none => 0
  | .bool _ => 0
  | .str _ => 0
  | .tuple _ => 0
  | .dict _ => 0
def ldL : List PyData → Nat
  | [] => 0
  | d :: r => max (ld d) (ldL r)
end
mutual
/-- how many things there are, lists too -/
def sz : PyData → Nat
  | .list ds => 1 + szL ds
  | .tuple ds => 1 + szL ds
  | .int _ => 1
  | .none => 1
  | .bool _ => 1
  | .str _ => 1
  | .dict _ => 1
def szL : List PyData → Nat
  | [] => 0
  | d :: r => sz d + szL r
end
theorem szL_len : ∀ ds : List PyData, ds.length ≤ szL ds
  | [] => Nat.le_refl _
  | d :: r => by
    have := szL_len r
    have h : 1 ≤ sz d := by cases d <;> simp [sz]
    simp only [List.length_cons, szL]; omega
theorem ldL_mem {ds : List PyData} {d : PyData} (h : d ∈ ds) : ld d ≤ ldL ds := by
  induction ds with
  | nil => cases h
  | cons e r ih =>
    simp only [ldL]
    rcases List.mem_cons.mp h with rfl | h
    · omega
    · have := ih h; omega
theorem szL_mem {ds : List PyData} {d : PyData} (h : d ∈ ds) : sz d ≤ szL ds := by
  induction ds with
  | nil => cases h
  | cons e r ih =>
    simp only [szL]
    rcases List.mem_cons.mp h with rfl | h
    · omega
    · have := ih h; omega
structure GoodR (l s : Nat) (sh cs : List Int) : Prop where
  count : (cs.length : Int) = prodI sh
  len : sh.length ≤ l
  each : ∀ n ∈ sh, 0 ≤ n ∧ n ≤ s
  cells : cs.length ≤ s
theorem lookL_ok : ∀ (ds : List PyData) (_ : ∀ d ∈ ds, ∀ at_ sh cs, lookD d at_ = .inr (sh, cs) → GoodR (ld d) (sz d) sh cs) (at_ : List Int) (k : Nat) (o : Option (List Int)) (acc sh cs : List Int), lookL ds at_ k o acc = .inr (sh, cs) →
    (o = none → k = 0 ∧ acc = []) → (∀ s, o = some s → (acc.length : Int) = k * prodI s) →
    ∃ s, sh = ((k + ds.length : Nat) : Int) :: s ∧ (∀ s', o = some s' → s = s') ∧ (cs.length : Int) = ((k + ds.length : Nat) : Int) * prodI s ∧ (o = none → s.length ≤ ldL ds ∧ ∀ n ∈ s, 0 ≤ n ∧ n ≤ szL ds) ∧ cs.length ≤ acc.length + szL ds
  | [], _, at_, k, o, acc, sh, cs, h, h1, h2 => by
    simp only [lookL] at h
    cases h
    cases o with
    | none =>
      obtain ⟨rfl, rfl⟩ := h1 rfl
      exact ⟨[], rfl, fun s' e => (nomatch e), by simp, fun _ => ⟨Nat.zero_le _, fun n hn => (nomatch hn)⟩, Nat.le_add_right _ _⟩
    | some s => exact ⟨s, rfl, fun s' e => Option.some.inj e, h2 s rfl, fun e => (nomatch e), Nat.le_add_right _ _⟩
  | d :: r, ok, at_, k, o, acc, sh, cs, h, h1, h2 => by
    simp only [lookL] at h
    cases e : lookD d (at_ ++ [(k : Int)]) with
    | inl p => rw [e] at h; cases h
    | inr q =>
      obtain ⟨s1, c1⟩ := q
      rw [e] at h
      simp only at h
      have g := ok d List.mem_cons_self _ s1 c1 e
      split at h
      · next hf =>
        have hlen : ((acc ++ c1).length : Int) = ((k + 1 : Nat) : Int) * prodI s1 := by
          rw [List.length_append, Int.natCast_add, g.count, Int.natCast_add, Int.add_mul]
          cases o with
          | none =>
            obtain ⟨rfl, rfl⟩ := h1 rfl
            simp
          | some s =>
            have es : s = s1 := by simpa [fits] using hf
            rw [h2 s rfl, es]
            simp
        obtain ⟨s, e1, e2, e3, _, e5⟩ := lookL_ok r (fun d' hd => ok d' (List.mem_cons_of_mem _ hd)) at_ (k + 1) (some s1) (acc ++ c1) sh cs h (fun z => nomatch z) (fun s' z => by cases z; exact hlen)
        have es : s = s1 := e2 s1 rfl
        subst es
        refine ⟨s, ?_, fun s' z => ?_, ?_, fun _ => ⟨?_, fun n hn => ?_⟩, ?_⟩
        · rw [e1, List.length_cons]; congr 1; omega
        · subst z
          have : s' = s := by simpa [fits] using hf
          exact this.symm
        · rw [e3, List.length_cons]; congr 1; omega
        · simp only [ldL]; have := g.len; omega
        · obtain ⟨a, b⟩ := g.each n hn
          simp only [szL]
          omega
        · rw [List.length_append] at e5
          have := g.cells
          simp only [szL]
          omega
      · cases h
theorem look_ok' : ∀ (n : Nat) (d : PyData), sz d ≤ n → ∀ (at_ sh cs : List Int), lookD d at_ = .inr (sh, cs) → GoodR (ld d) (sz d) sh cs
  | 0, d, hn, _, _, _, _ => by cases d <;> simp [sz] at hn
  | n + 1, d, hn, at_, sh, cs, h => by
    cases d with
    | int i =>
      simp only [lookD] at h
      cases h
      exact ⟨by simp [prodI], Nat.zero_le _, fun n hn => (nomatch hn), by simp [sz]⟩
    | list ds =>
      simp only [lookD] at h
      simp only [sz] at hn
      obtain ⟨s, e1, _, e3, e4, e5⟩ := lookL_ok ds (fun d hd => look_ok' n d (by have := szL_mem hd; omega)) at_ 0 none [] sh cs h (fun _ => ⟨rfl, rfl⟩) (fun s' z => (nomatch z))
      obtain ⟨l1, l2⟩ := e4 rfl
      subst e1
      refine ⟨by rw [e3]; rfl, by simp only [List.length_cons, ld]; omega, fun m hm => ?_, by simp only [sz]; simp only [List.length_nil] at e5; omega⟩
      have hl := szL_len ds
      simp only [sz]
      rcases List.mem_cons.mp hm with rfl | hm
      · omega
      · obtain ⟨a, b⟩ := l2 m hm
        omega
    | none => simp only [lookD] at h; cases h
    | bool _ => simp only [lookD] at h; cases h
    | str _ => simp only [lookD] at h; cases h
    | tuple _ => simp only [lookD] at h; cases h
    | dict _ => simp only [lookD] at h; cases h
theorem look_ok {d : PyData} {at_ sh cs : List Int} (h : lookD d at_ = .inr (sh, cs)) : GoodR (ld d) (sz d) sh cs := look_ok' _ d (Nat.le_refl _) at_ sh cs h
/-! ### even ones -/
def nestD : List Int → List Int → PyData
  | [], cs => .int (cs.getD 0 0)
  | n :: r, cs => .list ((List.range n.toNat).map fun i => nestD r ((cs.drop (i * (prodI r).toNat)).take (prodI r).toNat))
def shortS : List Int → List Int
  | [] => []
  | n :: r => if n = 0 then [0] else n :: shortS r
theorem lookL_even {s : List Int} : ∀ (ds : List PyData) (cls : List (List Int)) (at_ : List Int) (k : Nat) (acc : List Int), Paired (fun d c => ∀ a, lookD d a = .inr (s, c)) ds cls → lookL ds at_ k (some s) acc = .inr (((k + ds.length : Nat) : Int) :: s, acc ++ cls.flatten)
  | [], _, at_, k, acc, .nil => by simp [lookL]
  | d :: r, _, at_, k, acc, @Paired.cons _ _ _ _ c _ cr h t => by
    simp only [lookL, h]
    rw [if_pos (by simp [fits]), lookL_even r cr at_ (k + 1) (acc ++ c) t]
    rw [List.length_cons, List.flatten_cons, List.append_assoc]
    congr 3
    omega
theorem lookL_even0 {s : List Int} {d : PyData} {ds : List PyData} {c : List Int} {cls : List (List Int)} {at_ : List Int} (h : Paired (fun d c => ∀ a, lookD d a = .inr (s, c)) (d :: ds) (c :: cls)) : lookL (d :: ds) at_ 0 none [] = .inr (((ds.length + 1 : Nat) : Int) :: s, (c :: cls).flatten) := by
  cases h with
  | cons h t =>
    simp only [lookL, h]
    rw [if_pos (by rfl), lookL_even ds cls at_ 1 ([] ++ c) t]
    rw [List.flatten_cons, List.nil_append]
    congr 3
    omega
theorem chunks (cs : List Int) (p : Nat) : ∀ m : Nat, ((List.range m).map fun i => (cs.drop (i * p)).take p).flatten = cs.take (m * p)
  | 0 => by simp
  | m + 1 => by
    rw [List.range_succ, List.map_append, List.flatten_append, chunks cs p m]
    simp only [List.map_cons, List.map_nil, List.flatten_cons, List.flatten_nil, List.append_nil]
    rw [Nat.succ_mul, List.take_add]
theorem paired_map {α β γ : Type} {F : β → γ → Prop} {f : α → β} {g : α → γ} : ∀ l : List α, (∀ x ∈ l, F (f x) (g x)) → Paired F (l.map f) (l.map g)
  | [], _ => .nil
  | x :: r, h => .cons (h x List.mem_cons_self) (paired_map r fun y hy => h y (List.mem_cons_of_mem _ hy))
theorem slice_len {cs : List Int} {m p i : Nat} (h : cs.length = m * p) (hi : i < m) : ((cs.drop (i * p)).take p).length = p := by
  rw [List.length_take, List.length_drop, h]
  have : i * p + p ≤ m * p := by
    rw [← Nat.succ_mul]
    exact Nat.mul_le_mul_right _ hi
  omega
theorem look_nest : ∀ (sh cs at_ : List Int), (∀ n ∈ sh, 0 ≤ n) → (cs.length : Int) = prodI sh → lookD (nestD sh cs) at_ = .inr (shortS sh, cs)
  | [], cs, at_, _, hl => by
    have h1 : cs.length = 1 := by simp [prodI] at hl; omega
    match cs, h1 with
    | [c], _ => simp [nestD, lookD, shortS]
  | n :: r, cs, at_, h0, hl => by
    have hn := h0 n List.mem_cons_self
    have hr : ∀ x ∈ r, 0 ≤ x := fun x hx => h0 x (List.mem_cons_of_mem _ hx)
    have hp := prodI_nn hr
    obtain ⟨m, rfl⟩ := Int.eq_ofNat_of_zero_le hn
    obtain ⟨p, hpe⟩ := Int.eq_ofNat_of_zero_le hp
    have hlen : cs.length = m * p := by
      have : (cs.length : Int) = (m : Int) * (p : Int) := by rw [hl]; simp only [prodI]; rw [hpe]
      have e : ((m * p : Nat) : Int) = (m : Int) * (p : Int) := Int.natCast_mul m p
      omega
    simp only [nestD, lookD, hpe, Int.toNat_natCast]
    cases m with
    | zero =>
      have : cs = [] := List.eq_nil_of_length_eq_zero (by rw [hlen]; simp)
      subst this
      simp [lookL, shortS]
    | succ m =>
      have key : Paired (fun d c => ∀ a, lookD d a = .inr (shortS r, c)) ((List.range (m + 1)).map fun i => nestD r ((cs.drop (i * p)).take p)) ((List.range (m + 1)).map fun i => (cs.drop (i * p)).take p) :=
        paired_map _ fun i hi a => look_nest r _ a hr (by rw [slice_len hlen (List.mem_range.mp hi), hpe])
      have hcat := chunks cs p (m + 1)
      rw [← hlen, List.take_length] at hcat
      have hll : ((List.range (m + 1)).map fun i => nestD r ((cs.drop (i * p)).take p)).length = m + 1 := by simp
      generalize ((List.range (m + 1)).map fun i => nestD r ((cs.drop (i * p)).take p)) = ds at key hll
      generalize ((List.range (m + 1)).map fun i => (cs.drop (i * p)).take p) = cls at key hcat
      match ds, cls, key with
      | d :: ds, c :: cls, key =>
        rw [lookL_even0 key, hcat]
        have : ds.length = m := by simpa using hll
        rw [this]
        simp only [shortS]
        rw [if_neg (by omega)]
end Cr

namespace Cr
open PySem L2
/-! ### new objects alone -/
def OnlyN (H G : Hp) : Prop := ∀ a, H a ≠ none → G a = none
def newB (H J : Hp) (D : Addr) : Hp := fun a => match H a with
  | none => if a = D then none else J a
  | some _ => none
def newA (H J : Hp) : Hp := fun a => match H a with
  | none => J a
  | some _ => none
theorem newB_same {H J : Hp} {D : Addr} : Same (newB H J D) J := fun a o e => by
  unfold newB at e
  split at e
  · split at e
    · cases e
    · exact e
  · cases e
theorem newB_only {H J : Hp} {D : Addr} : OnlyN H (newB H J D) := fun a h => by
  unfold newB
  split
  · next e => exact absurd e h
  · rfl
theorem newB_D {H J : Hp} {D : Addr} : newB H J D D = none := by
  unfold newB
  split
  · rw [if_pos rfl]
  · rfl
theorem to_newB {H J G : Hp} {D : Addr} (s : Same G J) (n : OnlyN H G) (d : G D = none) : Same G (newB H J D) := fun a o e => by
  have hH : H a = none := by
    cases q : H a with
    | none => rfl
    | some u => rw [n a (by rw [q]; exact fun z => nomatch z)] at e; cases e
  unfold newB
  rw [hH]
  simp only
  rw [if_neg (ne_of_none e d)]
  exact s _ _ e
theorem newA_same {H J : Hp} : Same (newA H J) J := fun a o e => by
  unfold newA at e
  split at e
  · exact e
  · cases e
theorem newA_only {H J : Hp} : OnlyN H (newA H J) := fun a h => by
  unfold newA
  split
  · next e => exact absurd e h
  · rfl
theorem newA_at {H J : Hp} {a : Addr} {o : HO} (h : H a = none) (e : J a = some o) : newA H J a = some o := by
  unfold newA
  rw [h]
  exact e
theorem to_newA {H J G : Hp} (s : Same G J) (n : OnlyN H G) : Same G (newA H J) := fun a o e => by
  refine newA_at ?_ (s _ _ e)
  cases q : H a with
  | none => rfl
  | some u => rw [n a (by rw [q]; exact fun z => nomatch z)] at e; cases e
theorem OnlyN.trans {H H' G : Hp} (s : Same H H') (n : OnlyN H' G) : OnlyN H G := fun a h => n a fun e => h (s.free e)
theorem OnlyN.free {H G : Hp} {a : Addr} {o : HO} (n : OnlyN H G) (e : G a = some o) : H a = none := by
  cases q : H a with
  | none => rfl
  | some u => rw [n a (by rw [q]; exact fun z => nomatch z)] at e; cases e
def sliceI (cs : List Int) (p i : Nat) : List Int := (cs.drop (i * p)).take p
theorem cutV_ints (ns : List Int) (j k : Nat) (h : j ≤ k) : cutV (ns.map V.int) (some (j : Int)) (some (k : Int)) = ((ns.drop j).take (k - j)).map V.int := by
  unfold cutV
  rw [HT.sIx_nat, HT.sIx_nat, List.length_map]
  by_cases h1 : j ≤ ns.length
  · rw [Nat.min_eq_left h1]
    by_cases h2 : k ≤ ns.length
    · rw [Nat.min_eq_left h2, List.map_take, List.map_drop]
    · rw [Nat.min_eq_right (by omega), List.take_of_length_le (by rw [List.length_drop, List.length_map]; omega), List.take_of_length_le (by rw [List.length_drop]; omega), List.map_drop]
  · rw [Nat.min_eq_right (show ns.length ≤ j by omega), List.drop_of_length_le (show ns.length ≤ j by omega)]
    simp
theorem cutV_tailI (ns : List Int) (k : Nat) : cutV (ns.map V.int) (some (k : Int)) none = (ns.drop k).map V.int := by
  unfold cutV
  rw [HT.sIx_nat, HT.sIx_none, List.length_map]
  by_cases h : k ≤ ns.length
  · rw [Nat.min_eq_left h, List.take_of_length_le (by rw [List.length_drop, List.length_map]; omega), List.map_drop]
  · rw [Nat.min_eq_right (by omega), List.drop_of_length_le (show ns.length ≤ k by omega)]
    simp
theorem take_range {α : Type} (f : Nat → α) {n i : Nat} (h : i < n) : ((List.range n).take (i + 1)).map f = ((List.range n).take i).map f ++ [f i] := by
  rw [List.take_add_one, List.getElem?_range h, List.map_append]
  rfl
theorem cutV_mid (xs : List V) (j k : Nat) (h : j ≤ k) : cutV xs (some (j : Int)) (some (k : Int)) = (xs.drop j).take (k - j) := by
  unfold cutV
  rw [HT.sIx_nat, HT.sIx_nat]
  by_cases h1 : j ≤ xs.length
  · rw [Nat.min_eq_left h1]
    by_cases h2 : k ≤ xs.length
    · rw [Nat.min_eq_left h2]
    · rw [Nat.min_eq_right (by omega), List.take_of_length_le (by rw [List.length_drop]; omega), List.take_of_length_le (by rw [List.length_drop]; omega)]
  · rw [Nat.min_eq_right (show xs.length ≤ j by omega), List.drop_of_length_le (show xs.length ≤ xs.length by omega), List.drop_of_length_le (show xs.length ≤ j by omega)]
    simp
theorem cutV_to (xs : List V) (k : Nat) : cutV xs none (some (k : Int)) = xs.take k := by
  unfold cutV
  rw [HT.sIx_nat, HT.sIx_none]
  by_cases h2 : k ≤ xs.length
  · rw [Nat.min_eq_left h2]
    simp
  · rw [Nat.min_eq_right (by omega), List.take_of_length_le (show xs.length ≤ k by omega)]
    simp
theorem cutV_from (xs : List V) (k : Nat) : cutV xs (some (k : Int)) none = xs.drop k := by
  unfold cutV
  rw [HT.sIx_nat, HT.sIx_none]
  by_cases h : k ≤ xs.length
  · rw [Nat.min_eq_left h, List.take_of_length_le (by rw [List.length_drop]; omega)]
  · rw [Nat.min_eq_right (by omega), List.drop_of_length_le (show xs.length ≤ k by omega)]
    simp
end Cr

namespace Cr
open PySem L2
/-! ### things in the heap -/
mutual
inductive Nt (H : Hp) : V → PyData → Prop
  | non : Nt H .non .none
  | bl (b : Bool) : Nt H (.bl b) (.bool b)
  | int (i : Int) : Nt H (.int i) (.int i)
  | str (x : Str) : Nt H (.str x) (.str x)
  | lst {a : Addr} {xs : List V} {ds : List PyData} : H a = some (.lst xs) → NtAll H xs ds → Nt H (.ref a) (.list ds)
  | tup {a : Addr} {xs : List V} {ds : List PyData} : H a = some (.tup xs) → NtAll H xs ds → Nt H (.ref a) (.tuple ds)
  | dk {a : Addr} : H a = some (.dK []) → Nt H (.ref a) (.dict [])
inductive NtAll (H : Hp) : List V → List PyData → Prop
  | nil : NtAll H [] []
  | cons {v : V} {vs : List V} {d : PyData} {ds : List PyData} : Nt H v d → NtAll H vs ds → NtAll H (v :: vs) (d :: ds)
end
mutual
theorem ntUp {G G' : Hp} (s : Same G G') : ∀ {v : V} {d : PyData}, Nt G v d → Nt G' v d
  | _, _, .non => .non
  | _, _, .bl b => .bl b
  | _, _, .int i => .int i
  | _, _, .str x => .str x
  | _, _, .lst h a => .lst (s _ _ h) (ntUps s a)
  | _, _, .tup h a => .tup (s _ _ h) (ntUps s a)
  | _, _, .dk h => .dk (s _ _ h)
theorem ntUps {G G' : Hp} (s : Same G G') : ∀ {vs : List V} {ds : List PyData}, NtAll G vs ds → NtAll G' vs ds
  | _, _, .nil => .nil
  | _, _, .cons h t => .cons (ntUp s h) (ntUps s t)
end
theorem ntGet {G : Hp} : ∀ {vs : List V} {ds : List PyData} {i : Nat} {v : V}, NtAll G vs ds → vs[i]? = some v → ∃ d, ds[i]? = some d ∧ Nt G v d
  | _, _, _, _, .nil, h => by simp at h
  | _, _, 0, _, .cons a b, h => by
    simp at h
    subst h
    exact ⟨_, rfl, a⟩
  | _, _, i + 1, _, .cons a b, h => by
    obtain ⟨d, e, q⟩ := ntGet (i := i) b (by simpa using h)
    exact ⟨d, by simpa using e, q⟩
theorem ntLen {G : Hp} : ∀ {vs : List V} {ds : List PyData}, NtAll G vs ds → vs.length = ds.length
  | _, _, .nil => rfl
  | _, _, .cons _ b => by rw [List.length_cons, List.length_cons, ntLen b]
theorem ntApp {G : Hp} : ∀ {vs ws : List V} {ds es : List PyData}, NtAll G vs ds → NtAll G ws es → NtAll G (vs ++ ws) (ds ++ es)
  | _, _, _, _, .nil, h => h
  | _, _, _, _, .cons a b, h => .cons a (ntApp b h)
theorem pi_tupK {X : Cx} (K : PySem.W.Frag) (hK : X.K = K) {tg l : Expr} {tl : TE} (hl : PE X l tl) : PI X tg l (iTup K tl) := by
  subst hK
  exact pi_tup hl
/-- for i, x in enumerate(list) -/
theorem for_enum {K : PySem.W.Frag} {g : TG} {tb : TS} {D : Ends} {σ : L2.St} {H : Hp} {a : Addr} {xs : List V} (Pv : Nat → L2.St → Hp → Prop) (h0 : Pv 0 σ H) (hl : ∀ i σ H, i ≤ xs.length → Pv i σ H → SqL K H a xs)
    (hs : ∀ i x σ H T, xs[i]? = some x → Pv i σ H → H T = none → g (.ref T) σ (upd H T (.tup [.int (i : Nat), x])) fun σ2 H2 => tb { nx := Pv (i + 1), rt := D.rt, bk := D.nx, ct := Pv (i + 1) } σ2 H2) (hd : ∀ σ H, Pv xs.length σ H → D.nx σ H) :
    ∃ W : Nat → Nat → L2.St → Hp → Prop, (∃ m, W 0 m σ H) ∧ ∀ i m σ H, W i m σ H → ((Ite K a).stop i H ∧ D.nx σ H) ∨ ((Ite K a).go i H ∧ ∃ N : L2.St → Hp → Prop, (∀ σ' H', N σ' H' → ∃ m', m' < m ∧ W (i + 1) m' σ' H') ∧
      ∀ x H', (Ite K a).yld i H x H' → g x σ H' fun σ2 H2 => tb { nx := N, rt := D.rt, bk := D.nx, ct := N } σ2 H2) := by
  refine ⟨fun i m σ H => m + i = xs.length ∧ Pv i σ H, ⟨xs.length, rfl, h0⟩, fun i m σ H ⟨em, p⟩ => ?_⟩
  have q := hl i σ H (by omega) p
  by_cases c : i < xs.length
  · refine .inr ⟨⟨xs, xs[i], q, List.getElem?_eq_getElem c⟩, Pv (i + 1), fun σ' H' p' => ⟨m - 1, by omega, by omega, p'⟩, fun v H' y => ?_⟩
    obtain ⟨T, x, rfl, nT, rfl, hx⟩ := y
    exact hs i x σ _ T (hx xs q) p nT
  · obtain rfl : i = xs.length := by omega
    exact .inl ⟨⟨xs, q, Nat.le_refl _⟩, hd σ H p⟩
/-! ### classes of things -/
def tyN : PyData → String
  | .none => "NoneType"
  | .bool _ => "bool"
  | .int _ => "int"
  | .str _ => "str"
  | .list _ => "list"
  | .tuple _ => "tuple"
  | .dict _ => "dict"
theorem Nt.ty {K : PySem.W.Frag} {H : Hp} {v : V} {d : PyData} (h : Nt H v d) : TyX K H v (.type (tyN d)) := by
  cases h with
  | non => exact .base .non
  | bl b => exact .base (.bl b)
  | int i => exact .base (.int i)
  | str x => exact .base (.str x)
  | lst h _ => exact .base (.lst h)
  | tup h _ => exact .base (.tup h)
  | dk h => exact .base (.dK h)
theorem Nt.noInt {K : PySem.W.Frag} {H : Hp} {v : V} {d : PyData} (h : Nt H v d) (hn : ∀ i, d ≠ .int i) : NoInt K H v := by
  cases h with
  | non => exact .inr ⟨_, .base .non, by rfl⟩
  | bl b => exact .inl ⟨b, rfl⟩
  | int i => exact absurd rfl (hn i)
  | str x => exact .inr ⟨_, .base (.str x), by rfl⟩
  | lst h _ => exact .inr ⟨_, .base (.lst h), by rfl⟩
  | tup h _ => exact .inr ⟨_, .base (.tup h), by rfl⟩
  | dk h => exact .inr ⟨_, .base (.dK h), by rfl⟩
theorem noList {K : PySem.W.Frag} {d : PyData} (h : ∀ ds, d ≠ .list ds) : PySem.W.kitOne K (.type (tyN d)) (.type "list") = some false := by
  cases d with
  | list ds => exact absurd rfl (h ds)
  | _ => rfl
section
variable {P : Program} {w : World} {K : PySem.W.Frag} {mg : Str → Option Value} {base : Heap}
/-! ### Ragged.__init__ -/
def spRg (D : Addr) : Sp := fun vs H Q _ => ∃ (a : Addr) (v : V), vs = [.ref a, v] ∧ H a = some (exo a D none) ∧
  ∀ (dx : Addr) (H' : Hp), H dx = none → dx ≠ a → (∀ b, b ≠ a → b ≠ dx → H' b = H b) → H' a = some (exo a D (some dx)) → H' dx = some (exd dx [("at", v)]) → Q .non H'
theorem ok_Ragged___init__ (T : Tx K mg) : FnOk P w K mg base CX0 1 T.Ragged___init__.f T.Ragged___init__.fd ["self", "at"] (spRg T.C_Ragged) := by
  refine T.Ragged___init__.F.ok sc_Ragged___init__ (fun vs H Q E h => ?_) (fun cdv A outer s H vs Q E hr h => ?_)
  · obtain ⟨a, v, rfl, _⟩ := h
    rfl
  · obtain ⟨a, v, rfl, ha, q⟩ := h
    refine ⟨_, (pss_cons (ps_expr (pe_bi T.x_Ragged T.be_ValueError (by rfl) T.b_ValueError (pa_cons (pv 0) (pa_cons pe_str pa_nil))))
 (pss_one (ps_xst T.x_Ragged T.n_Ragged_at (pv 0) (pv 1)))), ?_⟩
    refine ⟨_, rfl, a, _, rfl, by show 1 ≤ 1000; decide, ha, ?_⟩
    refine ⟨_, rfl, _, rfl, a, rfl, .inl ⟨ha, fun dx nd ne => ?_⟩⟩
    exact q dx _ nd ne (fun b h1 h2 => by rw [upd_ne h1, upd_ne h2]) upd_same (by rw [upd_ne ne, upd_same])
/-- the wish of a Ragged at p -/
def RgE (D : Addr) (H : Hp) (p : List Int) (E : XK) : Prop := ∀ (d tp : Addr) (H' : Hp), Same H H' → H d = none → H' d = some (.xd [("at", .ref tp)]) → H' tp = some (.tup (p.map V.int)) → E (.ref D) (some d) H'
theorem rzR {D a tp : Addr} {H H1 : Hp} {p : List Int} {E : XK} (q : RgE D H p E) (s : Same H H1) (htp : H1 tp = some (.tup (p.map V.int))) (na : H1 a = none) {d1 : Addr} {H' : Hp} (nd : (upd H1 a (exo a D none)) d1 = none) (ne : d1 ≠ a) (st : ∀ b, b ≠ a → b ≠ d1 → H' b = (upd H1 a (exo a D none)) b) :
    H1 d1 = none ∧ E (.ref D) (some d1) (upd (del H' a) d1 (.xd [("at", .ref tp)])) := by
  rw [upd_ne ne] at nd
  have keep : ∀ b o, H1 b = some o → (upd (del H' a) d1 (.xd [("at", .ref tp)])) b = some o := fun b o eb1 => by
    have hba : b ≠ a := ne_of_none eb1 na
    have hbd : b ≠ d1 := ne_of_none eb1 nd
    rw [upd_ne hbd, del_ne hba, st b hba hbd, upd_ne hba]
    exact eb1
  exact ⟨nd, q d1 tp _ (fun b o eb => keep b o (s _ _ eb)) (s.free nd) upd_same (keep _ _ htp)⟩
theorem ArAt.but {C : Addr} {H : Hp} {x p : Addr} {sh cs : List Int} {l : List V} (h : ArAt C H x sh cs) (hp : H p = some (.lst l)) : ArAt C (but H p) x sh cs := by
  obtain ⟨dx, sa, ca, a, b, c⟩ := h
  have n1 : x ≠ p := ne_of a hp (by intro z; cases z)
  have n2 : sa ≠ p := ne_of b hp (by intro z; cases z)
  have n3 : ca ≠ p := ne_of c hp (by intro z; cases z)
  exact ⟨dx, sa, ca, by rw [but_ne n1]; exact a, by rw [but_ne n2]; exact b, by rw [but_ne n3]; exact c⟩
theorem same_but {H : Hp} {p : Addr} {o : HO} : Same (but H p) (upd H p o) := fun b u e => by
  unfold but at e
  split at e
  · cases e
  · next c => rw [upd_ne c]; exact e
theorem but_self {H : Hp} {p : Addr} : but H p p = none := if_pos rfl
theorem to_but {G H : Hp} {p : Addr} (s : Same G H) (h : G p = none) : Same G (but H p) := fun b u e => by
  rw [but_ne (ne_of_none e h)]
  exact s _ _ e
theorem paired_imp {α β : Type} {F F' : α → β → Prop} (h : ∀ a b, F a b → F' a b) : ∀ {l : List α} {m : List β}, Paired F l m → Paired F' l m
  | _, _, .nil => .nil
  | _, _, .cons a b => .cons (h _ _ a) (paired_imp h b)
theorem pairedGet {α β : Type} {F : α → β → Prop} : ∀ {l : List α} {m : List β} {i : Nat} {a : α}, Paired F l m → l[i]? = some a → ∃ b, m[i]? = some b ∧ F a b
  | _, _, _, _, .nil, h => by simp at h
  | _, _, 0, _, .cons x t, h => by
    simp at h
    subst h
    exact ⟨_, rfl, x⟩
  | _, _, i + 1, _, .cons x t, h => by
    obtain ⟨b, e, q⟩ := pairedGet (i := i) t (by simpa using h)
    exact ⟨b, by simpa using e, q⟩
theorem paired_snoc {α β : Type} {F : α → β → Prop} : ∀ {l : List α} {m : List β} {a : α} {b : β}, Paired F l m → F a b → Paired F (l ++ [a]) (m ++ [b])
  | _, _, _, _, .nil, h => .cons h .nil
  | _, _, _, _, .cons x t, h => .cons x (paired_snoc t h)
/-! ### made_of -/
def spMade (m : Nat) (C D : Addr) : Sp := fun vs H Q E => ∃ (v : V) (d : PyData) (a : Addr) (ats : List Int), vs = [v, .ref a] ∧ Nt H v d ∧ H a = some (.tup (ats.map V.int)) ∧ ld d < m ∧ ld d ≤ 6 ∧ sz d ≤ 4000 ∧ ats.length + ld d ≤ 100 ∧
  (∀ sh cs, lookD d ats = .inr (sh, cs) → ∀ (x : Addr) (H' : Hp), Same H H' → H x = none → ArAt C H' x sh cs → Q (.ref x) H') ∧ (∀ p, lookD d ats = .inl p → RgE D H p E)
theorem ok_made_of (T : Tx K mg) : ∀ m, FnOk P w K mg base (L2.CX P w) (m + 5) T.made_of.f T.made_of.fd ["thing", "at"] (spMade m T.C_Array T.C_Ragged)
  | 0 => by
    refine T.made_of.F.okX sc_made_of (fun vs H Q E h => ?_) (fun cdv A outer s H vs Q E hr h => ?_)
    · obtain ⟨v, d, a, ats, rfl, _⟩ := h
      rfl
    · obtain ⟨v, d, a, ats, rfl, _, _, h, _⟩ := h
      omega
  | m + 1 => by
    have ih := ok_made_of T m
    refine T.made_of.F.okX (k := m + 5) sc_made_of (fun vs H Q E h => ?_) (fun cdv A outer s H vs Q E hr h => ?_)
    · obtain ⟨v, d, a, ats, rfl, _⟩ := h
      rfl
    · obtain ⟨v, d, a, ats, rfl, nt, ha, hm, h6, hs, hal, q1, q2⟩ := h
      refine ⟨_, (pss_cons (ps_if (pt_val (pe_call (ok_is_whole T) (hr.mono (by omega)) (by rfl) T.is_whole.mg T.is_whole.F.kp T.is_whole.b .nil pass0 (pa_cons (pv 0) pa_nil)))
 (pss_one (ps_ret (pe_make T.Array.mkk (ok_Array___init__ T) (hr.mono (by omega)) (by rfl) T.Array.mg T.Array___init__.b .nil pass0 (pa_cons (pe_tup pa_nil) (pa_cons (pe_tup (pa_cons (pv 0) pa_nil)) pa_nil)))))
 pss_nil)
 (pss_cons (ps_if (pt_not (pt_val (pe_callB call_isi (by rfl) T.b_isinstance (by decide +kernel) (pa_cons (pv 0) (pa_cons (pe_bltn (v := V.ty "list") (by rfl) T.b_list (by decide +kernel) rfl) pa_nil)))))
 (pss_one (ps_raise rfl (takes_of rfl rfl rfl rfl) (pmk_x T.x_Ragged T.Ragged___init__.m (ok_Ragged___init__ T) (hr.mono (by omega)) T.Ragged___init__.b pass0 (by rfl) T.m_Ragged (pa_cons (pv 1) pa_nil))))
 pss_nil)
 (pss_cons (ps_set (i := 2) sc_made_of.nd rfl (Or.inl rfl) (pe_lst pa_nil))
 (pss_cons (ps_for (passes_of rfl) rfl (pi_enum (by rfl) T.b_enumerate (pa_cons (pv 0) pa_nil)) (pg_tup rfl (pgs_cons (pg_name (i := 3) sc_made_of.nd rfl (Or.inl rfl)) (pgs_cons (pg_name (i := 4) sc_made_of.nd rfl (Or.inl rfl)) pgs_nil)))
 (pss_cons (ps_set (i := 5) sc_made_of.nd rfl (Or.inl rfl) (pe_callS ih hr (by rfl) T.made_of.mg T.made_of.F.kp T.made_of.b (fun σ => passAt (takes_of rfl rfl rfl rfl) σ) (pa_cons (pv 4) (pa_cons (pe_op op_catU (pv 1) (pe_tup (pa_cons (pv 3) pa_nil))) pa_nil))))
 (pss_cons (ps_if (PW.pt (pw_and (pt_cmpR (op_neE hr.units) (pv 2) (pe_lst pa_nil) (nomark _)) (pw_and1 (pt_cmpR (op_neD hr.units) (pe_fld (pv 5) rfl) (pe_fld (pe_ix ix_list (pv 2) pe_int (fun _ _ => rfl)) rfl) (nomark _)))))
 (pss_one (ps_raise rfl (takes_of rfl rfl rfl rfl) (pmk_x T.x_Ragged T.Ragged___init__.m (ok_Ragged___init__ T) (hr.mono (by omega)) T.Ragged___init__.b pass0 (by rfl) T.m_Ragged (pa_cons (pe_op op_catU (pv 1) (pe_tup (pa_cons (pv 3) pa_nil))) pa_nil))))
 pss_nil)
 (pss_one (ps_expr (pe_bm PySem.F.plainAttrs_list PySem.F.slot_list_append PySem.F.type_list_append mt_append (pv 2) (pa_cons (pv 5) pa_nil)))))))
 (pss_cons (ps_if (pt_cmpR (op_eqE hr.units) (pv 2) (pe_lst pa_nil) (nomark _))
 (pss_one (ps_ret (pe_make T.Array.mkk (ok_Array___init__ T) (hr.mono (by omega)) (by rfl) T.Array.mg T.Array___init__.b .nil pass0 (pa_cons (pe_tup (pa_cons pe_int pa_nil)) (pa_cons (pe_tup pa_nil) pa_nil)))))
 pss_nil)
 (pss_one (ps_ret (pe_make T.Array.mkk (ok_Array___init__ T) (hr.mono (by omega)) (by rfl) T.Array.mg T.Array___init__.b .nil pass0 (pa_cons (pe_op op_catU (pe_tup (pa_cons (pe_callB call_len_seq (by rfl) T.b_len (by decide +kernel) (pa_cons (pv 2) pa_nil)) pa_nil)) (pe_fld (pe_ix ix_list (pv 2) pe_int (fun _ _ => rfl)) rfl)) (pa_cons (pe_lc2 (own := [("row", 5), ("cell", 6)]) (vs1 := [6]) (g := gName 5) (g1 := gName 6) (by rfl) sc_made_of.nd (pi_list (pv 2)) (blkOk_by (own := [("row", 5), ("cell", 6)]) (N := N_made_of) (sc := defScope s_made_of) (by decide +kernel)) (by decide) (fun _ _ _ _ _ => (pg_name (i := 5) sc_made_of.nd rfl (Or.inl rfl))) (fun _ _ _ _ _ => pts_nil) (fun _ _ _ _ _ => (pi_tupK K rfl (pe_fldK K rfl (pv 5) rfl))) (fun _ _ _ _ _ => (pg_name (i := 6) sc_made_of.nd rfl (Or.inl rfl))) (fun _ _ _ _ _ => pts_nil) (fun _ _ _ _ _ => (pv 6))) pa_nil)))))))))), ?_⟩
      by_cases hi : ∃ i, d = .int i
      · obtain ⟨i, rfl⟩ := hi
        cases nt
        refine ⟨_, rfl, _, rfl, .inl ⟨i, rfl, _, rfl, ?_⟩⟩
        refine ⟨Nat.zero_le _, fun p1 np1 => ?_⟩
        refine ⟨_, rfl, by show 1 ≤ sizeLine; decide, fun p2 np2 => ?_⟩
        have h1 : (upd H p1 (.tup [])) p1 = some (.tup (([] : List Int).map V.int)) := upd_same
        have s1 : Same H (upd H p1 (.tup [])) := same_up np1
        have s2 := same_up (o := .tup [.int i]) np2
        refine mk_ar (sh := []) (cs := [i]) (s2 _ _ h1) (.inr upd_same) ⟨Nat.zero_le _, fun n hn => (nomatch hn)⟩ (by simp [prodI]) fun x H' s3 nx ar => ?_
        exact q1 [] [i] (by simp [lookD]) x H' (s1.trans (s2.trans s3)) ((s1.trans s2).free nx) ar
      · have hi : ∀ i, d ≠ .int i := fun i e => hi ⟨i, e⟩
        refine ⟨_, rfl, _, rfl, .inr ⟨nt.noInt hi, _, rfl, ?_⟩⟩
        by_cases hL : ∃ ds, d = .list ds
        rotate_left
        · have hL : ∀ ds, d ≠ .list ds := fun ds e => hL ⟨ds, e⟩
          refine ⟨_, rfl, _, _, _, _, false, rfl, .ty "list", nt.ty, noList hL, false, rfl, ?_⟩
          refine ⟨_, rfl, by show 1 ≤ 1000; decide, fun a2 na => ?_⟩
          have e : lookD d ats = .inl ats := by
            cases d with
            | int i => exact absurd rfl (hi i)
            | list ds => exact absurd rfl (hL ds)
            | _ => simp only [lookD]
          exact ⟨a2, _, rfl, upd_same, fun d1 H' nd ne st ea ed => ⟨rfl, d1, _, ea, ed, rzR (q2 ats e) (Same.refl H) ha na nd ne st⟩⟩
        · obtain ⟨ds, rfl⟩ := hL
          cases nt with
          | lst hv hxs =>
            rename_i va xs
            refine ⟨_, rfl, _, _, _, _, true, rfl, .ty "list", .base (.lst hv), by simp [PySem.W.kitOne], true, rfl, ?_⟩
            have hxl : xs.length = ds.length := ntLen hxs
            have hsz : 1 + szL ds ≤ 4000 := by simpa only [sz] using hs
            have hll := szL_len ds
            simp only [ld] at hm h6 hal
            simp only [lookD] at q1 q2
            refine ⟨Nat.zero_le _, fun p np => ?_⟩
            have s1 : Same H (upd H p (.lst [])) := same_up np
            have hp1 : (upd H p (.lst [])) p = some (.lst []) := upd_same
            generalize upd H p (.lst []) = H1 at s1 hp1
            refine ⟨_, rfl, va, xs, rfl, ofL (s1 _ _ hv), for_enum (K := K) (a := va) (xs := xs) (fun i σ H' => ∃ v3 v4 v5, σ = [some (.ref va), some (.ref a), some (.ref p), v3, v4, v5, none] ∧ ∃ (G : Hp) (rs : List Addr) (sh : List Int) (cls : List (List Int)), Same H G ∧ Same G H' ∧ G p = none ∧
                H' p = some (.lst (rs.map V.ref)) ∧ rs.length = i ∧ Paired (fun r c => ArAt T.C_Array G r sh c) rs cls ∧ lookL ds ats 0 none [] = lookL (ds.drop i) ats i (if i = 0 then none else some sh) cls.flatten)
              ⟨none, none, none, rfl, H, [], [], [], Same.refl H, s1, np, hp1, rfl, .nil, rfl⟩ (fun i σ H' _ ⟨_, _, _, _, _, _, _, _, x, y, _⟩ => ofL (y _ _ (x _ _ hv))) ?_ ?_⟩
            · rintro i x σ H2 TT hx ⟨v3, v4, v5, rfl, G, rs, sh, cls, sG, s2, gp, hp2, hrl, hrs, hlk⟩ nT
              obtain ⟨di, edi, ndi⟩ := ntGet hxs hx
              have hdi : di ∈ ds := List.mem_of_getElem? edi
              have hdrop : ds.drop i = di :: ds.drop (i + 1) := by
                obtain ⟨hlt, e⟩ := List.getElem?_eq_some_iff.mp edi
                rw [List.drop_eq_getElem_cons hlt, e]
              rw [hdrop] at hlk
              simp only [lookL] at hlk
              refine ⟨TT, _, rfl, ofT upd_same, rfl, _, _, rfl, _, _, rfl, rfl, ?_⟩
              have s3 : Same H2 (upd H2 TT (.tup [.int (i : Nat), x])) := same_up nT
              generalize upd H2 TT (.tup [.int (i : Nat), x]) = H3 at s3
              have hi4 : i < 4000 := by
                have := (List.getElem?_eq_some_iff.mp edi).1
                omega
              -- row = made_of(one, at + (number,))
              refine ⟨_, rfl, _, rfl, _, rfl, by show 1 ≤ sizeLine; decide, fun p2 np2 => ?_⟩
              have s4 : Same H3 (upd H3 p2 (.tup [.int (i : Nat)])) := same_up np2
              have sH4 := sG.trans (s2.trans (s3.trans s4))
              refine ⟨a, p2, _, _, rfl, rfl, sH4 _ _ ha, upd_same, by rw [List.length_map, sizeLine_eq]; show ats.length + 1 ≤ _; omega, fun tp H5 s5 htp => ?_⟩
              have htp : H5 tp = some (.tup ((ats ++ [(i : Int)]).map V.int)) := by rw [htp, List.map_append]; rfl
              have sH5 := sH4.trans s5
              have sG5 := s2.trans (s3.trans (s4.trans s5))
              have hp5 := s5 _ _ (s4 _ _ (s3 _ _ hp2))
              refine ⟨x, di, tp, _, rfl, ntUp sH5 ndi, htp, by have := ldL_mem hdi; omega, by have := ldL_mem hdi; omega, by have := szL_mem hdi; omega, by rw [List.length_append]; have := ldL_mem hdi; show ats.length + 1 + _ ≤ 100; omega, fun sh1 cs1 e r H6 s6 nr ar => ?_, fun pb e => ?_⟩
              · rw [e] at hlk
                simp only at hlk
                have s06 := sH5.trans s6
                have sG6 := sG5.trans s6
                have hp6 := s6 _ _ hp5
                have hrl4 : rs.length ≤ 4000 := by omega
                -- the append, and the next turn
                have app : ∀ H7 : Hp, Same H6 H7 → fits (if i = 0 then none else some sh) sh1 = true → ∃ v3 v4 v5, ([some (.ref va), some (.ref a), some (.ref p), some (.int (i : Nat)), some x, some (.ref r), none] : L2.St) = [some (.ref va), some (.ref a), some (.ref p), v3, v4, v5, none] ∧ ∃ (G : Hp) (rs' : List Addr) (sh : List Int) (cls : List (List Int)), Same H G ∧ Same G (upd H7 p (.lst (rs.map V.ref ++ [.ref r]))) ∧ G p = none ∧
                    (upd H7 p (.lst (rs.map V.ref ++ [.ref r]))) p = some (.lst (rs'.map V.ref)) ∧ rs'.length = i + 1 ∧ Paired (fun r c => ArAt T.C_Array G r sh c) rs' cls ∧ lookL ds ats 0 none [] = lookL (ds.drop (i + 1)) ats (i + 1) (if i + 1 = 0 then none else some sh) cls.flatten := fun H7 s7 hf => by
                  rw [if_pos hf] at hlk
                  have hp7 := s7 _ _ hp6
                  have sGb : Same G (but H7 p) := to_but (sG6.trans s7) gp
                  refine ⟨_, _, _, rfl, but H7 p, rs ++ [r], sh1, cls ++ [cs1], sG.trans sGb, same_but, but_self, by rw [upd_same, List.map_append]; rfl, by rw [List.length_append, hrl]; rfl, ?_, ?_⟩
                  · have key : ∀ (hi0 : ¬ i = 0), sh = sh1 := fun hi0 => by
                      rw [if_neg hi0] at hf
                      simpa [fits] using hf
                    refine paired_snoc ?_ ((ar.up s7).but hp7)
                    by_cases hi0 : i = 0
                    · have : rs = [] := List.eq_nil_of_length_eq_zero (by omega)
                      subst this
                      cases hrs
                      exact .nil
                    · rw [← key hi0]
                      exact paired_imp (fun _ _ q => q.up sGb) hrs
                  · rw [hlk, if_neg (Nat.succ_ne_zero i), List.flatten_append]
                    simp
                refine ⟨_, rfl, Nat.zero_le _, fun p6 np6 => ?_⟩
                have s7 : Same H6 (upd H6 p6 (.lst [])) := same_up np6
                have h7 : (upd H6 p6 (.lst [])) p6 = some (.lst []) := upd_same
                generalize upd H6 p6 (.lst []) = H7 at s7 h7
                have hp7 := s7 _ _ hp6
                refine ⟨p, p6, _, rfl, rfl, ofL hp7, ofL h7, _, rfl, ?_⟩
                refine ite2 (fun c => ?_) (fun c => ?_)
                rotate_left
                · have hi0 : i = 0 := by
                    cases rs with
                    | nil => exact hrl.symm
                    | cons _ _ => exact absurd rfl c
                  refine ⟨_, rfl, .inl ⟨rfl, _, ofL hp7⟩, _, rfl, p, _, _, rfl, rfl, hp7, by rw [List.length_map, sizeLine_eq]; omega, ?_⟩
                  exact app H7 s7 (by rw [if_pos hi0]; rfl)
                · have hi0 : ¬ i = 0 := fun z => by
                    have : rs = [] := List.eq_nil_of_length_eq_zero (by omega)
                    rw [this] at c
                    exact absurd c (by decide)
                  rw [if_neg hi0] at hlk app
                  match rs, cls, hrs, hrl, hp7, hi0, app with
                  | [], _, _, hrl, _, hi0, _ => exact absurd hrl.symm hi0
                  | r0 :: rs, c0 :: cls, .cons ar0 hrs, hrl, hp7, hi0, app =>
                    have ar7 := ar.up s7
                    have ar07 := ar0.up (sG6.trans s7)
                    obtain ⟨dx, sa, ca, hr1, hr2, hr3⟩ := ar7
                    obtain ⟨dx0, sa0, ca0, hq1, hq2, hq3⟩ := ar07
                    refine ⟨_, rfl, r, T.C_Array, dx, _, _, rfl, hr1, T.Array.cl, T.n_Array_shape, lk_shape sa ca, _, rfl, p, _, 0, .ref r0, rfl, rfl, ofL hp7, at_of' (j := 0) rfl rfl, r0, T.C_Array, dx0, _, _, rfl, hq1, T.Array.cl, T.n_Array_shape, lk_shape sa0 ca0, ?_⟩
                    refine ⟨_, _, .tup (ofT hr2) (dpInts sh1), .tup (ofT hq2) (dpInts sh), shIntsT sh1, shIntsT sh, _, rfl, ?_⟩
                    rw [eqv_ints]
                    refine ite2 (fun c => ?_) (fun c => ?_)
                    · have c : ¬ sh1 = sh := by simpa using c
                      rw [if_neg (by simpa [fits] using fun z : sh = sh1 => c z.symm)] at hlk
                      refine ⟨_, rfl, _, rfl, by show 1 ≤ sizeLine; decide, fun p8 np8 => ?_⟩
                      have s8 : Same H7 (upd H7 p8 (.tup [.int (i : Nat)])) := same_up np8
                      have s08 := s06.trans (s7.trans s8)
                      refine ⟨a, p8, _, _, rfl, rfl, s08 _ _ ha, upd_same, by rw [List.length_map, sizeLine_eq]; show ats.length + 1 ≤ _; omega, fun tp2 H9 s9 htp2 => ?_⟩
                      have htp2 : H9 tp2 = some (.tup ((ats ++ [(i : Int)]).map V.int)) := by rw [htp2, List.map_append]; rfl
                      refine ⟨by show 1 ≤ 1000; decide, fun a2 na => ?_⟩
                      exact ⟨a2, _, rfl, upd_same, fun d1 H' nd ne st ea ed => ⟨rfl, d1, _, ea, ed, rzR (q2 _ hlk) (s08.trans s9) htp2 na nd ne st⟩⟩
                    · have c : sh1 = sh := by simpa using c
                      refine ⟨_, rfl, .inl ⟨rfl, _, ofL hp7⟩, _, rfl, p, _, _, rfl, rfl, hp7, by rw [List.length_map, sizeLine_eq]; omega, ?_⟩
                      exact app H7 s7 (by simp [fits, c])
              · rw [e] at hlk
                simp only at hlk
                exact fun dd tpx H' sx ndd h1 h2 => (q2 pb hlk) dd tpx H' (sH5.trans sx) (sH5.free ndd) h1 h2
            · rintro σ H2 ⟨v3, v4, v5, rfl, G, rs, sh, cls, sG, s2, gp, hp2, hrl, hrs, hlk⟩
              rw [hxl, List.drop_length] at hlk
              simp only [lookL] at hlk
              have gr : GoodR (1 + ldL ds) (1 + szL ds) _ _ := look_ok (d := .list ds) (at_ := ats) (by simp only [lookD]; exact hlk)
              have hcl := gr.cells
              refine ⟨_, rfl, Nat.zero_le _, fun p6 np6 => ?_⟩
              have s3 : Same H2 (upd H2 p6 (.lst [])) := same_up np6
              have h3 : (upd H2 p6 (.lst [])) p6 = some (.lst []) := upd_same
              generalize upd H2 p6 (.lst []) = H3 at s3 h3
              have hp3 := s3 _ _ hp2
              have s03 := sG.trans (s2.trans s3)
              have sG3 := s2.trans s3
              refine ⟨p, p6, _, rfl, rfl, ofL hp3, ofL h3, _, rfl, ?_⟩
              refine ite2 (fun c => ?_) (fun c => ?_)
              · have hr0 : rs = [] := by
                  cases rs with
                  | nil => rfl
                  | cons _ _ => cases c
                subst hr0
                cases hrs
                have hd0 : ds.length = 0 := by rw [← hxl]; exact hrl.symm
                rw [hd0] at hlk
                refine ⟨by show 1 ≤ sizeLine; decide, fun p7 np7 => ?_⟩
                refine ⟨Nat.zero_le _, fun p8 np8 => ?_⟩
                have h7 : (upd H3 p7 (.tup [.int 0])) p7 = some (.tup (([0] : List Int).map V.int)) := upd_same
                have s7 := same_up (o := .tup [.int 0]) np7
                have s8 := same_up (o := .tup []) np8
                refine mk_ar (sh := [0]) (cs := []) (s8 _ _ h7) (.inr upd_same) ⟨by decide, fun n hn => by rw [List.mem_singleton.mp hn]; decide⟩ (by simp [prodI]) fun x H' s9 nx ar => ?_
                exact q1 [0] [] hlk x H' (s03.trans (s7.trans (s8.trans s9))) ((s03.trans (s7.trans s8)).free nx) ar
              · have hd0 : ¬ ds.length = 0 := fun z => by
                  have : rs = [] := List.eq_nil_of_length_eq_zero (by rw [hrl, hxl]; exact z)
                  rw [this] at c
                  exact c rfl
                rw [if_neg hd0] at hlk
                simp only [Option.getD_some] at hlk
                match rs, cls, hrs, hrl, hp3, hlk, hcl with
                | [], _, _, hrl, _, _, _ => exact absurd (hxl.symm.trans hrl.symm) hd0
                | r0 :: rs, c0 :: cls, .cons ar0 hrs, hrl, hp3, hlk, hcl =>
                  have hrs' : Paired (fun r c => ArAt T.C_Array H3 r sh c) (r0 :: rs) (c0 :: cls) := paired_imp (fun _ _ q => q.up sG3) (.cons ar0 hrs)
                  obtain ⟨dx0, sa0, ca0, hq1, hq2, hq3⟩ := ar0.up sG3
                  have hrl2 : (r0 :: rs).length = ds.length := by rw [hrl, hxl]
                  refine ⟨_, rfl, p, _, rfl, .inl (ofL hp3), by show 1 ≤ sizeLine; decide, fun p7 np7 => ?_⟩
                  have s7 : Same H3 (upd H3 p7 (.tup [.int (((r0 :: rs).map V.ref).length : Nat)])) := same_up np7
                  have h7 : (upd H3 p7 (.tup [.int (((r0 :: rs).map V.ref).length : Nat)])) p7 = some (.tup [.int (((r0 :: rs).map V.ref).length : Nat)]) := upd_same
                  generalize upd H3 p7 (.tup [.int (((r0 :: rs).map V.ref).length : Nat)]) = H7 at s7 h7
                  refine ⟨_, rfl, p, _, 0, .ref r0, rfl, rfl, ofL (s7 _ _ hp3), at_of' (j := 0) rfl rfl, r0, T.C_Array, dx0, _, _, rfl, s7 _ _ hq1, T.Array.cl, T.n_Array_shape, lk_shape sa0 ca0, ?_⟩
                  have hshl : sh.length ≤ 6 := by
                    have := gr.len
                    rw [if_neg hd0] at this
                    simp only [Option.getD_some, List.length_cons] at this
                    omega
                  refine ⟨p7, sa0, _, _, rfl, rfl, h7, s7 _ _ hq2, by simp only [List.length_map, List.length_cons, List.length_nil, sizeLine_eq]; omega, fun tp H8 s8 htp => ?_⟩
                  have htp : H8 tp = some (.tup ((((ds.length : Nat) : Int) :: sh).map V.int)) := by
                    rw [htp, List.length_map, hrl2]; rfl
                  have s38 := s7.trans s8
                  have hp8 := s38 _ _ hp3
                  -- [cell for row in rows for cell in row.cells]
                  refine ⟨_, rfl, p, rfl, ⟨_, ofL hp8⟩, fun D nD => ?_⟩
                  have tot : ∀ i : Nat, ((c0 :: cls).take i).flatten.length ≤ 4001 := fun i => by
                    have h1 : ((c0 :: cls).take i).flatten.length ≤ (c0 :: cls).flatten.length := by
                      conv => rhs; rw [← List.take_append_drop i (c0 :: cls), List.flatten_append, List.length_append]
                      omega
                    omega
                  refine lcw (K := K) (a := p) (xs := (r0 :: rs).map V.ref) (fun i J => Same H8 J ∧ J D = some (.lst ((((c0 :: cls).take i).flatten).map V.int))) ⟨same_up nD, upd_same⟩ (fun i J _ h => ofL (h.1 _ _ hp8)) ?_ ?_
                  · rintro i v J hi ⟨sJ, hD⟩
                    rw [List.getElem?_map] at hi
                    obtain ⟨r, er, rfl⟩ := Option.map_eq_some_iff.mp hi
                    obtain ⟨ci, eci, ari⟩ := pairedGet hrs' er
                    obtain ⟨dx, sa, ca, g1, g2, g3⟩ := ari.up s38
                    refine ⟨rfl, ?_⟩
                    refine ⟨_, rfl, r, T.C_Array, dx, _, _, rfl, sJ _ _ g1, T.Array.cl, T.n_Array_cells, lk_cells sa ca, ca, rfl, ⟨_, ofT (sJ _ _ g3)⟩, ?_⟩
                    have etk : ((c0 :: cls).take (i + 1)).flatten = ((c0 :: cls).take i).flatten ++ ci := by
                      rw [List.take_add_one, eci, List.flatten_append]
                      simp
                    have tk1 := tot (i + 1)
                    rw [etk, List.length_append] at tk1
                    refine lct (K := K) (a := ca) (xs := ci.map V.int) (fun j J' => Same H8 J' ∧ J' D = some (.lst ((((c0 :: cls).take i).flatten ++ ci.take j).map V.int))) ⟨sJ, by rw [List.take_zero, List.append_nil]; exact hD⟩ (fun j J' _ h => ofT (h.1 _ _ g3)) ?_ ?_
                    · rintro j v J' hj ⟨sJ', hD'⟩
                      rw [List.getElem?_map] at hj
                      obtain ⟨n, en, rfl⟩ := Option.map_eq_some_iff.mp hj
                      refine ⟨rfl, _, rfl, _, hD', ?_, fun b o e => by rw [upd_ne (ne_of_none e nD)]; exact sJ' _ _ e, ?_⟩
                      · rw [List.length_map, List.length_append, List.length_take, sizeLine_eq]
                        omega
                      · rw [upd_same, List.take_add_one, en]
                        simp
                    · rintro J' ⟨sJ', hD'⟩
                      rw [List.length_map, List.take_length, ← etk] at hD'
                      exact ⟨sJ', hD'⟩
                  · rintro J ⟨sJ, hD⟩
                    have hcl2 : (r0 :: rs).length = (c0 :: cls).length := Paired.length (.cons ar0 hrs : Paired (fun r c => ArAt T.C_Array G r sh c) (r0 :: rs) (c0 :: cls))
                    rw [List.length_map, hcl2, List.take_length] at hD
                    rw [if_neg hd0] at gr
                    simp only [Option.getD_some] at gr
                    have hsh : ShpOk (((ds.length : Nat) : Int) :: sh) := ⟨by have := gr.len; omega, fun n hn => by have := gr.each n hn; omega⟩
                    have s3J := s38.trans sJ
                    refine mk_ar (sh := ((ds.length : Nat) : Int) :: sh) (cs := (c0 :: cls).flatten) (sJ _ _ htp) (.inl hD) hsh gr.count fun x H' s9 nx ar => ?_
                    exact q1 _ _ hlk x H' (s03.trans (s3J.trans s9)) ((s03.trans s3J).free nx) ar
/-! ### nested_array -/
def spNA (m : Nat) (C D : Addr) : Sp := fun vs H Q E => ∃ (v : V) (d : PyData), vs = [v] ∧ Nt H v d ∧ ld d < m ∧ ld d ≤ 6 ∧ sz d ≤ 4000 ∧
  (∀ sh cs, lookD d [] = .inr (sh, cs) → ∀ (x : Addr) (H' : Hp), Same H H' → H x = none → ArAt C H' x sh cs → Q (.ref x) H') ∧ (∀ p, lookD d [] = .inl p → RgE D H p E)
theorem ok_nested_array (T : Tx K mg) : FnOk P w K mg base (L2.CX P w) 13 T.nested_array.f T.nested_array.fd ["things"] (spNA 7 T.C_Array T.C_Ragged) := by
  refine T.nested_array.F.okX (k := 12) sc_nested_array (fun vs H Q E h => ?_) (fun cdv A outer s H vs Q E hr h => ?_)
  · obtain ⟨v, d, rfl, _⟩ := h
    rfl
  · obtain ⟨v, d, rfl, nt, hm, h6, hs, q1, q2⟩ := h
    refine ⟨_, (pss_one (ps_ret (pe_callS (ok_made_of T 7) hr (by rfl) T.made_of.mg T.made_of.F.kp T.made_of.b (fun σ => passAt (takes_of rfl rfl rfl rfl) σ) (pa_cons (pv 0) (pa_cons (pe_tup pa_nil) pa_nil))))), ?_⟩
    refine ⟨_, rfl, Nat.zero_le _, fun p np => ?_⟩
    have s1 : Same H (upd H p (.tup [])) := same_up np
    refine ⟨v, d, p, [], rfl, ntUp s1 nt, upd_same, hm, h6, hs, by show 0 + _ ≤ 100; omega, fun sh cs e x H' sx nx ar => ?_, fun pb e => ?_⟩
    · exact q1 sh cs e x H' (s1.trans sx) (s1.free nx) ar
    · exact fun dd tp H' sx nd h1 h2 => q2 pb e dd tp H' (s1.trans sx) (s1.free nd) h1 h2
end
end Cr

namespace Cr
open PySem PySem.Spec PyProof.Rows L2
/-! ### repr of things, dicts without keys among them -/
mutual
theorem ntReads {X : Cx} {pins : List (Addr × Obj)} {σ : L2.St} {H : Hp} {s : Shared} (I : Inv X pins σ H s) (hb : ∃ o, X.base.get? sysModules = some o) : ∀ {v : V} {d : PyData}, Nt H v d → ∀ u, RelV v u → ∃ as, Reads s.heap u d as ∧ sysModules ∉ as
  | _, _, .non, _, r => by cases r; exact ⟨[], .none, fun h => nomatch h⟩
  | _, _, .bl b, _, r => by cases r; exact ⟨[], .bool b, fun h => nomatch h⟩
  | _, _, .int i, _, r => by obtain ⟨t, rfl⟩ := r; exact ⟨[], .int i t, fun h => nomatch h⟩
  | _, _, .str x, _, r => by obtain ⟨t, rfl⟩ := r; exact ⟨[], .str x t, fun h => nomatch h⟩
  | _, _, @Nt.lst _ a _ _ h q, _, r => by
    cases r
    obtain ⟨its, rv, ⟨o, n, ho, hc, _, hd⟩, _⟩ := I.list (ofL h)
    obtain ⟨as, r1, n1⟩ := ntReadsA I hb q its rv
    refine ⟨_, .list ho hc hd r1, fun hm => ?_⟩
    rcases List.mem_cons.mp hm with e | hm
    · obtain ⟨ob, eb⟩ := hb
      have := (I.bs _ _ eb).2
      rw [e, h] at this
      cases this
    · exact n1 hm
  | _, _, .tup h q, _, r => by
    cases r
    obtain ⟨its, rv, ⟨o, ho, hc, n, hd⟩, _⟩ := I.tuple (ofT h)
    obtain ⟨as, r1, n1⟩ := ntReadsA I hb q its rv
    exact ⟨_, .tuple ho hc hd r1, n1⟩
  | _, _, @Nt.dk _ a h, _, r => by
    cases r
    obtain ⟨_, sm, vs, rv, o, es, ep, ho, ⟨hc, _, _⟩, hdat, _, hp, _⟩ := dk_of I.hok h
    obtain ⟨r1, r2⟩ := kv_reads (h := s.heap) hp rv (ds := []) .nil
    refine ⟨_, .dict ho hc hdat r1 r2, fun hm => ?_⟩
    have e : sysModules = a := by simpa using hm
    rw [← e] at sm
    exact absurd sm (by decide)
theorem ntReadsA {X : Cx} {pins : List (Addr × Obj)} {σ : L2.St} {H : Hp} {s : Shared} (I : Inv X pins σ H s) (hb : ∃ o, X.base.get? sysModules = some o) : ∀ {vs : List V} {ds : List PyData}, NtAll H vs ds → ∀ us, Vals vs us → ∃ as, ReadsAll s.heap us ds as ∧ sysModules ∉ as
  | _, _, .nil, _, r => by cases r; exact ⟨[], .nil, fun h => nomatch h⟩
  | _, _, .cons h t, _, r => by
    cases r with
    | cons r1 r2 =>
      obtain ⟨as, q1, n1⟩ := ntReads I hb h _ r1
      obtain ⟨bs, q2, n2⟩ := ntReadsA I hb t _ r2
      exact ⟨_, .cons q1 q2, fun hm => (List.mem_append.mp hm).elim n1 n2⟩
end
theorem call_reprN {X : Cx} (hb : ∃ o, X.base.get? sysModules = some o) (hg : X.A.guards = some []) (hu : X.A.units + 66 < cLine) : CallR X (.builtin "repr") (fun xs H Q => ∃ (v : V) (d : PyData), xs = [v] ∧ Nt H v d ∧ d.showable = true ∧ d.depth ≤ 64 ∧ d.shown.length ≤ sizeLine ∧ Q (.str d.shown) H) := by
  intro pins s σ H xs us Q I r h
  obtain ⟨v, d, ex, hd, hs, hdep, hsz, q⟩ := h
  subst ex
  obtain ⟨u, eu, rx⟩ := vals1 r
  subst eu
  obtain ⟨as, r1, n1⟩ := ntReads I hb hd u rx
  cases hd with
  | non => cases rx; exact PySem.P.repr_of_none ⟨.str _, H, I.tok _, ⟨_, rfl⟩, by simpa only [PyData.shown] using q⟩
  | bl b => cases rx; exact PySem.P.repr_of_bool ⟨.str _, H, I.tok _, ⟨_, rfl⟩, by simpa only [PyData.shown] using q⟩
  | int i =>
    obtain ⟨t, rfl⟩ := rx
    exact PySem.P.repr_of_int (by simpa [PyData.showable] using hs) ⟨.str _, H, I.tok _, ⟨_, rfl⟩, by simpa only [PyData.shown] using q⟩
  | str z =>
    obtain ⟨t, rfl⟩ := rx
    simp only [PyData.shown] at hsz
    exact PySem.P.repr_of_str ⟨.str _, H, I.tok _, ⟨_, rfl⟩, by simpa only [PyData.shown] using q⟩ hsz
  | lst h1 h2 =>
    cases rx
    exact repr_of_reads' r1 hs (fun _ => n1) hg (by omega) (fun b o e => e) (fun h' u tk hk => ⟨.str _, H, I.kept (t' := tk) hk, ⟨u, rfl⟩, q⟩) hsz
  | tup h1 h2 =>
    cases rx
    exact repr_of_reads' r1 hs (fun _ => n1) hg (by omega) (fun b o e => e) (fun h' u tk hk => ⟨.str _, H, I.kept (t' := tk) hk, ⟨u, rfl⟩, q⟩) hsz
  | dk h1 =>
    cases rx
    exact repr_of_reads' r1 hs (fun _ => n1) hg (by omega) (fun b o e => e) (fun h' u tk hk => ⟨.str _, H, I.kept (t' := tk) hk, ⟨u, rfl⟩, q⟩) hsz
/-! ### the things that are drawn -/
def BI (i : Int) : Prop := -(10 ^ 30) ≤ i ∧ i ≤ 10 ^ 30
mutual
inductive OkD : PyData → Prop
  | non : OkD .none
  | bl (b : Bool) : OkD (.bool b)
  | str : OkD (.str "3")
  | tup : OkD (.tuple [.int 1, .int 2])
  | dict : OkD (.dict [])
  | int {i : Int} (h : BI i) : OkD (.int i)
  | list {ds : List PyData} (h : OkDs ds) : OkD (.list ds)
inductive OkDs : List PyData → Prop
  | nil : OkDs []
  | cons {d : PyData} {ds : List PyData} (h : OkD d) (t : OkDs ds) : OkDs (d :: ds)
end
theorem log_int {i : Int} (h : BI i) : i.natAbs.log2 < 1920 := by
  obtain ⟨a, b⟩ := h
  by_cases e : i.natAbs = 0
  · rw [e]; decide
  · refine Nat.lt_trans ((Nat.log2_lt e).mpr (show i.natAbs < 2 ^ 100 from ?_)) (by decide)
    have : (10 : Int) ^ 30 < 2 ^ 100 := by decide
    have e2 : (2 : Int) ^ 100 = ((2 ^ 100 : Nat) : Int) := by decide
    omega
theorem txt_int {i : Int} (h : BI i) : (Str.ofString (toString i)).length ≤ 33 := by
  obtain ⟨a, b⟩ := h
  have big : (10 : Int) ^ 30 < 10 ^ 31 := by decide
  by_cases h0 : 0 ≤ i
  · have h1 := PyProof.Rows.toString_length_le (v := i) (k := 31) h0 (by decide) (Int.lt_of_le_of_lt b big)
    omega
  · have h1 := PyProof.Rows.toString_length_le (v := 0 - i) (k := 31) (by omega) (by decide) (Int.lt_of_le_of_lt (by omega) big)
    have h2 := PyProof.Rows.len_text_neg (n := i) (by omega)
    omega
mutual
theorem okShowD : ∀ {d : PyData}, OkD d → d.showable = true ∧ d.shown.length + 2 ≤ 40 * sz d ∧ d.depth ≤ ld d + 1
  | _, .non => ⟨by decide +kernel, by decide +kernel, by decide +kernel⟩
  | _, .bl b => by cases b <;> exact ⟨by decide +kernel, by decide +kernel, by decide +kernel⟩
  | _, .str => ⟨by decide +kernel, by decide +kernel, by decide +kernel⟩
  | _, .tup => ⟨by decide +kernel, by decide +kernel, by decide +kernel⟩
  | _, .dict => ⟨by decide +kernel, by decide +kernel, by decide +kernel⟩
  | _, .int h => by
    refine ⟨by simp only [PyData.showable]; exact decide_eq_true (log_int h), ?_, by simp [PyData.depth]⟩
    have := txt_int h
    simp only [PyData.shown, sz]
    omega
  | .list ds, .list o => by
    obtain ⟨a, b, c⟩ := okShowDs o
    refine ⟨by simp only [PyData.showable]; exact a, ?_, by simp only [PyData.depth, ld]; omega⟩
    simp only [PyData.shown, sz]
    have := listText_len_le (PyData.shownAll ds)
    omega
theorem okShowDs : ∀ {ds : List PyData}, OkDs ds → PyData.showableAll ds = true ∧ ((PyData.shownAll ds).map (·.length)).sum + 2 * (PyData.shownAll ds).length ≤ 40 * szL ds ∧ PyData.depthAll ds ≤ ldL ds + 1
  | _, .nil => by simp [PyData.showableAll, PyData.shownAll, PyData.depthAll, szL, ldL]
  | _, .cons h t => by
    obtain ⟨a, b, c⟩ := okShowD h
    obtain ⟨a', b', c'⟩ := okShowDs t
    refine ⟨by simp only [PyData.showableAll, a, a', Bool.and_self], ?_, by simp only [PyData.depthAll, ldL]; omega⟩
    simp only [PyData.shownAll, List.map_cons, List.sum_cons, List.length_cons, szL]
    omega
end
theorem okDs_app : ∀ {as bs : List PyData}, OkDs as → OkDs bs → OkDs (as ++ bs)
  | _, _, .nil, h => h
  | _, _, .cons a b, h => .cons a (okDs_app b h)
theorem okDs_mem : ∀ {ds : List PyData}, (∀ d ∈ ds, OkD d) → OkDs ds
  | [], _ => .nil
  | d :: r, h => .cons (h d List.mem_cons_self) (okDs_mem fun e he => h e (List.mem_cons_of_mem _ he))
theorem okDs_get : ∀ {ds : List PyData}, OkDs ds → ∀ d ∈ ds, OkD d
  | _, .cons a b, d, h => by
    rcases List.mem_cons.mp h with rfl | h
    · exact a
    · exact okDs_get b d h
theorem szL_app : ∀ as bs : List PyData, szL (as ++ bs) = szL as + szL bs
  | [], bs => by simp [szL]
  | a :: r, bs => by
    have := szL_app r bs
    simp only [List.cons_append, szL]
    omega
theorem ldL_le {ds : List PyData} {B : Nat} (h : ∀ d ∈ ds, ld d ≤ B) : ldL ds ≤ B := by
  induction ds with
  | nil => simp [ldL]
  | cons d r ih =>
    have h1 := h d List.mem_cons_self
    have h2 := ih fun e he => h e (List.mem_cons_of_mem _ he)
    simp only [ldL]
    omega
theorem szL_sub {as bs : List PyData} (h : as.Sublist bs) : szL as ≤ szL bs := by
  induction h with
  | slnil => exact Nat.le_refl _
  | cons a _ ih => simp only [szL]; omega
  | cons_cons a _ ih => simp only [szL]; omega
theorem szL_rev (ds : List PyData) : szL ds.reverse = szL ds := by
  induction ds with
  | nil => rfl
  | cons d r ih => rw [List.reverse_cons, szL_app, ih]; simp only [szL]; omega
def szB : Nat → Nat
  | 0 => 1
  | k + 1 => 1 + 3 * szB k
theorem szB_mono {a b : Nat} (h : a ≤ b) : szB a ≤ szB b := by
  induction h with
  | refl => exact Nat.le_refl _
  | step _ ih => simp only [szB]; omega
end Cr

namespace Cr
open PySem L2
section
variable {P : Program} {w : World} {K : PySem.W.Frag} {mg : Str → Option Value} {base : Heap}
/-! ### _law_lists -/
def spLists (m : Nat) : Sp := fun vs H Q _ => ∃ (f c : Addr) (k : Nat) (p : Addr) (sh : List Int), vs = [.ref f, .ref p] ∧ Wo (but H f) H f c k ∧ H p = some (.tup (sh.map V.int)) ∧ sh.length < m ∧ (∀ x ∈ sh, 0 ≤ x ∧ x ≤ 3) ∧ sh.length ≤ 6 ∧ k + 4 * szB sh.length ≤ 900000000 ∧
  ∀ (v : V) (d : PyData) (G H' : Hp), Wo (but H f) H' f c (k + 4 * szB sh.length) → Same G H' → OnlyN H G → Nt G v d → OkD d → ld d ≤ sh.length → sz d ≤ szB sh.length → Q v H'
theorem ok__law_lists (T : Tx K mg) : ∀ m, FnOk P w K mg base CX0 (m + 3) T._law_lists.f T._law_lists.fd ["_law_feed_here", "_law_shape"] (spLists m)
  | 0 => by
    refine T._law_lists.F.ok sc__law_lists (fun vs H Q E h => ?_) (fun cdv A outer s H vs Q E hr h => ?_)
    · obtain ⟨f, c, k, p, sh, rfl, _⟩ := h
      rfl
    · obtain ⟨f, c, k, p, sh, rfl, _, _, h, _⟩ := h
      omega
  | m + 1 => by
    have ih := ok__law_lists T m
    refine T._law_lists.F.ok (k := m + 3) sc__law_lists (fun vs H Q E h => ?_) (fun cdv A outer s H vs Q E hr h => ?_)
    · obtain ⟨f, c, k, p, sh, rfl, _⟩ := h
      rfl
    · obtain ⟨f, c, k, p, sh, rfl, W, hp, hm, hb, h6, kb, q⟩ := h
      refine ⟨_, (pss_cons (ps_if (pt_cmpR (op_eqD hr.units) (pv 1) (pe_tup pa_nil) (nomark _))
 (pss_one (ps_ret (pe_call (ok__law_number T) (hr.mono (by omega)) (by rfl) T._law_number.mg T._law_number.F.kp T._law_number.b .nil pass0 (pa_cons (pv 0) pa_nil))))
 pss_nil)
 (pss_one (ps_ret (pe_lc (own := [("_law_at", 2)]) (g := gName 2) (by rfl) sc__law_lists.nd (pi_range1 (by rfl) T.b_range (pa_cons (pe_ix ix_tup (pv 1) pe_int (fun _ _ => rfl)) pa_nil)) (blkOk_by (own := [("_law_at", 2)]) (N := N__law_lists) (sc := defScope s__law_lists) (by decide +kernel)) (fun _ _ _ _ _ => (pg_name (i := 2) sc__law_lists.nd rfl (Or.inl rfl))) (fun _ _ _ _ _ => pts_nil) (fun _ _ _ _ _ => (pe_call ih hr (by rfl) T._law_lists.mg T._law_lists.F.kp T._law_lists.b .nil pass0 (pa_cons (pv 0) (pa_cons (pe_slice sl_tupU (pv 1) (po_some pe_int) po_none) pa_nil)))))))), ?_⟩
      refine ⟨_, rfl, Nat.zero_le _, fun p0 np0 => ?_⟩
      have s0 : Same H (upd H p0 (.tup [])) := same_up np0
      have h0 : (upd H p0 (.tup [])) p0 = some (.tup (([] : List Int).map V.int)) := upd_same
      generalize upd H p0 (.tup []) = H0 at s0 h0
      refine ⟨_, _, .tup (ofT (s0 _ _ hp)) (dpInts sh), .tup (ofT h0) (dpInts []), shIntsT sh, shIntsT [], _, rfl, ?_⟩
      rw [eqv_ints]
      have W0 := W.keep s0
      have hf0 : ∃ o, H f = some o := by
        obtain ⟨a, l, e, _⟩ := W.feed
        exact ⟨_, e⟩
      refine ite2 (fun c1 => ?_) (fun c1 => ?_)
      · have c1 : sh = [] := by simpa using c1
        subst c1
        refine ⟨_, rfl, _, f, c, k, rfl, W0, by omega, fun n H1 n0 n1 W1 => ?_⟩
        exact q _ (.int n) (fun _ => none) H1 (W1.mono (by show k + 4 ≤ k + 4 * 1; omega)) (fun a o e => by cases e) (fun _ _ => rfl) (.int n) (.int ⟨n0, n1⟩) (Nat.le_refl _) (Nat.le_refl _)
      · have c1 : ¬ sh = [] := by simpa using c1
        match sh, c1, hp, hm, hb, h6, q with
        | n :: r, _, hp, hm, hb, h6, q =>
          obtain ⟨n0, n1⟩ := hb n List.mem_cons_self
          obtain ⟨m', rfl⟩ := Int.eq_ofNat_of_zero_le n0
          have ecut : cutV (((m' : Int) :: r).map V.int) (some 1) none = r.map V.int := cutV_tailI ((m' : Int) :: r) 1
          have hsB : szB r.length ≤ szB 6 := szB_mono (by simp only [List.length_cons] at h6; omega)
          have h66 : szB 6 = 1093 := by decide
          have hsn : szB ((m' : Int) :: r).length = 1 + 3 * szB r.length := rfl
          refine ⟨_, rfl, p, _, 0, .int (m' : Int), rfl, rfl, ofT (s0 _ _ hp), at_of' (j := 0) rfl rfl, (m' : Int), rfl, by omega, by omega, fun D nD => ?_⟩
          refine lc_range (lo := 0) (n := (m' : Int).toNat) (fun i J => ∃ (G : Hp) (vs : List V) (ds : List PyData), Wo (but H f) J f c (k + i * (4 * szB r.length)) ∧ Same G J ∧ OnlyN H G ∧ G D = none ∧ J D = some (.lst vs) ∧ NtAll G vs ds ∧ OkDs ds ∧ (∀ d ∈ ds, ld d ≤ r.length) ∧ szL ds ≤ i * szB r.length ∧ ds.length = i)
            ⟨fun _ => none, [], [], (W0.fresh nD).mono (by omega), fun a o e => (by cases e), fun _ _ => rfl, rfl, upd_same, .nil, .nil, fun d hd => (nomatch hd), by simp [szL], rfl⟩ ?_ ?_
          · rintro i J hi ⟨G, vs, ds, WJ, sJ, oG, gD, hD, hvs, hok, hld, hsz, hdl⟩
            have him : i < m' := by omega
            have nfD : f ≠ D := by
              intro e
              rw [e] at hf0
              obtain ⟨o, e2⟩ := hf0
              rw [s0.free nD] at e2
              cases e2
            have hpf : p ≠ f := fun e => by
              obtain ⟨a, l, e2, _⟩ := W.feed
              rw [← e, hp] at e2
              cases e2
            have hpJ : J p = some (.tup (((m' : Int) :: r).map V.int)) := WJ.same _ _ (by rw [but_ne hpf]; exact hp)
            refine ⟨rfl, _, rfl, _, rfl, 1, rfl, p, _, rfl, hpJ, fun p2 J2 s2 h2 => ?_⟩
            rw [ecut] at h2
            have W2 := WJ.keep s2
            have hi4 : (i + 1) * (4 * szB r.length) ≤ 3 * (4 * szB r.length) := Nat.mul_le_mul_right _ (by omega)
            have hi5 : (i + 1) * (4 * szB r.length) = i * (4 * szB r.length) + 4 * szB r.length := Nat.succ_mul ..
            refine ⟨f, c, _, p2, r, rfl, W2.all.1, h2, by simp only [List.length_cons] at hm; omega, fun x hx => hb x (List.mem_cons_of_mem _ hx), by simp only [List.length_cons] at h6; omega, by omega, fun v d Gv J4 W4 sv ov nt okd ldd szd => ?_⟩
            have nDf : D ≠ f := nfD.symm
            have b24 : Same (but J2 f) J4 := W4.same
            have hD4 : J4 D = some (.lst vs) := b24 _ _ (by rw [but_ne nDf]; exact s2 _ _ hD)
            have sGb : Same G (but J2 f) := fun a o e => by
              have naf : a ≠ f := fun z => by
                rw [z] at e
                obtain ⟨o2, e2⟩ := hf0
                rw [oG f (by rw [e2]; exact fun z => nomatch z)] at e
                cases e
              rw [but_ne naf]
              exact s2 _ _ (sJ _ _ e)
            have W5 : Wo (but H f) J4 f c (k + i * (4 * szB r.length) + 4 * szB r.length) := by
              refine W4.sub (fun a o e => ?_) W.cells
              have naf : a ≠ f := fun z => by rw [z] at e; unfold but at e; rw [if_pos rfl] at e; cases e
              rw [but_ne naf]
              exact s2 _ _ (WJ.same _ _ e)
            have hvl : vs.length ≤ 3 := by rw [ntLen hvs, hdl]; omega
            have onlyJ : OnlyN H Gv := fun a h => by
              refine ov a fun e => h ?_
              by_cases naf : a = f
              · rw [naf] at e
                obtain ⟨_, _, e2, _⟩ := W2.feed
                rw [e] at e2
                cases e2
              · cases e3 : H a with
                | none => rfl
                | some o =>
                  have := s2 _ _ (WJ.same a o (by rw [but_ne naf]; exact e3))
                  rw [e] at this
                  cases this
            have gvD : Gv D = none := ov D (by rw [s2 _ _ hD]; exact fun z => nomatch z)
            have k1 : Same G (newB H J4 D) := to_newB (sGb.trans b24) oG gD
            have k2 : Same Gv (newB H J4 D) := to_newB sv onlyJ gvD
            have bHD : but H f D = none := by
              rw [but_ne nDf]
              exact s0.free nD
            refine ⟨vs, hD4, by rw [sizeLine_eq]; omega, newB H J4 D, vs ++ [v], ds ++ [d], (W5.put bHD nfD).mono (by omega), Same.put newB_same newB_D, newB_only, newB_D, upd_same, ntApp (ntUps k1 hvs) (.cons (ntUp k2 nt) .nil), okDs_app hok (.cons okd .nil), fun e he => ?_, ?_, by rw [List.length_append, hdl]; rfl⟩
            · rcases List.mem_append.mp he with h | h
              · exact hld e h
              · rw [List.mem_singleton.mp h]; exact ldd
            · rw [szL_app, Nat.succ_mul]
              simp only [szL]
              omega
          · rintro J ⟨G, vs, ds, WJ, sJ, oG, gD, hD, hvs, hok, hld, hsz, hdl⟩
            have e1 : (m' : Int).toNat = m' := Int.toNat_natCast m'
            rw [e1] at hsz WJ
            have h3 : m' * szB r.length ≤ 3 * szB r.length := Nat.mul_le_mul_right _ (by omega)
            have h4 : m' * (4 * szB r.length) ≤ 3 * (4 * szB r.length) := Nat.mul_le_mul_right _ (by omega)
            refine q _ (.list ds) (newA H J) J (WJ.mono (by simp only [List.length_cons, szB]; omega)) newA_same newA_only (.lst (newA_at (s0.free nD) hD) (ntUps (to_newA sJ oG) hvs)) (.list hok) ?_ ?_
            · have := ldL_le hld
              simp only [ld, List.length_cons]
              omega
            · simp only [sz, List.length_cons, szB]
              omega
end
end Cr

namespace Cr
open PySem L2
theorem ntTake {G : Hp} : ∀ {vs : List V} {ds : List PyData}, NtAll G vs ds → ∀ j, NtAll G (vs.take j) (ds.take j)
  | _, _, h, 0 => by simp only [List.take_zero]; exact .nil
  | _, _, .nil, j + 1 => by simp only [List.take_nil]; exact .nil
  | _, _, .cons a b, j + 1 => by simp only [List.take_succ_cons]; exact .cons a (ntTake b j)
theorem ntDrop {G : Hp} : ∀ {vs : List V} {ds : List PyData}, NtAll G vs ds → ∀ j, NtAll G (vs.drop j) (ds.drop j)
  | _, _, h, 0 => by simp only [List.drop_zero]; exact h
  | _, _, .nil, j + 1 => by simp only [List.drop_nil]; exact .nil
  | _, _, .cons a b, j + 1 => by simp only [List.drop_succ_cons]; exact ntDrop b j
theorem ntRev {G : Hp} : ∀ {vs : List V} {ds : List PyData}, NtAll G vs ds → NtAll G vs.reverse ds.reverse
  | _, _, .nil => .nil
  | _, _, .cons a b => by rw [List.reverse_cons, List.reverse_cons]; exact ntApp (ntRev b) (.cons a .nil)
/-- what a spoilt d may be -/
def Gd (G : Hp) (d : PyData) (y : V) : Prop := ∃ d', Nt G y d' ∧ OkD d' ∧ ld d' ≤ ld d + 2 ∧ sz d' ≤ 2 * sz d + 10
theorem Gd.up {G G' : Hp} {d : PyData} {y : V} (h : Gd G d y) (s : Same G G') : Gd G' d y := by
  obtain ⟨d', a, b, c, e⟩ := h
  exact ⟨d', ntUp s a, b, c, e⟩
section
variable {P : Program} {w : World} {K : PySem.W.Frag} {mg : Str → Option Value} {base : Heap}
/-! ### _law_spoilt -/
def spSpoilt (m : Nat) : Sp := fun vs H Q _ => ∃ (G : Hp) (f c : Addr) (k : Nat) (v : V) (d : PyData), vs = [.ref f, v] ∧ Wo G H f c k ∧ Nt G v d ∧ OkD d ∧ ld d < m ∧ m ≤ 1000 ∧ sz d ≤ 100000 ∧ k + 3 * m ≤ 900000000 ∧
  ∀ (v' : V) (d' : PyData) (G' H' : Hp), Same G G' → Wo G' H' f c (k + 3 * m) → Nt G' v' d' → OkD d' → ld d' ≤ ld d + 2 → sz d' ≤ 2 * sz d + 10 → Q v' H'
theorem ok__law_spoilt (T : Tx K mg) : ∀ m, FnOk P w K mg base CX0 (m + 3) T._law_spoilt.f T._law_spoilt.fd ["_law_feed_here", "_law_thing"] (spSpoilt m)
  | 0 => by
    refine T._law_spoilt.F.ok sc__law_spoilt (fun vs H Q E h => ?_) (fun cdv A outer s H vs Q E hr h => ?_)
    · obtain ⟨G, f, c, k, v, d, rfl, _⟩ := h
      rfl
    · obtain ⟨G, f, c, k, v, d, rfl, _, _, _, h, _⟩ := h
      omega
  | m + 1 => by
    have ih := ok__law_spoilt T m
    refine T._law_spoilt.F.ok (k := m + 3) sc__law_spoilt (fun vs H Q E h => ?_) (fun cdv A outer s H vs Q E hr h => ?_)
    · obtain ⟨G, f, c, k, v, d, rfl, _⟩ := h
      rfl
    · obtain ⟨G, f, c, k, v, d, rfl, W, nt, okd, hm, hm2, hsz, hk, q⟩ := h
      refine ⟨_, (pss_cut (ps_if (PW.pt (pw_and (pt_val (pe_callB call_isi (by rfl) T.b_isinstance (by decide +kernel) (pa_cons (pv 1) (pa_cons (pe_bltn (v := V.ty "list") (by rfl) T.b_list (by decide +kernel) rfl) pa_nil)))) (pw_and (pt_cmpR (op_neE hr.units) (pv 1) (pe_lst pa_nil) (nomark _)) (pw_and1 (pt_cmpR op_gt (pe_call (ok__law_draw T) (hr.mono (by omega)) (by rfl) T._law_draw.mg T._law_draw.F.kp T._law_draw.b .nil pass0 (pa_cons (pv 0) (pa_cons pe_int pa_nil))) pe_int (nomark _))))))
 (pss_cons (ps_set (i := 2) sc__law_spoilt.nd rfl (Or.inl rfl) (pe_call (ok__law_draw T) (hr.mono (by omega)) (by rfl) T._law_draw.mg T._law_draw.F.kp T._law_draw.b .nil pass0 (pa_cons (pv 0) (pa_cons (pe_callB call_len_seq (by rfl) T.b_len (by decide +kernel) (pa_cons (pv 1) pa_nil)) pa_nil))))
 (pss_one (ps_ret (pe_op op_cat (pe_op op_cat (pe_slice sl_list (pv 1) po_none (po_some (pv 2))) (pe_lst (pa_cons (pe_call ih hr (by rfl) T._law_spoilt.mg T._law_spoilt.F.kp T._law_spoilt.b .nil pass0 (pa_cons (pv 0) (pa_cons (pe_ix ix_list (pv 1) (pv 2) (fun _ _ => rfl)) pa_nil))) pa_nil))) (pe_slice sl_list (pv 1) (po_some (pe_op op_add (pv 2) pe_int)) po_none)))))
 pss_nil)
 (pss_cons (ps_set (i := 3) sc__law_spoilt.nd rfl (Or.inl rfl) (pe_lst (pa_cons pe_non (pa_cons pe_bl (pa_cons pe_str (pa_cons (pe_tup (pa_cons pe_int (pa_cons pe_int pa_nil))) (pa_cons pe_dnewK (pa_cons (pe_lst pa_nil) (pa_cons (pe_lst (pa_cons (pv 1) pa_nil)) (pa_cons pe_int (pa_cons (pe_lst (pa_cons (pe_lst pa_nil) (pa_cons (pe_lst pa_nil) pa_nil))) pa_nil)))))))))))
 (pss_cut (ps_if (pt_val (pe_callB call_isi (by rfl) T.b_isinstance (by decide +kernel) (pa_cons (pv 1) (pa_cons (pe_bltn (v := V.ty "list") (by rfl) T.b_list (by decide +kernel) rfl) pa_nil))))
 (pss_one (ps_set (i := 3) sc__law_spoilt.nd rfl (Or.inl rfl) (pe_op op_cat (pv 3) (pe_lst (pa_cons (pe_op op_cat (pv 1) (pe_lst (pa_cons pe_int pa_nil))) (pa_cons (pe_slice sl_list (pv 1) (po_some pe_int) po_none) (pa_cons (pe_op op_cat (pv 1) (pe_slice sl_list (pv 1) po_none (po_some pe_int))) (pa_cons (pe_revL (pv 1)) pa_nil))))))))
 pss_nil)
 (pss_one (ps_ret (pe_call (ok__law_of T) (hr.mono (by omega)) (by rfl) T._law_of.mg T._law_of.F.kp T._law_of.b .nil pass0 (pa_cons (pv 0) (pa_cons (pv 3) pa_nil)))))))), ?_⟩
      refine ⟨fun σ' H' => ∃ k1, σ' = [some (.ref f), some v, none, none] ∧ k1 ≤ k + 1 ∧ Wo G H' f c k1, ?_, ?_⟩
      · have ntH := ntUp W.same nt
        by_cases hL : ∃ ds, d = .list ds
        rotate_left
        · have hL : ∀ ds, d ≠ .list ds := fun ds e => hL ⟨ds, e⟩
          refine ⟨_, rfl, _, _, _, _, false, rfl, .ty "list", ntH.ty, noList hL, false, rfl, ?_⟩
          exact ⟨k, rfl, by omega, W⟩
        · obtain ⟨ds, rfl⟩ := hL
          cases nt with
          | @lst a xs _ ha hv =>
            have haH := W.same _ _ ha
            refine ⟨_, rfl, _, _, _, _, true, rfl, .ty "list", ntH.ty, rfl, true, rfl, ?_⟩
            refine ⟨_, rfl, Nat.zero_le _, fun p0 np0 => ?_⟩
            have s0 : Same H (upd H p0 (.lst [])) := same_up np0
            have h0 : (upd H p0 (.lst [])) p0 = some (.lst []) := upd_same
            generalize upd H p0 (.lst []) = H0 at s0 h0
            have W0 := W.keep s0
            refine ⟨a, p0, _, rfl, rfl, ofL (s0 _ _ haH), ofL h0, _, rfl, ?_⟩
            refine ite2 (fun c1 => ?_) (fun c1 => ?_)
            rotate_left
            · exact ⟨k, rfl, by omega, W0⟩
            refine ⟨_, rfl, G, f, c, k, 4, rfl, by decide, by decide, W0, by omega, fun d1 H1 d10 d11 W1 => ?_⟩
            refine ⟨_, _, rfl, rfl, _, rfl, ?_⟩
            refine ite2 (fun c2 => ?_) (fun c2 => ?_)
            rotate_left
            · exact ⟨k + 1, rfl, Nat.le_refl _, W1⟩
            have hxl : xs.length = ds.length := ntLen hv
            have hx0 : 0 < xs.length := by
              cases xs with
              | nil => cases c1
              | cons _ _ => exact Nat.succ_pos _
            have hdl := szL_len ds
            simp only [sz] at hsz
            refine ⟨_, rfl, _, rfl, a, _, rfl, .inl (ofL (W1.same _ _ ha)), G, f, c, k + 1, _, rfl, by omega, by omega, W1, by omega, fun z H2 z0 z1 W2 => ?_⟩
            obtain ⟨j, rfl⟩ := Int.eq_ofNat_of_zero_le z0
            have hj : j < xs.length := by omega
            refine ⟨_, rfl, _, rfl, _, rfl, a, _, rfl, ofL (W2.same _ _ ha), fun p1 np1 => ?_⟩
            rw [cutV_to]
            have sG3 : Same G (upd G p1 (.lst (xs.take j))) := same_up (W2.same.free np1)
            have W3 := W2.new (o := .lst (xs.take j)) np1
            have g1 : (upd G p1 (.lst (xs.take j))) p1 = some (.lst (xs.take j)) := upd_same
            generalize upd G p1 (.lst (xs.take j)) = G3 at sG3 W3 g1
            generalize upd H2 p1 (.lst (xs.take j)) = H3 at W3
            obtain ⟨dj, edj, ntj⟩ := ntGet hv (List.getElem?_eq_getElem hj)
            have hdj : dj ∈ ds := List.mem_of_getElem? edj
            have okds : OkDs ds := by cases okd with | list o => exact o
            have hl1 := ldL_mem hdj
            have hs1 := szL_mem hdj
            simp only [ld] at hm
            refine ⟨_, rfl, _, rfl, _, rfl, a, _, _, _, rfl, rfl, ofL (W3.same _ _ (sG3 _ _ ha)), at_of' (j := j) rfl (List.getElem?_eq_getElem hj), ?_⟩
            refine ⟨G3, f, c, _, _, dj, rfl, W3, ntUp sG3 ntj, okDs_get okds _ hdj, by omega, by omega, by omega, by omega, fun v' d' G4 H4 sG4 W4 nt' okd' ld' sz' => ?_⟩
            refine ⟨by show 1 ≤ sizeLine; decide, fun p2 np2 => ?_⟩
            have sG5 : Same G4 (upd G4 p2 (.lst [v'])) := same_up (W4.same.free np2)
            have W5 := W4.new (o := .lst [v']) np2
            have g2 : (upd G4 p2 (.lst [v'])) p2 = some (.lst [v']) := upd_same
            generalize upd G4 p2 (.lst [v']) = G5 at sG5 W5 g2
            generalize upd H4 p2 (.lst [v']) = H5 at W5
            have g1' := sG5 _ _ (sG4 _ _ g1)
            refine ⟨p1, p2, _, _, rfl, rfl, W5.same _ _ g1', W5.same _ _ g2, by rw [List.length_take, sizeLine_eq]; show _ + 1 ≤ _; omega, fun p3 np3 => ?_⟩
            have sG6 : Same G5 (upd G5 p3 (.lst (xs.take j ++ [v']))) := same_up (W5.same.free np3)
            have W6 := W5.new (o := .lst (xs.take j ++ [v'])) np3
            have g3 : (upd G5 p3 (.lst (xs.take j ++ [v']))) p3 = some (.lst (xs.take j ++ [v'])) := upd_same
            generalize upd G5 p3 (.lst (xs.take j ++ [v'])) = G6 at sG6 W6 g3
            generalize upd H5 p3 (.lst (xs.take j ++ [v'])) = H6 at W6
            have sG06 := sG3.trans (sG4.trans (sG5.trans sG6))
            refine ⟨_, rfl, _, rfl, _, _, rfl, rfl, _, rfl, a, _, rfl, ofL (W6.same _ _ (sG06 _ _ ha)), fun p4 np4 => ?_⟩
            rw [show ((j : Int) + 1) = ((j + 1 : Nat) : Int) by omega, cutV_from]
            have sG7 : Same G6 (upd G6 p4 (.lst (xs.drop (j + 1)))) := same_up (W6.same.free np4)
            have W7 := W6.new (o := .lst (xs.drop (j + 1))) np4
            have g4 : (upd G6 p4 (.lst (xs.drop (j + 1)))) p4 = some (.lst (xs.drop (j + 1))) := upd_same
            generalize upd G6 p4 (.lst (xs.drop (j + 1))) = G7 at sG7 W7 g4
            generalize upd H6 p4 (.lst (xs.drop (j + 1))) = H7 at W7
            have g3' := sG7 _ _ g3
            refine ⟨p3, p4, _, _, rfl, rfl, W7.same _ _ g3', W7.same _ _ g4, by rw [List.length_append, List.length_take, List.length_drop, sizeLine_eq]; show _ + 1 + _ ≤ _; omega, fun p5 np5 => ?_⟩
            have sG8 : Same G7 (upd G7 p5 (.lst (xs.take j ++ [v'] ++ xs.drop (j + 1)))) := same_up (W7.same.free np5)
            have W8 := W7.new (o := .lst (xs.take j ++ [v'] ++ xs.drop (j + 1))) np5
            have g5 : (upd G7 p5 (.lst (xs.take j ++ [v'] ++ xs.drop (j + 1)))) p5 = some (.lst (xs.take j ++ [v'] ++ xs.drop (j + 1))) := upd_same
            generalize upd G7 p5 (.lst (xs.take j ++ [v'] ++ xs.drop (j + 1))) = G8 at sG8 W8 g5
            have sA := sG06.trans (sG7.trans sG8)
            have sB := sG5.trans (sG6.trans (sG7.trans sG8))
            have esz := szL_app (ds.take j) (ds.drop j)
            rw [List.take_append_drop, List.drop_eq_getElem_cons (show j < ds.length by omega)] at esz
            have edj2 : ds[j] = dj := by rw [List.getElem?_eq_getElem (show j < ds.length by omega)] at edj; exact Option.some.inj edj
            rw [edj2] at esz
            simp only [szL] at esz
            refine q _ (.list (ds.take j ++ [d'] ++ ds.drop (j + 1))) G8 _ sA (W8.mono (by omega)) (.lst g5 (ntApp (ntApp (ntTake (ntUps sA hv) j) (.cons (ntUp sB nt') .nil)) (ntDrop (ntUps sA hv) (j + 1)))) (.list (okDs_mem fun e he => ?_)) ?_ ?_
            · rcases List.mem_append.mp he with h | h
              · rcases List.mem_append.mp h with h | h
                · exact okDs_get okds _ (List.mem_of_mem_take h)
                · rw [List.mem_singleton.mp h]; exact okd'
              · exact okDs_get okds _ (List.mem_of_mem_drop h)
            · have := ldL_le (ds := ds.take j ++ [d'] ++ ds.drop (j + 1)) (B := ldL ds + 2) fun e he => by
                rcases List.mem_append.mp he with h | h
                · rcases List.mem_append.mp h with h | h
                  · have := ldL_mem (List.mem_of_mem_take h); omega
                  · rw [List.mem_singleton.mp h]; omega
                · have := ldL_mem (List.mem_of_mem_drop h); omega
              simp only [ld]
              omega
            · simp only [sz, szL_app, szL]
              omega
      · rintro σ' H0 ⟨k1, rfl, hk1, W0⟩
        obtain ⟨G0, hG0⟩ : ∃ G0, G0 = G := ⟨G, rfl⟩
        rw [← hG0] at W0 nt q
        refine ⟨by show 2 ≤ sizeLine; decide, fun p1 np1 => ?_⟩
        have b1 : Same G0 (upd G0 p1 (.tup [.int 1, .int 2])) := same_up (W0.same.free np1)
        have W1 := W0.new (o := .tup [.int 1, .int 2]) np1
        have g1 : (upd G0 p1 (.tup [.int 1, .int 2])) p1 = some (.tup [.int 1, .int 2]) := upd_same
        generalize upd G0 p1 (.tup [.int 1, .int 2]) = G1 at b1 W1 g1
        generalize upd H0 p1 (.tup [.int 1, .int 2]) = H1 at W1
        intro p2 np2
        have b2 : Same G1 (upd G1 p2 (.dK [])) := same_up (W1.same.free np2)
        have W2 := W1.new (o := .dK []) np2
        have g2 : (upd G1 p2 (.dK [])) p2 = some (.dK []) := upd_same
        generalize upd G1 p2 (.dK []) = G2 at b2 W2 g2
        generalize upd H1 p2 (.dK []) = H2 at W2
        refine ⟨Nat.zero_le _, fun p3 np3 => ?_⟩
        have b3 : Same G2 (upd G2 p3 (.lst [])) := same_up (W2.same.free np3)
        have W3 := W2.new (o := .lst []) np3
        have g3 : (upd G2 p3 (.lst [])) p3 = some (.lst []) := upd_same
        generalize upd G2 p3 (.lst []) = G3 at b3 W3 g3
        generalize upd H2 p3 (.lst []) = H3 at W3
        refine ⟨_, rfl, by show 1 ≤ sizeLine; decide, fun p4 np4 => ?_⟩
        have b4 : Same G3 (upd G3 p4 (.lst [v])) := same_up (W3.same.free np4)
        have W4 := W3.new (o := .lst [v]) np4
        have g4 : (upd G3 p4 (.lst [v])) p4 = some (.lst [v]) := upd_same
        generalize upd G3 p4 (.lst [v]) = G4 at b4 W4 g4
        generalize upd H3 p4 (.lst [v]) = H4 at W4
        refine ⟨Nat.zero_le _, fun p5 np5 => ?_⟩
        have b5 : Same G4 (upd G4 p5 (.lst [])) := same_up (W4.same.free np5)
        have W5 := W4.new (o := .lst []) np5
        have g5 : (upd G4 p5 (.lst [])) p5 = some (.lst []) := upd_same
        generalize upd G4 p5 (.lst []) = G5 at b5 W5 g5
        generalize upd H4 p5 (.lst []) = H5 at W5
        refine ⟨Nat.zero_le _, fun p6 np6 => ?_⟩
        have b6 : Same G5 (upd G5 p6 (.lst [])) := same_up (W5.same.free np6)
        have W6 := W5.new (o := .lst []) np6
        have g6 : (upd G5 p6 (.lst [])) p6 = some (.lst []) := upd_same
        generalize upd G5 p6 (.lst []) = G6 at b6 W6 g6
        generalize upd H5 p6 (.lst []) = H6 at W6
        refine ⟨by show 2 ≤ sizeLine; decide, fun p7 np7 => ?_⟩
        have b7 : Same G6 (upd G6 p7 (.lst [.ref p5, .ref p6])) := same_up (W6.same.free np7)
        have W7 := W6.new (o := .lst [.ref p5, .ref p6]) np7
        have g7 : (upd G6 p7 (.lst [.ref p5, .ref p6])) p7 = some (.lst [.ref p5, .ref p6]) := upd_same
        generalize upd G6 p7 (.lst [.ref p5, .ref p6]) = G7 at b7 W7 g7
        generalize upd H6 p7 (.lst [.ref p5, .ref p6]) = H7 at W7
        refine ⟨by show 9 ≤ sizeLine; decide, fun p8 np8 => ?_⟩
        have b8 : Same G7 (upd G7 p8 (.lst [.non, .bl true, .str "3", .ref p1, .ref p2, .ref p3, .ref p4, .int 5, .ref p7])) := same_up (W7.same.free np8)
        have W8 := W7.new (o := .lst [.non, .bl true, .str "3", .ref p1, .ref p2, .ref p3, .ref p4, .int 5, .ref p7]) np8
        have g8 : (upd G7 p8 (.lst [.non, .bl true, .str "3", .ref p1, .ref p2, .ref p3, .ref p4, .int 5, .ref p7])) p8 = some (.lst [.non, .bl true, .str "3", .ref p1, .ref p2, .ref p3, .ref p4, .int 5, .ref p7]) := upd_same
        generalize upd G7 p8 (.lst [.non, .bl true, .str "3", .ref p1, .ref p2, .ref p3, .ref p4, .int 5, .ref p7]) = G8 at b8 W8 g8
        generalize upd H7 p8 (.lst [.non, .bl true, .str "3", .ref p1, .ref p2, .ref p3, .ref p4, .int 5, .ref p7]) = H8 at W8
        have b78 := b8
        have b68 := b7.trans b78
        have b58 := b6.trans b68
        have b48 := b5.trans b58
        have b38 := b4.trans b48
        have b28 := b3.trans b38
        have b18 := b2.trans b28
        have b08 := b1.trans b18
        have hz0 : 1 ≤ sz d := by cases d <;> simp [sz]
        have nt8 := ntUp b08 nt
        have all8 : ∀ y ∈ ([.non, .bl true, .str "3", .ref p1, .ref p2, .ref p3, .ref p4, .int 5, .ref p7] : List V), Gd G8 d y := by
          intro y hy
          simp only [List.mem_cons, List.not_mem_nil, or_false] at hy
          rcases hy with rfl | rfl | rfl | rfl | rfl | rfl | rfl | rfl | rfl
          · exact ⟨_, .non, .non, by simp [ld], by simp [sz]⟩
          · exact ⟨_, .bl true, .bl true, by simp [ld], by simp [sz]⟩
          · exact ⟨_, .str _, .str, by simp [ld], by simp [sz]⟩
          · exact ⟨_, .tup (b18 _ _ g1) (.cons (.int 1) (.cons (.int 2) .nil)), .tup, by simp [ld], by simp [sz, szL]⟩
          · exact ⟨_, .dk (b28 _ _ g2), .dict, by simp [ld], by simp [sz]⟩
          · exact ⟨_, .lst (b38 _ _ g3) .nil, .list .nil, by simp [ld, ldL], by simp [sz, szL]⟩
          · exact ⟨_, .lst (b48 _ _ g4) (.cons nt8 .nil), .list (.cons okd .nil), by simp only [ld, ldL]; omega, by simp only [sz, szL]; omega⟩
          · exact ⟨_, .int 5, .int ⟨by decide, by decide⟩, by simp [ld], by simp [sz]⟩
          · exact ⟨_, .lst (b78 _ _ g7) (.cons (.lst (b58 _ _ g5) .nil) (.cons (.lst (b68 _ _ g6) .nil) .nil)), .list (.cons (.list .nil) (.cons (.list .nil) .nil)), by simp only [ld, ldL]; omega, by simp only [sz, szL]; omega⟩
        -- if isinstance(thing, list)
        refine ⟨fun σ' H' => ∃ (G' : Hp) (s : Addr) (ys : List V), σ' = [some (.ref f), some v, none, some (.ref s)] ∧ Same G0 G' ∧ Wo G' H' f c k1 ∧ G' s = some (.lst ys) ∧ (∀ y ∈ ys, Gd G' d y) ∧ 0 < ys.length ∧ ys.length < 100, ?_, ?_⟩
        · have ntH := ntUp W8.same nt8
          by_cases hL : ∃ ds, d = .list ds
          rotate_left
          · have hL : ∀ ds, d ≠ .list ds := fun ds e => hL ⟨ds, e⟩
            refine ⟨_, rfl, _, _, _, _, false, rfl, .ty "list", ntH.ty, noList hL, false, rfl, ?_⟩
            exact ⟨G8, p8, _, rfl, b08, W8, g8, all8, by show 0 < 9; decide, by show 9 < 100; decide⟩
          · obtain ⟨ds, rfl⟩ := hL
            cases nt with
            | @lst a xs _ ha hv =>
              have ha8 := b08 _ _ ha
              have hxl : xs.length = ds.length := ntLen hv
              have hdl := szL_len ds
              have okds : OkDs ds := by cases okd with | list o => exact o
              simp only [sz] at hsz
              refine ⟨_, rfl, _, _, _, _, true, rfl, .ty "list", ntH.ty, rfl, true, rfl, ?_⟩
              refine ⟨_, rfl, _, rfl, by show 1 ≤ sizeLine; decide, fun p9 np9 => ?_⟩
              have b9 : Same G8 (upd G8 p9 (.lst [.int 1])) := same_up (W8.same.free np9)
              have W9 := W8.new (o := .lst [.int 1]) np9
              have g9 : (upd G8 p9 (.lst [.int 1])) p9 = some (.lst [.int 1]) := upd_same
              generalize upd G8 p9 (.lst [.int 1]) = G9 at b9 W9 g9
              generalize upd H8 p9 (.lst [.int 1]) = H9 at W9
              refine ⟨a, p9, _, _, rfl, rfl, W9.same _ _ (b9 _ _ ha8), W9.same _ _ g9, by rw [sizeLine_eq]; show _ + 1 ≤ _; omega, fun p10 np10 => ?_⟩
              have b10 : Same G9 (upd G9 p10 (.lst (xs ++ [.int 1]))) := same_up (W9.same.free np10)
              have W10 := W9.new (o := .lst (xs ++ [.int 1])) np10
              have g10 : (upd G9 p10 (.lst (xs ++ [.int 1]))) p10 = some (.lst (xs ++ [.int 1])) := upd_same
              generalize upd G9 p10 (.lst (xs ++ [.int 1])) = G10 at b10 W10 g10
              generalize upd H9 p10 (.lst (xs ++ [.int 1])) = H10 at W10
              have ha10 := b10 _ _ (b9 _ _ ha8)
              refine ⟨_, rfl, 1, rfl, a, _, rfl, ofL (W10.same _ _ ha10), fun p11 np11 => ?_⟩
              rw [show (1 : Int) = ((1 : Nat) : Int) from rfl, cutV_from]
              have b11 : Same G10 (upd G10 p11 (.lst (xs.drop 1))) := same_up (W10.same.free np11)
              have W11 := W10.new (o := .lst (xs.drop 1)) np11
              have g11 : (upd G10 p11 (.lst (xs.drop 1))) p11 = some (.lst (xs.drop 1)) := upd_same
              generalize upd G10 p11 (.lst (xs.drop 1)) = G11 at b11 W11 g11
              generalize upd H10 p11 (.lst (xs.drop 1)) = H11 at W11
              have ha11 := b11 _ _ ha10
              refine ⟨_, rfl, _, rfl, 1, rfl, a, _, rfl, ofL (W11.same _ _ ha11), fun p12 np12 => ?_⟩
              rw [show (1 : Int) = ((1 : Nat) : Int) from rfl, cutV_to]
              have b12 : Same G11 (upd G11 p12 (.lst (xs.take 1))) := same_up (W11.same.free np12)
              have W12 := W11.new (o := .lst (xs.take 1)) np12
              have g12 : (upd G11 p12 (.lst (xs.take 1))) p12 = some (.lst (xs.take 1)) := upd_same
              generalize upd G11 p12 (.lst (xs.take 1)) = G12 at b12 W12 g12
              generalize upd H11 p12 (.lst (xs.take 1)) = H12 at W12
              have ha12 := b12 _ _ ha11
              refine ⟨a, p12, _, _, rfl, rfl, W12.same _ _ ha12, W12.same _ _ g12, by rw [List.length_take, sizeLine_eq]; omega, fun p13 np13 => ?_⟩
              have b13 : Same G12 (upd G12 p13 (.lst (xs ++ xs.take 1))) := same_up (W12.same.free np13)
              have W13 := W12.new (o := .lst (xs ++ xs.take 1)) np13
              have g13 : (upd G12 p13 (.lst (xs ++ xs.take 1))) p13 = some (.lst (xs ++ xs.take 1)) := upd_same
              generalize upd G12 p13 (.lst (xs ++ xs.take 1)) = G13 at b13 W13 g13
              generalize upd H12 p13 (.lst (xs ++ xs.take 1)) = H13 at W13
              have ha13 := b13 _ _ ha12
              refine ⟨_, rfl, a, _, rfl, ofL (W13.same _ _ ha13), fun p14 np14 => ?_⟩
              have b14 : Same G13 (upd G13 p14 (.lst xs.reverse)) := same_up (W13.same.free np14)
              have W14 := W13.new (o := .lst xs.reverse) np14
              have g14 : (upd G13 p14 (.lst xs.reverse)) p14 = some (.lst xs.reverse) := upd_same
              generalize upd G13 p14 (.lst xs.reverse) = G14 at b14 W14 g14
              generalize upd H13 p14 (.lst xs.reverse) = H14 at W14
              refine ⟨by show 4 ≤ sizeLine; decide, fun p15 np15 => ?_⟩
              have b15 : Same G14 (upd G14 p15 (.lst [.ref p10, .ref p11, .ref p13, .ref p14])) := same_up (W14.same.free np15)
              have W15 := W14.new (o := .lst [.ref p10, .ref p11, .ref p13, .ref p14]) np15
              have g15 : (upd G14 p15 (.lst [.ref p10, .ref p11, .ref p13, .ref p14])) p15 = some (.lst [.ref p10, .ref p11, .ref p13, .ref p14]) := upd_same
              generalize upd G14 p15 (.lst [.ref p10, .ref p11, .ref p13, .ref p14]) = G15 at b15 W15 g15
              generalize upd H14 p15 (.lst [.ref p10, .ref p11, .ref p13, .ref p14]) = H15 at W15
              have c14 := b15
              have c13 := b14.trans c14
              have c12 := b13.trans c13
              have c11 := b12.trans c12
              have c10 := b11.trans c11
              have c9 := b10.trans c10
              have c8 := b9.trans c9
              refine ⟨p8, p15, _, _, rfl, rfl, W15.same _ _ (c8 _ _ g8), W15.same _ _ g15, by show 9 + 4 ≤ sizeLine; decide, fun p16 np16 => ?_⟩
              have b16 : Same G15 (upd G15 p16 (.lst ([.non, .bl true, .str "3", .ref p1, .ref p2, .ref p3, .ref p4, .int 5, .ref p7] ++ [.ref p10, .ref p11, .ref p13, .ref p14]))) := same_up (W15.same.free np16)
              have W16 := W15.new (o := .lst ([.non, .bl true, .str "3", .ref p1, .ref p2, .ref p3, .ref p4, .int 5, .ref p7] ++ [.ref p10, .ref p11, .ref p13, .ref p14])) np16
              have g16 : (upd G15 p16 (.lst ([.non, .bl true, .str "3", .ref p1, .ref p2, .ref p3, .ref p4, .int 5, .ref p7] ++ [.ref p10, .ref p11, .ref p13, .ref p14]))) p16 = some (.lst ([.non, .bl true, .str "3", .ref p1, .ref p2, .ref p3, .ref p4, .int 5, .ref p7] ++ [.ref p10, .ref p11, .ref p13, .ref p14])) := upd_same
              generalize upd G15 p16 (.lst ([.non, .bl true, .str "3", .ref p1, .ref p2, .ref p3, .ref p4, .int 5, .ref p7] ++ [.ref p10, .ref p11, .ref p13, .ref p14])) = G16 at b16 W16 g16
              generalize upd H15 p16 (.lst ([.non, .bl true, .str "3", .ref p1, .ref p2, .ref p3, .ref p4, .int 5, .ref p7] ++ [.ref p10, .ref p11, .ref p13, .ref p14])) = H16 at W16
              have hv16 := ntUps (b08.trans (c8.trans b16)) hv
              have l1 : ∀ e ∈ ds, ld e ≤ ldL ds := fun e he => ldL_mem he
              refine ⟨G16, p16, _, rfl, b08.trans (c8.trans b16), W16, g16, fun y hy => ?_, by show 0 < 13; decide, by show 13 < 100; decide⟩
              rcases List.mem_append.mp hy with hy | hy
              · exact (all8 y hy).up (c8.trans b16)
              · simp only [List.mem_cons, List.not_mem_nil, or_false] at hy
                rcases hy with rfl | rfl | rfl | rfl
                · refine ⟨.list (ds ++ [.int 1]), .lst (b16 _ _ (c10 _ _ g10)) (ntApp hv16 (.cons (.int 1) .nil)), .list (okDs_app okds (.cons (.int ⟨by decide, by decide⟩) .nil)), ?_, ?_⟩
                  · have := ldL_le (ds := ds ++ [.int 1]) (B := ldL ds) fun e he => by
                      rcases List.mem_append.mp he with h | h
                      · exact l1 e h
                      · rw [List.mem_singleton.mp h]; simp [ld]
                    simp only [ld]; omega
                  · simp only [sz, szL_app, szL]; omega
                · refine ⟨.list (ds.drop 1), .lst (b16 _ _ (c11 _ _ g11)) (ntDrop hv16 1), .list (okDs_mem fun e he => okDs_get okds _ (List.mem_of_mem_drop he)), ?_, ?_⟩
                  · have := ldL_le (ds := ds.drop 1) (B := ldL ds) fun e he => l1 e (List.mem_of_mem_drop he)
                    simp only [ld]; omega
                  · have := szL_sub (List.drop_sublist 1 ds)
                    simp only [sz]; omega
                · refine ⟨.list (ds ++ ds.take 1), .lst (b16 _ _ (c13 _ _ g13)) (ntApp hv16 (ntTake hv16 1)), .list (okDs_app okds (okDs_mem fun e he => okDs_get okds _ (List.mem_of_mem_take he))), ?_, ?_⟩
                  · have := ldL_le (ds := ds ++ ds.take 1) (B := ldL ds) fun e he => by
                      rcases List.mem_append.mp he with h | h
                      · exact l1 e h
                      · exact l1 e (List.mem_of_mem_take h)
                    simp only [ld]; omega
                  · have := szL_sub (List.take_sublist 1 ds)
                    simp only [sz, szL_app]; omega
                · refine ⟨.list ds.reverse, .lst (b16 _ _ (c14 _ _ g14)) (ntRev hv16), .list (okDs_mem fun e he => okDs_get okds _ (List.mem_reverse.mp he)), ?_, ?_⟩
                  · have := ldL_le (ds := ds.reverse) (B := ldL ds) fun e he => l1 e (List.mem_reverse.mp he)
                    simp only [ld]; omega
                  · simp only [sz, szL_rev]; omega
        · rintro σ' H9 ⟨G', s, ys, rfl, sG, W9, hs9, hys, y0, y1⟩
          refine ⟨_, rfl, _, rfl, G', f, c, k1, _, ys, rfl, ⟨s, rfl, ofL hs9⟩, y0, by omega, W9, by omega, fun y H10 hy W10 => ?_⟩
          obtain ⟨d', n', o', l', z'⟩ := hys y hy
          exact q y d' G' H10 sG (W10.mono (by omega)) n' o' l' z'
end
end Cr

namespace Cr
open PySem L2
section
variable {P : Program} {w : World} {K : PySem.W.Frag} {mg : Str → Option Value} {base : Heap}
/-! ### _law_deep -/
def spDeep (m : Nat) : Sp := fun vs H Q _ => ∃ (v : V) (d : PyData), vs = [v] ∧ Nt H v d ∧ ld d < m ∧ sz d ≤ 100000 ∧ ∀ H', Same H H' → Q (.int (ld d : Nat)) H'
theorem ok__law_deep (T : Tx K mg) : ∀ m, FnOk P w K mg base CX0 (m + 1) T._law_deep.f T._law_deep.fd ["_law_thing"] (spDeep m)
  | 0 => by
    refine T._law_deep.F.ok sc__law_deep (fun vs H Q E h => ?_) (fun cdv A outer s H vs Q E hr h => ?_)
    · obtain ⟨v, d, rfl, _⟩ := h
      rfl
    · obtain ⟨v, d, rfl, _, h, _⟩ := h
      omega
  | m + 1 => by
    have ih := ok__law_deep T m
    refine T._law_deep.F.ok (k := m + 1) sc__law_deep (fun vs H Q E h => ?_) (fun cdv A outer s H vs Q E hr h => ?_)
    · obtain ⟨v, d, rfl, _⟩ := h
      rfl
    · obtain ⟨v, d, rfl, nt, hm, hsz, q⟩ := h
      refine ⟨_, (pss_cons (ps_if (pt_not (pt_val (pe_callB call_isi (by rfl) T.b_isinstance (by decide +kernel) (pa_cons (pv 0) (pa_cons (pe_bltn (v := V.ty "list") (by rfl) T.b_list (by decide +kernel) rfl) pa_nil)))))
 (pss_one (ps_ret pe_int))
 pss_nil)
 (pss_one (ps_ret (pe_op op_add pe_int (pe_callBK (cr_maxD rfl) (by rfl) T.b_max (by decide +kernel) (pa_cons (pe_lc (own := [("_law_one", 1)]) (g := gName 1) (by rfl) sc__law_deep.nd (pi_list (pv 0)) (blkOk_by (own := [("_law_one", 1)]) (N := N__law_deep) (sc := defScope s__law_deep) (by decide +kernel)) (fun _ _ _ _ _ => (pg_name (i := 1) sc__law_deep.nd rfl (Or.inl rfl))) (fun _ _ _ _ _ => pts_nil) (fun _ _ _ _ _ => (pe_call ih hr (by rfl) T._law_deep.mg T._law_deep.F.kp T._law_deep.b .nil pass0 (pa_cons (pv 1) pa_nil)))) pa_nil) (pk_cons pe_int pk_nil)))))), ?_⟩
      by_cases hL : ∃ ds, d = .list ds
      rotate_left
      · have hL : ∀ ds, d ≠ .list ds := fun ds e => hL ⟨ds, e⟩
        refine ⟨_, rfl, _, _, _, _, false, rfl, .ty "list", nt.ty, noList hL, false, rfl, ?_⟩
        have : ld d = 0 := by
          cases d with
          | list ds => exact absurd rfl (hL ds)
          | _ => simp [ld]
        rw [this] at q
        exact q H (Same.refl _)
      · obtain ⟨ds, rfl⟩ := hL
        cases id nt with
        | @lst a xs _ ha hv =>
          have hxl : xs.length = ds.length := ntLen hv
          have hdl := szL_len ds
          simp only [sz] at hsz
          simp only [ld] at hm q
          refine ⟨_, rfl, _, _, _, _, true, rfl, .ty "list", nt.ty, rfl, true, rfl, ?_⟩
          refine ⟨_, rfl, a, rfl, ⟨_, ofL ha⟩, fun D nD => ?_⟩
          refine lc_list (K := K) (a := a) (xs := xs) (fun i J => Same H J ∧ J D = some (.lst ((ds.take i).map fun d => V.int (ld d : Nat)))) ⟨same_up nD, upd_same⟩ (fun i J _ ⟨a1, _⟩ => ofL (a1 _ _ ha)) ?_ ?_
          · rintro i x J hi ⟨sJ, hD⟩
            obtain ⟨di, edi, ndi⟩ := ntGet hv hi
            have hdi := List.mem_of_getElem? edi
            have l1 := ldL_mem hdi
            have l2 := szL_mem hdi
            refine ⟨rfl, _, rfl, x, di, rfl, ntUp sJ ndi, by omega, by omega, fun J2 s2 => ?_⟩
            have hil : i < ds.length := (List.getElem?_eq_some_iff.mp edi).1
            refine ⟨_, s2 _ _ hD, by rw [List.length_map, List.length_take, sizeLine_eq]; omega, fun b o e => by rw [upd_ne (ne_of_none e nD)]; exact s2 _ _ (sJ _ _ e), ?_⟩
            rw [upd_same, List.take_add_one, edi]
            simp
          · rintro J ⟨sJ, hD⟩
            rw [hxl, List.take_length] at hD
            have eD : (ds.map fun d => V.int (ld d : Nat)) = (ds.map fun d => ((ld d : Nat) : Int)).map V.int := by rw [List.map_map]; rfl
            rw [eD] at hD
            refine ⟨D, _, _, rfl, rfl, ofL hD, fun e => ?_, fun mx hmx hall => ?_⟩
            · have e2 : ds = [] := by simpa using e
              subst e2
              exact ⟨_, _, rfl, rfl, by simpa [ldL] using q J sJ⟩
            · obtain ⟨dm, hdm, rfl⟩ := List.mem_map.mp hmx
              have e3 : ldL ds = ld dm := by
                have h1 := ldL_mem hdm
                have h2 := ldL_le (ds := ds) (B := ld dm) fun e he => by
                  have := hall _ (List.mem_map.mpr ⟨e, he, rfl⟩)
                  omega
                omega
              refine ⟨_, _, rfl, rfl, ?_⟩
              rw [e3] at q
              have := q J sJ
              rwa [show ((1 + ld dm : Nat) : Int) = 1 + ((ld dm : Nat) : Int) by omega] at this
end
end Cr

namespace Cr
open PySem L2
/-- a shape, or none so far -/
def ShV (G : Hp) (o : Option (List Int)) (x : V) : Prop := (o = none ∧ x = .non) ∨ ∃ (sh : List Int) (sa : Addr), o = some sh ∧ x = .ref sa ∧ G sa = some (.tup (sh.map V.int))
theorem ShV.up {G G' : Hp} {o : Option (List Int)} {x : V} (h : ShV G o x) (s : Same G G') : ShV G' o x := by
  rcases h with h | ⟨sh, sa, a, b, c⟩
  · exact .inl h
  · exact .inr ⟨sh, sa, a, b, s _ _ c⟩
theorem noInt2 {K : PySem.W.Frag} {d : PyData} (h : ∀ i, d ≠ .int i) (h2 : ∀ b, d ≠ .bool b) : PySem.W.kitOne K (.type (tyN d)) (.type "int") = some false := by
  cases d with
  | int i => exact absurd rfl (h i)
  | bool i => exact absurd rfl (h2 i)
  | _ => rfl
section
variable {P : Program} {w : World} {K : PySem.W.Frag} {mg : Str → Option Value} {base : Heap}
/-! ### _law_look -/
def spLook (m : Nat) : Sp := fun vs H Q _ => ∃ (v : V) (d : PyData) (a : Addr) (ats : List Int), vs = [v, .ref a] ∧ Nt H v d ∧ H a = some (.tup (ats.map V.int)) ∧ ld d < m ∧ sz d ≤ 100000 ∧ ats.length + ld d ≤ 1000 ∧
  (∀ sh cs, lookD d ats = .inr (sh, cs) → ∀ (r sa ca : Addr) (H' : Hp), Same H H' → H' r = some (.tup [.str "good", .ref sa, .ref ca]) → H' sa = some (.tup (sh.map V.int)) → H' ca = some (.lst (cs.map V.int)) → Q (.ref r) H') ∧
  (∀ p, lookD d ats = .inl p → ∀ (r pa ca : Addr) (H' : Hp), Same H H' → H' r = some (.tup [.str "bad", .ref pa, .ref ca]) → H' pa = some (.tup (p.map V.int)) → Q (.ref r) H')
theorem ok__law_look (T : Tx K mg) : ∀ m, FnOk P w K mg base CX0 (m + 1) T._law_look.f T._law_look.fd ["_law_thing", "_law_at"] (spLook m)
  | 0 => by
    refine T._law_look.F.ok sc__law_look (fun vs H Q E h => ?_) (fun cdv A outer s H vs Q E hr h => ?_)
    · obtain ⟨v, d, a, ats, rfl, _⟩ := h
      rfl
    · obtain ⟨v, d, a, ats, rfl, _, _, h, _⟩ := h
      omega
  | m + 1 => by
    have ih := ok__law_look T m
    refine T._law_look.F.ok (k := m + 1) sc__law_look (fun vs H Q E h => ?_) (fun cdv A outer s H vs Q E hr h => ?_)
    · obtain ⟨v, d, a, ats, rfl, _⟩ := h
      rfl
    · obtain ⟨v, d, a, ats, rfl, nt, ha, hm, hsz, hal, q1, q2⟩ := h
      refine ⟨_, (pss_cons (ps_if (PW.pt (pw_and (pt_val (pe_callB call_isi (by rfl) T.b_isinstance (by decide +kernel) (pa_cons (pv 0) (pa_cons (pe_bltn (v := V.ty "int") (by rfl) T.b_int (by decide +kernel) rfl) pa_nil)))) (pw_and1 (pt_not (pt_val (pe_callB call_isi (by rfl) T.b_isinstance (by decide +kernel) (pa_cons (pv 0) (pa_cons (pe_bltn (v := V.ty "bool") (by rfl) T.b_bool (by decide +kernel) rfl) pa_nil))))))))
 (pss_one (ps_ret (pe_tup (pa_cons pe_str (pa_cons (pe_tup pa_nil) (pa_cons (pe_lst (pa_cons (pv 0) pa_nil)) pa_nil))))))
 pss_nil)
 (pss_cons (ps_if (pt_not (pt_val (pe_callB call_isi (by rfl) T.b_isinstance (by decide +kernel) (pa_cons (pv 0) (pa_cons (pe_bltn (v := V.ty "list") (by rfl) T.b_list (by decide +kernel) rfl) pa_nil)))))
 (pss_one (ps_ret (pe_tup (pa_cons pe_str (pa_cons (pv 1) (pa_cons (pe_lst pa_nil) pa_nil))))))
 pss_nil)
 (pss_cons (ps_par (i := 2) (j := 3) (by rfl) sc__law_look.nd rfl rfl (by decide) rfl rfl (pa_cons pe_non (pa_cons (pe_lst pa_nil) pa_nil)) (by rfl))
 (pss_cons (ps_for PassesOwn.never rfl (pi_range1 (by rfl) T.b_range (pa_cons (pe_callB call_len_seq (by rfl) T.b_len (by decide +kernel) (pa_cons (pv 0) pa_nil)) pa_nil)) (pg_name (i := 4) sc__law_look.nd rfl (Or.inl rfl))
 (pss_cons (ps_set (i := 5) sc__law_look.nd rfl (Or.inl rfl) (pe_call ih hr (by rfl) T._law_look.mg T._law_look.F.kp T._law_look.b .nil pass0 (pa_cons (pe_ix ix_list (pv 0) (pv 4) (fun _ _ => rfl)) (pa_cons (pe_op op_catU (pv 1) (pe_tup (pa_cons (pv 4) pa_nil))) pa_nil))))
 (pss_cons (ps_if (pt_cmpR op_eq (pe_ix ix_tup (pv 5) pe_int (fun _ _ => rfl)) pe_str (nomark _))
 (pss_one (ps_ret (pv 5)))
 pss_nil)
 (pss_cons (ps_if (PW.pt (pw_and (pt_cmpR op_notN (pv 2) pe_non (nomark _)) (pw_and1 (pt_cmpR (op_neD hr.units) (pe_ix ix_tup (pv 5) pe_int (fun _ _ => rfl)) (pv 2) (nomark _)))))
 (pss_one (ps_ret (pe_tup (pa_cons pe_str (pa_cons (pe_op op_catU (pv 1) (pe_tup (pa_cons (pv 4) pa_nil))) (pa_cons (pe_lst pa_nil) pa_nil))))))
 pss_nil)
 (pss_cons (ps_set (i := 2) sc__law_look.nd rfl (Or.inl rfl) (pe_ix ix_tup (pv 5) pe_int (fun _ _ => rfl)))
 (pss_one (ps_expr (pe_bm PySem.F.plainAttrs_list PySem.F.slot_list_extend PySem.F.type_list_extend mt_extend (pv 3) (pa_cons (pe_ix ix_tup (pv 5) pe_int (fun _ _ => rfl)) pa_nil)))))))))
 (pss_one (ps_ret (pe_tup (pa_cons pe_str (pa_cons (pe_op op_catU (pe_tup (pa_cons (pe_callB call_len_seq (by rfl) T.b_len (by decide +kernel) (pa_cons (pv 0) pa_nil)) pa_nil)) (pe_orT (pv 2) (pe_one (pe_tup pa_nil)))) (pa_cons (pv 3) pa_nil)))))))))), ?_⟩
      by_cases hi : ∃ i, d = .int i
      · obtain ⟨i, rfl⟩ := hi
        cases id nt
        refine ⟨_, rfl, _, _, _, _, true, rfl, .ty "int", nt.ty, rfl, true, rfl, ?_⟩
        refine ⟨_, rfl, _, _, _, _, false, rfl, .ty "bool", nt.ty, rfl, false, rfl, ?_⟩
        refine ⟨Nat.zero_le _, fun p1 np1 => ?_⟩
        have s1 : Same H (upd H p1 (.tup [])) := same_up np1
        have h1 : (upd H p1 (.tup [])) p1 = some (.tup []) := upd_same
        generalize upd H p1 (.tup []) = H1 at s1 h1
        refine ⟨_, rfl, by show 1 ≤ sizeLine; decide, fun p2 np2 => ?_⟩
        have s2 : Same H1 (upd H1 p2 (.lst [.int i])) := same_up np2
        have h2 : (upd H1 p2 (.lst [.int i])) p2 = some (.lst [.int i]) := upd_same
        generalize upd H1 p2 (.lst [.int i]) = H2 at s2 h2
        refine ⟨by show 3 ≤ sizeLine; decide, fun p3 np3 => ?_⟩
        have s3 : Same H2 (upd H2 p3 (.tup [.str "good", .ref p1, .ref p2])) := same_up np3
        have h3 : (upd H2 p3 (.tup [.str "good", .ref p1, .ref p2])) p3 = some (.tup [.str "good", .ref p1, .ref p2]) := upd_same
        generalize upd H2 p3 (.tup [.str "good", .ref p1, .ref p2]) = H3 at s3 h3
        exact q1 [] [i] (by simp [lookD]) p3 p1 p2 H3 (s1.trans (s2.trans s3)) h3 (s3 _ _ (s2 _ _ h1)) (s3 _ _ h2)
      · have hi : ∀ i, d ≠ .int i := fun i e => hi ⟨i, e⟩
        have bad : ∀ (hL : ∀ ds, d ≠ .list ds), lookD d ats = .inl ats := fun hL => by
          cases d with
          | list ds => exact absurd rfl (hL ds)
          | int i => exact absurd rfl (hi i)
          | _ => simp only [lookD]
        by_cases hB : ∃ b, d = .bool b
        · obtain ⟨b, rfl⟩ := hB
          refine ⟨_, rfl, _, _, _, _, true, rfl, .ty "int", nt.ty, rfl, true, rfl, ?_⟩
          refine ⟨_, rfl, _, _, _, _, true, rfl, .ty "bool", nt.ty, rfl, true, rfl, ?_⟩
          refine ⟨_, rfl, _, _, _, _, false, rfl, .ty "list", nt.ty, rfl, false, rfl, ?_⟩
          refine ⟨_, rfl, Nat.zero_le _, fun p1 np1 => ?_⟩
          have s1 : Same H (upd H p1 (.lst [])) := same_up np1
          have h1 : (upd H p1 (.lst [])) p1 = some (.lst []) := upd_same
          generalize upd H p1 (.lst []) = H1 at s1 h1
          refine ⟨by show 3 ≤ sizeLine; decide, fun p2 np2 => ?_⟩
          have s2 : Same H1 (upd H1 p2 (.tup [.str "bad", .ref a, .ref p1])) := same_up np2
          have h2 : (upd H1 p2 (.tup [.str "bad", .ref a, .ref p1])) p2 = some (.tup [.str "bad", .ref a, .ref p1]) := upd_same
          generalize upd H1 p2 (.tup [.str "bad", .ref a, .ref p1]) = H2 at s2 h2
          exact q2 ats (bad fun ds e => nomatch e) p2 a p1 H2 (s1.trans s2) h2 (s2 _ _ (s1 _ _ ha))
        · have hB : ∀ b, d ≠ .bool b := fun b e => hB ⟨b, e⟩
          refine ⟨_, rfl, _, _, _, _, false, rfl, .ty "int", nt.ty, noInt2 hi hB, false, rfl, ?_⟩
          by_cases hL : ∃ ds, d = .list ds
          rotate_left
          · have hL : ∀ ds, d ≠ .list ds := fun ds e => hL ⟨ds, e⟩
            refine ⟨_, rfl, _, _, _, _, false, rfl, .ty "list", nt.ty, noList hL, false, rfl, ?_⟩
            refine ⟨_, rfl, Nat.zero_le _, fun p1 np1 => ?_⟩
            have s1 : Same H (upd H p1 (.lst [])) := same_up np1
            have h1 : (upd H p1 (.lst [])) p1 = some (.lst []) := upd_same
            generalize upd H p1 (.lst []) = H1 at s1 h1
            refine ⟨by show 3 ≤ sizeLine; decide, fun p2 np2 => ?_⟩
            have s2 : Same H1 (upd H1 p2 (.tup [.str "bad", .ref a, .ref p1])) := same_up np2
            have h2 : (upd H1 p2 (.tup [.str "bad", .ref a, .ref p1])) p2 = some (.tup [.str "bad", .ref a, .ref p1]) := upd_same
            generalize upd H1 p2 (.tup [.str "bad", .ref a, .ref p1]) = H2 at s2 h2
            exact q2 ats (bad hL) p2 a p1 H2 (s1.trans s2) h2 (s2 _ _ (s1 _ _ ha))
          · obtain ⟨ds, rfl⟩ := hL
            cases id nt with
            | @lst va xs _ hva hv =>
              have hxl : xs.length = ds.length := ntLen hv
              have hdl := szL_len ds
              simp only [sz] at hsz
              simp only [ld] at hm hal
              simp only [lookD] at q1 q2
              refine ⟨_, rfl, _, _, _, _, true, rfl, .ty "list", nt.ty, rfl, true, rfl, ?_⟩
              refine ⟨Nat.zero_le _, fun p np => ?_⟩
              have s1 : Same H (upd H p (.lst [])) := same_up np
              have h1 : (upd H p (.lst [])) p = some (.lst (([] : List Int).map V.int)) := upd_same
              generalize hH1 : upd H p (.lst []) = H1 at s1 h1
              have hp0 : H p = none := np
              refine ⟨_, _, rfl, _, rfl, va, _, rfl, .inl (ofL (s1 _ _ hva)), _, rfl, by omega, by omega, ?_⟩
              refine for_range (lo := 0) (n := ((xs.length : Nat) : Int).toNat) (fun i σ J => ∃ x v4 v5, σ = [some (.ref va), some (.ref a), some x, some (.ref p), v4, v5] ∧ ∃ (G : Hp) (o : Option (List Int)) (acc : List Int), Same H G ∧ Same G J ∧ G p = none ∧ J p = some (.lst (acc.map V.int)) ∧ ShV G o x ∧ lookL ds ats 0 none [] = lookL (ds.drop i) ats i o acc ∧ acc.length ≤ szL (ds.take i) ∧ ∀ sh, o = some sh → sh.length ≤ ldL ds)
                ⟨_, none, none, rfl, H, none, [], Same.refl _, s1, np, h1, .inl ⟨rfl, rfl⟩, rfl, Nat.zero_le _, fun sh e => (nomatch e)⟩ ?_ ?_
              · rintro i σ J hi ⟨x, v4, v5, rfl, G, o, acc, sG, sJ, gp, hp, hx, hlk, hacc, hol⟩
                have hi : i < ds.length := by omega
                have hix : i < xs.length := by omega
                obtain ⟨di, edi, ndi⟩ := ntGet hv (List.getElem?_eq_getElem hix)
                have hdi := List.mem_of_getElem? edi
                have l1 := ldL_mem hdi
                have l2 := szL_mem hdi
                have sHJ := sG.trans sJ
                have hdr : ds.drop i = di :: ds.drop (i + 1) := by
                  rw [List.drop_eq_getElem_cons hi]
                  rw [List.getElem?_eq_getElem hi] at edi
                  rw [Option.some.inj edi]
                rw [hdr] at hlk
                simp only [lookL] at hlk
                -- found = look(thing[k], at + (k,))
                refine ⟨_, rfl, _, rfl, va, _, _, _, rfl, rfl, ofL (sHJ _ _ hva), at_of' (j := i) (by omega) (List.getElem?_eq_getElem hix), ?_⟩
                refine ⟨_, rfl, _, rfl, by show 1 ≤ sizeLine; decide, fun p2 np2 => ?_⟩
                rw [show (0 + (i : Int)) = (i : Int) by omega] at *
                have s2 : Same J (upd J p2 (.tup [.int (i : Int)])) := same_up np2
                have h2 : (upd J p2 (.tup [.int (i : Int)])) p2 = some (.tup [.int (i : Int)]) := upd_same
                generalize upd J p2 (.tup [.int (i : Int)]) = H2 at s2 h2
                refine ⟨a, p2, _, _, rfl, rfl, s2 _ _ (sHJ _ _ ha), h2, by rw [List.length_map, sizeLine_eq]; show ats.length + 1 ≤ _; omega, fun tp H3 s3 htp => ?_⟩
                have htp : H3 tp = some (.tup ((ats ++ [(i : Int)]).map V.int)) := by rw [htp, List.map_append]; rfl
                have s23 := s2.trans s3
                have sH3 := sHJ.trans s23
                refine ⟨_, di, tp, _, rfl, ntUp sH3 ndi, htp, by omega, by omega, by rw [List.length_append]; show ats.length + 1 + _ ≤ 1000; omega, fun sh1 cs1 e r sa ca H4 s4 hr4 hsa hca => ?_, fun pb e r pa ca H4 s4 hr4 hpa => ?_⟩
                · rw [e] at hlk
                  simp only at hlk
                  refine ⟨_, rfl, r, _, 0, .str "good", rfl, rfl, ofT hr4, at_of' (j := 0) rfl rfl, ?_⟩
                  refine ⟨rfl, _, rfl, ?_⟩
                  refine ite2 (fun c => absurd c (by decide +kernel)) (fun _ => ?_)
                  have sJ4 := s23.trans s4
                  have hp4 := sJ4 _ _ hp
                  have gr := look_ok e
                  have grc := gr.cells
                  have grl := gr.len
                  have nsp : sa ≠ p := ne_of hsa hp4 (by intro z; cases z)
                  have hst : szL (ds.take (i + 1)) = szL (ds.take i) + sz di := by
                    rw [List.take_add_one, edi, szL_app]
                    simp [szL]
                  have hsl : szL (ds.take (i + 1)) ≤ szL ds := szL_sub (List.take_sublist _ _)
                  have hlen : (acc.map V.int).length + (cs1.map V.int).length ≤ sizeLine := by rw [List.length_map, List.length_map, sizeLine_eq]; omega
                  have fin : fits o sh1 = true → ∃ x' v4 v5, ([some (.ref va), some (.ref a), some (.ref sa), some (.ref p), some (.int (i : Int)), some (.ref r)] : L2.St) = [some (.ref va), some (.ref a), some x', some (.ref p), v4, v5] ∧ ∃ (G : Hp) (o : Option (List Int)) (acc' : List Int), Same H G ∧ Same G (upd H4 p (.lst (acc.map V.int ++ cs1.map V.int))) ∧ G p = none ∧ (upd H4 p (.lst (acc.map V.int ++ cs1.map V.int))) p = some (.lst (acc'.map V.int)) ∧ ShV G o x' ∧ lookL ds ats 0 none [] = lookL (ds.drop (i + 1)) ats (i + 1) o acc' ∧ acc'.length ≤ szL (ds.take (i + 1)) ∧ ∀ sh, o = some sh → sh.length ≤ ldL ds := fun hf => by
                    rw [if_pos hf] at hlk
                    refine ⟨_, _, _, rfl, but H4 p, some sh1, acc ++ cs1, to_but (sH3.trans s4) hp0, same_but, but_self, by rw [upd_same, List.map_append], .inr ⟨sh1, sa, rfl, rfl, by rw [but_ne nsp]; exact hsa⟩, hlk, by rw [List.length_append]; omega, fun sh z => by cases z; omega⟩
                  rcases hx with ⟨rfl, rfl⟩ | ⟨sh, sb, rfl, rfl, hsb⟩
                  · refine ⟨_, rfl, rfl, _, rfl, ?_⟩
                    exact ⟨_, rfl, r, _, 1, .ref sa, rfl, rfl, ofT hr4, at_of' (j := 1) rfl rfl, _, rfl, .inl ⟨rfl, _, ofL hp4⟩, _, rfl, r, _, 2, .ref ca, rfl, rfl, ofT hr4, at_of' (j := 2) rfl rfl, p, ca, _, _, rfl, rfl, hp4, hca, hlen, fin rfl⟩
                  · refine ⟨_, rfl, rfl, _, rfl, ?_⟩
                    have hsb4 := sJ4 _ _ (sJ _ _ hsb)
                    refine ⟨_, rfl, r, _, 1, .ref sa, rfl, rfl, ofT hr4, at_of' (j := 1) rfl rfl, _, rfl, ?_⟩
                    refine ⟨_, _, .tup (ofT hsa) (dpInts sh1), .tup (ofT hsb4) (dpInts sh), shIntsT sh1, shIntsT sh, _, rfl, ?_⟩
                    rw [eqv_ints]
                    refine ite2 (fun c => ?_) (fun c => ?_)
                    · have c : ¬ sh1 = sh := by simpa using c
                      rw [if_neg (by simpa [fits] using fun z : sh = sh1 => c z.symm)] at hlk
                      refine ⟨_, rfl, _, rfl, by show 1 ≤ sizeLine; decide, fun p8 np8 => ?_⟩
                      have s8 : Same H4 (upd H4 p8 (.tup [.int (i : Int)])) := same_up np8
                      have h8 : (upd H4 p8 (.tup [.int (i : Int)])) p8 = some (.tup [.int (i : Int)]) := upd_same
                      generalize upd H4 p8 (.tup [.int (i : Int)]) = H8 at s8 h8
                      have s08 := sH3.trans (s4.trans s8)
                      refine ⟨a, p8, _, _, rfl, rfl, s08 _ _ ha, h8, by rw [List.length_map, sizeLine_eq]; show ats.length + 1 ≤ _; omega, fun tp2 H9 s9 htp2 => ?_⟩
                      have htp2 : H9 tp2 = some (.tup ((ats ++ [(i : Int)]).map V.int)) := by rw [htp2, List.map_append]; rfl
                      refine ⟨Nat.zero_le _, fun p10 np10 => ?_⟩
                      have s10 : Same H9 (upd H9 p10 (.lst [])) := same_up np10
                      have h10 : (upd H9 p10 (.lst [])) p10 = some (.lst []) := upd_same
                      generalize upd H9 p10 (.lst []) = H10 at s10 h10
                      refine ⟨by show 3 ≤ sizeLine; decide, fun p11 np11 => ?_⟩
                      have s11 : Same H10 (upd H10 p11 (.tup [.str "bad", .ref tp2, .ref p10])) := same_up np11
                      have h11 : (upd H10 p11 (.tup [.str "bad", .ref tp2, .ref p10])) p11 = some (.tup [.str "bad", .ref tp2, .ref p10]) := upd_same
                      generalize upd H10 p11 (.tup [.str "bad", .ref tp2, .ref p10]) = H11 at s11 h11
                      exact q2 _ hlk p11 tp2 p10 H11 (s08.trans (s9.trans (s10.trans s11))) h11 (s11 _ _ (s10 _ _ htp2))
                    · have c : sh1 = sh := by simpa using c
                      exact ⟨_, rfl, r, _, 1, .ref sa, rfl, rfl, ofT hr4, at_of' (j := 1) rfl rfl, _, rfl, .inl ⟨rfl, _, ofL hp4⟩, _, rfl, r, _, 2, .ref ca, rfl, rfl, ofT hr4, at_of' (j := 2) rfl rfl, p, ca, _, _, rfl, rfl, hp4, hca, hlen, fin (by simp [fits, c])⟩
                · rw [e] at hlk
                  simp only at hlk
                  refine ⟨_, rfl, r, _, 0, .str "bad", rfl, rfl, ofT hr4, at_of' (j := 0) rfl rfl, ?_⟩
                  refine ⟨rfl, _, rfl, ?_⟩
                  refine ite2 (fun _ => ?_) (fun c => absurd (by decide +kernel) c)
                  exact ⟨_, rfl, q2 pb hlk r pa ca H4 (sH3.trans s4) hr4 hpa⟩
              · rintro σ J ⟨x, v4, v5, rfl, G, o, acc, sG, sJ, gp, hp, hx, hlk, hacc, hol⟩
                have sHJ := sG.trans sJ
                have e1 : ((xs.length : Nat) : Int).toNat = ds.length := by rw [Int.toNat_natCast]; exact hxl
                rw [e1, List.drop_length] at hlk
                simp only [lookL] at hlk
                refine ⟨_, rfl, va, _, rfl, .inl (ofL (sHJ _ _ hva)), by show 1 ≤ sizeLine; decide, fun p1 np1 => ?_⟩
                rw [hxl]
                have s2 : Same J (upd J p1 (.tup [.int (ds.length : Nat)])) := same_up np1
                have h2 : (upd J p1 (.tup [.int (ds.length : Nat)])) p1 = some (.tup [.int (ds.length : Nat)]) := upd_same
                generalize upd J p1 (.tup [.int (ds.length : Nat)]) = H2 at s2 h2
                have fin : ∀ (tp : Addr) (H5 : Hp), Same H2 H5 → H5 tp = some (.tup ((((ds.length : Nat) : Int) :: o.getD []).map V.int)) → ∀ p6, H5 p6 = none → Q (.ref p6) (upd H5 p6 (.tup [.str "good", .ref tp, .ref p])) := fun tp H5 s5 h5 p6 np6 => by
                  have s6 : Same H5 (upd H5 p6 (.tup [.str "good", .ref tp, .ref p])) := same_up np6
                  exact q1 _ _ hlk p6 tp p _ (sHJ.trans (s2.trans (s5.trans s6))) upd_same (s6 _ _ h5) (s6 _ _ (s5 _ _ (s2 _ _ hp)))
                rcases hx with ⟨rfl, rfl⟩ | ⟨sh, sb, rfl, rfl, hsb⟩
                · refine ⟨_, rfl, false, rfl, Nat.zero_le _, fun p3 np3 => ?_⟩
                  have s3 : Same H2 (upd H2 p3 (.tup [])) := same_up np3
                  have h3 : (upd H2 p3 (.tup [])) p3 = some (.tup []) := upd_same
                  generalize upd H2 p3 (.tup []) = H3 at s3 h3
                  refine ⟨p1, p3, _, _, rfl, rfl, s3 _ _ h2, h3, by show 1 ≤ sizeLine; decide, fun tp H5 s5 h5 => ?_⟩
                  refine ⟨_, rfl, by show 3 ≤ sizeLine; decide, fun p6 np6 => ?_⟩
                  exact fin tp H5 (s3.trans s5) h5 p6 np6
                · have hsb2 := s2 _ _ (sJ _ _ hsb)
                  have hl2 := hol sh rfl
                  refine ⟨_, rfl, !(sh.map V.int).isEmpty, .inr (.inl ⟨_, ofT hsb2, rfl⟩), ?_⟩
                  refine ite2 (fun c => ?_) (fun c => ?_)
                  · refine ⟨p1, sb, _, _, rfl, rfl, h2, hsb2, by rw [List.length_map, sizeLine_eq]; show 1 + _ ≤ _; omega, fun tp H5 s5 h5 => ?_⟩
                    refine ⟨_, rfl, by show 3 ≤ sizeLine; decide, fun p6 np6 => ?_⟩
                    exact fin tp H5 s5 h5 p6 np6
                  · have : sh = [] := by
                      cases sh with
                      | nil => rfl
                      | cons _ _ => exact absurd rfl c
                    subst this
                    refine ⟨Nat.zero_le _, fun p3 np3 => ?_⟩
                    have s3 : Same H2 (upd H2 p3 (.tup [])) := same_up np3
                    have h3 : (upd H2 p3 (.tup [])) p3 = some (.tup []) := upd_same
                    generalize upd H2 p3 (.tup []) = H3 at s3 h3
                    refine ⟨p1, p3, _, _, rfl, rfl, s3 _ _ h2, h3, by show 1 ≤ sizeLine; decide, fun tp H5 s5 h5 => ?_⟩
                    refine ⟨_, rfl, by show 3 ≤ sizeLine; decide, fun p6 np6 => ?_⟩
                    exact fin tp H5 (s3.trans s5) h5 p6 np6
end
end Cr

namespace Cr
open PySem L2
section
variable {P : Program} {w : World} {K : PySem.W.Frag} {mg : Str → Option Value} {base : Heap}
def spTold (C : Addr) : Sp := fun vs H Q _ => ∃ (v : V) (d : PyData), vs = [v] ∧ Nt H v d ∧ ld d ≤ 6 ∧ sz d ≤ 4000 ∧
  (∀ sh cs, lookD d [] = .inr (sh, cs) → ∀ (x p : Addr) (H' : Hp), Same H H' → ArAt C H' x sh cs → H' p = some (.tup [.str "good", .ref x]) → Q (.ref p) H') ∧
  (∀ p, lookD d [] = .inl p → ∀ (tp r : Addr) (H' : Hp), Same H H' → H' tp = some (.tup (p.map V.int)) → H' r = some (.tup [.str "bad", .ref tp]) → Q (.ref r) H')
theorem ok__law_told (T : Tx K mg) : FnOk P w K mg base CX0 14 T._law_told.f T._law_told.fd ["_law_things"] (spTold T.C_Array) := by
  refine T._law_told.F.ok (k := 13) sc__law_told (fun vs H Q E h => ?_) (fun cdv A outer s H vs Q E hr h => ?_)
  · obtain ⟨v, d, rfl, _⟩ := h
    rfl
  · obtain ⟨v, d, rfl, nt, h6, hs, q1, q2⟩ := h
    refine ⟨_, (pss_cons (ps_asg (pe_tup (pa_cons pe_non (pa_cons pe_non pa_nil))) (pg_tup rfl (pgs_cons (pg_name (i := 1) sc__law_told.nd rfl (Or.inl rfl)) (pgs_cons (pg_name (i := 2) sc__law_told.nd rfl (Or.inl rfl)) pgs_nil))))
 (pss_cons (ps_try_keep (i := 3) rfl rfl rfl sc__law_told.nd rfl rfl ⟨rfl, by decide, .inl T.m_Ragged⟩ (fun W pn xe tk _ => (pss_one (ps_set (i := 1) sc__law_told.nd rfl (Or.inl rfl) (pe_callS (ok_nested_array T) (hr.mono (by decide)) (by rfl) T.nested_array.mg T.nested_array.F.kp T.nested_array.b (fun σ => passAt tk σ) (pa_cons (pv 0) pa_nil))))) (fun a oe pn => (pss_one (ps_set (i := 2) sc__law_told.nd rfl (Or.inl rfl) (pv 3)))))
 (pss_cons (ps_if (pt_cmpR op_isN (pv 2) pe_non (nomark _))
 (pss_one (ps_ret (pe_tup (pa_cons pe_str (pa_cons (pv 1) pa_nil)))))
 pss_nil)
 (pss_cons (ps_set (i := 4) sc__law_told.nd rfl (Or.inl rfl) (pe_and (pe_callB (call_isX T.x_Ragged) (by rfl) T.b_isinstance (by decide +kernel) (pa_cons (pv 2) (pa_cons (pe_bltn (v := V.ty "ValueError") (by rfl) T.b_ValueError (by decide +kernel) rfl) pa_nil))) (pe_one (pe_not (pe_callB (call_isXT T.x_Ragged) (by rfl) T.b_isinstance (by decide +kernel) (pa_cons (pv 2) (pa_cons (pe_tup (pa_cons (pe_glob (v := V.ref T.C_NoShape) (by rfl) T.m_NoShape rfl) (pa_cons (pe_glob (v := V.ref T.C_Miscount) (by rfl) T.m_Miscount rfl) (pa_cons (pe_glob (v := V.ref T.C_NoText) (by rfl) T.m_NoText rfl) pa_nil)))) pa_nil)))))))
 (pss_one (ps_ret (pe_ifExp (pt_val (pv 4)) (pe_tup (pa_cons pe_str (pa_cons (pe_xk T.x_Ragged T.n_Ragged_at (pv 2)) pa_nil))) (pe_tup (pa_cons pe_str (pa_cons pe_non pa_nil)))))))))), ?_⟩
    refine ⟨by show 2 ≤ sizeLine; decide, fun p0 np0 => ?_⟩
    refine ⟨p0, _, rfl, ofT upd_same, rfl, _, _, rfl, _, _, rfl, rfl, ?_⟩
    have s0 : Same H (upd H p0 (.tup [.non, .non])) := same_up np0
    generalize upd H p0 (.tup [.non, .non]) = H0 at s0
    refine ⟨_, rfl, _, _, rfl, ntUp s0 nt, by omega, h6, hs, fun sh cs e x H1 s1 nx ar => ?_, fun pb e => ?_⟩
    · refine ⟨_, rfl, rfl, _, rfl, ?_⟩
      refine ⟨_, rfl, by show 2 ≤ sizeLine; decide, fun p np => ?_⟩
      exact q1 sh cs e x p _ (s0.trans <| s1.trans (same_up np)) (ar.up (same_up np)) upd_same
    · intro d1 tpx H' s1 nd hd1 htp
      refine ⟨T.s_Ragged, fun a na => ?_⟩
      refine ⟨_, rfl, ?_⟩
      have nda : d1 ≠ a := ne_of_none hd1 na
      have xk : XkAt (upd H' a (ExK a (.ref T.C_Ragged) (some d1))) a T.C_Ragged [("at", .ref tpx)] := ⟨d1, upd_same, by rw [upd_ne nda]; exact hd1⟩
      have s2 : Same H' (upd H' a (ExK a (.ref T.C_Ragged) (some d1))) := same_up na
      refine ⟨_, rfl, rfl, _, rfl, ?_⟩
      refine ⟨_, rfl, a, _, _, _, true, rfl, xk, .ty _, T.isV, _, rfl, ?_⟩
      refine ⟨_, rfl, by show 3 ≤ sizeLine; decide, fun tp ntp => ?_⟩
      have s3 := same_up (o := .tup [.ref T.C_NoShape, .ref T.C_Miscount, .ref T.C_NoText]) ntp
      refine ⟨a, tp, _, _, _, false, rfl, xk.up s3, upd_same, .cons (.own _) (.cons (.own _) (.cons (.own _) .nil)), T.isO, _, rfl, ?_⟩
      have xk := xk.up s3
      refine ⟨_, rfl, true, rfl, ?_⟩
      refine ⟨_, rfl, a, _, _, rfl, xk, rfl, by show 2 ≤ sizeLine; decide, fun p np => ?_⟩
      have s4 := same_up (o := .tup [.str "bad", .ref tpx]) np
      exact q2 pb e tpx p _ (s0.trans (s1.trans (s2.trans (s3.trans s4)))) (s4 _ _ (s3 _ _ (s2 _ _ htp))) upd_same
end
end Cr

namespace Cr
open PySem L2
theorem units66 {A : Around} {k : Nat} (hr : Room k A) : A.units + 66 < cLine := by have := hr.un; omega
section
variable {P : Program} {w : World} {K : PySem.W.Frag} {mg : Str → Option Value} {base : Heap}
theorem nf_own (C : Addr) : PySem.W.notFirst K C (.ref C) = true := by simp [PySem.W.notFirst]
def spLaw (K : PySem.W.Frag) : Sp := fun vs H Q _ => ∃ (a : Addr) (ns : List Int), vs = [.ref a] ∧ SqL K H a (ns.map V.int) ∧ ns.length ≤ 63 ∧ ∀ H', Q (.bl true) H'
theorem ok_law (T : Tx K mg) (hbs : ∃ o, base.get? sysModules = some o) {f : Addr} {fd : FuncData} (F : Fun K "law" "law" s_law f fd) : FnG P w K mg base CX0 15 f fd ["_law_script"] (spLaw K) := by
  refine okG F (k := 14) sc_law (fun vs H Q E h => ?_) (fun cdv A outer s H vs Q E hr hg h => ?_)
  · obtain ⟨a, ns, rfl, _⟩ := h
    rfl
  · obtain ⟨a, ns, rfl, hS, hns, q⟩ := h
    have hu66 := units66 hr
    refine ⟨_, (pss_cons (ps_set (i := 1) sc_law.nd rfl (Or.inl rfl) (pe_call (ok__law_feed T) (hr.mono (by decide)) (by rfl) T._law_feed.mg T._law_feed.F.kp T._law_feed.b .nil pass0 (pa_cons (pv 0) pa_nil)))
 (pss_cut (ps_for PassesOwn.never rfl (pi_range1 (by rfl) T.b_range (pa_cons (pe_callB (call_max2 rfl) (by rfl) T.b_max (by decide +kernel) (pa_cons pe_int (pa_cons (pe_callB (call_min2 rfl) (by rfl) T.b_min (by decide +kernel) (pa_cons pe_int (pa_cons (pe_callB call_len_seq (by rfl) T.b_len (by decide +kernel) (pa_cons (pv 0) pa_nil)) pa_nil))) pa_nil))) pa_nil)) (pg_name (i := 2) sc_law.nd rfl (Or.inl rfl))
 (pss_cons (ps_set (i := 3) sc_law.nd rfl (Or.inl rfl) (pe_call (ok__law_lists T 7) (hr.mono (by decide)) (by rfl) T._law_lists.mg T._law_lists.F.kp T._law_lists.b .nil pass0 (pa_cons (pv 1) (pa_cons (pe_call (ok__law_base T) (hr.mono (by decide)) (by rfl) T._law_base.mg T._law_base.F.kp T._law_base.b .nil pass0 (pa_cons (pv 1) (pa_cons pe_int (pa_cons pe_int pa_nil)))) pa_nil))))
 (pss_cut (ps_for PassesOwn.never rfl (pi_range1 (by rfl) T.b_range (pa_cons (pe_call (ok__law_of T) (hr.mono (by decide)) (by rfl) T._law_of.mg T._law_of.F.kp T._law_of.b .nil pass0 (pa_cons (pv 1) (pa_cons (pe_lst (pa_cons pe_int (pa_cons pe_int (pa_cons pe_int (pa_cons pe_int pa_nil))))) pa_nil))) pa_nil)) (pg_name (i := 4) sc_law.nd rfl (Or.inl rfl))
 (pss_one (ps_set (i := 3) sc_law.nd rfl (Or.inl rfl) (pe_call (ok__law_spoilt T 9) (hr.mono (by decide)) (by rfl) T._law_spoilt.mg T._law_spoilt.F.kp T._law_spoilt.b .nil pass0 (pa_cons (pv 1) (pa_cons (pv 3) pa_nil))))))
 (pss_cons (ps_par (i := 5) (j := 6) (by rfl) sc_law.nd rfl rfl (by decide) rfl rfl (pa_cons (pe_call (ok__law_look T 9) (hr.mono (by decide)) (by rfl) T._law_look.mg T._law_look.F.kp T._law_look.b .nil pass0 (pa_cons (pv 3) (pa_cons (pe_tup pa_nil) pa_nil))) (pa_cons (pe_callB (call_reprN hbs hg hu66) (by rfl) T.b_repr (by decide +kernel) (pa_cons (pv 3) pa_nil)) pa_nil)) (by rfl))
 (pss_one (ps_if (pt_cmpR op_le (pe_call (ok__law_deep T 9) (hr.mono (by decide)) (by rfl) T._law_deep.mg T._law_deep.F.kp T._law_deep.b .nil pass0 (pa_cons (pv 3) pa_nil)) pe_int (nomark _))
 (pss_cons (ps_set (i := 7) sc_law.nd rfl (Or.inl rfl) (pe_call (ok__law_told T) (hr.mono (by decide)) (by rfl) T._law_told.mg T._law_told.F.kp T._law_told.b .nil pass0 (pa_cons (pv 3) pa_nil)))
 (pss_cons (ps_if (PW.pt (pw_or (pt_cmpR op_ne (pe_ix ix_tup (pv 7) pe_int (fun _ _ => rfl)) (pe_ix ix_tup (pv 5) pe_int (fun _ _ => rfl)) (nomark _)) (pw_or1 (pt_cmpR op_ne (pe_callB (call_reprN hbs hg hu66) (by rfl) T.b_repr (by decide +kernel) (pa_cons (pv 3) pa_nil)) (pv 6) (nomark _)))))
 (pss_one (ps_ret pe_bl))
 pss_nil)
 (pss_cons (ps_if (PW.pt (pw_and (pt_cmpR op_eq (pe_ix ix_tup (pv 5) pe_int (fun _ _ => rfl)) pe_str (nomark _)) (pw_and1 (PW.pt (pw_or (pt_not (pt_val (pe_callB call_isi (by rfl) T.b_isinstance (by decide +kernel) (pa_cons (pe_ix ix_tup (pv 7) pe_int (fun _ _ => rfl)) (pa_cons (pe_bltn (v := V.ty "tuple") (by rfl) T.b_tuple (by decide +kernel) rfl) pa_nil))))) (pw_or1 (pt_cmpR (op_neD hr.units) (pe_ix ix_tup (pv 7) pe_int (fun _ _ => rfl)) (pe_ix ix_tup (pv 5) pe_int (fun _ _ => rfl)) (nomark _))))))))
 (pss_one (ps_ret pe_bl))
 pss_nil)
 (pss_one (ps_if (PW.pt (pw_and (pt_cmpR op_eq (pe_ix ix_tup (pv 5) pe_int (fun _ _ => rfl)) pe_str (nomark _)) (pw_and1 (pt_cmpR (op_neO T.ow_Array (ok_Array___eq__ T) T.Array___eq__.b (hr.mono (by decide))) (pe_ix ix_tup (pv 7) pe_int (fun _ _ => rfl)) (pe_make T.Array.mkk (ok_Array___init__ T) (hr.mono (by decide)) (by rfl) T.Array.mg T.Array___init__.b .nil pass0 (pa_cons (pe_ix ix_tup (pv 5) pe_int (fun _ _ => rfl)) (pa_cons (pe_ix ix_tup (pv 5) pe_int (fun _ _ => rfl)) pa_nil))) (nomark _)))))
 (pss_one (ps_ret pe_bl))
 pss_nil)))))
 pss_nil))))))
 (pss_one (ps_ret (pe_and (pe_cmpR (op_eqD hr.units) (pe_call (ok__law_told T) (hr.mono (by decide)) (by rfl) T._law_told.mg T._law_told.F.kp T._law_told.b .nil pass0 (pa_cons pe_str pa_nil)) (pe_tup (pa_cons pe_str (pa_cons (pe_tup pa_nil) pa_nil))) (nomark _)) (pe_one (pe_cmpR (op_eqD hr.units) (pe_call (ok__law_told T) (hr.mono (by decide)) (by rfl) T._law_told.mg T._law_told.F.kp T._law_told.b .nil pass0 (pa_cons (pe_lst (pa_cons (pe_lst (pa_cons pe_int pa_nil)) (pa_cons (pe_lst (pa_cons pe_int (pa_cons pe_int (pa_cons pe_str pa_nil)))) pa_nil))) pa_nil)) (pe_tup (pa_cons pe_str (pa_cons (pe_tup (pa_cons pe_int (pa_cons pe_int pa_nil))) pa_nil))) (nomark _)))))))), ?_⟩
    refine ⟨_, rfl, a, ns, rfl, hS, fun f c G0 H1 s0 nf W0 => ?_⟩
    have hS1 := Same.sqL (s0.trans W0.same) hS
    refine ⟨fun _ _ => True, ?_, ?_⟩
    · refine ⟨_, rfl, a, _, rfl, .inl hS1, _, _, rfl, _, _, rfl, ?_⟩
      have hll : (((ns.map V.int).length : Nat) : Int) = (ns.length : Int) := by rw [List.length_map]
      generalize hmm : (if (if (((ns.map V.int).length : Nat) : Int) < 15 then (((ns.map V.int).length : Nat) : Int) else 15) > 5 then (if (((ns.map V.int).length : Nat) : Int) < 15 then (((ns.map V.int).length : Nat) : Int) else 15) else 5) = mm
      have hm0 : 0 ≤ mm ∧ mm ≤ 15 := by
        rw [← hmm]
        split <;> split <;> omega
      refine ⟨mm, rfl, by omega, by omega, for_range (lo := 0) (n := mm.toNat) (fun i σ H' => ∃ (G : Hp) (v2 v3 v4 v5 v6 v7 : Option V), σ = [some (.ref a), some (.ref f), v2, v3, v4, v5, v6, v7] ∧ Wo G H' f c (9000 * i))
        ⟨G0, none, none, none, none, none, none, rfl, W0⟩ ?_ (fun _ _ _ => trivial)⟩
      rintro i σ H2 hi ⟨G, v2, v3, v4, v5, v6, v7, rfl, W⟩
      have hi15 : i < 15 := by omega
      have h64 : szB 4 = 121 := by decide
      -- things = lists(feed, base(feed, 4, 4))
      refine ⟨_, rfl, _, rfl, G, f, c, _, 4, rfl, by decide, by decide, W, by omega, fun sa sh G3 H3 sG3 nsa W3 hsa hsl hse => ?_⟩
      have hsl : sh.length ≤ 4 := by omega
      have hsB := szB_mono hsl
      refine ⟨f, c, _, sa, sh, rfl, W3.all.1, W3.same _ _ hsa, by omega, hse, by omega, by omega, fun v d G4 H4 W4 sG4 on4 nt4 okd ldd szd => ?_⟩
      have g4f : G4 f = none := by
        obtain ⟨_, _, e, _⟩ := W3.feed
        exact on4 f (by rw [e]; exact fun z => nomatch z)
      have nt5 := ntUp (to_but sG4 g4f) nt4
      have W5 := W4.all.1
      generalize but H4 f = G5 at nt5 W5
      generalize H4 = H5 at W5
      -- for again in range(of(feed, [0, 1, 1, 2]))
      refine ⟨fun σ' H' => ∃ (G : Hp) (v : V) (d : PyData) (v2 v4 v5 v6 v7 : Option V), σ' = [some (.ref a), some (.ref f), v2, some v, v4, v5, v6, v7] ∧ Wo G H' f c (9000 * i + 8000) ∧ Nt G v d ∧ OkD d ∧ ld d ≤ 8 ∧ sz d ≤ 600, ?_, ?_⟩
      · refine ⟨_, rfl, by show 4 ≤ sizeLine; decide, fun p6 np6 => ?_⟩
        have b6 : Same G5 (upd G5 p6 (.lst [.int 0, .int 1, .int 1, .int 2])) := same_up (W5.same.free np6)
        have W6 := W5.new (o := .lst [.int 0, .int 1, .int 1, .int 2]) np6
        have g6 : (upd G5 p6 (.lst [.int 0, .int 1, .int 1, .int 2])) p6 = some (.lst [.int 0, .int 1, .int 1, .int 2]) := upd_same
        generalize upd G5 p6 (.lst [.int 0, .int 1, .int 1, .int 2]) = G6 at b6 W6 g6
        generalize upd H5 p6 (.lst [.int 0, .int 1, .int 1, .int 2]) = H6 at W6
        refine ⟨_, f, c, _, _, _, rfl, ⟨p6, rfl, ofL g6⟩, by show 0 < 4; decide, by show 4 < 1000000; decide, W6, by omega, fun x H7 hx W7 => ?_⟩
        have hr2 : ∃ n : Nat, x = .int (n : Int) ∧ n ≤ 2 := by
          simp only [List.mem_cons, List.not_mem_nil, or_false] at hx
          rcases hx with rfl | rfl | rfl | rfl
          · exact ⟨0, rfl, by decide⟩
          · exact ⟨1, rfl, by decide⟩
          · exact ⟨1, rfl, by decide⟩
          · exact ⟨2, rfl, by decide⟩
        obtain ⟨n, rfl, hn2⟩ := hr2
        refine ⟨(n : Int), rfl, by omega, by omega, for_range (lo := 0) (n := (n : Int).toNat) (fun j σ H' => ∃ (G : Hp) (v : V) (d : PyData) (v2 v4 v5 v6 v7 : Option V), σ = [some (.ref a), some (.ref f), v2, some v, v4, v5, v6, v7] ∧ Wo G H' f c (9000 * i + 600 + 27 * j) ∧ Nt G v d ∧ OkD d ∧ ld d ≤ 4 + 2 * j ∧ sz d + 10 ≤ 131 * 2 ^ j)
          ⟨_, v, d, _, _, _, _, _, rfl, W7.mono (by omega), ntUp b6 nt5, okd, by omega, by omega⟩ ?_ ?_⟩
        · rintro j σ H8 hj ⟨G8, v', d', w2, w4, w5, w6, w7, rfl, W8, nt8, ok8, ld8, sz8⟩
          have hj2 : j < 2 := by omega
          have hp : 2 ^ (j + 1) = 2 * 2 ^ j := by rw [Nat.pow_succ]; omega
          have hp2 : 2 ^ j ≤ 2 := by
            rcases (show j = 0 ∨ j = 1 by omega) with rfl | rfl <;> decide
          refine ⟨_, rfl, _, rfl, G8, f, c, _, v', d', rfl, W8, nt8, ok8, by omega, by decide, by omega, by omega, fun v9 d9 G9 H9 s9 W9 nt9 ok9 ld9 sz9 => ?_⟩
          exact ⟨G9, v9, d9, _, _, _, _, _, rfl, W9.mono (by omega), nt9, ok9, by omega, by omega⟩
        · rintro σ H8 ⟨G8, v', d', w2, w4, w5, w6, w7, rfl, W8, nt8, ok8, ld8, sz8⟩
          have e1 : (n : Int).toNat = n := Int.toNat_natCast n
          rw [e1] at ld8 sz8 W8
          have hp2 : 2 ^ n ≤ 4 := by
            rcases (show n = 0 ∨ n = 1 ∨ n = 2 by omega) with rfl | rfl | rfl <;> decide
          exact ⟨G8, v', d', _, _, _, _, _, rfl, W8.mono (by omega), nt8, ok8, by omega, by omega⟩
      · clear W5 nt5 nt4 W4 sG4 on4 okd ldd szd W3
        rintro σ J ⟨G6, v, d, w2, w4, w5, w6, w7, rfl, W6, nt6, okd, ldd, szd⟩
        obtain ⟨sh1, sh2, sh3⟩ := okShowD okd
        have shl : d.shown.length ≤ sizeLine := by rw [sizeLine_eq]; omega
        -- due, kept = look(things, ()), repr(things)
        refine ⟨_, rfl, Nat.zero_le _, fun p1 np1 => ?_⟩
        have W7 := W6.fresh (o := .tup []) np1
        have h7 : (upd J p1 (.tup [])) p1 = some (.tup (([] : List Int).map V.int)) := upd_same
        generalize upd J p1 (.tup []) = J1 at W7 h7
        have ntJ := ntUp W7.same nt6
        cases e : lookD d [] with
        | inr sc =>
          obtain ⟨sh, cs⟩ := sc
          refine ⟨v, d, p1, [], rfl, ntJ, h7, by omega, by omega, by show 0 + _ ≤ 1000; omega, fun sh' cs' e' r sa ca J2 s2 hr2 hsa2 hca2 => ?_, fun pb e' => by rw [e] at e'; cases e'⟩
          rw [e] at e'
          cases e'
          have nt2 := ntUp s2 ntJ
          refine ⟨_, rfl, v, d, rfl, nt2, sh1, by omega, shl, ?_⟩
          refine ⟨_, _, rfl, ?_⟩
          -- deep(things) <= 6
          refine ⟨_, rfl, v, d, rfl, nt2, by omega, by omega, fun J3 s3 => ?_⟩
          refine ⟨_, _, rfl, rfl, _, rfl, ?_⟩
          have W8 := (W7.keep s2).keep s3
          refine ite2 (fun c6 => ?_) (fun c6 => ?_)
          rotate_left
          · exact ⟨G6, _, _, _, _, _, _, rfl, W8.mono (by omega)⟩
          have c6 : ld d ≤ 6 := by have := of_decide_eq_true c6; omega
          have nt3 := ntUp s3 nt2
          refine ⟨_, rfl, v, d, rfl, nt3, c6, by omega, fun sh' cs' e' x tr J4 s4 ar htr => ?_, fun pb e' => by rw [e] at e'; cases e'⟩
          rw [e] at e'
          cases e'
          have s24 := s3.trans s4
          have hr4 := s24 _ _ hr2
          have hsa4 := s24 _ _ hsa2
          have hca4 := s24 _ _ hca2
          have nt4 := ntUp s4 nt3
          have gr := look_ok e
          have W9 := W8.keep s4
          refine ⟨_, rfl, tr, _, 0, .str "good", rfl, rfl, ofT htr, at_of' (j := 0) rfl rfl, _, rfl, r, _, 0, .str "good", rfl, rfl, ofT hr4, at_of' (j := 0) rfl rfl, rfl, _, rfl, ?_⟩
          refine ite2 (fun c => absurd c (by decide +kernel)) (fun _ => ?_)
          refine ⟨_, rfl, v, d, rfl, nt4, sh1, by omega, shl, _, rfl, rfl, _, rfl, ?_⟩
          refine ite2 (fun c => absurd c (by simp)) (fun _ => ?_)
          refine ⟨_, rfl, r, _, 0, .str "good", rfl, rfl, ofT hr4, at_of' (j := 0) rfl rfl, rfl, _, rfl, ?_⟩
          refine ite2 (fun c => absurd c (by decide +kernel)) (fun _ => ?_)
          refine ⟨_, rfl, r, _, 0, .str "good", rfl, rfl, ofT hr4, at_of' (j := 0) rfl rfl, rfl, _, rfl, ?_⟩
          refine ite2 (fun _ => ?_) (fun c => absurd (by decide +kernel) c)
          refine ⟨_, rfl, tr, _, 1, .ref x, rfl, rfl, ofT htr, at_of' (j := 1) rfl rfl, ?_⟩
          refine ⟨_, rfl, r, _, 1, .ref sa, rfl, rfl, ofT hr4, at_of' (j := 1) rfl rfl, _, rfl, r, _, 2, .ref ca, rfl, rfl, ofT hr4, at_of' (j := 2) rfl rfl, ?_⟩
          have gl := gr.len
          refine mk_ar (sh := sh) (cs := cs) hsa4 (.inl hca4) ⟨by omega, fun n hn => by have := gr.each n hn; omega⟩ gr.count fun x2 J5 s5 nx2 ar2 => ?_
          have ar1' := ar.up s5
          obtain ⟨dx1, sa1, ca1, h11, h12, h13⟩ := id ar1'
          obtain ⟨dx2, sa2, ca2, h21, h22, h23⟩ := id ar2
          refine ⟨x, dx1, _, _, rfl, h11, T.ot_Array.ty h21, nf_own _, x, _, _, _, rfl, ar1', .inl ⟨x2, _, _, rfl, ar2, ?_⟩⟩
          rw [show (decide (sh = sh) && decide (cs = cs)) = true by simp]
          refine ⟨_, rfl, _, rfl, ?_⟩
          refine ite2 (fun c => absurd c (by decide)) (fun _ => ?_)
          exact ⟨G6, _, _, _, _, _, _, rfl, (W9.keep s5).mono (by omega)⟩
        | inl pb =>
          refine ⟨v, d, p1, [], rfl, ntJ, h7, by omega, by omega, by show 0 + _ ≤ 1000; omega, fun sh' cs' e' => (by rw [e] at e'; cases e'), fun pb' e' r pa ca J2 s2 hr2 hpa2 => ?_⟩
          rw [e] at e'
          cases e'
          have nt2 := ntUp s2 ntJ
          refine ⟨_, rfl, v, d, rfl, nt2, sh1, by omega, shl, ?_⟩
          refine ⟨_, _, rfl, ?_⟩
          refine ⟨_, rfl, v, d, rfl, nt2, by omega, by omega, fun J3 s3 => ?_⟩
          refine ⟨_, _, rfl, rfl, _, rfl, ?_⟩
          have W8 := (W7.keep s2).keep s3
          refine ite2 (fun c6 => ?_) (fun c6 => ?_)
          rotate_left
          · exact ⟨G6, _, _, _, _, _, _, rfl, W8.mono (by omega)⟩
          have c6 : ld d ≤ 6 := by have := of_decide_eq_true c6; omega
          have nt3 := ntUp s3 nt2
          refine ⟨_, rfl, v, d, rfl, nt3, c6, by omega, fun sh' cs' e' => (by rw [e] at e'; cases e'), fun pb' e' tp tr J4 s4 htp htr => ?_⟩
          rw [e] at e'
          cases e'
          have s24 := s3.trans s4
          have hr4 := s24 _ _ hr2
          have hpa4 := s24 _ _ hpa2
          have nt4 := ntUp s4 nt3
          have W9 := W8.keep s4
          refine ⟨_, rfl, tr, _, 0, .str "bad", rfl, rfl, ofT htr, at_of' (j := 0) rfl rfl, _, rfl, r, _, 0, .str "bad", rfl, rfl, ofT hr4, at_of' (j := 0) rfl rfl, rfl, _, rfl, ?_⟩
          refine ite2 (fun c => absurd c (by decide +kernel)) (fun _ => ?_)
          refine ⟨_, rfl, v, d, rfl, nt4, sh1, by omega, shl, _, rfl, rfl, _, rfl, ?_⟩
          refine ite2 (fun c => absurd c (by simp)) (fun _ => ?_)
          refine ⟨_, rfl, r, _, 0, .str "bad", rfl, rfl, ofT hr4, at_of' (j := 0) rfl rfl, rfl, _, rfl, ?_⟩
          refine ite2 (fun _ => ?_) (fun c => absurd (by decide +kernel) c)
          refine ⟨_, rfl, tr, _, 1, .ref tp, rfl, rfl, ofT htr, at_of' (j := 1) rfl rfl, ?_⟩
          refine ⟨_, _, _, _, true, rfl, .ty "tuple", .base (.tup htp), rfl, true, rfl, ?_⟩
          refine ⟨_, rfl, tr, _, 1, .ref tp, rfl, rfl, ofT htr, at_of' (j := 1) rfl rfl, _, rfl, r, _, 1, .ref pa, rfl, rfl, ofT hr4, at_of' (j := 1) rfl rfl, ?_⟩
          refine ⟨_, _, .tup (ofT htp) (dpInts pb), .tup (ofT hpa4) (dpInts pb), shIntsT pb, shIntsT pb, _, rfl, ?_⟩
          rw [eqv_ints]
          refine ite2 (fun c => absurd c (by simp)) (fun _ => ?_)
          refine ⟨_, rfl, r, _, 0, .str "bad", rfl, rfl, ofT hr4, at_of' (j := 0) rfl rfl, rfl, _, rfl, ?_⟩
          refine ite2 (fun c => absurd c (by decide +kernel)) (fun _ => ?_)
          exact ⟨G6, _, _, _, _, _, _, rfl, W9.mono (by omega)⟩
    · rintro σ H5 _
      refine ⟨.str "12", .str "12", rfl, .str _, by decide, by decide, fun sh cs e => (by simp [lookD] at e), fun pb e tp r H6 s6 htp hr6 => ?_⟩
      have e : pb = [] := by
        simp only [lookD] at e
        exact (Sum.inl.inj e).symm
      subst e
      refine ⟨Nat.zero_le _, fun p1 np1 => ?_⟩
      have s1 : Same H6 (upd H6 p1 (.tup [])) := same_up np1
      have h1 : (upd H6 p1 (.tup [])) p1 = some (.tup []) := upd_same
      generalize upd H6 p1 (.tup []) = H1 at s1 h1
      refine ⟨by show 2 ≤ sizeLine; decide, fun p2 np2 => ?_⟩
      have s2 : Same H1 (upd H1 p2 (.tup [.str "bad", .ref p1])) := same_up np2
      have h2 : (upd H1 p2 (.tup [.str "bad", .ref p1])) p2 = some (.tup [.str "bad", .ref p1]) := upd_same
      generalize upd H1 p2 (.tup [.str "bad", .ref p1]) = H2 at s2 h2
      have s12 := s1.trans s2
      refine ⟨.tuple [.str "bad", .tuple []], .tuple [.str "bad", .tuple []], .tup (ofT (s12 _ _ hr6)) (.cons (.str _) (.cons (.tup (ofT (s12 _ _ htp)) .nil) .nil)), .tup (ofT h2) (.cons (.str _) (.cons (.tup (ofT (s2 _ _ h1)) .nil) .nil)), by decide +kernel, by decide +kernel, ?_⟩
      rw [show PyData.eqv (.tuple [.str "bad", .tuple []]) (.tuple [.str "bad", .tuple []]) = true by decide +kernel]
      refine ⟨true, rfl, ?_⟩
      refine ⟨by show 1 ≤ sizeLine; decide, fun p3 np3 => ?_⟩
      have s3 : Same H2 (upd H2 p3 (.lst [.int 1])) := same_up np3
      have h3 : (upd H2 p3 (.lst [.int 1])) p3 = some (.lst [.int 1]) := upd_same
      generalize upd H2 p3 (.lst [.int 1]) = H3 at s3 h3
      refine ⟨by show 3 ≤ sizeLine; decide, fun p4 np4 => ?_⟩
      have s4 : Same H3 (upd H3 p4 (.lst [.int 2, .int 3, .str "x"])) := same_up np4
      have h4 : (upd H3 p4 (.lst [.int 2, .int 3, .str "x"])) p4 = some (.lst [.int 2, .int 3, .str "x"]) := upd_same
      generalize upd H3 p4 (.lst [.int 2, .int 3, .str "x"]) = H4 at s4 h4
      refine ⟨by show 2 ≤ sizeLine; decide, fun p5 np5 => ?_⟩
      have s7 : Same H4 (upd H4 p5 (.lst [.ref p3, .ref p4])) := same_up np5
      have h7 : (upd H4 p5 (.lst [.ref p3, .ref p4])) p5 = some (.lst [.ref p3, .ref p4]) := upd_same
      generalize upd H4 p5 (.lst [.ref p3, .ref p4]) = H7 at s7 h7
      have el : lookD (.list [.list [.int 1], .list [.int 2, .int 3, .str "x"]]) [] = .inl [1, 2] := by
        simp [lookD, lookL, fits]
      refine ⟨.ref p5, .list [.list [.int 1], .list [.int 2, .int 3, .str "x"]], rfl, .lst h7 (.cons (.lst (s7 _ _ (s4 _ _ h3)) (.cons (.int 1) .nil)) (.cons (.lst (s7 _ _ h4) (.cons (.int 2) (.cons (.int 3) (.cons (.str _) .nil)))) .nil)), by simp [ld, ldL], by simp [sz, szL], fun sh cs e => (by rw [el] at e; cases e), fun pb e tp2 r2 H8 s8 htp2 hr8 => ?_⟩
      rw [el] at e
      cases e
      refine ⟨by show 2 ≤ sizeLine; decide, fun p9 np9 => ?_⟩
      have s9 : Same H8 (upd H8 p9 (.tup [.int 1, .int 2])) := same_up np9
      have h9 : (upd H8 p9 (.tup [.int 1, .int 2])) p9 = some (.tup [.int 1, .int 2]) := upd_same
      generalize upd H8 p9 (.tup [.int 1, .int 2]) = H9 at s9 h9
      refine ⟨by show 2 ≤ sizeLine; decide, fun p10 np10 => ?_⟩
      have s10 : Same H9 (upd H9 p10 (.tup [.str "bad", .ref p9])) := same_up np10
      have h10 : (upd H9 p10 (.tup [.str "bad", .ref p9])) p10 = some (.tup [.str "bad", .ref p9]) := upd_same
      generalize upd H9 p10 (.tup [.str "bad", .ref p9]) = H10 at s10 h10
      have s910 := s9.trans s10
      refine ⟨.tuple [.str "bad", .tuple [.int 1, .int 2]], .tuple [.str "bad", .tuple [.int 1, .int 2]], .tup (ofT (s910 _ _ hr8)) (.cons (.str _) (.cons (.tup (ofT (s910 _ _ htp2)) (.cons (.int 1) (.cons (.int 2) .nil))) .nil)), .tup (ofT h10) (.cons (.str _) (.cons (.tup (ofT (s10 _ _ h9)) (.cons (.int 1) (.cons (.int 2) .nil))) .nil)), by decide +kernel, by decide +kernel, ?_⟩
      rw [show PyData.eqv (.tuple [.str "bad", .tuple [.int 1, .int 2]]) (.tuple [.str "bad", .tuple [.int 1, .int 2]]) = true by decide +kernel]
      exact q _
end
end Cr

namespace Cr
open PySem L2
theorem kit_yes {K : PySem.W.Frag} {C : Addr} (h1 : PySem.W.isClsIn K C = true) (h2 : PySem.W.typeIn K (.ref C) = some (.type "type")) : ((PySem.W.clsIn K C).isSome && PySem.W.typeIn K (.ref C) == some (.type "type")) = true := by
  unfold PySem.W.isClsIn at h1
  rw [h1, h2]
  rfl
theorem all_mk {l : PySem.W.OpenLaw} {w : World} {K : PySem.W.Frag} {h : Heap} {mg : Str → Option Value} {fa : Addr} (X : K.In h) (G : h.Ns mainGlobals mg) (hfa : mg "law" = some (.ref fa))
    {f0 : Addr} {od0 an0 : Option Addr} {sl0 : Array (Option Value)} {oc0 kV0 dc0 pm0 cd0 ct0 : Value}
    {f1 : Addr} {od1 an1 : Option Addr} {sl1 : Array (Option Value)} {oc1 kV1 dc1 pm1 cd1 ct1 : Value}
    {f2 : Addr} {od2 an2 : Option Addr} {sl2 : Array (Option Value)} {oc2 kV2 dc2 pm2 cd2 ct2 : Value}
    {f3 : Addr} {od3 an3 : Option Addr} {sl3 : Array (Option Value)} {oc3 kV3 dc3 pm3 cd3 ct3 : Value}
    {f4 : Addr} {od4 an4 : Option Addr} {sl4 : Array (Option Value)} {oc4 kV4 dc4 pm4 cd4 ct4 : Value}
    {f5 : Addr} {od5 an5 : Option Addr} {sl5 : Array (Option Value)} {oc5 kV5 dc5 pm5 cd5 ct5 : Value}
    {f6 : Addr} {od6 an6 : Option Addr} {sl6 : Array (Option Value)} {oc6 kV6 dc6 pm6 cd6 ct6 : Value}
    {f7 : Addr} {od7 an7 : Option Addr} {sl7 : Array (Option Value)} {oc7 kV7 dc7 pm7 cd7 ct7 : Value}
    {f8 : Addr} {od8 an8 : Option Addr} {sl8 : Array (Option Value)} {oc8 kV8 dc8 pm8 cd8 ct8 : Value}
    {f9 : Addr} {od9 an9 : Option Addr} {sl9 : Array (Option Value)} {oc9 kV9 dc9 pm9 cd9 ct9 : Value}
    {f10 : Addr} {od10 an10 : Option Addr} {sl10 : Array (Option Value)} {oc10 kV10 dc10 pm10 cd10 ct10 : Value}
    {f11 : Addr} {od11 an11 : Option Addr} {sl11 : Array (Option Value)} {oc11 kV11 dc11 pm11 cd11 ct11 : Value}
    {f12 : Addr} {od12 an12 : Option Addr} {sl12 : Array (Option Value)} {oc12 kV12 dc12 pm12 cd12 ct12 : Value}
    {f13 : Addr} {od13 an13 : Option Addr} {sl13 : Array (Option Value)} {oc13 kV13 dc13 pm13 cd13 ct13 : Value}
    {f14 : Addr} {od14 an14 : Option Addr} {sl14 : Array (Option Value)} {oc14 kV14 dc14 pm14 cd14 ct14 : Value}
    {f15 : Addr} {od15 an15 : Option Addr} {sl15 : Array (Option Value)} {oc15 kV15 dc15 pm15 cd15 ct15 : Value}
    {f16 : Addr} {od16 an16 : Option Addr} {sl16 : Array (Option Value)} {oc16 kV16 dc16 pm16 cd16 ct16 : Value}
    {C_Array : Addr}
    {f17 : Addr} {od17 an17 : Option Addr} {sl17 : Array (Option Value)} {oc17 kV17 dc17 pm17 cd17 ct17 : Value}
    {f18 : Addr} {od18 an18 : Option Addr} {sl18 : Array (Option Value)} {oc18 kV18 dc18 pm18 cd18 ct18 : Value}
    {C_Ragged : Addr}
    {f19 : Addr} {od19 an19 : Option Addr} {sl19 : Array (Option Value)} {oc19 kV19 dc19 pm19 cd19 ct19 : Value}
    {C_NoShape : Addr}
    {C_Miscount : Addr}
    {C_NoText : Addr}
    {t_MOST_AXES : Tok}
    {t_MOST_SIZE : Tok}
    (a0 : PySem.W.nsIn K mainGlobals "is_whole" = some (some (.ref f0)))
    (l0 : K.lookup f0 = some ⟨oc0, od0, .func (PySem.W.fnOf "is_whole" "is_whole" (defArgs s_is_whole) (defBody s_is_whole) (defScope s_is_whole) .none kV0 dc0 pm0 an0 cd0 ct0), sl0⟩)
    (c0 : PySem.W.codeIn K cd0 "is_whole" = true)
    (k0 : PySem.W.keepIn K (.ref f0) = true)
    (a1 : PySem.W.nsIn K mainGlobals "is_from" = some (some (.ref f1)))
    (l1 : K.lookup f1 = some ⟨oc1, od1, .func (PySem.W.fnOf "is_from" "is_from" (defArgs s_is_from) (defBody s_is_from) (defScope s_is_from) .none kV1 dc1 pm1 an1 cd1 ct1), sl1⟩)
    (c1 : PySem.W.codeIn K cd1 "is_from" = true)
    (k1 : PySem.W.keepIn K (.ref f1) = true)
    (a2 : PySem.W.nsIn K mainGlobals "is_shape" = some (some (.ref f2)))
    (l2 : K.lookup f2 = some ⟨oc2, od2, .func (PySem.W.fnOf "is_shape" "is_shape" (defArgs s_is_shape) (defBody s_is_shape) (defScope s_is_shape) .none kV2 dc2 pm2 an2 cd2 ct2), sl2⟩)
    (c2 : PySem.W.codeIn K cd2 "is_shape" = true)
    (k2 : PySem.W.keepIn K (.ref f2) = true)
    (a3 : PySem.W.nsIn K mainGlobals "count" = some (some (.ref f3)))
    (l3 : K.lookup f3 = some ⟨oc3, od3, .func (PySem.W.fnOf "count" "count" (defArgs s_count) (defBody s_count) (defScope s_count) .none kV3 dc3 pm3 an3 cd3 ct3), sl3⟩)
    (c3 : PySem.W.codeIn K cd3 "count" = true)
    (k3 : PySem.W.keepIn K (.ref f3) = true)
    (a4 : PySem.W.nsIn K mainGlobals "made_of" = some (some (.ref f4)))
    (l4 : K.lookup f4 = some ⟨oc4, od4, .func (PySem.W.fnOf "made_of" "made_of" (defArgs s_made_of) (defBody s_made_of) (defScope s_made_of) .none kV4 dc4 pm4 an4 cd4 ct4), sl4⟩)
    (c4 : PySem.W.codeIn K cd4 "made_of" = true)
    (k4 : PySem.W.keepIn K (.ref f4) = true)
    (a5 : PySem.W.nsIn K mainGlobals "nested_array" = some (some (.ref f5)))
    (l5 : K.lookup f5 = some ⟨oc5, od5, .func (PySem.W.fnOf "nested_array" "nested_array" (defArgs s_nested_array) (defBody s_nested_array) (defScope s_nested_array) .none kV5 dc5 pm5 an5 cd5 ct5), sl5⟩)
    (c5 : PySem.W.codeIn K cd5 "nested_array" = true)
    (k5 : PySem.W.keepIn K (.ref f5) = true)
    (a6 : PySem.W.nsIn K mainGlobals "_law_feed" = some (some (.ref f6)))
    (l6 : K.lookup f6 = some ⟨oc6, od6, .func (PySem.W.fnOf "_law_feed" "_law_feed" (defArgs s__law_feed) (defBody s__law_feed) (defScope s__law_feed) .none kV6 dc6 pm6 an6 cd6 ct6), sl6⟩)
    (c6 : PySem.W.codeIn K cd6 "_law_feed" = true)
    (k6 : PySem.W.keepIn K (.ref f6) = true)
    (a7 : PySem.W.nsIn K mainGlobals "_law_draw" = some (some (.ref f7)))
    (l7 : K.lookup f7 = some ⟨oc7, od7, .func (PySem.W.fnOf "_law_draw" "_law_draw" (defArgs s__law_draw) (defBody s__law_draw) (defScope s__law_draw) .none kV7 dc7 pm7 an7 cd7 ct7), sl7⟩)
    (c7 : PySem.W.codeIn K cd7 "_law_draw" = true)
    (k7 : PySem.W.keepIn K (.ref f7) = true)
    (a8 : PySem.W.nsIn K mainGlobals "_law_of" = some (some (.ref f8)))
    (l8 : K.lookup f8 = some ⟨oc8, od8, .func (PySem.W.fnOf "_law_of" "_law_of" (defArgs s__law_of) (defBody s__law_of) (defScope s__law_of) .none kV8 dc8 pm8 an8 cd8 ct8), sl8⟩)
    (c8 : PySem.W.codeIn K cd8 "_law_of" = true)
    (k8 : PySem.W.keepIn K (.ref f8) = true)
    (a9 : PySem.W.nsIn K mainGlobals "_law_number" = some (some (.ref f9)))
    (l9 : K.lookup f9 = some ⟨oc9, od9, .func (PySem.W.fnOf "_law_number" "_law_number" (defArgs s__law_number) (defBody s__law_number) (defScope s__law_number) .none kV9 dc9 pm9 an9 cd9 ct9), sl9⟩)
    (c9 : PySem.W.codeIn K cd9 "_law_number" = true)
    (k9 : PySem.W.keepIn K (.ref f9) = true)
    (a10 : PySem.W.nsIn K mainGlobals "_law_base" = some (some (.ref f10)))
    (l10 : K.lookup f10 = some ⟨oc10, od10, .func (PySem.W.fnOf "_law_base" "_law_base" (defArgs s__law_base) (defBody s__law_base) (defScope s__law_base) .none kV10 dc10 pm10 an10 cd10 ct10), sl10⟩)
    (c10 : PySem.W.codeIn K cd10 "_law_base" = true)
    (k10 : PySem.W.keepIn K (.ref f10) = true)
    (a11 : PySem.W.nsIn K mainGlobals "_law_lists" = some (some (.ref f11)))
    (l11 : K.lookup f11 = some ⟨oc11, od11, .func (PySem.W.fnOf "_law_lists" "_law_lists" (defArgs s__law_lists) (defBody s__law_lists) (defScope s__law_lists) .none kV11 dc11 pm11 an11 cd11 ct11), sl11⟩)
    (c11 : PySem.W.codeIn K cd11 "_law_lists" = true)
    (k11 : PySem.W.keepIn K (.ref f11) = true)
    (a12 : PySem.W.nsIn K mainGlobals "_law_spoilt" = some (some (.ref f12)))
    (l12 : K.lookup f12 = some ⟨oc12, od12, .func (PySem.W.fnOf "_law_spoilt" "_law_spoilt" (defArgs s__law_spoilt) (defBody s__law_spoilt) (defScope s__law_spoilt) .none kV12 dc12 pm12 an12 cd12 ct12), sl12⟩)
    (c12 : PySem.W.codeIn K cd12 "_law_spoilt" = true)
    (k12 : PySem.W.keepIn K (.ref f12) = true)
    (a13 : PySem.W.nsIn K mainGlobals "_law_look" = some (some (.ref f13)))
    (l13 : K.lookup f13 = some ⟨oc13, od13, .func (PySem.W.fnOf "_law_look" "_law_look" (defArgs s__law_look) (defBody s__law_look) (defScope s__law_look) .none kV13 dc13 pm13 an13 cd13 ct13), sl13⟩)
    (c13 : PySem.W.codeIn K cd13 "_law_look" = true)
    (k13 : PySem.W.keepIn K (.ref f13) = true)
    (a14 : PySem.W.nsIn K mainGlobals "_law_deep" = some (some (.ref f14)))
    (l14 : K.lookup f14 = some ⟨oc14, od14, .func (PySem.W.fnOf "_law_deep" "_law_deep" (defArgs s__law_deep) (defBody s__law_deep) (defScope s__law_deep) .none kV14 dc14 pm14 an14 cd14 ct14), sl14⟩)
    (c14 : PySem.W.codeIn K cd14 "_law_deep" = true)
    (k14 : PySem.W.keepIn K (.ref f14) = true)
    (a15 : PySem.W.nsIn K mainGlobals "_law_told" = some (some (.ref f15)))
    (l15 : K.lookup f15 = some ⟨oc15, od15, .func (PySem.W.fnOf "_law_told" "_law_told" (defArgs s__law_told) (defBody s__law_told) (defScope s__law_told) .none kV15 dc15 pm15 an15 cd15 ct15), sl15⟩)
    (c15 : PySem.W.codeIn K cd15 "_law_told" = true)
    (k15 : PySem.W.keepIn K (.ref f15) = true)
    (a16 : PySem.W.nsIn K mainGlobals "law" = some (some (.ref f16)))
    (l16 : K.lookup f16 = some ⟨oc16, od16, .func (PySem.W.fnOf "law" "law" (defArgs s_law) (defBody s_law) (defScope s_law) .none kV16 dc16 pm16 an16 cd16 ct16), sl16⟩)
    (c16 : PySem.W.codeIn K cd16 "law" = true)
    (k16 : PySem.W.keepIn K (.ref f16) = true)
    (a_Array : PySem.W.nsIn K mainGlobals "Array" = some (some (.ref C_Array)))
    (a17 : PySem.W.findIn K (.ref C_Array) "__init__" = some (some (.ref f17)))
    (i17 : PySem.W.isFn K (.ref f17) = true)
    (l17 : K.lookup f17 = some ⟨oc17, od17, .func (PySem.W.fnOf "__init__" "Array.__init__" (defArgs s_Array___init__) (defBody s_Array___init__) (defScope s_Array___init__) .none kV17 dc17 pm17 an17 cd17 ct17), sl17⟩)
    (c17 : PySem.W.codeIn K cd17 "Array.__init__" = true)
    (k17 : PySem.W.keepIn K (.ref f17) = true)
    (a18 : PySem.W.findIn K (.ref C_Array) "__eq__" = some (some (.ref f18)))
    (i18 : PySem.W.isFn K (.ref f18) = true)
    (l18 : K.lookup f18 = some ⟨oc18, od18, .func (PySem.W.fnOf "__eq__" "Array.__eq__" (defArgs s_Array___eq__) (defBody s_Array___eq__) (defScope s_Array___eq__) .none kV18 dc18 pm18 an18 cd18 ct18), sl18⟩)
    (c18 : PySem.W.codeIn K cd18 "Array.__eq__" = true)
    (k18 : PySem.W.keepIn K (.ref f18) = true)
    (pg_Array : PySem.W.plainGet K C_Array Str.empty = true)
    (hd_Array : PySem.W.hasDictIn K C_Array = true)
    (po_Array : PySem.W.plainOver K C_Array = true)
    (sa_Array : PySem.W.findIn K (.ref C_Array) "__setattr__" = some (some (.builtin "object.__setattr__")))
    (mk_Array : PySem.W.makesIn K C_Array = true)
    (kp_Array : PySem.W.keepIn K (.ref C_Array) = true)
    (ne_Array : PySem.W.findIn K (.ref C_Array) "__ne__" = some (some (.builtin "object.__ne__")))
    (ob_Array : PySem.W.mroIn K C_Array (.type "object") = some true)
    (nolist_Array : PySem.W.mroIn K C_Array (.type "list") = some false)
    (notuple_Array : PySem.W.mroIn K C_Array (.type "tuple") = some false)
    (nodict_Array : PySem.W.mroIn K C_Array (.type "dict") = some false)
    (nostr_Array : PySem.W.mroIn K C_Array (.type "str") = some false)
    (noint_Array : PySem.W.mroIn K C_Array (.type "int") = some false)
    (nobool_Array : PySem.W.mroIn K C_Array (.type "bool") = some false)
    (noNoneType_Array : PySem.W.mroIn K C_Array (.type "NoneType") = some false)
    (ca_Array : PySem.W.findIn K (.ref C_Array) "__class__" = some (some (.builtin "object.__class__")))
    (cn_Array : PySem.W.specialIn K (.builtin "object.__class__") "__get__" = some (some (.builtin "getset_descriptor.__get__")))
    (ct_Array : PySem.W.takesIn K (.builtin "object.__class__") = some true)
    (ci_Array : PySem.W.isClsIn K C_Array = true)
    (ti_Array : PySem.W.typeIn K (.ref C_Array) = some (.type "type"))
    (nf_shape_Array : PySem.W.findIn K (.ref C_Array) "shape" = some none)
    (nf_cells_Array : PySem.W.findIn K (.ref C_Array) "cells" = some none)
    (a_Ragged : PySem.W.nsIn K mainGlobals "Ragged" = some (some (.ref C_Ragged)))
    (a19 : PySem.W.findIn K (.ref C_Ragged) "__init__" = some (some (.ref f19)))
    (i19 : PySem.W.isFn K (.ref f19) = true)
    (l19 : K.lookup f19 = some ⟨oc19, od19, .func (PySem.W.fnOf "__init__" "Ragged.__init__" (defArgs s_Ragged___init__) (defBody s_Ragged___init__) (defScope s_Ragged___init__) .none kV19 dc19 pm19 an19 cd19 ct19), sl19⟩)
    (c19 : PySem.W.codeIn K cd19 "Ragged.__init__" = true)
    (k19 : PySem.W.keepIn K (.ref f19) = true)
    (ii_Ragged : PySem.W.excInitIn K C_Ragged [.type "ValueError", .type "Exception", .type "BaseException", .type "object"] "ValueError.__new__" = true)
    (ov_Ragged : PySem.W.excOver K C_Ragged [.type "ValueError", .type "Exception", .type "BaseException", .type "object"] = true)
    (hd_Ragged : PySem.W.hasDictIn K C_Ragged = true)
    (sa_Ragged : PySem.W.findIn K (.ref C_Ragged) "__setattr__" = some (some (.builtin "object.__setattr__")))
    (ga_Ragged : PySem.W.findIn K (.ref C_Ragged) "__getattribute__" = some (some (.builtin "BaseException.__getattribute__")))
    (gt_Ragged : PySem.W.findIn K (.ref C_Ragged) "__getattr__" = some none)
    (ex_Ragged : PySem.W.subIn K (.ref C_Ragged) (.type "BaseException") = some true)
    (kp_Ragged : PySem.W.keepIn K (.ref C_Ragged) = true)
    (ob_Ragged : PySem.W.mroIn K C_Ragged (.type "object") = some true)
    (sf_Ragged : PySem.W.subIn K (.ref C_Ragged) (.ref C_Ragged) = some true)
    (ca_Ragged : PySem.W.findIn K (.ref C_Ragged) "__class__" = some (some (.builtin "object.__class__")))
    (cn_Ragged : PySem.W.specialIn K (.builtin "object.__class__") "__get__" = some (some (.builtin "getset_descriptor.__get__")))
    (ct_Ragged : PySem.W.takesIn K (.builtin "object.__class__") = some true)
    (ci_Ragged : PySem.W.isClsIn K C_Ragged = true)
    (ti_Ragged : PySem.W.typeIn K (.ref C_Ragged) = some (.type "type"))
    (nf_at_Ragged : PySem.W.findIn K (.ref C_Ragged) "at" = some none)
    (a_NoShape : PySem.W.nsIn K mainGlobals "NoShape" = some (some (.ref C_NoShape)))
    (a_Miscount : PySem.W.nsIn K mainGlobals "Miscount" = some (some (.ref C_Miscount)))
    (a_NoText : PySem.W.nsIn K mainGlobals "NoText" = some (some (.ref C_NoText)))
    (z_len : PySem.W.nsIn K mainGlobals "len" = some none)
    (z_list : PySem.W.nsIn K mainGlobals "list" = some none)
    (z_range : PySem.W.nsIn K mainGlobals "range" = some none)
    (z_isinstance : PySem.W.nsIn K mainGlobals "isinstance" = some none)
    (z_int : PySem.W.nsIn K mainGlobals "int" = some none)
    (z_bool : PySem.W.nsIn K mainGlobals "bool" = some none)
    (z_tuple : PySem.W.nsIn K mainGlobals "tuple" = some none)
    (z_all : PySem.W.nsIn K mainGlobals "all" = some none)
    (z_abs : PySem.W.nsIn K mainGlobals "abs" = some none)
    (z_repr : PySem.W.nsIn K mainGlobals "repr" = some none)
    (z_max : PySem.W.nsIn K mainGlobals "max" = some none)
    (z_min : PySem.W.nsIn K mainGlobals "min" = some none)
    (z_enumerate : PySem.W.nsIn K mainGlobals "enumerate" = some none)
    (z_ValueError : PySem.W.nsIn K mainGlobals "ValueError" = some none)
    (fi_ValueError : PySem.W.findCls K (.type "ValueError") (.type "type") "__init__" = some (.val (.builtin "ValueError.__init__")))
    (g_MOST_AXES : PySem.W.nsIn K mainGlobals "MOST_AXES" = some (some (.int 6 t_MOST_AXES)))
    (g_MOST_SIZE : PySem.W.nsIn K mainGlobals "MOST_SIZE" = some (some (.int 4000 t_MOST_SIZE)))
    (e_isV : PySem.W.kitOne K (.ref C_Ragged) (.type "ValueError") = some true)
    (e_isO : PySem.W.kitAny K (.ref C_Ragged) [.ref C_NoShape, .ref C_Miscount, .ref C_NoText] = some false) :
    ∃ fd : FuncData, (∀ (s : Shared) (v : Value), BindsTo s fd ⟨[v], []⟩ [("_law_script", v)]) ∧ ∀ base : Heap, K.In base → base.Ns mainGlobals mg → (∃ o, base.get? sysModules = some o) → FnG l.prog w K mg base CX0 15 fa fd ["_law_script"] (spLaw K) := by
  have e := hfa.symm.trans (PySem.W.mg_of X G a16)
  cases e
  have cl_Array : Cls K C_Array := ⟨pg_Array, hd_Array, po_Array, sa_Array⟩
  let M_Array___init__ : MtAt K C_Array "__init__" "Array.__init__" s_Array___init__ ["self", "shape", "cells"] := ⟨f17, _, (fun_mk (st := s_Array___init__) l17 c17 k17), (fun_mk (st := s_Array___init__) l17 c17 k17).binds (ps := ["self", "shape", "cells"]) fun _ _ _ _ _ _ us hl => match us, hl with | [_, _, _], _ => rfl, ⟨a17, i17, k17⟩⟩
  let M_Array___eq__ : MtAt K C_Array "__eq__" "Array.__eq__" s_Array___eq__ ["self", "other"] := ⟨f18, _, (fun_mk (st := s_Array___eq__) l18 c18 k18), (fun_mk (st := s_Array___eq__) l18 c18 k18).binds (ps := ["self", "other"]) fun _ _ _ _ _ _ us hl => match us, hl with | [_, _], _ => rfl, ⟨a18, i18, k18⟩⟩
  let M_Ragged___init__ : MtAt K C_Ragged "__init__" "Ragged.__init__" s_Ragged___init__ ["self", "at"] := ⟨f19, _, (fun_mk (st := s_Ragged___init__) l19 c19 k19), (fun_mk (st := s_Ragged___init__) l19 c19 k19).binds (ps := ["self", "at"]) fun _ _ _ _ _ _ us hl => match us, hl with | [_, _], _ => rfl, ⟨a19, i19, k19⟩⟩
  have T : Tx K mg := {
    C_Array := C_Array
    C_Ragged := C_Ragged
    C_NoShape := C_NoShape
    C_Miscount := C_Miscount
    C_NoText := C_NoText
    Array___init__ := M_Array___init__
    Array___eq__ := M_Array___eq__
    Array := ⟨⟨mk_Array, M_Array___init__.m.at_, M_Array___init__.m.fn, kp_Array⟩, cl_Array, PySem.W.mg_of X G a_Array⟩
    ow_Array := ⟨M_Array___eq__.m.at_, M_Array___eq__.m.fn, ne_Array, ob_Array, nolist_Array, notuple_Array, nodict_Array, nostr_Array, noint_Array, nobool_Array, noNoneType_Array⟩
    ot_Array := ⟨cl_Array, fun h => .base (.ins h cl_Array ca_Array cn_Array ct_Array ob_Array)⟩
    kc_Array := kit_yes ci_Array ti_Array
    n_Array_shape := nf_shape_Array
    n_Array_cells := nf_cells_Array
    Ragged___init__ := M_Ragged___init__
    x_Ragged := ⟨PySem.F.excBase_ValueError, PySem.F.store_ValueError, ii_Ragged, ov_Ragged, hd_Ragged, sa_Ragged, ga_Ragged, ⟨_, gt_Ragged⟩, ex_Ragged, ti_Ragged, kp_Ragged, ci_Ragged, ca_Ragged, cn_Ragged, ct_Ragged, ob_Ragged⟩
    s_Ragged := PySem.W.exm_ref ex_Ragged hd_Ragged ti_Ragged sf_Ragged
    n_Ragged_at := nf_at_Ragged
    m_Ragged := PySem.W.mg_of X G a_Ragged
    m_NoShape := PySem.W.mg_of X G a_NoShape
    m_Miscount := PySem.W.mg_of X G a_Miscount
    m_NoText := PySem.W.mg_of X G a_NoText
    be_ValueError := ⟨by decide +kernel, by kernel_rfl, by decide +kernel, fi_ValueError, by decide +kernel⟩
    t_MOST_AXES := t_MOST_AXES
    c_MOST_AXES := PySem.W.mg_of X G g_MOST_AXES
    t_MOST_SIZE := t_MOST_SIZE
    c_MOST_SIZE := PySem.W.mg_of X G g_MOST_SIZE
    isV := e_isV
    isO := e_isO
    is_whole := ⟨f0, _, (fun_mk (st := s_is_whole) l0 c0 k0), (fun_mk (st := s_is_whole) l0 c0 k0).binds (ps := ["thing"]) fun _ _ _ _ _ _ us hl => match us, hl with | [_], _ => rfl, PySem.W.mg_of X G a0⟩
    is_from := ⟨f1, _, (fun_mk (st := s_is_from) l1 c1 k1), (fun_mk (st := s_is_from) l1 c1 k1).binds (ps := ["thing", "least", "most"]) fun _ _ _ _ _ _ us hl => match us, hl with | [_, _, _], _ => rfl, PySem.W.mg_of X G a1⟩
    is_shape := ⟨f2, _, (fun_mk (st := s_is_shape) l2 c2 k2), (fun_mk (st := s_is_shape) l2 c2 k2).binds (ps := ["thing"]) fun _ _ _ _ _ _ us hl => match us, hl with | [_], _ => rfl, PySem.W.mg_of X G a2⟩
    count := ⟨f3, _, (fun_mk (st := s_count) l3 c3 k3), (fun_mk (st := s_count) l3 c3 k3).binds (ps := ["shape"]) fun _ _ _ _ _ _ us hl => match us, hl with | [_], _ => rfl, PySem.W.mg_of X G a3⟩
    made_of := ⟨f4, _, (fun_mk (st := s_made_of) l4 c4 k4), (fun_mk (st := s_made_of) l4 c4 k4).binds (ps := ["thing", "at"]) fun _ _ _ _ _ _ us hl => match us, hl with | [_, _], _ => rfl, PySem.W.mg_of X G a4⟩
    nested_array := ⟨f5, _, (fun_mk (st := s_nested_array) l5 c5 k5), (fun_mk (st := s_nested_array) l5 c5 k5).binds (ps := ["things"]) fun _ _ _ _ _ _ us hl => match us, hl with | [_], _ => rfl, PySem.W.mg_of X G a5⟩
    _law_feed := ⟨f6, _, (fun_mk (st := s__law_feed) l6 c6 k6), (fun_mk (st := s__law_feed) l6 c6 k6).binds (ps := ["_law_script"]) fun _ _ _ _ _ _ us hl => match us, hl with | [_], _ => rfl, PySem.W.mg_of X G a6⟩
    _law_draw := ⟨f7, _, (fun_mk (st := s__law_draw) l7 c7 k7), (fun_mk (st := s__law_draw) l7 c7 k7).binds (ps := ["_law_feed_here", "_law_many"]) fun _ _ _ _ _ _ us hl => match us, hl with | [_, _], _ => rfl, PySem.W.mg_of X G a7⟩
    _law_of := ⟨f8, _, (fun_mk (st := s__law_of) l8 c8 k8), (fun_mk (st := s__law_of) l8 c8 k8).binds (ps := ["_law_feed_here", "_law_some"]) fun _ _ _ _ _ _ us hl => match us, hl with | [_, _], _ => rfl, PySem.W.mg_of X G a8⟩
    _law_number := ⟨f9, _, (fun_mk (st := s__law_number) l9 c9 k9), (fun_mk (st := s__law_number) l9 c9 k9).binds (ps := ["_law_feed_here"]) fun _ _ _ _ _ _ us hl => match us, hl with | [_], _ => rfl, PySem.W.mg_of X G a9⟩
    _law_base := ⟨f10, _, (fun_mk (st := s__law_base) l10 c10 k10), (fun_mk (st := s__law_base) l10 c10 k10).binds (ps := ["_law_feed_here", "_law_axes", "_law_wide"]) fun _ _ _ _ _ _ us hl => match us, hl with | [_, _, _], _ => rfl, PySem.W.mg_of X G a10⟩
    _law_lists := ⟨f11, _, (fun_mk (st := s__law_lists) l11 c11 k11), (fun_mk (st := s__law_lists) l11 c11 k11).binds (ps := ["_law_feed_here", "_law_shape"]) fun _ _ _ _ _ _ us hl => match us, hl with | [_, _], _ => rfl, PySem.W.mg_of X G a11⟩
    _law_spoilt := ⟨f12, _, (fun_mk (st := s__law_spoilt) l12 c12 k12), (fun_mk (st := s__law_spoilt) l12 c12 k12).binds (ps := ["_law_feed_here", "_law_thing"]) fun _ _ _ _ _ _ us hl => match us, hl with | [_, _], _ => rfl, PySem.W.mg_of X G a12⟩
    _law_look := ⟨f13, _, (fun_mk (st := s__law_look) l13 c13 k13), (fun_mk (st := s__law_look) l13 c13 k13).binds (ps := ["_law_thing", "_law_at"]) fun _ _ _ _ _ _ us hl => match us, hl with | [_, _], _ => rfl, PySem.W.mg_of X G a13⟩
    _law_deep := ⟨f14, _, (fun_mk (st := s__law_deep) l14 c14 k14), (fun_mk (st := s__law_deep) l14 c14 k14).binds (ps := ["_law_thing"]) fun _ _ _ _ _ _ us hl => match us, hl with | [_], _ => rfl, PySem.W.mg_of X G a14⟩
    _law_told := ⟨f15, _, (fun_mk (st := s__law_told) l15 c15 k15), (fun_mk (st := s__law_told) l15 c15 k15).binds (ps := ["_law_things"]) fun _ _ _ _ _ _ us hl => match us, hl with | [_], _ => rfl, PySem.W.mg_of X G a15⟩
    b_len := PySem.W.mg_none_of X G z_len
    b_list := PySem.W.mg_none_of X G z_list
    b_range := PySem.W.mg_none_of X G z_range
    b_isinstance := PySem.W.mg_none_of X G z_isinstance
    b_int := PySem.W.mg_none_of X G z_int
    b_bool := PySem.W.mg_none_of X G z_bool
    b_tuple := PySem.W.mg_none_of X G z_tuple
    b_all := PySem.W.mg_none_of X G z_all
    b_abs := PySem.W.mg_none_of X G z_abs
    b_repr := PySem.W.mg_none_of X G z_repr
    b_max := PySem.W.mg_none_of X G z_max
    b_min := PySem.W.mg_none_of X G z_min
    b_enumerate := PySem.W.mg_none_of X G z_enumerate
    b_ValueError := PySem.W.mg_none_of X G z_ValueError }
  exact ⟨PySem.W.fnOf "law" "law" (defArgs s_law) (defBody s_law) (defScope s_law) .none kV16 dc16 pm16 an16 cd16 ct16, fun s v => .of_eq rfl, fun base _ _ hbs => ok_law T hbs (fun_mk (st := s_law) l16 c16 k16)⟩
theorem walk {l : PySem.W.OpenLaw} {q : Program} {loose : List Str} {XP : (Str → Option Value) → Heap → Prop} {YP : World → Heap → Prop} {d : DefRec} {K : Params → PySem.W.Frag} (imp : PyProof.Rows.importsNone q = true) (hn : l.most = some 63) (hdf : d.params.defaults = [])
    (hY : ∀ (w : World) (h : Heap), YP w h → (K w.params).In h)
    (F : ∀ (w : World) (mg : Str → Option Value) (fa : Addr) (h : Heap), (K w.params).In h → h.Ns mainGlobals mg → mg d.name = some (.ref fa) →
      ∃ fd : FuncData, (∀ (s : Shared) (u : Value), BindsTo s fd ⟨[u], []⟩ [("_law_script", u)]) ∧ ∀ base : Heap, (K w.params).In base → base.Ns mainGlobals mg → (∃ o, base.get? sysModules = some o) → FnG l.prog w (K w.params) mg base CX0 15 fa fd ["_law_script"] (spLaw (K w.params))) :
    PySem.W.WalkO q loose XP YP l.row.toRowW d [] (fun f vs => PySem.call f vs) :=
  endS (n := 63) (k := 15) (x := "_law_script") (sp := fun w => spLaw (K w.params)) imp hn (by decide) hdf ⟨rfl, by decide, by decide⟩ hY F fun w H a ns hl _ hS => ⟨a, ns, rfl, hS, hl, fun _ => rfl⟩
end Cr
open PySem PySem.W PyProof.Rows in
set_option maxRecDepth 100000 in
set_option maxHeartbeats 0 in
theorem PySem.Challenge.cw_cellranks_k05_lists_that_are_ragged_holds : PySem.Challenge.rw_cellranks_k05_lists_that_are_ragged.Holds := by
  w_on; o_law; k_head; (case hw => w_witness2)
  k_fill
  refine Cr.walk (l := PySem.Challenge.rw_cellranks_k05_lists_that_are_ragged) (by decide +kernel) rfl rfl (fun w h Y => PySem.W.kIn_of Y) ?F
  case F =>
    intro w mg fa h KX G hmg
    refine' Cr.all_mk KX G hmg ?a0 ?l0 ?c0 ?k0 ?a1 ?l1 ?c1 ?k1 ?a2 ?l2 ?c2 ?k2 ?a3 ?l3 ?c3 ?k3 ?a4 ?l4 ?c4 ?k4 ?a5 ?l5 ?c5 ?k5 ?a6 ?l6 ?c6 ?k6 ?a7 ?l7 ?c7 ?k7 ?a8 ?l8 ?c8 ?k8 ?a9 ?l9 ?c9 ?k9 ?a10 ?l10 ?c10 ?k10 ?a11 ?l11 ?c11 ?k11 ?a12 ?l12 ?c12 ?k12 ?a13 ?l13 ?c13 ?k13 ?a14 ?l14 ?c14 ?k14 ?a15 ?l15 ?c15 ?k15 ?a16 ?l16 ?c16 ?k16 ?a_Array ?a17 ?i17 ?l17 ?c17 ?k17 ?a18 ?i18 ?l18 ?c18 ?k18 ?pg_Array ?hd_Array ?po_Array ?sa_Array ?mk_Array ?kp_Array ?ne_Array ?ob_Array ?nolist_Array ?notuple_Array ?nodict_Array ?nostr_Array ?noint_Array ?nobool_Array ?noNoneType_Array ?ca_Array ?cn_Array ?ct_Array ?ci_Array ?ti_Array ?nf_shape_Array ?nf_cells_Array ?a_Ragged ?a19 ?i19 ?l19 ?c19 ?k19 ?ii_Ragged ?ov_Ragged ?hd_Ragged ?sa_Ragged ?ga_Ragged ?gt_Ragged ?ex_Ragged ?kp_Ragged ?ob_Ragged ?sf_Ragged ?ca_Ragged ?cn_Ragged ?ct_Ragged ?ci_Ragged ?ti_Ragged ?nf_at_Ragged ?a_NoShape ?a_Miscount ?a_NoText ?z_len ?z_list ?z_range ?z_isinstance ?z_int ?z_bool ?z_tuple ?z_all ?z_abs ?z_repr ?z_max ?z_min ?z_enumerate ?z_ValueError ?fi_ValueError ?g_MOST_AXES ?g_MOST_SIZE ?e_isV ?e_isO
    (case a0 => k_is)
    (case l0 => k_is)
    (case c0 => k_is)
    (case k0 => k_is)
    (case a1 => k_is)
    (case l1 => k_is)
    (case c1 => k_is)
    (case k1 => k_is)
    (case a2 => k_is)
    (case l2 => k_is)
    (case c2 => k_is)
    (case k2 => k_is)
    (case a3 => k_is)
    (case l3 => k_is)
    (case c3 => k_is)
    (case k3 => k_is)
    (case a4 => k_is)
    (case l4 => k_is)
    (case c4 => k_is)
    (case k4 => k_is)
    (case a5 => k_is)
    (case l5 => k_is)
    (case c5 => k_is)
    (case k5 => k_is)
    (case a6 => k_is)
    (case l6 => k_is)
    (case c6 => k_is)
    (case k6 => k_is)
    (case a7 => k_is)
    (case l7 => k_is)
    (case c7 => k_is)
    (case k7 => k_is)
    (case a8 => k_is)
    (case l8 => k_is)
    (case c8 => k_is)
    (case k8 => k_is)
    (case a9 => k_is)
    (case l9 => k_is)
    (case c9 => k_is)
    (case k9 => k_is)
    (case a10 => k_is)
    (case l10 => k_is)
    (case c10 => k_is)
    (case k10 => k_is)
    (case a11 => k_is)
    (case l11 => k_is)
    (case c11 => k_is)
    (case k11 => k_is)
    (case a12 => k_is)
    (case l12 => k_is)
    (case c12 => k_is)
    (case k12 => k_is)
    (case a13 => k_is)
    (case l13 => k_is)
    (case c13 => k_is)
    (case k13 => k_is)
    (case a14 => k_is)
    (case l14 => k_is)
    (case c14 => k_is)
    (case k14 => k_is)
    (case a15 => k_is)
    (case l15 => k_is)
    (case c15 => k_is)
    (case k15 => k_is)
    (case a16 => k_is)
    (case l16 => k_is)
    (case c16 => k_is)
    (case k16 => k_is)
    (case a_Array => k_is)
    (case a17 => k_is)
    (case i17 => k_is)
    (case l17 => k_is)
    (case c17 => k_is)
    (case k17 => k_is)
    (case a18 => k_is)
    (case i18 => k_is)
    (case l18 => k_is)
    (case c18 => k_is)
    (case k18 => k_is)
    (case pg_Array => k_is)
    (case hd_Array => k_is)
    (case po_Array => k_is)
    (case sa_Array => k_is)
    (case mk_Array => k_is)
    (case kp_Array => k_is)
    (case ne_Array => k_is)
    (case ob_Array => k_is)
    (case nolist_Array => k_is)
    (case notuple_Array => k_is)
    (case nodict_Array => k_is)
    (case nostr_Array => k_is)
    (case noint_Array => k_is)
    (case nobool_Array => k_is)
    (case noNoneType_Array => k_is)
    (case ca_Array => k_is)
    (case cn_Array => k_is)
    (case ct_Array => k_is)
    (case ci_Array => k_is)
    (case ti_Array => k_is)
    (case nf_shape_Array => k_is)
    (case nf_cells_Array => k_is)
    (case a_Ragged => k_is)
    (case a19 => k_is)
    (case i19 => k_is)
    (case l19 => k_is)
    (case c19 => k_is)
    (case k19 => k_is)
    (case ii_Ragged => kx_is)
    (case ov_Ragged => kx_is)
    (case hd_Ragged => k_is)
    (case sa_Ragged => k_is)
    (case ga_Ragged => k_is)
    (case gt_Ragged => k_is)
    (case ex_Ragged => k_is)
    (case kp_Ragged => k_is)
    (case ob_Ragged => k_is)
    (case sf_Ragged => k_is)
    (case ca_Ragged => k_is)
    (case cn_Ragged => k_is)
    (case ct_Ragged => k_is)
    (case ci_Ragged => k_is)
    (case ti_Ragged => k_is)
    (case nf_at_Ragged => k_is)
    (case a_NoShape => k_is)
    (case a_Miscount => k_is)
    (case a_NoText => k_is)
    (case z_len => k_is)
    (case z_list => k_is)
    (case z_range => k_is)
    (case z_isinstance => k_is)
    (case z_int => k_is)
    (case z_bool => k_is)
    (case z_tuple => k_is)
    (case z_all => k_is)
    (case z_abs => k_is)
    (case z_repr => k_is)
    (case z_max => k_is)
    (case z_min => k_is)
    (case z_enumerate => k_is)
    (case z_ValueError => k_is)
    (case fi_ValueError => k_is)
    (case g_MOST_AXES => k_is)
    (case g_MOST_SIZE => k_is)
    (case e_isV => kit_is)
    (case e_isO => kit_is)
