import PyProof.Rows.All
import Wide.All
import OpenK.AllK
import Wide.FinOn
import HandS.ForMost
import HandS.Flow
import HandS.Style
import HandS.MakeKwOnly
import HandS.DictComp
import HandS.FStr
import HandS.IsInst
import HandS.OwnEq
import HandS.RaiseMore
import HandS.EndBits
import HandS.Evl
import PyProof.Rows.StrRev
import PyProof.ReprRoads
import PyProof.CollectStr
import HandS.Exc
import HandS.ExcInit
import HandS.WordsExc
import HandS.CallSlots
import HandS.More
import KE.KExcInit
import KE.KExcIs
import KE.KExcHand
import HandS.Wide
import HandS.Small
import HandS.Defaults
import HandS.StrMore
import KE.KUnpackStar
import HandS.TupAny
import KE.KCallOwn
import PyProof.FactsLen
import PyProof.CallFns
import PyProof.Conv_bool
import HandS.DictSub
import HandS.TupMul
import PyProof.StrOps2
import KE.KRevSl
import HandS.SortInts
import PyProof.TupleOfSeq
import HandS.Zip
import HandS.Rev
import HandS.Conv
import PySem.Challenge.RW_cellranks_k08_what_is_a_verb
import PyProof.Rows.StrFromFirst
import PyProof.Rows.StrFirst
import KE.KExcLine
import HandS.ExcIs
set_option Elab.async false
set_option linter.all false
set_option maxRecDepth 100000
set_option maxHeartbeats 4000000
/-! Cr0: what every law here uses: defs by place, the ghost part of the heap. -/
namespace Cr
open PySem L2

structure FnAt (K : PySem.W.Frag) (mg : Str → Option Value) (x qual : Str) (st : Stmt) (ps : List Str) where
  f : Addr
  fd : FuncData
  F : Fun K x qual st f fd
  b : Binds K fd ps []
  mg : mg x = some (.ref f)
structure MtAt (K : PySem.W.Frag) (C : Addr) (x qual : Str) (st : Stmt) (ps : List Str) where
  f : Addr
  fd : FuncData
  F : Fun K x qual st f fd
  b : Binds K fd ps []
  m : Meth K C x f
structure ClAt (K : PySem.W.Frag) (mg : Str → Option Value) (x : Str) (C fI : Addr) : Prop where
  mkk : Mk K C fI
  cl : Cls K C
  mg : mg x = some (.ref C)

/-! ### the ghost part: G stands in H -/
theorem Same.new {G H : Hp} {p : Addr} {o : HO} (s : Same G H) (h : H p = none) : Same G (upd H p o) := fun a u e => by
  rw [upd_ne (ne_of_none (s a u e) h)]
  exact s a u e
theorem Same.put {G H : Hp} {p : Addr} {o : HO} (s : Same G H) (h : G p = none) : Same G (upd H p o) := fun a u e => by
  rw [upd_ne (ne_of_none e h)]
  exact s a u e
theorem Same.add {G H : Hp} {p : Addr} {o : HO} (s : Same G H) (h : H p = some o) : Same (upd G p o) H := fun a u e => by
  by_cases q : a = p
  · subst q
    rw [upd_same] at e
    cases e
    exact h
  · rw [upd_ne q] at e
    exact s a u e
theorem Same.two {G H : Hp} {p : Addr} {o : HO} (s : Same G H) : Same (upd G p o) (upd H p o) := fun a u e => by
  by_cases q : a = p
  · subst q
    rw [upd_same] at e ⊢
    exact e
  · rw [upd_ne q] at e ⊢
    exact s a u e
theorem same_up {G : Hp} {p : Addr} {o : HO} (h : G p = none) : Same G (upd G p o) := fun a u e => by
  rw [upd_ne (ne_of_none e h)]
  exact e
theorem Same.lst {G H : Hp} {a : Addr} {u : HO} (s : Same G H) (h : Rd G a u) : Rd H a u := by
  rcases h with h | ⟨o, h⟩
  · exact .inl (s _ _ h)
  · exact .inr ⟨o, s _ _ h⟩
theorem Same.sqL {K : PySem.W.Frag} {G H : Hp} {a : Addr} {xs : List V} (s : Same G H) (h : SqL K G a xs) : SqL K H a xs := s.seq h
theorem Same.sqT {K : PySem.W.Frag} {G H : Hp} {a : Addr} {xs : List V} (s : Same G H) (h : SqT K G a xs) : SqT K H a xs := by
  rcases h with h | h
  · exact .inl (Same.lst s h)
  · exact .inr h
theorem pss_cut {X : Cx} {st : Stmt} {rest : List Stmt} {t u : TS} (h1 : PS X st t) (h2 : PSs X rest u) : PSs X (st :: rest) (Evl.tCut t u) := Evl.pss_cut h1 h2
theorem dpInts {K : PySem.W.Frag} {H : Hp} : ∀ ns : List Int, DpAll K H (ns.map V.int) (ns.map PyData.int)
  | [] => .nil
  | n :: r => .cons (.int n) (dpInts r)
theorem canInts : ∀ ns : List Int, PyData.canLayAll0 (ns.map PyData.int) = true
  | [] => rfl
  | n :: r => by simp [PyData.canLayAll0, PyData.canLay0, canInts r]
theorem depInts : ∀ ns : List Int, PyData.depthAll (ns.map PyData.int) ≤ 1
  | [] => by simp [PyData.depthAll]
  | n :: r => by have := depInts r; simp [PyData.depthAll, PyData.depth]; omega
theorem shInts (ns : List Int) : SeqAt.shaped (.list (ns.map PyData.int)) = true := by
  have h1 := canInts ns
  have h2 := depInts ns
  unfold SeqAt.shaped
  rw [show PyData.canLay0 (.list (ns.map PyData.int)) = true by rw [PyData.canLay0]; exact h1]
  simp [PyData.depth]
  omega
theorem fmod_rng (x : Int) {n : Int} (h : 0 < n) : 0 ≤ x.fmod n ∧ x.fmod n < n := ⟨Int.fmod_nonneg_of_pos _ h, Int.fmod_lt_of_pos _ h⟩
theorem ofL {K : PySem.W.Frag} {H : Hp} {a : Addr} {xs : List V} (h : H a = some (.lst xs)) : SqL K H a xs := .inl (.inl h)
theorem ofT {K : PySem.W.Frag} {H : Hp} {a : Addr} {xs : List V} (h : H a = some (.tup xs)) : SqT K H a xs := .inl (.inl h)
end Cr

/-! Cr1: rules that the layer lacks. -/
namespace Cr
open PySem PySem.Spec PyProof.Rows L2

/-! ### s[::-1] -/
def revS (z : Str) : Str := ⟨z.cps.toList.reverse.toArray⟩
theorem revS_length (z : Str) : (revS z).length = z.length := by simp [revS, Str.length]
def tRevS (te : TE) : TE := fun σ H Q => te σ H fun x H1 => ∃ z : Str, x = .str z ∧ z.length ≤ sizeLine ∧ Q (.str (revS z)) H1
theorem rev_picked (z : Str) : ((Builtin.Str.strSliceIndices none none (-1) z.length).filterMap (z.cps[·]?)).toArray = z.cps.toList.reverse.toArray := by
  rw [picked_rev]
  have e : z.length = z.cps.size := rfl
  rw [e, PySem.W.krv_range, List.filterMap_reverse, PySem.W.krv_all]
theorem pe_revS {X : Cx} {e : Expr} {te : TE} {k : Nat} {p1 p2 p3 pos : Pos} (he : PE X e te) : PE X (.Subscript e (.Slice none none (some (.UnaryOp .USub (.Constant (.int 1) k p1) p2)) p3) pos) (tRevS te) := by
  refine ⟨fun pins s σ H Q I h => ?_⟩
  refine Subscript_ (thn (he.run pins s σ H _ I h) fun v s1 ⟨x, H1, I1, r1, q1⟩ => ?_)
  obtain ⟨z, ex, hz, q⟩ := q1
  subst ex
  obtain ⟨t, rfl⟩ := r1
  have hst : PO X (some (.UnaryOp .USub (.Constant (.int 1) k p1) p2)) (tPart (tUn (rU fun i => .int (-i)) (tC (.int 1)))) := po_some (pe_un un_neg pe_int)
  refine wpAny_Slice (thn (po_none.run pins s1 σ H1 (fun o H2 => o = none ∧ H2 = H1) I1 ⟨rfl, rfl⟩) fun vl s2 ⟨l, H2, I2, pl, el, e2⟩ => ?_)
  subst el e2
  refine thn (po_none.run pins s2 σ H2 (fun o H3 => o = none ∧ H3 = H2) I2 ⟨rfl, rfl⟩) fun vu s3 ⟨u, H3, I3, pu, eu, e3⟩ => ?_
  subst eu e3
  refine thn (hst.run pins s3 σ H3 (fun o H4 => o = some (-1) ∧ H4 = H3) I3 ⟨1, rfl, -1, rfl, rfl, rfl⟩) fun vs s4 ⟨o, H4, I4, ps, eo, e4⟩ => ?_
  subst eo e4
  have I5 : Inv X pins σ H4 { s4 with heap := s4.heap.push { cls := .type "slice", data := .fields #[vl, vu, vs] } } := I4.kept (t' := s4.toks) fun b ob q => Heap.get?_push_of_some _ q
  obtain ⟨l, rfl, hl⟩ := IsPart.raw pl
  obtain ⟨u, rfl, hu⟩ := IsPart.raw pu
  obtain ⟨st, rfl, hst'⟩ := IsPart.raw ps
  have hl0 : l.map (·.1) = none := hl
  have hu0 : u.map (·.1) = none := hu
  have hs0 : st.map (·.1) = some (-1) := hst'
  show wpAny (model X.prog X.w) X.A (subscriptTail e (.Slice none none (some (.UnaryOp .USub (.Constant (.int 1) k p1) p2)) p3) (.str z t) (.ref s4.heap.objs.size)) (EP X pins σ Q) X.xe { s4 with heap := s4.heap.push { cls := .type "slice", data := .fields #[partValue l, partValue u, partValue st] } }
  refine tail_any (ops := [.str z t, .ref s4.heap.objs.size]) (typeIs_str _ _ _) F.slot_str_getitem.lookup ?_ (by with_unfolding_all rfl)
  refine wpAny_getItem_str_slice (l := l) (u := u) (st := st) ⟨_, Heap.get?_push_size _ rfl, rfl, rfl⟩ (by rw [hs0]; rfl) ?_
  have key : Made.post (if (((st.map (·.1)).getD 1 == 1) && (Builtin.Str.strSliceIndices (l.map (·.1)) (u.map (·.1)) ((st.map (·.1)).getD 1) z.length).length == z.length) = true then Made.val (.str z t)
    else Made.str ⟨((Builtin.Str.strSliceIndices (l.map (·.1)) (u.map (·.1)) ((st.map (·.1)).getD 1) z.length).filterMap (z.cps[·]?)).toArray⟩) (EP X pins σ Q) { s4 with heap := s4.heap.push { cls := .type "slice", data := .fields #[partValue l, partValue u, partValue st] } } := by
    rw [hl0, hu0, hs0]
    rw [if_neg (by rw [show (((some (-1) : Option Int)).getD 1 == 1) = false from rfl, Bool.false_and]; exact Bool.false_ne_true)]
    show Made.post (Made.str ⟨((Builtin.Str.strSliceIndices none none (-1) z.length).filterMap (z.cps[·]?)).toArray⟩) _ _
    rw [rev_picked]
    exact ⟨by have := revS_length z; unfold revS at this; rw [this]; exact hz, .str _, H4, I5.tok _, ⟨_, rfl⟩, q⟩
  exact key

/-! ### sorted(text) -/
def signs (z : Str) : List Str := z.cps.toList.map fun c => ⟨#[c]⟩
theorem signs_len (z : Str) : (signs z).length = z.length := by simp [signs, Str.length]
theorem call_sortedT {X : Cx} (hcalm : X.calm = true) : CallR X (.builtin "sorted") (fun xs H Q => ∃ z : Str, xs = [.str z] ∧ z.length < 64 ∧
    ∀ ys p, ys.Perm (signs z) → sortedS ys = true → H p = none → Q (.ref p) (upd H p (.lst (ys.map V.str)))) := by
  intro pins s σ H xs us Q I r q
  obtain ⟨z, ex, h64, q⟩ := q
  subst ex
  obtain ⟨u, eu, rx⟩ := vals1 r
  subst eu
  obtain ⟨t, rfl⟩ := rx
  have hsz : z.cps.size ≤ sizeLine := by
    have : z.length = z.cps.size := rfl
    rw [← this, sizeLine_eq]; omega
  refine Calls.call_function_entry PyProof.Rows.kind_sorted PyProof.Rows.plain_sorted PyProof.Rows.entry_sorted (PyProof.Rows.args_sorted1 _) ?_
  unfold Builtin.«sorted»
  refine wpAny_bind (m := checkCount "sorted" 1 1 _) (wpAny_pure ?_)
  refine wpAny_bind (PySem.wpAny_collect_str (A := X.A.in1) (I.ok.hd hcalm) z t (fun s' acc hk hg hd ho hacc => ?_) hsz)
  have hal : acc.toList.length = (signs z).length := by rw [Array.length_toList, hacc.1, signs_len]; rfl
  have hS : StrsAre acc.toList (signs z) := strs_at hal fun j v e => by
    obtain ⟨c, x, e1, e2⟩ := hacc.2 j v (by rw [← Array.getElem?_toList]; exact e)
    refine ⟨⟨#[c]⟩, x, ?_, e2⟩
    unfold signs
    rw [List.getElem?_map, Array.getElem?_toList, e1]
    rfl
  obtain ⟨h', g', d', tk, os'⟩ := s'
  have e0 : os' = s.os := ho
  have e1 : g' = s.gens := hg
  have e2 : d' = s.drawn := hd
  subst e0 e1 e2
  have I1 : Inv X pins σ H ⟨h', s.gens, s.drawn, tk, s.os⟩ := I.kept hk
  refine wpAny_bind (wpAny_newList ?_ (by rw [hal, signs_len, sizeLine_eq]; omega))
  have hoL : (h'.push (seqObj "list" acc.toList.toArray 0)).get? h'.objs.size = some (seqObj "list" acc.toList.toArray 0) := Heap.get?_push_size _ rfl
  show wpAny _ _ _ _ _ ⟨h'.push (seqObj "list" acc.toList.toArray 0), s.gens, s.drawn, tk, s.os⟩
  refine wpAny_bind (wpAny_holding (wpAny_call_entry PyProof.Rows.slot_list_sort ⟨_, hoL, rfl⟩ PyProof.Rows.entry_list_sort
    (list_sort_treeK strKind_oneLt (s := ⟨h'.push (seqObj "list" acc.toList.toArray 0), s.gens, s.drawn, tk, s.os⟩) hoL hS.keysOf (fun v₁ v₂ rest e => keyKind_strs (by rw [← e]; exact hS)) (by rw [hal, signs_len]; exact h64) fun st' hp hs => ⟨_, rfl, ?_⟩)
    (PyProof.Rows.args_list_sort _)))
  obtain ⟨ys, g1, g2, g3⟩ := sorted_out_str hS hp hs
  obtain ⟨e', he'⟩ := PyProof.Rows.sortedHeap_at (vs := acc.toList) (out := (arrOf st').map (·.2)) hoL
  have hlen : (ys.map V.str).length ≤ sizeLine := by
    rw [List.length_map, g2.length_eq, signs_len]
    exact Nat.le_trans (Nat.le_of_lt h64) (by decide)
  refine wpAny_pure ⟨_, rfl, .ref h'.objs.size, upd H h'.objs.size (.lst (ys.map V.str)), I1.laid (t' := tk) (fun b u e => ?_) (Nat.le_refl _)
    (show ObjOk X.prog X.w _ _ _ (.lst (ys.map V.str)) from ⟨hlen, ((arrOf st').map (·.2)).toList, e', vals_of_strs g1, by rw [Array.toArray_toList]; exact he'⟩), rfl, q ys _ g2 g3 (I1.hok.fresh (Nat.le_refl _))⟩
  have hb : b < h'.objs.size := Heap.lt_size e
  rw [PyProof.Rows.sortedHeap_old (Nat.ne_of_lt hb) (by rw [size_push']; exact Nat.lt_succ_of_lt hb)]
  exact Heap.get?_push_of_some _ e

/-! ### repr(data), where no repr runs around -/
theorem call_reprD {X : Cx} (hg : X.A.guards = some []) (hu : X.A.units + 66 < cLine) : CallR X (.builtin "repr") (fun xs H Q => ∃ (a : Addr) (d : PyData), xs = [.ref a] ∧ Dp X.K H (.ref a) d ∧ d.showable = true ∧ d.hasDict = false ∧ d.depth ≤ 64 ∧ d.shown.length ≤ sizeLine ∧ Q (.str d.shown) H) := by
  intro pins s σ H xs us Q I r h
  obtain ⟨a, d, ex, hd, hs, hnd, hdep, hsz, q⟩ := h
  subst ex
  obtain ⟨u, eu, rx⟩ := vals1 r
  subst eu
  cases rx
  obtain ⟨as, r1⟩ := Dp.reads I d _ _ hd rfl
  refine repr_of_reads' r1 hs (fun z => by rw [hnd] at z; cases z) hg (by omega) (fun b o e => e) (fun h' u tk hk => ⟨.str d.shown, H, I.kept (t' := tk) hk, ⟨u, rfl⟩, q⟩) hsz

/-! ### defs that are only run where no repr runs around -/
structure FnG (P : Program) (w : World) (K : PySem.W.Frag) (mg : Str → Option Value) (base : Heap) (CX : CXT) (k : Nat) (f : Addr) (fd : FuncData) (ps : List Str) (sp : Sp) : Prop where
  len : ∀ vs H Q E, sp vs H Q E → vs.length = ps.length
  run : ∀ (A : Around) (outer : List Env) (s : Shared) (H : Hp) (args : Args) (us : List Value) (vs : List V) (Q : VK) (E : XK), Room k A → A.guards = some [] → Env0 P w K mg base A outer s H → BindsTo s fd args (ps.zip us) → Vals vs us → sp vs H Q E →
    codeAny (model P w) A (.call (.ref f) args) (CR CX outer P w H s Q E) s
/-- what a body's end says of the call -/
theorem CE.of {X : Cx} {σ' : L2.St} {H' : Hp} {v : V} {u : Value} {s' : Shared} {Q : VK} (J : Inv X [] σ' H' s') (h0 : X.fs = frs X.outer) (hx : X.ex = []) (rv : RelV v u) (q : Q v H') : CE X.outer X.prog X.w X.H_0 X.s_0 Q u s' := by
  have b := J.base
  rw [hx] at b
  exact ⟨v, H', J.os, J.bare, b, J.hok, rv, q⟩
theorem okG {P : Program} {w : World} {K : PySem.W.Frag} {mg : Str → Option Value} {base : Heap} {x qual : Str} {st : Stmt} {f : Addr} {fd : FuncData} {N ps : List Str} {k : Nat} {sp : Sp}
    (F : Fun K x qual st f fd) (S : FnScope N ps (defScope st)) (hlen : ∀ vs H Q E, sp vs H Q E → vs.length = ps.length)
    (body : ∀ cdv A outer s H vs Q E, Room k (A.deeper (envOfC qual (defScope st) s.heap.objs.size f cdv)) → A.guards = some [] → sp vs H Q E →
      ∃ t, PSs (cxOf CX0 P w K mg base N qual (defScope st) f cdv A outer s H E).nox (defBody st) t ∧ t ⟨fun _ H' => Q .non H', Q, fun _ _ => False, fun _ _ => False⟩ (start N vs) H) :
    FnG P w K mg base CX0 (k + 1) f fd ps sp := by
  obtain ⟨oc, od, kV, doc, pm, an, cd, ct, osl, rfl, look, hc⟩ := F.ex
  refine ⟨hlen, fun A outer s H args us vs Q E room grd env bind rel want => ?_⟩
  have keep : ∀ b o, base.get? b = some o → s.heap.get? b = some o := fun b o e => (env.bs b o e).1
  have KX := env.mod.kin.keeps keep
  have par : ∀ y ∈ ps.zip us, (defScope st).names.lookup y.1 = some .local ∨
      ((defScope st).names.lookup y.1 = some .cell ∧ ((cellsFrom (s.heap.objs.size + 1) (defScope st).names []).lookup y.1).isSome = true) := by
    rintro ⟨n, v⟩ hy
    exact (S.par n (List.of_mem_zip hy).1).imp id fun q => ⟨q, PySem.W.cellsFrom_some _ _ _ (.inl q)⟩
  refine codeAny_call_function room.depth (KX _ _ look) rfl S.co S.gen rfl (PySem.W.codeRec_of KX hc) (bind _ _ _ _ ?_)
  refine wpAny_newFunctionEnv_cells S.kind par fun e he s1 x1 => ?_
  subst he
  obtain ⟨t, d, q⟩ := body cd A outer s H vs Q E (room.deeper _) grd want
  refine ⟨(env.mod.nolimit.keeps keep).keeps x1.toInCall.keep, codeAny_func (wpAny_mono (d.nox.run [] s1 _ H _ (inv_start S room.hd env (hlen _ _ _ _ want) rel x1) q) (fun fl s' hs => ?_) fun _ _ z => z)⟩
  cases fl with
  | ret u => let ⟨_, _, _, J, rv, z⟩ := hs; exact CE.of J rfl rfl rv z
  | next => let ⟨_, _, J, z⟩ := hs; exact CE.of (v := V.non) J rfl rfl rfl z
  | brk => exact hs.elim fun _ z => z.elim fun _ z => z.2.elim
  | cont => exact hs.elim fun _ z => z.elim fun _ z => z.2.elim
theorem FnG.of {P : Program} {w : World} {K : PySem.W.Frag} {mg : Str → Option Value} {base : Heap} {CX : CXT} {k : Nat} {f : Addr} {fd : FuncData} {ps : List Str} {sp : Sp} (F : FnOk P w K mg base CX k f fd ps sp) : FnG P w K mg base CX k f fd ps sp :=
  ⟨F.len, fun A outer s H args us vs Q E hr _ => F.run A outer s H args us vs Q E hr⟩

/-! ### the law's end by FnG: the script is tracked, locked, unless it is one of the written things -/
section
variable {P : Program} {w : World} {K : PySem.W.Frag} {a : Addr} {vs : List Value} {ns : List Int} {h : Heap}
def scrO (vs : List Value) : Obj := { cls := .type "list", data := .seq vs.toArray }
def scr (K : PySem.W.Frag) (a : Addr) (vs : List Value) (ns : List Int) : Hp := fun b => if b = a ∧ K.lookup a = none then some (.frz (scrO vs) (.lst (ns.map V.int))) else none
theorem scr_some {b : Addr} {u : HO} (e : scr K a vs ns b = some u) : b = a ∧ K.lookup a = none ∧ u = .frz (scrO vs) (.lst (ns.map V.int)) := by
  unfold scr at e
  split at e
  · next c => cases e; exact ⟨c.1, c.2, rfl⟩
  · cases e
theorem scr_only : Only (scr K a vs ns) := fun b => by
  cases e : scr K a vs ns b with
  | none => exact .inl rfl
  | some u => obtain ⟨_, _, rfl⟩ := scr_some e; exact .inr ⟨_, _, rfl⟩
theorem scr_ok (ha : h.get? a = some (scrO vs)) (hi : IntsAre vs ns) (hl : ns.length ≤ sizeLine) : HOk P w (scr K a vs ns) h := fun b u e => by
  obtain ⟨rfl, _, rfl⟩ := scr_some e
  exact ⟨ha, by rw [List.length_map]; exact hl, vs, _, vals_ints hi, ha⟩
theorem scr_sq (KX : K.In h) (ha : h.get? a = some (scrO vs)) (hi : IntsAre vs ns) (hl : ns.length ≤ sizeLine) : SqL K (scr K a vs ns) a (ns.map V.int) := by
  cases e : K.lookup a with
  | none => exact .inl (.inr ⟨scrO vs, if_pos ⟨rfl, e⟩⟩)
  | some o =>
    obtain rfl : scrO vs = o := Option.some.inj (ha.symm.trans (KX a o e))
    exact .inr ⟨_, vs.toArray, _, e, rfl, rfl, rfl, by rw [List.size_toArray, hi.length]; exact hl, by simpa using vals_ints hi⟩
theorem scr_dict {b : Addr} {o : Obj} {es : Array DictEntry} {ep : Nat} (ha : h.get? a = some (scrO vs)) (e : h.get? b = some o) (d : o.data = .dict es ep) : scr K a vs ns b = none := by
  cases q : scr K a vs ns b with
  | none => rfl
  | some u =>
    obtain ⟨rfl, _⟩ := scr_some q
    obtain rfl := Option.some.inj (ha.symm.trans e)
    cases d
theorem scr_free (b : Addr) (o : Obj) (e : K.lookup b = some o) : scr K a vs ns b = none := by
  cases q : scr K a vs ns b with
  | none => rfl
  | some u =>
    obtain ⟨rfl, n, _⟩ := scr_some q
    rw [n] at e
    cases e
theorem endG {l : PySem.W.OpenLaw} {n k : Nat} {q : Program} {loose : List Str} {XP : (Str → Option Value) → Heap → Prop} {YP : World → Heap → Prop} {d : DefRec} {K : Params → PySem.W.Frag} {sp : World → Sp} {x : Str}
    (hn : l.most = some n) (hn2 : n ≤ sizeLine) (hdf : d.params.defaults = []) (room : Room k callerA) (hY : ∀ w h, YP w h → (K w.params).In h)
    (F : ∀ w mg fa h, (K w.params).In h → h.Ns mainGlobals mg → mg d.name = some (.ref fa) →
      ∃ fd : FuncData, (∀ s u, BindsTo s fd ⟨[u], []⟩ [(x, u)]) ∧ ∀ base : Heap, (K w.params).In base → base.Ns mainGlobals mg → FnG l.prog w (K w.params) mg base CX0 k fa fd [x] (sp w))
    (hsp : ∀ (w : World) (H : Hp) (a : Addr) (ns : List Int), ns.length ≤ n → Only H → SqL (K w.params) H a (ns.map V.int) → sp w [.ref a] H (fun v _ => v = .bl true) fun _ _ _ => False) :
    PySem.W.WalkO q loose XP YP l.row.toRowW d [] (fun f vs => PySem.call f vs) := by
  refine Att.attach_callB hn hdf fun w s₀ s₁ mg mb fa o pm cd doc a vs ns G Y ho hd hcd hmg hobj hints hlen _ hg => ?_
  have KX := hY w _ Y
  have hl : ns.length ≤ sizeLine := Nat.le_trans hlen hn2
  obtain ⟨fd, hb, hF⟩ := F w mg fa _ KX G.T.g hmg
  have hobj : s₁.heap.get? a = some (scrO vs) := hobj
  generalize hH : scr (K w.params) a vs ns = H
  have ns' : ∀ {b : Addr} {m : Str → Option Value}, s₁.heap.Ns b m → (hidT s₁.heap H).Ns b m := fun ⟨o, es, ep, e, d, r⟩ => ⟨o, es, ep, hidT_get e (hH ▸ scr_dict hobj e d), d, r⟩
  have kin : (K w.params).In (hidT s₁.heap H) := fun b o e => hidT_get (KX b o e) (hH ▸ scr_free b o e)
  have okH : HOk l.prog w H s₁.heap := hH ▸ scr_ok hobj hints hl
  have only : Only H := hH ▸ scr_only
  have env : Env0 l.prog w (K w.params) mg (hidT s₁.heap H) callerA [] s₁ H := by
    refine ⟨rfl, ⟨kin, ns' G.T.g, ⟨mb, ns' G.T.b, G.T.builtins⟩, ?_⟩, fun b o e => of_hidT e, Nat.le_of_eq (hidT_size _ _), trivial, fun b z => (nomatch z), okH, .of_eq hg⟩
    obtain ⟨mc, h1, h2⟩ := G.T.nolimit
    exact ⟨mc, ns' h1, h2⟩
  have sq : SqL (K w.params) H a (ns.map V.int) := hH ▸ scr_sq KX hobj hints hl
  refine codeAny_mono ((hF _ kin (ns' G.T.g)).run callerA [] s₁ H ⟨[.ref a], []⟩ [.ref a] [.ref a] _ _ room rfl env (hb s₁ (.ref a)) (.cons rfl .nil) (hsp w H a ns hlen only sq)) fun r s' z => ?_
  match r, z with
  | .error _, z => exact False.elim z
  | .ok .next, z => exact False.elim z
  | .ok .brk, z => exact False.elim z
  | .ok .cont, z => exact False.elim z
  | .ok (.ret u), ⟨v, H', os, bare, un, ok', rel, qv⟩ =>
    have ev : v = .bl true := qv
    subst ev
    obtain rfl : u = Value.bool true := rel
    refine ⟨rfl, OldK.of_keep fun b o e => ?_, os, bare⟩
    rcases only b with z | ⟨ob, xs, z⟩
    · exact un.keep b o e z (fun y => nomatch y) (fun y => nomatch y)
    · have z2 := un.frzs b ob _ z
      have e1 := (okH b _ z).1
      rw [e] at e1
      cases e1
      exact (ok' b _ z2).1
end

/-- e.f, the written part named -/
theorem pe_fldK {X : Cx} (K : PySem.W.Frag) (hK : X.K = K) {e : Expr} {f : Str} {pos : Pos} {ta : TE} (he : PE X e ta) (hb : attributeBase e f X.env (eval e X.env) = eval e X.env) : PE X (.Attribute e f pos) (tFld K ta f) := by
  subst hK
  exact pe_fld he hb
end Cr

/-! CrE: the end, with the dict of modules among what stays. -/
namespace Cr
open PySem PySem.Spec PyProof.Rows L2
theorem endS {l : PySem.W.OpenLaw} {n k : Nat} {q : Program} {loose : List Str} {XP : (Str → Option Value) → Heap → Prop} {YP : World → Heap → Prop} {d : DefRec} {K : Params → PySem.W.Frag} {sp : World → Sp} {x : Str}
    (imp : importsNone q = true) (hn : l.most = some n) (hn2 : n ≤ sizeLine) (hdf : d.params.defaults = []) (room : Room k callerA) (hY : ∀ w h, YP w h → (K w.params).In h)
    (F : ∀ w mg fa h, (K w.params).In h → h.Ns mainGlobals mg → mg d.name = some (.ref fa) →
      ∃ fd : FuncData, (∀ s u, BindsTo s fd ⟨[u], []⟩ [(x, u)]) ∧ ∀ base : Heap, (K w.params).In base → base.Ns mainGlobals mg → (∃ o, base.get? sysModules = some o) → FnG l.prog w (K w.params) mg base CX0 k fa fd [x] (sp w))
    (hsp : ∀ (w : World) (H : Hp) (a : Addr) (ns : List Int), ns.length ≤ n → Only H → SqL (K w.params) H a (ns.map V.int) → sp w [.ref a] H (fun v _ => v = .bl true) fun _ _ _ => False) :
    PySem.W.WalkO q loose XP YP l.row.toRowW d [] (fun f vs => PySem.call f vs) := by
  refine Att.attach_callB hn hdf fun w s₀ s₁ mg mb fa o pm cd doc a vs ns G Y ho hd hcd hmg hobj hints hlen _ hg => ?_
  have KX := hY w _ Y
  have hl : ns.length ≤ sizeLine := Nat.le_trans hlen hn2
  obtain ⟨fd, hb, hF⟩ := F w mg fa _ KX G.T.g hmg
  have hobj : s₁.heap.get? a = some (scrO vs) := hobj
  generalize hH : scr (K w.params) a vs ns = H
  have ns' : ∀ {b : Addr} {m : Str → Option Value}, s₁.heap.Ns b m → (hidT s₁.heap H).Ns b m := fun ⟨o, es, ep, e, d, r⟩ => ⟨o, es, ep, hidT_get e (hH ▸ scr_dict hobj e d), d, r⟩
  have kin : (K w.params).In (hidT s₁.heap H) := fun b o e => hidT_get (KX b o e) (hH ▸ scr_free b o e)
  have okH : HOk l.prog w H s₁.heap := hH ▸ scr_ok hobj hints hl
  have only : Only H := hH ▸ scr_only
  have env : Env0 l.prog w (K w.params) mg (hidT s₁.heap H) callerA [] s₁ H := by
    refine ⟨rfl, ⟨kin, ns' G.T.g, ⟨mb, ns' G.T.b, G.T.builtins⟩, ?_⟩, fun b o e => of_hidT e, Nat.le_of_eq (hidT_size _ _), trivial, fun b z => (nomatch z), okH, .of_eq hg⟩
    obtain ⟨mc, h1, h2⟩ := G.T.nolimit
    exact ⟨mc, ns' h1, h2⟩
  have sq : SqL (K w.params) H a (ns.map V.int) := hH ▸ scr_sq KX hobj hints hl
  have smod : ∃ o, (hidT s₁.heap H).get? sysModules = some o := by
    obtain ⟨ms, h1, _⟩ := (G.T.seer imp).mods
    obtain ⟨o, es, ep, e, _⟩ := ns' h1
    exact ⟨o, e⟩
  refine codeAny_mono ((hF _ kin (ns' G.T.g) smod).run callerA [] s₁ H ⟨[.ref a], []⟩ [.ref a] [.ref a] _ _ room rfl env (hb s₁ (.ref a)) (.cons rfl .nil) (hsp w H a ns hlen only sq)) fun r s' z => ?_
  match r, z with
  | .error _, z => exact False.elim z
  | .ok .next, z => exact False.elim z
  | .ok .brk, z => exact False.elim z
  | .ok .cont, z => exact False.elim z
  | .ok (.ret u), ⟨v, H', os, bare, un, ok', rel, qv⟩ =>
    have ev : v = .bl true := qv
    subst ev
    obtain rfl : u = Value.bool true := rel
    refine ⟨rfl, OldK.of_keep fun b o e => ?_, os, bare⟩
    rcases only b with z | ⟨ob, xs, z⟩
    · exact un.keep b o e z (fun y => nomatch y) (fun y => nomatch y)
    · have z2 := un.frzs b ob _ z
      have e1 := (okH b _ z).1
      rw [e] at e1
      cases e1
      exact (ok' b _ z2).1
end Cr

/-! Cr2: == and != where an own __eq__ answers, str() by an own __str__. -/
namespace Cr
open PySem PySem.Spec PyProof.Rows L2

/-- what the text says of a class with an own ==: f the def; ne the inherited != -/
structure OwnE (K : PySem.W.Frag) (C f : Addr) : Prop where
  eq : PySem.W.findIn K (.ref C) "__eq__" = some (some (.ref f))
  fn : PySem.W.isFn K (.ref f) = true
  ne : PySem.W.findIn K (.ref C) "__ne__" = some (some (.builtin "object.__ne__"))
  ob : PySem.W.mroIn K C (.type "object") = some true
  noL : PySem.W.mroIn K C (.type "list") = some false
  noT : PySem.W.mroIn K C (.type "tuple") = some false
  noD : PySem.W.mroIn K C (.type "dict") = some false
  noS : PySem.W.mroIn K C (.type "str") = some false
  noI : PySem.W.mroIn K C (.type "int") = some false
  noB : PySem.W.mroIn K C (.type "bool") = some false
  noN : PySem.W.mroIn K C (.type "NoneType") = some false

section
variable {prog : Program} {w : World} {A : Around} {E : Value → Shared → Prop} {s : Shared} {K : PySem.W.Frag} {x C f : Addr} {ox : Obj} {od : Option Obj}
/-- T's own == declines, then the instance's is asked -/
theorem rc_back {y : Value} {T ide : String} {Q : Value → Shared → Prop} (hu : A.units < cLine) (ty : s.TypeIs y T) (X : K.In s.heap) (J : PySem.W.InstAt s.heap x ox C od) (hsub : PySem.W.mroIn K C (.type T) = some false)
    (slot : Slot T "__eq__" ide) (hs : PySem.W.findIn K (.ref C) "__eq__" = some (some (.ref f))) (hf : PySem.W.isFn K (.ref f) = true)
    (dec : ∀ Q' : Value → Shared → Prop, Q' .notImplemented s → wpAny (model prog w) A (call (.builtin ide) [y, .ref x]) Q' E s)
    (h : wpAny (model prog w) A (call (.ref f) [.ref x, y]) (PySem.W.CmpBack Q) E s) : wpAny (model prog w) A (richCompare .Eq y (.ref x)) Q E s := by
  have two : wpAny (model prog w) A (tryCompare (.ref x) "__eq__" y) (fun r s' => ∃ v, r = some v ∧ Q v s') E s := by
    unfold tryCompare
    refine wpAny_bind (PySem.W.ifBound_K X J hs hf (wpAny_mono h (fun v s' hv => ?_) fun _ _ e => e))
    cases v <;> first | exact hv.elim | exact wpAny_pure ⟨_, rfl, hv⟩
  unfold richCompare
  rw [ty.oneThing_none]
  refine wpAny_holding (wpAny_bind (wpAny_cRoomFor hu ?_))
  refine wpAny_bind (wpAny_typeOf ty (wpAny_bind (J.type.here ?_)))
  rw [show (Value.type T != Value.ref C) = true from rfl, if_pos rfl]
  refine wpAny_bind ((PySem.W.looks_mroIn X hsub).here ?_)
  simp only [Bool.false_eq_true, if_false, Bool.not_false, if_true]
  refine wpAny_bind (m := tryCompare y _ (.ref x)) (wpAny_tryCompare_declines ty slot (dec _ ⟨rfl, ?_⟩))
  refine wpAny_bind (m := tryCompare (.ref x) _ y) (wpAny_mono two (fun r s' z => ?_) fun _ _ e => e)
  obtain ⟨v, rfl, hq⟩ := z
  exact wpAny_pure hq

/-! the built-in types' own == declines -/
theorem dec_none {Q' : Value → Shared → Prop} (h : Q' .notImplemented s) : wpAny (model prog w) A (call (.builtin "NoneType.__eq__") [.none, .ref x]) Q' E s := by
  refine GQ.call_here F.slot_NoneType_eq rfl F.entry_NoneType_eq (F.args_NoneType_eq_2 _ _) ?_
  wp_walk
  exact h
theorem dec_list {a : Addr} {Q' : Value → Shared → Prop} (ty : s.TypeIs (.ref a) "list") (X : K.In s.heap) (J : PySem.W.InstAt s.heap x ox C od) (hsub : PySem.W.mroIn K C (.type "list") = some false) (h : Q' .notImplemented s) :
    wpAny (model prog w) A (call (.builtin "list.__eq__") [.ref a, .ref x]) Q' E s := by
  refine GQ.call_here F.slot_list_eq ty F.entry_list_eq (F.args_list_eq_2 _ _) ?_
  have hi : PySem.W.Looks (model prog w) s.heap (isInstance (.ref x) (.type "list")) false := J.type.andThen (PySem.W.looks_mroIn X hsub)
  wp_walk using hi.here
  exact h
theorem dec_tuple {a : Addr} {Q' : Value → Shared → Prop} (ty : s.TypeIs (.ref a) "tuple") (X : K.In s.heap) (J : PySem.W.InstAt s.heap x ox C od) (hsub : PySem.W.mroIn K C (.type "tuple") = some false) (h : Q' .notImplemented s) :
    wpAny (model prog w) A (call (.builtin "tuple.__eq__") [.ref a, .ref x]) Q' E s := by
  refine GQ.call_here F.slot_tuple_eq ty F.entry_tuple_eq (F.args_tuple_eq_2 _ _) ?_
  have hi : PySem.W.Looks (model prog w) s.heap (isInstance (.ref x) (.type "tuple")) false := J.type.andThen (PySem.W.looks_mroIn X hsub)
  wp_walk using hi.here
  exact h
theorem dec_dict {a : Addr} {Q' : Value → Shared → Prop} (ty : s.TypeIs (.ref a) "dict") (X : K.In s.heap) (J : PySem.W.InstAt s.heap x ox C od) (hsub : PySem.W.mroIn K C (.type "dict") = some false) (h : Q' .notImplemented s) :
    wpAny (model prog w) A (call (.builtin "dict.__eq__") [.ref a, .ref x]) Q' E s := by
  refine GQ.call_here F.slot_dict_eq ty F.entry_dict_eq (F.args_dict_eq_2 _ _) ?_
  have hi : PySem.W.Looks (model prog w) s.heap (isInstance (.ref x) (.type "dict")) false := J.type.andThen (PySem.W.looks_mroIn X hsub)
  wp_walk using hi.here
  exact h
theorem dec_str {z : Str} {t : Tok} {Q' : Value → Shared → Prop} (hx : s.heap.get? x = some ox) (hp : ox.data = .plain) (h : Q' .notImplemented s) :
    wpAny (model prog w) A (call (.builtin "str.__eq__") [.str z t, .ref x]) Q' E s := by
  obtain ⟨oc, odd, dt, sl⟩ := ox
  simp only at hp
  subst hp
  refine GQ.call_here F.slot_str_eq rfl F.entry_str_eq (F.args_str_eq_2 _ _) ?_
  wp_walk
  exact h
theorem dec_int {i : Int} {t : Tok} {Q' : Value → Shared → Prop} (hx : s.heap.get? x = some ox) (hp : ox.data = .plain) (h : Q' .notImplemented s) :
    wpAny (model prog w) A (call (.builtin "int.__eq__") [.int i t, .ref x]) Q' E s := by
  obtain ⟨oc, odd, dt, sl⟩ := ox
  simp only at hp
  subst hp
  refine GQ.call_here F.slot_int_eq rfl F.entry_int_eq (F.args_int_eq_2 _ _) ?_
  wp_walk
  exact h
theorem bound_B {name : Str} {id : String} {args : List Value} {Q : Option Value → Shared → Prop} (X : K.In s.heap) (J : PySem.W.InstAt s.heap x ox C od) (hs : PySem.W.findIn K (.ref C) name = some (some (.builtin id)))
    (hb : ∀ self, bindSpecial (.builtin id) self = pure (.builtin id, [self])) (h : wpAny (model prog w) A (call (.builtin id) (.ref x :: args)) (fun v => Q (some v)) E s) : wpAny (model prog w) A (callSpecialIfBound? (.ref x) name args) Q E s := by
  have go : ∀ (T : Sem (Option (Value × List Value))), T = (do return some (← bindSpecial (.builtin id) (.ref x))) → wpAny (model prog w) A T (fun r s' => r = some (.builtin id, [.ref x]) ∧ s' = s) E s := by
    rintro T rfl
    exact wpAny_bind ((PySem.W.Looks.of_pure (hb _)).here (wpAny_pure ⟨rfl, rfl⟩))
  simp only [callSpecialIfBound?, bindSpecialIfBound?]
  refine wpAny_holding (wpAny_bind (wpAny_bind (wpAny_bind (J.type.here ((PySem.W.looks_findIn X hs).here ?_)))))
  refine wpAny_bind (wpAny_askSetting (wpAny_ite ?_))
  have fin : wpAny (model prog w) A (call (.builtin id) ([.ref x] ++ args) >>= fun v => pure (some v)) Q E s := wpAny_bind (wpAny_mono h (fun v s' z => wpAny_pure z) fun _ _ z => z)
  split
  · exact wpAny_mono (go _ rfl) (fun r s' ⟨a, b⟩ => by subst a b; exact fin) fun _ _ z => z
  · exact wpAny_tryCatch (wpAny_bind ((PySem.W.Looks.of_pure (hb _)).here (wpAny_pure (by exact fin))))
/-- x != y by the inherited !=, which asks the own == -/
theorem rc_ne {y ty : Value} {Q : Value → Shared → Prop} (hu : A.units + 1 < cLine) (X : K.In s.heap) (J : PySem.W.InstAt s.heap x ox C od) (O : OwnE K C f) (hb : PySem.W.Looks (model prog w) s.heap (typeOf y) ty) (hn : PySem.W.notFirst K C ty = true)
    (h : wpAny (model prog w) A.in1 (call (.ref f) [.ref x, y]) (fun v s' => ∃ b, v = .bool b ∧ Q (.bool (!b)) s') E s) : wpAny (model prog w) A (richCompare .NotEq (.ref x) y) Q E s := by
  have ne : ∀ Q' : Value → Shared → Prop, (∀ v s', (∃ b, v = .bool (!b) ∧ Q (.bool (!b)) s') → Q' v s') → wpAny (model prog w) A (call (.builtin "object.__ne__") [.ref x, y]) Q' E s := by
    intro Q' hQ
    refine wpAny_call (codeAny_call_builtin F.slot_object_ne.plain F.entry_object_ne (PySem.W.check_slot (i := "object.__ne__") (owner := "object") (n := "__ne__") (by decide +kernel) (by decide +kernel) (J.type.andThen (PySem.W.looks_mroIn X O.ob)) (F.args_object_ne_2 _ _) ?_))
    unfold Builtin.«object.__ne__»
    refine wpAny_bind (m := slotArgs "__ne__" 1 _) (wpAny_pure ?_)
    refine wpAny_bind (m := cRoomFor _ _) (wpAny_cRoomFor (by show A.units + 1 < cLine; exact hu) ?_)
    refine wpAny_bind (m := callSpecialIfBound? (.ref x) (Str.ofString "__eq__") _) (PySem.W.ifBound_K X J O.eq O.fn (wpAny_mono h (fun r s' hq => ?_) fun _ _ z => z))
    obtain ⟨b, rfl, hq⟩ := hq
    refine wpAny_bind (wpAny_truthy_bool (wpAny_pure ?_))
    exact hQ _ _ ⟨b, rfl, hq⟩
  have one : wpAny (model prog w) A (tryCompare (.ref x) "__ne__" y) (fun r s' => ∃ v, r = some v ∧ Q v s') E s := by
    unfold tryCompare
    refine wpAny_bind (bound_B X J O.ne F.slot_object_ne.bind (ne _ fun v s' z => ?_))
    obtain ⟨b, rfl, q⟩ := z
    exact wpAny_pure ⟨_, rfl, q⟩
  unfold richCompare
  rw [oneThing_ref]
  refine wpAny_holding (wpAny_bind (wpAny_cRoomFor (by omega) ?_))
  refine wpAny_bind (J.type.here (wpAny_bind (hb.here ?_)))
  by_cases e : ty = .ref C
  · subst e
    rw [if_neg (by simp)]
    refine wpAny_bind (wpAny_pure ?_)
    simp only [Bool.false_eq_true, if_false]
    refine wpAny_bind (wpAny_mono one (fun r s' z => ?_) fun _ _ z => z)
    obtain ⟨v, rfl, q⟩ := z
    exact wpAny_pure q
  · have e1 : PySem.W.subIn K ty (.ref C) = some false := by
      rcases Bool.or_eq_true_iff.mp hn with z | z
      · exact absurd (beq_iff_eq.mp z) e
      · exact beq_iff_eq.mp z
    rw [if_pos (by simp [bne, beq_iff_eq]; exact fun z => e z.symm)]
    refine wpAny_bind ((PySem.W.looks_subIn X e1).here ?_)
    simp only [Bool.false_eq_true, if_false]
    refine wpAny_bind (wpAny_mono one (fun r s' z => ?_) fun _ _ z => z)
    obtain ⟨v, rfl, q⟩ := z
    exact wpAny_pure q
end

/-! ### in, index: the list read anew at each turn -/
section
variable {prog : Program} {w : World} {A : Around} {R : Result → Shared → Prop} {E : Value → Shared → Prop}
def ReadsL (I : Nat → Shared → Prop) (l : Addr) (N : Nat) (T : Nat → Value → Shared → Prop) : Prop :=
  ∀ i s, I i s → ∃ (items : Array Value) (n : Nat), s.heap.get? l = some { cls := .type "list", data := .seq items n } ∧ items.size = N ∧ ∀ h : i < items.size, T i items[i] s
theorem contains_loopG (l : Addr) (x : Value) (N : Nat) (I : Nat → Shared → Prop)
    (hl : ReadsL I l N fun i y s => wpAny (model prog w) A.in1 (eqBool y x) (fun r s' => if r = true then R (.ok (.ret (.bool true))) s' else I (i + 1) s') (fun e s' => R (.error e) s') s)
    (fin : ∀ s, I N s → R (.ok (.ret (.bool false))) s) : ∀ k i : Nat, N - i = k → i ≤ N → ∀ s, I i s →
      wpAny (model prog w) A.in1 (Builtin.«list.__contains__.loop» ⟨[.ref l, x, rawInt i], []⟩) (GQ.FinOf prog w A R) (fun e s' => R (.error e) s') s := by
  intro k
  induction k with
  | zero =>
    intro i hk hi s h
    obtain ⟨items, n, hl1, hs1, _⟩ := hl _ _ h
    have ei : i = N := by omega
    have hR := fin s (ei ▸ h)
    have hnone : items[((i : Nat) : Int).toNat]? = none := by simp; omega
    obtain ⟨hp, g, d, tk, os⟩ := s
    wp_walk using AutoSeq1.wpAny_loadPart' hl1
    rw [hnone]
    wp_walk
    exact hR
  | succ k ih =>
    intro i hk hi s h
    obtain ⟨items, n, hl1, hs1, turn⟩ := hl _ _ h
    have hlt : i < items.size := by omega
    have ht := turn hlt
    have hsome : items[((i : Nat) : Int).toNat]? = some items[i] := by simp [hlt]
    have hc : ((i : Int) + 1) = ((i + 1 : Nat) : Int) := by omega
    obtain ⟨hp, g, d, tk, os⟩ := s
    wp_walk using AutoSeq1.wpAny_loadPart' hl1
    rw [hsome]
    refine wpAny_bind (wpAny_mono ht (fun r s2 h2 => ?_) fun _ _ z => z)
    cases r with
    | true =>
      rw [if_pos rfl] at h2 ⊢
      exact wpAny_pure h2
    | false =>
      rw [if_neg Bool.false_ne_true] at h2 ⊢
      have hrec := ih (i + 1) (by omega) (by omega) s2 h2
      rw [hc]
      refine wpAny_pure ⟨plainId_quiet MeetsSeq.plain_contains_loop _, codeAny_builtin MeetsSeq.entry_contains_loop (by
        rw [Around.under_plainId MeetsSeq.plain_contains_loop _]
        exact hrec)⟩
theorem index_loopG (l : Addr) (x : Value) (N : Nat) (upto : Int) (hN : (N : Int) < upto) (I : Nat → Shared → Prop)
    (hl : ReadsL I l N fun i y s => wpAny (model prog w) A.in1 (eqBool y x) (fun r s' => if r = true then (∀ t k, R (.ok (.ret (.int i t))) { s' with toks := k }) else I (i + 1) s') (fun e s' => R (.error e) s') s)
    (fin : ∀ s, I N s → False) : ∀ k i : Nat, N - i = k → i ≤ N → ∀ s, I i s →
      wpAny (model prog w) A.in1 (Builtin.«list.index.loop» ⟨[.ref l, x, rawInt i, rawInt upto], []⟩) (GQ.FinOf prog w A R) (fun e s' => R (.error e) s') s := by
  intro k
  induction k with
  | zero =>
    intro i hk hi s h
    have ei : i = N := by omega
    exact (fin s (ei ▸ h)).elim
  | succ k ih =>
    intro i hk hi s h
    obtain ⟨items, n, hl1, hs1, turn⟩ := hl _ _ h
    have hlt : i < items.size := by omega
    have ht := turn hlt
    have hsome : (if (i : Int) < upto then items[((i : Nat) : Int).toNat]? else none) = some items[i] := by
      rw [if_pos (by omega)]
      simp [hlt]
    have hc : ((i : Int) + 1) = ((i + 1 : Nat) : Int) := by omega
    obtain ⟨hp, g, d, tk, os⟩ := s
    wp_walk using AutoSeq1.wpAny_loadPart' hl1
    rw [hsome]
    refine wpAny_bind (wpAny_mono ht (fun r s2 h2 => ?_) fun _ _ z => z)
    cases r with
    | true =>
      rw [if_pos rfl] at h2 ⊢
      obtain ⟨hp2, g2, d2, tk2, os2⟩ := s2
      wp_walk
      exact h2 _ _
    | false =>
      rw [if_neg Bool.false_ne_true] at h2 ⊢
      have hrec := ih (i + 1) (by omega) (by omega) s2 h2
      rw [hc]
      refine wpAny_pure ⟨plainId_quiet MeetsSeq.plain_index_loop _, codeAny_builtin MeetsSeq.entry_index_loop (by
        rw [Around.under_plainId MeetsSeq.plain_index_loop _]
        exact hrec)⟩
end

/-! ### over the layer -/
section
variable {X : Cx} {CX : CXT} {k : Nat} {f C : Addr} {fd : FuncData} {ps : List Str} {sp : Sp}
theorem run_at {A : Around} {E : XK} {pins : List (Addr × Obj)} {σ : L2.St} {H : Hp} {s : Shared} {Q : VK} {us : List Value} {vs : List V} (F : FnOk X.prog X.w X.K X.mg X.base CX k f fd ps sp) (room : Room k A) (fr : A.frames = X.A.frames)
    (hb : Binds X.K fd ps []) (hx : Passes CX X E) (I : Inv X pins σ H s) (r : Vals vs us) (h : sp vs H Q E) : wpAny (model X.prog X.w) A (call (.ref f) us) (EP X pins σ Q) X.xe s := by
  have hl : us.length = ps.length := r.length.symm.trans (F.len _ _ _ _ h)
  have e := I.env0
  have b := hb s us I.kIn (by rw [List.append_nil]; exact hl)
  rw [List.append_nil] at b
  refine wpAny_call (codeAny_mono (F.run A X.stack s H ⟨us, []⟩ us vs Q E room ⟨fr.trans e.frames, e.mod, e.bs, e.bsz, e.funs, e.frf, e.hok, e.bare⟩ b r h) fun r s' q => ?_)
  match r, q with
  | .error e, q => exact hx pins σ H s e s' I q
  | .ok (.ret u), q => exact I.after q
/-- an own == answers b, and K of it -/
def OwnB (K : Bool → Hp → Prop) : VK := fun v H' => ∃ r, v = .bl r ∧ K r H'
theorem inst_at {pins : List (Addr × Obj)} {σ : L2.St} {H : Hp} {s : Shared} {a dx : Addr} {fs : List (Str × V)} (I : Inv X pins σ H s) (h : H a = some (.ins C dx fs)) :
    ∃ od, PySem.W.InstAt s.heap a (PySem.W.instObj C dx) C od := by
  obtain ⟨mA, J, _⟩ := ins_get I.hok h
  obtain ⟨od, J, _⟩ := J.look
  exact ⟨od, J⟩
theorem eq_run {A : Around} {pins : List (Addr × Obj)} {σ : L2.St} {H : Hp} {s : Shared} {a dx : Addr} {fs : List (Str × V)} {y : V} {u t : Value} {K : Bool → Hp → Prop} (O : OwnE X.K C f) (F : FnOk X.prog X.w X.K X.mg X.base CX0 k f fd ps sp)
    (hb : Binds X.K fd ps []) (room : Room k A) (fr : A.frames = X.A.frames) (I : Inv X pins σ H s) (ha : H a = some (.ins C dx fs)) (ry : RelV y u) (ty : TyX X.K H y t) (hn : PySem.W.notFirst X.K C t = true) (h : sp [.ref a, y] H (OwnB K) E0) :
    wpAny (model X.prog X.w) A (richCompare .Eq (.ref a) u) (fun v s' => ∃ b H', v = .bool b ∧ Inv X pins σ H' s' ∧ K b H') X.xe s := by
  obtain ⟨od, J⟩ := inst_at I ha
  obtain ⟨P, Z, p, _⟩ := kit_of I ry ty
  obtain ⟨m, hF⟩ := I.fr
  refine PySem.W.cmp_K (op := .Eq) room.units0 hF I.ok.mod.kin J (Z.ty _ _ I.kIn p) hn O.eq O.fn ?_
  refine wpAny_mono (run_at F room fr hb pass0 I (vs := [.ref a, y]) (us := [.ref a, u]) (.cons rfl (.cons ry .nil)) h) (fun v s' z => ?_) fun _ _ z => z
  obtain ⟨w, H', I', rw', b, rfl, q⟩ := z
  obtain rfl : v = .bool b := rw'
  exact ⟨b, H', rfl, I', q⟩
/-- x == y, x an instance of the class with an own == -/
theorem op_eqO (O : OwnE X.K C f) (F : FnOk X.prog X.w X.K X.mg X.base CX0 k f fd ps sp) (hb : Binds X.K fd ps []) (room : Room k X.A) :
    OpR X (compareOp .Eq) (fun x y H Q => ∃ a dx fs t, x = .ref a ∧ H a = some (.ins C dx fs) ∧ TyX X.K H y t ∧ PySem.W.notFirst X.K C t = true ∧ sp [.ref a, y] H (OwnB fun r H' => Q (.bl r) H') E0) := by
  intro pins s σ H x y v u Q I rx ry h
  obtain ⟨a, dx, fs, t, rfl, ha, ty, hn, h⟩ := h
  cases rx
  show wpAny _ _ (richCompare .Eq (.ref a) u) _ _ _
  refine wpAny_mono (eq_run O F hb room rfl I ha ry ty hn h) (fun v s' z => ?_) fun _ _ z => z
  obtain ⟨b, H', rfl, I', q⟩ := z
  exact ⟨.bl b, H', I', rfl, q⟩
theorem op_neO (O : OwnE X.K C f) (F : FnOk X.prog X.w X.K X.mg X.base CX0 k f fd ps sp) (hb : Binds X.K fd ps []) (room : Room (k + 1) X.A) :
    OpR X (compareOp .NotEq) (fun x y H Q => ∃ a dx fs t, x = .ref a ∧ H a = some (.ins C dx fs) ∧ TyX X.K H y t ∧ PySem.W.notFirst X.K C t = true ∧ sp [.ref a, y] H (OwnB fun r H' => Q (.bl (!r)) H') E0) := by
  intro pins s σ H x y v u Q I rx ry h
  obtain ⟨a, dx, fs, t, rfl, ha, ty, hn, h⟩ := h
  cases rx
  show wpAny _ _ (richCompare .NotEq (.ref a) u) _ _ _
  obtain ⟨od, J⟩ := inst_at I ha
  obtain ⟨P, Z, p, _⟩ := kit_of I ry ty
  refine rc_ne (by have := room.un; omega) I.kIn J O (Z.ty _ _ I.kIn p) hn (wpAny_mono (run_at F room.in1 rfl hb pass0 I (vs := [.ref a, y]) (us := [.ref a, u]) (.cons rfl (.cons ry .nil)) h) (fun v s' z => ?_) fun _ _ z => z)
  obtain ⟨w, H', I', rw', b, rfl, q⟩ := z
  obtain rfl : v = .bool b := rw'
  exact ⟨b, rfl, .bl (!b), H', I', rfl, q⟩
/-- what stands left of == : its own == declines -/
inductive Bk (K : PySem.W.Frag) (H : Hp) : V → Prop where
  | non : Bk K H .non
  | int (i : Int) : Bk K H (.int i)
  | str (z : Str) : Bk K H (.str z)
  | lst {a : Addr} {xs : List V} (h : SqL K H a xs) : Bk K H (.ref a)
  | tup {a : Addr} {xs : List V} (h : SqT K H a xs) : Bk K H (.ref a)
  | dK {a : Addr} {kvs : List (Key × V)} (h : H a = some (.dK kvs)) : Bk K H (.ref a)
theorem op_eqB (O : OwnE X.K C f) (F : FnOk X.prog X.w X.K X.mg X.base CX0 k f fd ps sp) (hb : Binds X.K fd ps []) (room : Room k X.A) :
    OpR X (compareOp .Eq) (fun x y H Q => ∃ a dx fs, y = .ref a ∧ H a = some (.ins C dx fs) ∧ Bk X.K H x ∧ sp [.ref a, x] H (OwnB fun r H' => Q (.bl r) H') E0) := by
  intro pins s σ H x y v u Q I rx ry h
  obtain ⟨a, dx, fs, rfl, ha, bk, h⟩ := h
  cases ry
  show wpAny _ _ (richCompare .Eq v (.ref a)) _ _ _
  obtain ⟨od, J⟩ := inst_at I ha
  have go : wpAny (model X.prog X.w) X.A (call (.ref f) [.ref a, v]) (PySem.W.CmpBack (EP X pins σ Q)) X.xe s := by
    refine wpAny_mono (run_at F room rfl hb pass0 I (vs := [.ref a, x]) (us := [.ref a, v]) (.cons rfl (.cons rx .nil)) h) (fun v s' z => ?_) fun _ _ z => z
    obtain ⟨w, H', I', rw', b, rfl, q⟩ := z
    obtain rfl : v = .bool b := rw'
    exact ⟨.bl b, H', I', rfl, q⟩
  have kin := I.kIn
  have hu := room.units0
  cases bk with
  | non =>
    cases rx
    exact rc_back hu rfl kin J O.noN PySem.F.slot_NoneType_eq O.eq O.fn (fun Q' q => dec_none q) go
  | int i =>
    obtain ⟨t, rfl⟩ := rx
    exact rc_back hu rfl kin J O.noI PySem.F.slot_int_eq O.eq O.fn (fun Q' q => dec_int J.at_ rfl q) go
  | str z =>
    obtain ⟨t, rfl⟩ := rx
    exact rc_back hu rfl kin J O.noS PySem.F.slot_str_eq O.eq O.fn (fun Q' q => dec_str J.at_ rfl q) go
  | lst hs =>
    cases rx
    obtain ⟨its, r, pl, hz⟩ := I.list hs
    exact rc_back hu pl.isList.typeIs kin J O.noL PySem.F.slot_list_eq O.eq O.fn (fun Q' q => dec_list pl.isList.typeIs kin J O.noL q) go
  | tup hs =>
    cases rx
    obtain ⟨its, r, ⟨o, ho, hc, _⟩, hz⟩ := I.tuple hs
    have ty : s.TypeIs (.ref _) "tuple" := ⟨o, ho, hc⟩
    exact rc_back hu ty kin J O.noT PySem.F.slot_tuple_eq O.eq O.fn (fun Q' q => dec_tuple ty kin J O.noT q) go
  | dK hd =>
    cases rx
    obtain ⟨_, _, vs, _, dd⟩ := dk_of I.hok hd
    exact rc_back hu dd.typeIs kin J O.noD PySem.F.slot_dict_eq O.eq O.fn (fun Q' q => dec_dict dd.typeIs kin J O.noD q) go

/-- == inside a list, of two instances -/
def eqW (sp : Sp) (C : Addr) (z x : V) (H : Hp) (K : Bool → Hp → Prop) : Prop :=
  ∃ a b dx dy fs gs, z = .ref a ∧ x = .ref b ∧ H a = some (.ins C dx fs) ∧ H b = some (.ins C dy gs) ∧ (a = b → K true H) ∧ (a ≠ b → sp [.ref a, .ref b] H (OwnB K) E0)
theorem eqW_run {A : Around} {pins : List (Addr × Obj)} {σ : L2.St} {H : Hp} {s : Shared} {z x : V} {u v : Value} {K : Bool → Hp → Prop} (O : OwnE X.K C f) (cl : Cls X.K C) (tyO : ∀ {H : Hp} {b dy : Addr} {gs : List (Str × V)}, H b = some (.ins C dy gs) → TyX X.K H (.ref b) (.ref C))
    (F : FnOk X.prog X.w X.K X.mg X.base CX0 k f fd ps sp) (hb : Binds X.K fd ps []) (room : Room k A) (fr : A.frames = X.A.frames) (I : Inv X pins σ H s) (rz : RelV z u) (rx : RelV x v) (h : eqW sp C z x H K) :
    wpAny (model X.prog X.w) A (eqBool u v) (fun r s' => ∃ H', Inv X pins σ H' s' ∧ K r H') X.xe s := by
  obtain ⟨a, b, dx, dy, fs, gs, rfl, rfl, ha, hb', h1, h2⟩ := h
  cases rz
  cases rx
  by_cases e : a = b
  · subst e
    exact SeqAt.EqAt.same (A := A) (s := s) (.ref a) X.prog X.w X.xe _ ⟨H, I, h1 rfl⟩
  · refine GQ.eqBool_refG e (wpAny_mono (eq_run O F hb room fr I ha (y := .ref b) rfl (tyO hb') (by simp [PySem.W.notFirst]) (h2 e)) (fun w s' q => ?_) fun _ _ q => q)
    obtain ⟨r, H', rfl, I', q⟩ := q
    exact ⟨r, rfl, H', I', q⟩
end
end Cr

/-! Cr3: in and index by an own ==, str() by an own __str__, == of dicts. -/
namespace Cr
open PySem PySem.Spec PyProof.Rows L2

section
variable {X : Cx} {CX : CXT} {k : Nat} {f C : Addr} {fd : FuncData} {ps : List Str} {sp : Sp}
/-- z in all, from the items that are left -/
def inW (sp : Sp) (C l : Addr) (all : List V) (x : V) : List V → Hp → VK → Prop
  | [], H, Q => Q (.bl false) H
  | z :: r, H, Q => eqW sp C z x H fun b H' => (b = true → Q (.bl true) H') ∧ (b = false → H' l = some (.lst all) ∧ inW sp C l all x r H' Q)
/-- the place of x in all: j items were passed -/
def ixW (sp : Sp) (C l : Addr) (all : List V) (x : V) : Nat → List V → Hp → VK → Prop
  | _, [], _, _ => False
  | j, z :: r, H, Q => eqW sp C z x H fun b H' => (b = true → Q (.int j) H') ∧ (b = false → H' l = some (.lst all) ∧ ixW sp C l all x (j + 1) r H' Q)
/-- the class's facts for a type told by an instance -/
structure OwnT (K : PySem.W.Frag) (C : Addr) : Prop where
  cl : Cls K C
  ty : ∀ {H : Hp} {b dy : Addr} {gs : List (Str × V)}, H b = some (.ins C dy gs) → TyX K H (.ref b) (.ref C)
theorem op_inO (O : OwnE X.K C f) (T : OwnT X.K C) (F : FnOk X.prog X.w X.K X.mg X.base CX0 k f fd ps sp) (hb : Binds X.K fd ps []) (room : Room (k + 2) X.A) :
    OpR X (compareOp .In) (fun x y H Q => ∃ l all, y = .ref l ∧ H l = some (.lst all) ∧ inW sp C l all x all H Q) := by
  intro pins s σ H x y v u Q I rx ry h
  obtain ⟨l, all, rfl, hl, h⟩ := h
  cases ry
  obtain ⟨z0, its0, n0, r0, e0⟩ := (show ObjOk X.prog X.w H s.heap l (.lst all) from I.hok l _ hl)
  have ty : s.TypeIs (.ref l) "list" := ⟨_, e0, rfl⟩
  show wpAny (model X.prog X.w) X.A (do return Value.bool (← contains (.ref l) v)) (EP X pins σ Q) X.xe s
  refine wpAny_bind (wpAny_contains_slot ty PySem.F.slot_list_contains (Q := fun b s' => wpAny (model X.prog X.w) X.A (pure (Value.bool b)) (EP X pins σ Q) X.xe s') ?_)
  refine GQ.call_here PySem.F.slot_list_contains ty PySem.F.entry_list_contains (PySem.F.args_list_contains_2 _ _) ?_
  have key : ∀ (b : Bool) (H' : Hp) (s' : Shared), Inv X pins σ H' s' → Q (.bl b) H' →
      wants (fun r s' => wpAny (model X.prog X.w) X.A (truthy r) (fun b s' => wpAny (model X.prog X.w) X.A (pure (Value.bool b)) (EP X pins σ Q) X.xe s') X.xe s') X.xe (.ok (.ret (.bool b))) s' := by
    intro b H' s' I' q
    exact wpAny_truthy_bool (wpAny_pure ⟨.bl b, H', I', rfl, q⟩)
  have loop := contains_loopG (prog := X.prog) (w := X.w) (A := X.A) (R := wants (fun r s' => wpAny (model X.prog X.w) X.A (truthy r) (fun b s' => wpAny (model X.prog X.w) X.A (pure (Value.bool b)) (EP X pins σ Q) X.xe s') X.xe s') X.xe) l v all.length
    (fun i s' => ∃ H', Inv X pins σ H' s' ∧ H' l = some (.lst all) ∧ inW sp C l all x (all.drop i) H' Q)
    (fun i s' ⟨H', I', hl', h'⟩ => by
      obtain ⟨z1, its, n1, r1, e1⟩ := (show ObjOk X.prog X.w H' s'.heap l (.lst all) from I'.hok l _ hl')
      refine ⟨its.toArray, n1, e1, by rw [List.size_toArray, ← r1.length], fun hi => ?_⟩
      have hi' : i < all.length := by rw [r1.length]; simpa using hi
      obtain ⟨u, hu, ru⟩ := r1.get (List.getElem?_eq_getElem hi')
      have eu : its.toArray[i] = u := by
        have hi2 : i < its.length := by simpa using hi
        rw [List.getElem?_eq_getElem hi2] at hu
        simpa using hu
      rw [eu]
      rw [List.drop_eq_getElem_cons hi'] at h'
      refine wpAny_mono (eqW_run O T.cl (fun h => T.ty h) F hb (Room.mono room.in1 (by omega)) rfl I' ru rx h') (fun r s2 q => ?_) fun _ _ q => q
      obtain ⟨H2, I2, q1, q2⟩ := q
      cases r with
      | true => rw [if_pos rfl]; exact key true H2 s2 I2 (q1 rfl)
      | false =>
        rw [if_neg Bool.false_ne_true]
        obtain ⟨a1, a2⟩ := q2 rfl
        exact ⟨H2, I2, a1, a2⟩)
    (fun s' ⟨H', I', hl', h'⟩ => by
      rw [List.drop_length] at h'
      exact key false H' s' I' h') all.length 0 (by omega) (Nat.zero_le _) s ⟨H, I, hl, by rw [List.drop_zero]; exact h⟩
  obtain ⟨hp, g, d, tk, os⟩ := s
  wp_walk using AutoSeq1.wpAny_loadPart' e0
  exact ⟨plainId_quiet MeetsSeq.plain_contains_loop _, codeAny_builtin MeetsSeq.entry_contains_loop (by
    rw [Around.under_plainId MeetsSeq.plain_contains_loop _]
    exact loop)⟩
theorem mt_indexO (O : OwnE X.K C f) (T : OwnT X.K C) (F : FnOk X.prog X.w X.K X.mg X.base CX0 k f fd ps sp) (hb : Binds X.K fd ps []) (room : Room (k + 2) X.A) :
    MtR X "list.index" (fun o xs H Q => ∃ l all x, o = .ref l ∧ xs = [x] ∧ H l = some (.lst all) ∧ ixW sp C l all x 0 all H Q) := by
  intro pins s σ H o xs v us Q I ro rxs h
  obtain ⟨l, all, x, rfl, rfl, hl, h⟩ := h
  cases ro
  obtain ⟨vx, rfl, rx⟩ := vals1 rxs
  obtain ⟨z0, its0, n0, r0, e0⟩ := (show ObjOk X.prog X.w H s.heap l (.lst all) from I.hok l _ hl)
  have ty : s.TypeIs (.ref l) "list" := ⟨_, e0, rfl⟩
  refine GQ.call_here PySem.F.slot_list_index ty PySem.F.entry_list_index (PySem.F.args_list_index_2 _ _) ?_
  have hN : (all.length : Int) < 2 ^ 63 - 1 := by rw [sizeLine_eq] at z0; omega
  have loop := index_loopG (prog := X.prog) (w := X.w) (A := X.A) (R := wants (EP X pins σ Q) X.xe) l vx all.length (2 ^ 63 - 1) hN
    (fun i s' => ∃ H', Inv X pins σ H' s' ∧ H' l = some (.lst all) ∧ ixW sp C l all x i (all.drop i) H' Q)
    (fun i s' ⟨H', I', hl', h'⟩ => by
      obtain ⟨z1, its, n1, r1, e1⟩ := (show ObjOk X.prog X.w H' s'.heap l (.lst all) from I'.hok l _ hl')
      refine ⟨its.toArray, n1, e1, by rw [List.size_toArray, ← r1.length], fun hi => ?_⟩
      have hi' : i < all.length := by rw [r1.length]; simpa using hi
      obtain ⟨u, hu, ru⟩ := r1.get (List.getElem?_eq_getElem hi')
      have eu : its.toArray[i] = u := by
        have hi2 : i < its.length := by simpa using hi
        rw [List.getElem?_eq_getElem hi2] at hu
        simpa using hu
      rw [eu]
      rw [List.drop_eq_getElem_cons hi'] at h'
      refine wpAny_mono (eqW_run O T.cl (fun h => T.ty h) F hb (Room.mono room.in1 (by omega)) rfl I' ru rx h') (fun r s2 q => ?_) fun _ _ q => q
      obtain ⟨H2, I2, q1, q2⟩ := q
      cases r with
      | true => rw [if_pos rfl]; exact fun t kk => ⟨.int i, H2, I2.tok kk, ⟨t, rfl⟩, q1 rfl⟩
      | false =>
        rw [if_neg Bool.false_ne_true]
        obtain ⟨a1, a2⟩ := q2 rfl
        exact ⟨H2, I2, a1, a2⟩)
    (fun s' ⟨H', I', hl', h'⟩ => by
      rw [List.drop_length] at h'
      exact h') all.length 0 (by omega) (Nat.zero_le _) s ⟨H, I, hl, by rw [List.drop_zero]; exact h⟩
  obtain ⟨hp, g, d, tk, os⟩ := s
  wp_walk using AutoSeq1.wpAny_loadPart' e0
  have a1 : ((fun i : Int => if i < 0 then max 0 (i + (its0.toArray.size : Int)) else i) ((none : Option Int).getD 0)) = ((0 : Nat) : Int) := by simp
  have a2 : ((fun i : Int => if i < 0 then max 0 (i + (its0.toArray.size : Int)) else i) ((none : Option Int).getD (2 ^ 63 - 1))) = 2 ^ 63 - 1 := by simp
  rw [a1, a2]
  exact ⟨plainId_quiet MeetsSeq.plain_index_loop _, codeAny_builtin MeetsSeq.entry_index_loop (by
    rw [Around.under_plainId MeetsSeq.plain_index_loop _]
    exact loop)⟩
/-- str(o) by an own __str__ -/
theorem call_strO (hs : PySem.W.findIn X.K (.ref C) "__str__" = some (some (.ref f))) (hf : PySem.W.isFn X.K (.ref f) = true) (F : FnOk X.prog X.w X.K X.mg X.base CX0 k f fd ps sp) (hb : Binds X.K fd ps []) (room : Room (k + 2) X.A) :
    CallR X (.type "str") (fun xs H Q => ∃ a dx fs, xs = [.ref a] ∧ H a = some (.ins C dx fs) ∧ sp [.ref a] H (fun v H' => ∃ z, v = .str z ∧ Q (.str z) H') E0) := by
  intro pins s σ H xs us Q I r h
  obtain ⟨a, dx, fs, rfl, ha, h⟩ := h
  obtain ⟨u, rfl, ru⟩ := vals1 r
  cases ru
  obtain ⟨od, J⟩ := inst_at I ha
  refine PySem.W.kso_call (by have := room.un; show X.A.units + 1 + 1 < cLine; omega) I.kIn J hs hf ?_
  refine wpAny_mono (run_at F (room.in1.in1.mono (by omega)) rfl hb pass0 I (vs := [.ref a]) (us := [.ref a]) (.cons rfl .nil) h) (fun v s' z => ?_) fun _ _ z => z
  obtain ⟨w, H', I', rw', b, rfl, q⟩ := z
  obtain ⟨t, rfl⟩ : ∃ t, v = .str b t := rw'
  exact ⟨.str b, H', I', ⟨t, rfl⟩, q⟩
end

/-! ### d == e of dicts with flat values -/
def dEq (ks ls : List (Key × V)) : Bool := ks.length == ls.length && ks.all fun p => match valV ls p.1 with
  | some v => eqV p.2 v
  | none => false
theorem hits_any {A : Around} {s : Shared} {ls : List (Key × V)} {vb : List (Key × Value)} (rb : KV ls vb) (fl : ∀ p ∈ ls, flatV p.2 = true) {ks : List (Key × V)} {va : List (Key × Value)} (ra : KV ks va) :
    (∀ p ∈ ks, flatV p.2 = true) → PySem.W.KeqHits A s vb va (ks.all fun p => match valV ls p.1 with | some v => eqV p.2 v | none => false) := by
  unfold KV at ra
  induction ra with
  | nil => intro _; exact .nil
  | @cons p q ps qs h t ih =>
    intro hp
    obtain ⟨h1, h2⟩ := h
    obtain ⟨k, v⟩ := q
    have h1' : p.1 = k := h1
    have ih' := ih fun p' hm => hp p' (List.mem_cons_of_mem _ hm)
    rw [List.all_cons]
    have rr : RelO (valV ls p.1) (valueAt vb p.1) := rb.val p.1
    cases e : valV ls p.1 with
    | none =>
      rw [e] at rr
      cases e2 : valueAt vb p.1 with
      | none =>
        rw [h1'] at e2
        exact .miss e2
      | some y => rw [e2] at rr; exact rr.elim
    | some y =>
      rw [e] at rr
      obtain ⟨z, hz, rz⟩ := rr.some_of
      rw [h1'] at hz
      have fy : flatV y = true := by
        unfold valV at e
        obtain ⟨kv, hkv, rfl⟩ := Option.map_eq_some_iff.mp e
        exact fl kv (List.mem_of_find?_eq_some hkv)
      exact .hit hz (eqAt_V h2 rz (hp p List.mem_cons_self) fy) ih'
theorem op_eqDK {X : Cx} (hu : X.A.units < cLine) : OpR X (compareOp .Eq) (fun x y H Q => ∃ a b ks ls, x = .ref a ∧ y = .ref b ∧ H a = some (.dK ks) ∧ H b = some (.dK ls) ∧ (∀ p ∈ ks, flatV p.2 = true) ∧ (∀ p ∈ ls, flatV p.2 = true) ∧ Q (.bl (dEq ks ls)) H) := by
  intro pins s σ H x y v u Q I rx ry h
  obtain ⟨a, b, ks, ls, rfl, rfl, ea, eb, f1, f2, q⟩ := h
  cases rx
  cases ry
  obtain ⟨_, ya, va, ra, da⟩ := dk_of I.hok ea
  obtain ⟨_, yb, vb, rb, db⟩ := dk_of I.hok eb
  refine PySem.W.keq_eq (knd := mixKind X.prog X.w) ya yb da db hu (fun _ => hits_any rb f2 ra f1) ⟨.bl (dEq ks ls), H, I, ?_, q⟩
  show Value.bool _ = Value.bool _
  rw [← ra.length, ← rb.length]
  rfl
end Cr

/-! CrR: repr of anything: data without dicts, and dicts of plain things. -/
namespace Cr
open PySem PySem.Spec PyProof.Rows L2
mutual
theorem dpNoDict {K : PySem.W.Frag} {H : Hp} : ∀ {v : V} {d : PyData}, Dp K H v d → d.hasDict = false
  | _, _, .non => by simp only [PyData.hasDict]
  | _, _, .bl b => by simp only [PyData.hasDict]
  | _, _, .int i => by simp only [PyData.hasDict]
  | _, _, .str x => by simp only [PyData.hasDict]
  | _, _, .lst h a => by simp only [PyData.hasDict]; exact dpNoDicts a
  | _, _, .tup h a => by simp only [PyData.hasDict]; exact dpNoDicts a
theorem dpNoDicts {K : PySem.W.Frag} {H : Hp} : ∀ {vs : List V} {ds : List PyData}, DpAll K H vs ds → PyData.hasDictAll ds = false
  | _, _, .nil => by simp only [PyData.hasDictAll]
  | _, _, .cons h t => by simp only [PyData.hasDictAll, dpNoDict h, dpNoDicts t, Bool.or_self]
end
def keyD : Key → PyData
  | .inl i => .int i
  | .inr z => .str z
/-- plain values as data -/
inductive Fl : V → PyData → Prop where
  | non : Fl .non .none
  | bl (b : Bool) : Fl (.bl b) (.bool b)
  | int (i : Int) : Fl (.int i) (.int i)
  | str (z : Str) : Fl (.str z) (.str z)
theorem Fl.reads {h : Heap} {v : V} {d : PyData} {u : Value} (f : Fl v d) (r : RelV v u) : Reads h u d [] := by
  cases f with
  | non => cases r; exact .none
  | bl b => cases r; exact .bool b
  | int i => obtain ⟨t, rfl⟩ := r; exact .int i t
  | str z => obtain ⟨t, rfl⟩ := r; exact .str z t
abbrev KvD : List (Key × V) → List (PyData × PyData) → Prop := Paired fun p d => keyD p.1 = d.1 ∧ Fl p.2 d.2
theorem key_reads {h : Heap} {k : Key} {v : Value} (e : keyIs k v = true) : Reads h v (keyD k) [] := by
  rcases keyIs_shape e with ⟨i, t, rfl, rfl⟩ | ⟨x, t, rfl, rfl⟩
  · exact .int i t
  · exact .str x t
theorem kv_reads {P : Program} {w : World} {h : Heap} {es : List DictEntry} {vs : List (Key × Value)} (hp : Pairs (mixKind P w) es vs) : ∀ {kvs : List (Key × V)} {ds : List (PyData × PyData)}, KV kvs vs → KvD kvs ds →
    ReadsAll h (es.map (·.key)) (ds.map (·.1)) [] ∧ ReadsAll h (es.map (·.val)) (ds.map (·.2)) [] := by
  induction hp with
  | nil =>
    intro kvs ds r f
    unfold KV at r
    cases r
    cases f
    exact ⟨.nil, .nil⟩
  | @cons en kv es vs hk hv ht ih =>
    intro kvs ds r f
    unfold KV at r
    cases r with
    | cons r rt =>
      cases f with
      | cons f ft =>
        obtain ⟨i1, i2⟩ := ih rt ft
        obtain ⟨e1, e2⟩ := r
        obtain ⟨f1, f2⟩ := f
        have k1 : Reads h en.key (keyD kv.1) [] := key_reads hk
        refine ⟨?_, ?_⟩
        · rw [← e1, f1] at k1
          exact ReadsAll.cons (as := []) (bs := []) k1 i1
        · rw [← hv] at e2
          exact ReadsAll.cons (as := []) (bs := []) (f2.reads e2) i2
/-- anything that repr is asked of -/
inductive Th (K : PySem.W.Frag) (H : Hp) : V → PyData → Prop where
  | dp {v : V} {d : PyData} (h : Dp K H v d) : Th K H v d
  | dk {a : Addr} {kvs : List (Key × V)} {ds : List (PyData × PyData)} (h : H a = some (.dK kvs)) (f : KvD kvs ds) : Th K H (.ref a) (.dict ds)
theorem call_reprA {X : Cx} (hg : X.A.guards = some []) (hu : X.A.units + 66 < cLine) : CallR X (.builtin "repr") (fun xs H Q => ∃ (v : V) (d : PyData), xs = [v] ∧ Th X.K H v d ∧ d.showable = true ∧ d.depth ≤ 64 ∧ d.shown.length ≤ sizeLine ∧ Q (.str d.shown) H) := by
  intro pins s σ H xs us Q I r h
  obtain ⟨v, d, ex, hd, hs, hdep, hsz, q⟩ := h
  subst ex
  obtain ⟨u, eu, rx⟩ := vals1 r
  subst eu
  cases hd with
  | dk ha f =>
    rename_i a kvs ds
    cases rx
    obtain ⟨_, sm, vs, rv, o, es, ep, ho, ⟨hc, _, _⟩, hdat, _, hp, _⟩ := dk_of I.hok ha
    obtain ⟨r1, r2⟩ := kv_reads (h := s.heap) hp rv f
    have rr : Reads s.heap (.ref a) (.dict ds) (a :: [] ++ []) := .dict ho hc hdat r1 r2
    exact repr_of_reads' rr hs (fun _ hm => by
      have e : sysModules = a := by simpa using hm
      rw [← e] at sm
      exact absurd sm (by decide)) hg (by omega) (fun b o e => e) (fun h' u tk hk => ⟨.str _, H, I.kept (t' := tk) hk, ⟨u, rfl⟩, q⟩) hsz
  | dp hd =>
    cases hd with
    | non => cases rx; exact PySem.P.repr_of_none ⟨.str _, H, I.tok _, ⟨_, rfl⟩, by simpa only [PyData.shown] using q⟩
    | bl b => cases rx; exact PySem.P.repr_of_bool ⟨.str _, H, I.tok _, ⟨_, rfl⟩, by simpa only [PyData.shown] using q⟩
    | int i =>
      obtain ⟨t, rfl⟩ := rx
      exact PySem.P.repr_of_int (by simpa [PyData.showable] using hs) ⟨.str _, H, I.tok _, ⟨_, rfl⟩, by simpa only [PyData.shown] using q⟩
    | str z =>
      obtain ⟨t, rfl⟩ := rx
      simp only [PyData.shown] at hsz
      exact PySem.P.repr_of_str ⟨.str _, H, I.tok _, ⟨_, rfl⟩, by simpa only [PyData.shown] using q⟩ hsz
    | lst h1 h2 =>
      cases rx
      obtain ⟨as, r1⟩ := Dp.reads I _ _ _ (.lst h1 h2) rfl
      exact repr_of_reads' r1 hs (PyData.noDict_hsm (dpNoDict (.lst h1 h2))) hg (by omega) (fun b o e => e) (fun h' u tk hk => ⟨.str _, H, I.kept (t' := tk) hk, ⟨u, rfl⟩, q⟩) hsz
    | tup h1 h2 =>
      cases rx
      obtain ⟨as, r1⟩ := Dp.reads I _ _ _ (.tup h1 h2) rfl
      exact repr_of_reads' r1 hs (PyData.noDict_hsm (dpNoDict (.tup h1 h2))) hg (by omega) (fun b o e => e) (fun h' u tk hk => ⟨.str _, H, I.kept (t' := tk) hk, ⟨u, rfl⟩, q⟩) hsz
end Cr

/-! CrT: texts: joins, sorted signs. -/
namespace Cr
open PySem L2
theorem str_ext {x y : Str} (h : x.cps.toList = y.cps.toList) : x = y := by
  cases x; cases y
  simp at h
  simp [h]
theorem glue_fold (g : Str) : ∀ (r : List Str) (acc : Array Nat), (r.foldl (fun acc p => acc ++ g.cps ++ p.cps) acc).toList = acc.toList ++ (r.map fun p => g.cps.toList ++ p.cps.toList).flatten
  | [], acc => by simp
  | p :: r, acc => by
    rw [List.foldl_cons, glue_fold g r]
    simp
theorem join_list (g : Str) (x : Str) (r : List Str) : (Txt.join g (x :: r)).cps.toList = x.cps.toList ++ (r.map fun p => g.cps.toList ++ p.cps.toList).flatten := by
  exact glue_fold g r x.cps
theorem empty_cps : ("" : Str).cps = #[] := by decide +kernel
theorem join0 : ∀ ys : List Str, (Txt.join "" ys).cps.toList = (ys.map (·.cps.toList)).flatten
  | [] => by decide +kernel
  | x :: r => by
    rw [join_list, empty_cps]
    simp
theorem join0_len (ys : List Str) (n : Nat) (h : ∀ y ∈ ys, y.length = 1) (hn : ys.length = n) : (Txt.join "" ys).length = n := by
  have e : (Txt.join "" ys).length = (Txt.join "" ys).cps.toList.length := by simp [Str.length]
  rw [e, join0, List.length_flatten]
  subst hn
  clear e
  induction ys with
  | nil => rfl
  | cons y r ih =>
    have h1 := h y List.mem_cons_self
    have h2 := ih fun z hz => h z (List.mem_cons_of_mem _ hz)
    simp only [List.map_cons, List.sum_cons, List.length_cons]
    rw [h2]
    have : y.cps.toList.length = 1 := by simpa [Str.length] using h1
    omega
/-- small letters -/
def lets (z : Str) : Prop := ∀ c ∈ z.cps.toList, 97 ≤ c ∧ c ≤ 122
theorem lets_join {ys : List Str} (h : ∀ y ∈ ys, lets y) : lets (Txt.join "" ys) := by
  intro c hc
  rw [join0] at hc
  obtain ⟨l, hl, hcl⟩ := List.mem_flatten.mp hc
  obtain ⟨y, hy, rfl⟩ := List.mem_map.mp hl
  exact h y hy c hcl
theorem lets_rev {z : Str} (h : lets z) : lets (revS z) := fun c hc => h c (by simpa [revS] using hc)
theorem lets_ok {z : Str} (h : lets z) : PyData.strOk z = true := by
  unfold PyData.strOk
  rw [Array.all_eq_true']
  intro x hx
  have := h x (by simpa using hx)
  simp only [decide_eq_true_eq]
  omega
/-! ### the one sorted list -/
def leS (a b : Str) : Prop := ¬ b.cps.toList < a.cps.toList
theorem leS_trans {a b c : Str} (h1 : leS a b) (h2 : leS b c) : leS a c := List.le_trans (α := Nat) h1 h2
theorem leS_antisymm {a b : Str} (h1 : leS a b) (h2 : leS b a) : a = b := str_ext (List.le_antisymm (α := Nat) h1 h2)
open PyProof.Rows in
theorem pw_rising : ∀ (r : List Str) (x : Str), risingS x r = true → (x :: r).Pairwise leS
  | [], x, _ => by simp
  | y :: r, x, h => by
    unfold risingS at h
    rw [Bool.and_eq_true, ltCps_eq] at h
    have hx : leS x y := by
      unfold leS
      simpa using h.1
    have ih := pw_rising r y h.2
    refine List.pairwise_cons.mpr ⟨fun z hz => ?_, ih⟩
    rcases List.mem_cons.mp hz with rfl | hz
    · exact hx
    · exact leS_trans hx ((List.pairwise_cons.mp ih).1 z hz)
open PyProof.Rows in
theorem pw_sorted {l : List Str} (h : sortedS l = true) : l.Pairwise leS := by
  cases l with
  | nil => exact List.Pairwise.nil
  | cons x r => exact pw_rising r x h
theorem sorted_one {l m : List Str} (hl : l.Pairwise leS) (hm : m.Pairwise leS) (p : l.Perm m) : l = m :=
  List.Perm.eq_of_pairwise (fun a b _ _ h1 h2 => leS_antisymm h1 h2) hl hm p
/-- a fixed way to sort: by insertion -/
def insS (x : Str) : List Str → List Str
  | [] => [x]
  | y :: r => if y.cps.toList < x.cps.toList then y :: insS x r else x :: y :: r
def srtL : List Str → List Str
  | [] => []
  | x :: r => insS x (srtL r)
theorem insS_perm (x : Str) : ∀ l : List Str, (insS x l).Perm (x :: l)
  | [] => List.Perm.refl _
  | y :: r => by
    unfold insS
    split
    · exact ((insS_perm x r).cons y).trans (List.Perm.swap x y r)
    · exact List.Perm.refl _
theorem srtL_perm : ∀ l : List Str, (srtL l).Perm l
  | [] => List.Perm.refl _
  | x :: r => (insS_perm x (srtL r)).trans ((srtL_perm r).cons x)
theorem insS_pw (x : Str) : ∀ l : List Str, l.Pairwise leS → (insS x l).Pairwise leS
  | [], _ => by simp [insS]
  | y :: r, h => by
    obtain ⟨h1, h2⟩ := List.pairwise_cons.mp h
    unfold insS
    split
    · next c =>
      refine List.pairwise_cons.mpr ⟨fun z hz => ?_, insS_pw x r h2⟩
      rcases List.mem_cons.mp ((insS_perm x r).mem_iff.mp hz) with rfl | hz
      · exact List.lt_asymm c
      · exact h1 z hz
    · next c =>
      refine List.pairwise_cons.mpr ⟨fun z hz => ?_, h⟩
      rcases List.mem_cons.mp hz with rfl | hz
      · exact c
      · exact leS_trans c (h1 z hz)
theorem srtL_pw : ∀ l : List Str, (srtL l).Pairwise leS
  | [] => List.Pairwise.nil
  | x :: r => insS_pw x _ (srtL_pw r)
open PyProof.Rows in
theorem sorted_is {ys l : List Str} (p : ys.Perm l) (h : sortedS ys = true) : ys = srtL l :=
  sorted_one (pw_sorted h) (srtL_pw l) (p.trans (srtL_perm l).symm)
theorem srtL_filter (f : Str → Bool) (l : List Str) : (srtL l).filter f = srtL (l.filter f) :=
  sorted_one ((srtL_pw l).filter f) (srtL_pw _) (((srtL_perm l).filter f).trans (srtL_perm _).symm)
/-- a text's signs in order -/
def srt (z : Str) : Str := Txt.join "" (srtL (signs z))
theorem sign_len {z y : Str} (h : y ∈ signs z) : y.length = 1 := by
  obtain ⟨c, _, rfl⟩ := List.mem_map.mp h
  rfl
theorem srt_len (z : Str) : (srt z).length = z.length :=
  join0_len _ _ (fun y hy => sign_len ((srtL_perm _).mem_iff.mp hy)) (by rw [(srtL_perm _).length_eq, signs_len])
theorem srt_lets {z : Str} (h : lets z) : lets (srt z) := lets_join fun y hy => by
  obtain ⟨c, hc, rfl⟩ := List.mem_map.mp ((srtL_perm _).mem_iff.mp hy)
  intro d hd
  have : d = c := by simpa using hd
  subst this
  exact h d hc
end Cr

/-! Cr4: comprehensions over a locked dict's keys. -/
namespace Cr
open PySem L2
section
variable {d : Addr} {o : Obj} {kvs : List (Key × V)} {g : TG} {tt : TT} {te tk tv : TE} {vs : List Nat} {σ : L2.St} {H1 : Hp} {D : Addr} {Qd : Hp → Prop}
theorem lc_keys (Pv : Nat → Hp → Prop) (h0 : Pv 0 (upd H1 D (.lst []))) (hl : ∀ i H, i ≤ kvs.length → Pv i H → H d = some (.frz o (.dK kvs)))
    (hs : ∀ i k v H, kvs[i]? = some (k, v) → Pv i H → g (kV k) (wipe σ vs) H fun σ2 H2 => wipe σ2 vs = wipe σ vs ∧ tt σ2 H2 fun b H3 =>
      if b = true then te σ2 H3 fun y H4 => ∃ acc, H4 D = some (.lst acc) ∧ acc.length < sizeLine ∧ Pv (i + 1) (upd H4 D (.lst (acc ++ [y]))) else Pv (i + 1) H3) (hd : ∀ H, Pv kvs.length H → Qd H) :
    ∃ W : Nat → Nat → Hp → Prop, (∃ m, W 0 m (upd H1 D (.lst []))) ∧ ∀ i m H, W i m H → ((Itk d o kvs).stop i H ∧ Qd H) ∨ ((Itk d o kvs).go i H ∧ ∃ Nx : Hp → Prop, (∀ H', Nx H' → ∃ m', m' < m ∧ W (i + 1) m' H') ∧
      ∀ x H', (Itk d o kvs).yld i H x H' → g x (wipe σ vs) H' fun σ2 H2 => wipe σ2 vs = wipe σ vs ∧ tt σ2 H2 fun b H3 =>
        if b = true then te σ2 H3 fun y H4 => ∃ acc, H4 D = some (.lst acc) ∧ acc.length < sizeLine ∧ Nx (upd H4 D (.lst (acc ++ [y]))) else Nx H3) := by
  refine ⟨fun i m H => m + i = kvs.length ∧ Pv i H, ⟨kvs.length, rfl, h0⟩, fun i m H ⟨em, p⟩ => ?_⟩
  have q := hl i H (by omega) p
  by_cases c : i < kvs.length
  · refine .inr ⟨⟨q, c⟩, Pv (i + 1), fun H' p' => ⟨m - 1, by omega, by omega, p'⟩, fun x H' y => ?_⟩
    obtain ⟨rfl, k, v, e, rfl⟩ := y
    exact hs i k v _ e p
  · obtain rfl : i = kvs.length := by omega
    exact .inl ⟨⟨q, Nat.le_refl _⟩, hd H p⟩
theorem dc_keys (Pv : Nat → Hp → Prop) (h0 : Pv 0 (upd H1 D (.dK []))) (hl : ∀ i H, i ≤ kvs.length → Pv i H → H d = some (.frz o (.dK kvs)))
    (hs : ∀ i k v H, kvs[i]? = some (k, v) → Pv i H → g (kV k) (wipe σ vs) H fun σ2 H2 => wipe σ2 vs = wipe σ vs ∧ tt σ2 H2 fun b H3 =>
      if b = true then tk σ2 H3 fun y H4 => tv σ2 H4 fun z H5 => ∃ ls k, y = kV k ∧ H5 D = some (.dK ls) ∧ ls.length < sizeLine ∧ Pv (i + 1) (upd H5 D (.dK (putK ls k z))) else Pv (i + 1) H3) (hd : ∀ H, Pv kvs.length H → Qd H) :
    ∃ W : Nat → Nat → Hp → Prop, (∃ m, W 0 m (upd H1 D (.dK []))) ∧ ∀ i m H, W i m H → ((Itk d o kvs).stop i H ∧ Qd H) ∨ ((Itk d o kvs).go i H ∧ ∃ Nx : Hp → Prop, (∀ H', Nx H' → ∃ m', m' < m ∧ W (i + 1) m' H') ∧
      ∀ x H', (Itk d o kvs).yld i H x H' → g x (wipe σ vs) H' fun σ2 H2 => wipe σ2 vs = wipe σ vs ∧ tt σ2 H2 fun b H3 =>
        if b = true then tk σ2 H3 fun y H4 => tv σ2 H4 fun z H5 => ∃ ls k, y = kV k ∧ H5 D = some (.dK ls) ∧ ls.length < sizeLine ∧ Nx (upd H5 D (.dK (putK ls k z))) else Nx H3) := by
  refine ⟨fun i m H => m + i = kvs.length ∧ Pv i H, ⟨kvs.length, rfl, h0⟩, fun i m H ⟨em, p⟩ => ?_⟩
  have q := hl i H (by omega) p
  by_cases c : i < kvs.length
  · refine .inr ⟨⟨q, c⟩, Pv (i + 1), fun H' p' => ⟨m - 1, by omega, by omega, p'⟩, fun x H' y => ?_⟩
    obtain ⟨rfl, k, v, e, rfl⟩ := y
    exact hs i k v _ e p
  · obtain rfl : i = kvs.length := by omega
    exact .inl ⟨⟨q, Nat.le_refl _⟩, hd H p⟩
end
/-- a locked dict is read -/
theorem dg_frz {H : Hp} {d : Addr} {o : Obj} {kvs : List (Key × V)} {k : Key} {v : V} (h : H d = some (.frz o (.dK kvs))) (e : valV kvs k = some v) : DGet H d (kV k) (some v) := .inl ⟨kvs, k, .inr ⟨o, h⟩, rfl, e.symm⟩
/-- what stands but for the locked d stands again behind the lock -/
theorem same_lock {H H' : Hp} {d : Addr} {u : HO} (hd : H d = some u) (h : ∀ a x, a ≠ d → H a = some x → H' a = some x) : Same H (upd H' d u) := fun a x e => by
  by_cases c : a = d
  · subst c
    rw [hd] at e
    rw [upd_same]
    exact e
  · rw [upd_ne c]
    exact h a x c e
theorem filter_take_yes {α : Type} {l : List α} {f : α → Bool} {i : Nat} {x : α} (e : l[i]? = some x) (h : f x = true) : (l.take (i + 1)).filter f = (l.take i).filter f ++ [x] := by
  rw [List.take_add_one, e, List.filter_append]
  simp [h]
theorem filter_take_no {α : Type} {l : List α} {f : α → Bool} {i : Nat} {x : α} (e : l[i]? = some x) (h : f x = false) : (l.take (i + 1)).filter f = (l.take i).filter f := by
  rw [List.take_add_one, e, List.filter_append]
  simp [h]
end Cr

/-! CrX1: own exception classes straight over any built-in one: made, their fields stored. -/
namespace Cr
open PySem PySem.Spec PyProof.Rows L2
/-- what the written part says of such a class -/
structure ExB (K : PySem.W.Frag) (C : Addr) (B newId initId : String) (tl : List Value) : Prop where
  fb : ExcBaseFacts B newId initId tl
  sf : StoreFacts B tl "object.__setattr__" "object"
  ii : PySem.W.excInitIn K C tl newId = true
  ov : PySem.W.excOver K C tl = true
  hd : PySem.W.hasDictIn K C = true
  sa : PySem.W.findIn K (.ref C) "__setattr__" = some (some (.builtin "object.__setattr__"))
  ga : PySem.W.findIn K (.ref C) "__getattribute__" = some (some (.builtin "BaseException.__getattribute__"))
  gt : ∃ g, PySem.W.findIn K (.ref C) "__getattr__" = some g
  exC : PySem.W.subIn K (.ref C) (.type "BaseException") = some true
  tyC : PySem.W.typeIn K (.ref C) = some (.type "type")
  kC : PySem.W.keepIn K (.ref C) = true
  ci : PySem.W.isClsIn K C = true
  ca : PySem.W.findIn K (.ref C) "__class__" = some (some (.builtin "object.__class__"))
  cn : PySem.W.specialIn K (.builtin "object.__class__") "__get__" = some (some (.builtin "getset_descriptor.__get__"))
  ct : PySem.W.takesIn K (.builtin "object.__class__") = some true
  ob : PySem.W.mroIn K C (.type "object") = some true
section
variable {X : Cx} {pins : List (Addr × Obj)} {σ : L2.St} {H : Hp} {s : Shared} {a C dx : Addr} {f : Str} {y : V} {u : Value} {fs : List (Str × V)} {Q : Unit → Shared → Prop} {E : Value → Shared → Prop} {A : Around} {B newId initId : String} {tl : List Value}
/-- the first field: the dict at dx is new, the exception at a names it now -/
theorem xinv_new {h' : Heap} {tk : Nat} {t1 : Addr} {mA : Str → Option Value} (I : Inv X pins σ H s) (e : H a = some (exo a C none)) (ha : s.heap.get? a = some (PySem.W.excObj C t1 none .none)) (k : ∀ b o, b ≠ a → s.heap.get? b = some o → h'.get? b = some o)
    (dn : s.heap.objs.size ≤ dx) (hx : h'.get? a = some (PySem.W.excObj C t1 (some dx) .none)) (hn : h'.Ns1 dx mA) (rel : ∀ g, RelO (fs.lookup g) (mA g)) :
    Inv X pins σ (upd (upd H dx (exd dx fs)) a (exo a C (some dx))) { s with heap := h', toks := tk } := by
  have nda : dx ≠ a := fun z => absurd (Heap.lt_size ha) (Nat.not_lt.mpr (z ▸ dn))
  -- between: the dict is laid, the exception is as it was
  generalize hm : h'.update a (fun _ => PySem.W.excObj C t1 none .none) = h1
  have h1a : h1.get? a = some (PySem.W.excObj C t1 none .none) := by rw [← hm]; exact Heap.get?_update_self _ hx rfl
  have h1b : ∀ b, b ≠ a → h1.get? b = h'.get? b := fun b hb => by rw [← hm]; exact Heap.get?_update_other _ _ (Ne.symm hb)
  have J := I.laid (t' := tk) (a := dx) (o := exd dx fs) (h' := h1) (fun b o q => by
    by_cases hb : b = a
    · subst hb
      rw [ha] at q
      rw [h1a]; exact q
    · rw [h1b b hb]; exact k b o hb q) dn (exd_ok (hn.at fun o q => by rw [h1b dx nda]; exact q) rel)
  have eJ : (upd H dx (exd dx fs)) a = some (exo a C none) := by rw [upd_ne (Ne.symm nda)]; exact e
  exact J.write (x := a) (e := a) (o := exo a C (some dx)) (t' := tk) (h' := h') (by rw [eJ]; exact True.intro) (.inl rfl) (fun b o hb q => by rw [← h1b b hb]; exact q) ⟨_, hx⟩ (exo_ok hx)
theorem xst_new (T : ExB X.K C B newId initId tl) (I : Inv X pins σ H s) (e : H a = some (exo a C none)) (hno : NoAttr X.K C f) (ry : RelV y u)
    (h : ∀ dx s', H dx = none → dx ≠ a → Inv X pins σ (upd (upd H dx (exd dx [(f, y)])) a (exo a C (some dx))) s' → Q () s') : wpAny (model X.prog X.w) A (setAttr (.ref a) f u) Q E s := by
  obtain ⟨t1, ho⟩ := exo_at I.hok e
  obtain ⟨hp, g, d, t, os⟩ := s
  have IA : PySem.W.InstAt hp a (PySem.W.excObj C t1 none .none) C none := ⟨ho, rfl, rfl, trivial⟩
  refine PySem.W.set_plain I.kIn IA T.sa (PySem.W.osa_openX T.sf I.kIn IA T.ov hno.taker fun b => ?_)
  obtain ⟨cd, hc, hdd⟩ := PySem.W.any_some T.hd
  refine wpAny_bind (wpAny_pure (wpAny_bind (PySem.W.instanceDict_exc (t := t1) (c2 := .none) ho (PySem.W.looks_clsIn I.kIn hc) hdd ?_)))
  have ho' : hp.get? a = some (PySem.W.excObj C t1 none .none) := ho
  have hxs : a ≠ hp.objs.size := Nat.ne_of_lt (Heap.lt_size ho')
  show wpAny _ _ (Builtin.ObjectAttr.storeInDict hp.objs.size _ f u) _ _ ⟨(hp.push (PySem.W.dictOf [] 0)).update a fun o => { o with dict := some hp.objs.size }, g, d, t + 1, os⟩
  generalize hh2 : ((hp.push (PySem.W.dictOf [] 0)).update a fun o => { o with dict := some hp.objs.size }) = h2
  have h2a : h2.get? a = some (PySem.W.excObj C t1 (some hp.objs.size) .none) := by rw [← hh2]; exact Heap.get?_update_self _ (Heap.get?_push_of_some _ ho') rfl
  have h2b : ∀ b o, b ≠ a → hp.get? b = some o → h2.get? b = some o := fun b o hb q => by rw [← hh2, Heap.get?_update_other _ _ (Ne.symm hb)]; exact Heap.get?_push_of_some _ q
  have h2d : h2.Ns hp.objs.size (fun _ => none) := by
    refine ⟨PySem.W.dictOf [] 0, #[], 0, ?_, rfl, fun en q => absurd q (by simp), fun _ => rfl⟩
    rw [← hh2, Heap.get?_update_other _ _ hxs]
    exact Heap.get?_push_at rfl rfl
  refine PySem.HandSPX.store_in_new h2d fun h' tk' hn hs => ?_
  have hfree : H hp.objs.size = none := I.hok.fresh (Nat.le_refl _)
  refine h hp.objs.size _ hfree (Ne.symm hxs) (xinv_new (s := ⟨hp, g, d, t, os⟩) (tk := tk') I e ho' (fun b o hb q => (hs.2 b (Nat.ne_of_lt (Heap.lt_size q))).trans (h2b b o hb q)) (Nat.le_refl _) ((hs.2 a hxs).trans h2a) hn (relO_put (fs := []) ry fun g => True.intro))
theorem xst_old (T : ExB X.K C B newId initId tl) (I : Inv X pins σ H s) (e : H a = some (exo a C (some dx))) (ed : H dx = some (exd dx fs)) (hl : fs.length ≤ 900) (hno : NoAttr X.K C f) (ry : RelV y u)
    (h : ∀ s', Inv X pins σ (upd H dx (exd dx ((f, y) :: fs))) s' → Q () s') : wpAny (model X.prog X.w) A (setAttr (.ref a) f u) Q E s := by
  obtain ⟨t1, ho⟩ := exo_at I.hok e
  obtain ⟨mA, hns, rel⟩ := exd_at I.hok ed
  have hw := within_of rel
  obtain ⟨hp, g, d, t, os⟩ := s
  obtain ⟨oD, _, _, hoD, _, _⟩ := hns.count hw
  have IA : PySem.W.InstAt hp a (PySem.W.excObj C t1 (some dx) .none) C (some oD) := ⟨ho, rfl, rfl, hoD⟩
  refine PySem.W.set_plain I.kIn IA T.sa (PySem.W.osa_openX T.sf I.kIn IA T.ov hno.taker fun b => ?_)
  obtain ⟨cd, hc, hdd⟩ := PySem.W.any_some T.hd
  have ho' : hp.get? a = some (PySem.W.excObj C t1 (some dx) .none) := ho
  have di : ∀ {Q' : Option Addr → Shared → Prop} {E' : Value → Shared → Prop} {s' : Shared}, s'.heap = hp → Q' (some dx) s' → wpAny (model X.prog X.w) A.in1 (instanceDict a true) Q' E' s' := by
    intro Q' E' s' es q
    unfold instanceDict
    refine wpAny_bind (wpAny_loadPart (by rw [es]; exact ho') ?_)
    refine wpAny_bind ((PySem.W.looks_clsIn I.kIn hc) _ _ _ _ (fun _ _ z => by rw [es]; exact z) ?_)
    rw [hdd]
    exact wpAny_pure q
  refine wpAny_bind (wpAny_pure (wpAny_bind (di rfl ?_)))
  show wpAny _ _ (Builtin.ObjectAttr.storeInDict dx _ f u) _ _ _
  refine PySem.OEX.store_in_old hns hw (by rw [List.length_map]; omega) fun h' tk' hn hs => ?_
  have hd : ∃ o, h'.get? dx = some o := by
    obtain ⟨o, _, _, e', _⟩ := hn
    exact ⟨o, e'⟩
  exact h _ (I.write (t' := tk') (x := dx) (e := dx) (o := exd dx ((f, y) :: fs)) (by rw [ed]; exact True.intro) (.inl rfl) (fun b o hb q => (hs.2 b hb).trans q) hd (exd_ok hn (relO_put ry rel)))
/-- B.__init__(self, ..) -/
theorem xinit_ok {us : List Value} {R : Value → Shared → Prop} (T : ExB X.K C B newId initId tl) (I : Inv X pins σ H s) (e : H a = some (exo a C none)) (hl : us.length ≤ sizeLine) (h : ∀ s', Inv X pins σ H s' → R .none s') :
    wpAny (model X.prog X.w) A (call (.builtin initId) (.ref a :: us)) R E s := by
  obtain ⟨nm, N, qn, bs, bm, hd, sn, sub, ab, col, dd, k0, k1, k2, k3, k5, hC, hT⟩ := PySem.W.excInit_of I.kIn T.ii
  obtain ⟨t1, ho⟩ := exo_at I.hok e
  obtain ⟨hp, g, d, t, os⟩ := s
  refine wpAny_call (PySem.HandSPX.init_base T.fb hT hC ho hl fun h' t2 k hx => ?_)
  have J := I.write (t' := t) (x := a) (e := a) (o := exo a C none) (by rw [e]; exact True.intro) (.inl rfl) k ⟨_, hx⟩ (exo_ok hx)
  have same : upd H a (exo a C none) = H := by
    funext b
    by_cases hb : b = a
    · subst hb; rw [upd_same, e]
    · rw [upd_ne hb]
  rw [same] at J
  exact h _ J
end
end Cr

/-! CrX2: rules for __init__ of such classes, and for making them. -/
namespace Cr
open PySem PySem.Spec PyProof.Rows L2
/-- the built-in class B by its name x -/
structure BltE (K : PySem.W.Frag) (x : Str) (B initId : String) : Prop where
  boot : bootBuiltins x = some (.type B)
  ty : typeOf (.type B) = pure (.type "type")
  st : Manifest.isStub B = false
  fi : PySem.W.findCls K (.type B) (.type "type") "__init__" = some (.val (.builtin initId))
  hi : PySem.W.handedIn (.builtin initId) = true
section
variable {X : Cx} {o e : Expr} {es : List Expr} {to te : TE} {ta : TA} {f x : Str} {p p' p1 p2 pos : Pos} {C : Addr} {B newId initId : String} {tl : List Value}
/-- B.__init__(self, ..) -/
def tBI (C : Addr) (ta : TA) : TE := fun σ H Q => ta σ H fun vs H1 => ∃ (a : Addr) (ws : List V), vs = .ref a :: ws ∧ ws.length ≤ 1000 ∧ H1 a = some (exo a C none) ∧ Q .non H1
theorem pe_bi {pl : Sem Bool} (T : ExB X.K C B newId initId tl) (hB : BltE X.K x B initId) (hg : Gl X x) (hm : X.mg x = none) (ha : PA X (e :: es) ta) (hn : x ≠ "__name__" := by decide) (hdb : (x == ("__debug__" : Str)) = false := by decide)
    (hc : eval (.Call (.Attribute (.Name x p1) "__init__" p2) (e :: es) [] pos) X.env = (do
      let z ← eval (.Name x p1) X.env
      standAt p2.atName
      let (g, fst) ← holding [z] (getMethod z "__init__" pl)
      callWith pos g fst (backTo pos (starEach (e :: es) X.env)) (backToKw pos (keywordEach [] X.env))) := by rfl)
    (he : starEach (e :: es) X.env = (false, eval e X.env) :: starEach es X.env := by rfl) (hpl : (backTo pos (starEach es X.env)).any (·.1) = false := by rfl) :
    PE X (.Call (.Attribute (.Name x p1) "__init__" p2) (e :: es) [] pos) (tBI C ta) := by
  refine ⟨fun pins s σ H Q I h => PySem.W.methodCall_KW (ld_blt I hg hm hB.boot ?_ hn hdb) hc⟩
  obtain ⟨m, fr⟩ := I.fr
  refine PySem.W.method_type fr I.ok.mod.kin hB.ty hB.st hB.fi hB.hi ?_
  show wpAny _ _ (callWith pos (Value.builtin initId) [] (backTo pos (starEach (e :: es) X.env)) []) _ _ _
  refine PyProof.Rows.callWith_method1 (thn (ha.run pos pins _ σ H _ (I.tok _) h) fun us s1 z => ?_) he hpl
  obtain ⟨vs, H1, J, rv, a, ws, rfl, hl, ea, q⟩ := z
  cases rv with
  | @cons _ v0 _ vr r0 rr =>
    obtain rfl : v0 = Value.ref a := r0
    have hlen : vr.length ≤ sizeLine := by
      have := Paired.length rr
      rw [sizeLine_eq]; omega
    exact xinit_ok T J ea hlen fun s' J' => ⟨.non, H1, J', rfl, q⟩
/-- self.f = e in such an __init__ -/
def tXst (C : Addr) (f : Str) (to te : TE) : TS := fun D σ H => te σ H fun y H1 => to σ H1 fun z H2 => ∃ a : Addr, z = .ref a ∧
  ((H2 a = some (exo a C none) ∧ ∀ dx, H2 dx = none → dx ≠ a → D.nx σ (upd (upd H2 dx (exd dx [(f, y)])) a (exo a C (some dx)))) ∨
    ∃ (dx : Addr) (fs : List (Str × V)), H2 a = some (exo a C (some dx)) ∧ H2 dx = some (exd dx fs) ∧ fs.length ≤ 900 ∧ D.nx σ (upd H2 dx (exd dx ((f, y) :: fs))))
theorem ps_xst (T : ExB X.K C B newId initId tl) (hno : NoAttr X.K C f) (ho : PE X o to) (he : PE X e te) (hs : swapsWith e (some (.Attribute o f p')) pos.line X.env = pure false := by rfl) :
    PS X (.Assign [.Attribute o f p'] e pos) (tXst C f to te) := by
  refine ⟨fun pins s σ H D I h => plainObj_wpAny_Assign_Attribute (thn (he.run pins s σ H _ I h) fun v s1 z1 => ?_) hs⟩
  obtain ⟨y, H1, I1, r1, q1⟩ := z1
  refine thn (ho.run pins s1 σ H1 _ I1 q1) fun u s2 z2 => ?_
  obtain ⟨z, H2, I2, r2, a, rfl, q⟩ := z2
  obtain rfl : u = Value.ref a := r2
  rcases q with ⟨ea, q⟩ | ⟨dx, fs, ea, ed, hl, q⟩
  · exact xst_new T I2 ea hno r1 fun dx s' n ne J => ⟨σ, _, J, q dx n ne⟩
  · exact xst_old T I2 ea ed hl hno r1 fun s' J => ⟨σ, _, J, q⟩
/-- C(e, ..) -/
theorem pmk_x {CX : CXT} {fI : Addr} {k : Nat} {fd : FuncData} {ps : List Str} {sp : Sp} (T : ExB X.K C B newId initId tl) (M : Meth X.K C "__init__" fI) (F1 : FnOk X.prog X.w X.K X.mg X.base CX k fI fd ps sp) (hr : Room (k + 1) X.A)
    (hb : Binds X.K fd ps []) (hx : Passes CX X (fun _ _ _ => False)) (hg : Gl X x) (hm : X.mg x = some (.ref C)) (ha : PA X (e :: es) ta) (hdb : (x == ("__debug__" : Str)) = false := by decide)
    (he : starEach (e :: es) X.env = (false, eval e X.env) :: starEach es X.env := by rfl) (hpl : (backTo pos (starEach es X.env)).any (·.1) = false := by rfl) :
    PMk X (.Call (.Name x p) (e :: es) [] pos) (tMkO C sp [] ta) := by
  intro pins s σ H Q I h
  refine wpAny_Call_Name_kw (ld_glob I hg hm (PySem.W.callWith_K (h₀ := X.base) I.ok.mod.kin T.kC (thn (ha.run pos pins s σ H _ I h) fun us s1 z => ?_) he hpl) hdb)
  obtain ⟨vs, H1, J, rv, hz, q1⟩ := z
  refine ⟨J.kIn, ?_⟩
  show wpAny _ _ (call (.ref C) us) _ _ _
  obtain ⟨hp, g, dr, tk, os⟩ := s1
  obtain ⟨nm, N, qn, bs, bm, hd, sn, sub, ab, col, dd, k0, k1, k2, k3, k5, hC, hT⟩ := PySem.W.excInit_of J.kIn T.ii
  have sz : hp.objs.size ≤ hp.objs.size + 1 := Nat.le_succ _
  have want := q1 (hp.objs.size + 1) (J.hok.fresh sz)
  generalize hh2 : (hp.push (PySem.W.kdv_tup us)).push (PySem.HandSPX.excO C hp.objs.size) = h2
  have kk : ∀ b o, hp.get? b = some o → h2.get? b = some o := fun b o q => by rw [← hh2]; exact Heap.get?_push_of_some _ (Heap.get?_push_of_some _ q)
  have hget : h2.get? (hp.objs.size + 1) = some (PySem.HandSPX.excO C hp.objs.size) := by rw [← hh2]; heap_get
  have J2 : Inv X pins σ (upd H1 (hp.objs.size + 1) (exo (hp.objs.size + 1) C none)) ⟨h2, g, dr, tk, os⟩ := J.laid (t' := tk) (a := hp.objs.size + 1) (h' := h2) kk sz (exo_ok hget)
  rw [List.append_nil] at want
  have r2 : Vals (V.ref (hp.objs.size + 1) :: vs) (Value.ref (hp.objs.size + 1) :: us) := .cons rfl rv
  have hl : (Value.ref (hp.objs.size + 1) :: us).length = ps.length := r2.length.symm.trans (F1.len _ _ _ _ want)
  have bt := hb ⟨h2, g, dr, tk, os⟩ (Value.ref (hp.objs.size + 1) :: us) J2.kIn (by rw [List.append_nil]; exact hl)
  rw [List.append_nil] at bt
  have hus : us.length ≤ sizeLine := by
    have := Paired.length rv
    rw [sizeLine_eq]; omega
  refine wpAny_call (PySem.HandSPX.call_own T.fb hT hC (PySem.W.looks_findIn J.kIn M.at_) (fun self => PySem.W.bind_fn J.kIn self (beq_iff_eq.mp M.fn)) hus ?_)
  rw [hh2]
  refine codeAny_mono (F1.run _ X.stack _ _ ⟨Value.ref (hp.objs.size + 1) :: us, []⟩ (Value.ref (hp.objs.size + 1) :: us) _ _ (fun _ _ _ => False) (hr.make C us []) (J2.env0.make C us []) bt r2 want) fun r s' w => ?_
  match r, w with
  | .error er, w => exact hx pins σ _ _ er s' J2 w
  | .ok .next, w => exact False.elim w
  | .ok .brk, w => exact False.elim w
  | .ok .cont, w => exact False.elim w
  | .ok (.ret v), ⟨rv', H2, os2, bare2, un2, hok2, rel, en, d, fs, ea, ed, hd1, q2⟩ =>
    subst en
    obtain ⟨h3, g2, d2, t2, os'⟩ := s'
    exact ⟨rel, mk_end (raises_own T.exC T.tyC) J sz kk un2 hok2 os2 bare2 ea ed hd1 q2⟩
end
end Cr

/-! CrX3: a caught exception that is kept behind the suite. -/
namespace Cr
open PySem PySem.Spec PyProof.Rows L2
/-- at a: an exception of the class cls, its own dict at d -/
def ExK (a : Addr) (cls : Value) (d : Option Addr) : HO := .ext fun h => ∃ (oe : Obj) (vs : Array Value), h.get? a = some oe ∧ Zc cls d oe ∧ oe.data = .fields vs
theorem exK_ok {P : Program} {w : World} {H : Hp} {h : Heap} {a : Addr} {cls : Value} {d : Option Addr} {oe : Obj} {vs : Array Value} (e : h.get? a = some oe) (z : Zc cls d oe) (f : oe.data = .fields vs) : ObjOk P w H h a (ExK a cls d) :=
  ⟨⟨oe, vs, e, z, f⟩, ⟨oe, e⟩, fun _ _ ⟨o, v, q, r⟩ k => ⟨o, v, k o q, r⟩⟩
theorem exK_at {P : Program} {w : World} {H : Hp} {h : Heap} {a : Addr} {cls : Value} {d : Option Addr} (hok : HOk P w H h) (e : H a = some (ExK a cls d)) : ∃ (oe : Obj) (vs : Array Value), h.get? a = some oe ∧ Zc cls d oe ∧ oe.data = .fields vs := by
  have q := hok a _ e
  exact q.1
section
variable {X : Cx} {pins : List (Addr × Obj)} {σ : L2.St} {H : Hp} {s : Shared} {a : Addr}
/-- an object that was not followed is followed from here on -/
theorem adopt {oe : Obj} {vs : Array Value} {cls : Value} {d : Option Addr} (I : Inv X pins σ H s) (ha : s.heap.get? a = some oe) (hz : Zc cls d oe) (hd : oe.data = .fields vs) (na : H a = none) (nL : a ≠ X.env.locals) (n0 : X.s_0.heap.get? a = none)
    (np : ∀ p ∈ X.pn ++ pins, p.1 ≠ a) : Inv X pins σ (upd H a (ExK a cls d)) s := by
  have up : ∀ {b : Addr} {o : HO}, H b = some o → (upd H a (ExK a cls d)) b = some o := fun {b o} q => by rw [upd_ne (ne_of_none q na)]; exact q
  refine ⟨I.ok, I.os, I.bare, ⟨I.base.keep, I.base.slot, fun b o q n x => ?_, I.base.there, fun b xs q => up (I.base.tups b xs q), fun b o v q => up (I.base.frzs b o v q), fun b ps q => ?_⟩, I.loc, I.cell, ?_, fun x c q => ?_, fun p hp => ?_, fun b o q => ?_, I.len⟩
  · rw [upd_ne (fun z => by rw [z, n0] at q; cases q)]
    exact I.base.free b o q n x
  · obtain ⟨more, q'⟩ := I.base.tbls b ps q
    exact ⟨more, up q'⟩
  · rw [upd_ne (Ne.symm nL)]; exact I.free
  · obtain ⟨v, oc, ec, dc⟩ := I.cell x c q
    rw [upd_ne (fun z => by
      rw [z, ha] at ec
      cases ec
      rw [hd] at dc
      cases dc)]
    exact I.freeC x c q
  · obtain ⟨p1, p2, p3⟩ := I.pin p hp
    exact ⟨p1, by rw [upd_ne (np p hp)]; exact p2, p3⟩
  · by_cases hb : b = a
    · subst hb
      rw [upd_same] at q
      cases q
      exact exK_ok ha hz hd
    · rw [upd_ne hb] at q
      exact (I.hok b o q).stay (fun _ _ _ z => z) (fun _ z => up z) fun _ _ z => up z
end
/-- what 'except x as n: suite' wishes of an exception of the body, where the exception is kept -/
def wKeep (K : PySem.W.Frag) (c : Value) (i : Nat) (ts : Addr → TS) (D : Ends) : WX := fun cls d σ H =>
  PySem.W.exmOne K cls c = some true ∧ ∀ a, H a = none → ts a { nx := fun σ' H' => D.nx (σ'.set i none) (upd H' a (ExK a cls d)), rt := fun _ _ => False, bk := fun _ _ => False, ct := fun _ _ => False } (σ.set i (some (.ref a))) H
section
variable {X : Cx} {x n : Str} {c : Value} {i : Nat} {body suite : List Stmt} {b₀ : Stmt} {np pos pos' : Pos} {tb : WX → TS} {ts : Addr → TS}
theorem ps_try_keep (hs : X.stack = X.env :: X.outer) (hf : X.env.frame = some X.env.locals) (hex : X.ex = []) (hN : X.N.Nodup) (hi : X.N[i]? = some n) (hln : X.env.kindOf n = some .local) (hc : Names X x c)
    (hb : ∀ (W : WX) (pn : List (Addr × Obj)) (xe : Value → Shared → Prop), Takes (X.tr pn xe) W → PassesOwn (model X.prog X.w) X.A X.env xe → PSs (X.tr pn xe) body (tb W))
    (hsu : ∀ (a : Addr) (oe : Obj) (pn : List (Addr × Obj)), PSs (X.suite a ((a, oe) :: pn)) (b₀ :: suite) (ts a)) :
    PS X (.Try body [.ExceptHandler (some (.Name x np)) (some n) (b₀ :: suite) pos'] [] [] pos) (fun D σ H => tb (wKeep X.K c i ts D) D σ H) := by
  refine ⟨fun pins s σ H D I h => wpAny_Try_except ?_⟩
  have ok := I.ok
  have hfr : X.A.frames = some (X.env :: X.outer) := by rw [ok.frames, hs]
  refine wpAny_mono ((hb (wKeep X.K c i ts D) (X.pn ++ pins) _ ?air PassesOwn.looking).run [] s σ H D (I.toTry _) h) (fun fl s1 w => ?_) fun _ _ z => z
  case air =>
    rintro u s' ⟨a, B, sI, pins', σ', H', cls, d, rfl, J', nb, up, sky, na, os, ag, hm, hyes⟩
    have J : Inv X pins σ' H' sI := J'.ofTry ok
    rw [show (X.tr (X.pn ++ pins) _).stack = X.env :: X.outer from hs] at sky
    refine Sky.land Zc.steady hfr hf sky fun h3 fl3 up3 => ?_
    have gone : B.get? a = none := fl3.2.1
    obtain ⟨oe3, vs3, he3, hz3, hd3⟩ := fl3.there
    have nfr : a ∉ frs (X.env :: X.outer) := fun hm' => by
      obtain ⟨_, o', e', hnf⟩ := fl3.2.2.1.mem hm'
      rw [he3] at e'
      cases e'
      exact hnf _ hd3
    have inB : ∀ o, sI.heap.get? a = some o → False := fun o q => by
      have := nb a o q (by rw [show (X.tr (X.pn ++ pins) _).stack = X.env :: X.outer from hs]; exact nfr)
      rw [gone] at this
      cases this
    have nL : a ≠ X.env.locals := fun z => nfr (List.mem_filterMap.mpr ⟨X.env, List.mem_cons_self, by rw [hf, z]⟩)
    have nF : a ∉ X.fs := fun hm' => by
      obtain ⟨en, hen, q⟩ := List.mem_filterMap.mp hm'
      exact nfr (List.mem_filterMap.mpr ⟨en, List.mem_cons_of_mem _ hen, q⟩)
    have n0 : X.s_0.heap.get? a = none := by
      cases e0 : X.s_0.heap.get? a with
      | none => rfl
      | some o =>
        obtain ⟨o', q⟩ := J.base.there a o e0 (by rw [hex]; simp)
        exact (inB o' q).elim
    have npin : ∀ p ∈ X.pn ++ pins, p.1 ≠ a := fun p hp z => inB p.2 (by rw [← z]; exact (J.pin p hp).1)
    have J3 : Inv X pins σ' H' { s' with heap := h3 } := J.landed nb fl3.1 (up.trans up3) os ag
    have S3 := J3.suite he3 hd3 na nL nF
    have LT : PySem.W.Looks (model X.prog X.w) h3 (typeOf (.ref a)) cls := fun A' Q' E' s1 kk q => wpAny_typeOf_ref (kk _ _ he3) (by rw [hz3.1]; exact q)
    have name : ∀ {Q' : Value → Shared → Prop} {E' : Value → Shared → Prop}, Q' c { s' with heap := h3 } → wpAny (model X.prog X.w) (X.A.mark (some (.ref a))) (eval (.Name x np) X.env) Q' E' { s' with heap := h3 } := fun {Q' E'} q => by
      obtain ⟨hg, hdbg, hm1 | ⟨hm1, hv, hnn⟩⟩ := hc
      · exact ld_glob (X := X.suite a ((a, oe3) :: (X.pn ++ pins))) S3 hg hm1 q hdbg
      · exact ld_blt (X := X.suite a ((a, oe3) :: (X.pn ++ pins))) S3 hg hm1 hv q hnn hdbg
    refine PySem.W.exc_clause_as (name ⟨true, PySem.W.exm_one (M := model X.prog X.w) J3.kIn LT hm, ?_⟩)
    rw [if_pos rfl]
    refine HandSPX.lands_againZ fl3 fun h4 fl4 up4 => ?_
    have J4 : Inv X pins σ' H' { s' with heap := h4 } := J.landed nb fl4.1 ((up.trans up3).trans up4) os ag
    obtain ⟨oe4, vs4, he4, hz4, hd4⟩ := fl4.there
    refine store_ok (X := X.suite a ((a, oe4) :: (X.pn ++ pins))) (v := .ref a) (J4.suite he4 hd4 na nL nF) hN hi (.inl hln) rfl (fun s5 S5 => ?_) (.inr hln)
    refine wpAny_mono ((hsu a oe4 (X.pn ++ pins)).run [] s5 _ H' _ S5 (hyes a na)) (fun fl s6 w => ?_) fun _ _ z => False.elim z
    match fl, w with
    | .next, ⟨σ6, H6, S6, q6⟩ =>
      obtain ⟨p1, p2, _⟩ := S6.pin (a, oe4) (by simp [Cx.suite])
      exact gone_ok (adopt (S6.unsuite ok) p1 hz4 hd4 p2 nL n0 npin) hN hi hln fun s7 J7 => ⟨_, _, J7, q6⟩
    | .brk, ⟨_, _, _, q⟩ => exact q.elim
    | .cont, ⟨_, _, _, q⟩ => exact q.elim
    | .ret _, ⟨_, _, _, _, _, q⟩ => exact q.elim
  · match fl, w with
    | .next, ⟨σ', H', J, q⟩ => exact wpAny_execs_nil ⟨σ', H', J.ofTry ok, q⟩
    | .brk, ⟨σ', H', J, q⟩ => exact ⟨σ', H', J.ofTry ok, q⟩
    | .cont, ⟨σ', H', J, q⟩ => exact ⟨σ', H', J.ofTry ok, q⟩
    | .ret u, ⟨v, σ', H', J, r, q⟩ => exact ⟨v, σ', H', J.ofTry ok, r, q⟩
end
end Cr

/-! CrX4: isinstance and fields of a kept exception. -/
namespace Cr
open PySem PySem.Spec PyProof.Rows L2
/-- a kept exception with its fields -/
def XkAt (H : Hp) (a C : Addr) (fs : List (Str × V)) : Prop := ∃ d, H a = some (ExK a (.ref C) (some d)) ∧ H d = some (.xd fs)
theorem XkAt.up {H H' : Hp} {a C : Addr} {fs : List (Str × V)} (h : XkAt H a C fs) (s : Same H H') : XkAt H' a C fs := by
  obtain ⟨d, e1, e2⟩ := h
  exact ⟨d, s _ _ e1, s _ _ e2⟩
section
variable {X : Cx} {pins : List (Addr × Obj)} {σ : L2.St} {H : Hp} {s : Shared} {a C : Addr} {fs : List (Str × V)} {B newId initId : String} {tl : List Value}
theorem xk_inst (I : Inv X pins σ H s) (h : XkAt H a C fs) : ∃ (oe od : Obj) (mA : Str → Option Value), PySem.W.InstAt s.heap a oe C (some od) ∧ (∀ f, RelO (fs.lookup f) (mA f)) ∧ ∀ f, PySem.W.lookIn f od = some (mA f) := by
  obtain ⟨d, e1, e2⟩ := h
  obtain ⟨oe, vs, he, hz, hd⟩ := exK_at I.hok e1
  obtain ⟨mA, hns, hr⟩ : ∃ mA, s.heap.Ns1 d mA ∧ ∀ f, RelO (fs.lookup f) (mA f) := I.hok d _ e2
  obtain ⟨od, ho, hl⟩ := lookIn_ns hns
  exact ⟨oe, od, mA, ⟨he, hz.1, by unfold PySem.W.notCls; rw [hd] <;> rfl, by rw [hz.2]; exact ho⟩, hr, hl⟩
/-- e.f of a kept exception -/
def tXk (C : Addr) (f : Str) (te : TE) : TE := fun σ H Q => te σ H fun x H1 => ∃ (a : Addr) (fs : List (Str × V)) (v : V), x = .ref a ∧ XkAt H1 a C fs ∧ fs.lookup f = some v ∧ Q v H1
theorem pe_xk {e : Expr} {te : TE} {pos : Pos} {n : Str} (T : ExB X.K C B newId initId tl) (hno : NoAttr X.K C n) (he : PE X e te) (hb : attributeBase e n X.env (eval e X.env) = eval e X.env := by rfl) : PE X (.Attribute e n pos) (tXk C n te) := by
  refine ⟨fun pins s σ H Q I h => attr_of hb (thn (he.run pins s σ H _ I h) fun u s1 z => ?_)⟩
  obtain ⟨x, H1, J, rx, a, fs, v, rfl, hk, l, q⟩ := z
  obtain rfl : u = Value.ref a := rx
  obtain ⟨oe, od, mA, IA, hr, hl⟩ := xk_inst J hk
  obtain ⟨w, hw, rw'⟩ := RelO.some_of (v := v) (o := mA n) (by rw [← l]; exact hr n)
  obtain ⟨g, hg⟩ := T.gt
  exact HandSPX.exc_get J.kIn IA T.ga hg T.exC (PySem.W.findObj_own T.hd hno rfl (by rw [hl, hw])) (handed_of rw') ⟨v, H1, J.tok _, rw', q⟩
theorem xk_kit (T : ExB X.K C B newId initId tl) (I : Inv X pins σ H s) (h : XkAt H a C fs) : ∃ P : Heap → Prop, PySem.W.KitX X.K (.ref a) (.ref C) P ∧ P s.heap := by
  obtain ⟨oe, od, mA, IA, _⟩ := xk_inst I h
  obtain ⟨g, hg⟩ := T.gt
  exact ⟨_, PySem.W.kitx_exc (ox := oe) (od := some od) (show (PySem.W.clsIn X.K C).isSome = true from T.ci) T.ga hg T.exC T.ca T.cn T.ct T.ob, IA⟩
/-- isinstance(e, T) of a kept exception -/
theorem call_isX (T : ExB X.K C B newId initId tl) : CallR X (.builtin "isinstance") (fun xs H Q => ∃ (a : Addr) (fs : List (Str × V)) (c : V) (u : Value) (b : Bool), xs = [.ref a, c] ∧ XkAt H a C fs ∧ ClsV c u ∧ PySem.W.kitOne X.K (.ref C) u = some b ∧ Q (.bl b) H) := by
  intro pins s σ H xs us Q I r h
  obtain ⟨a, fs, c, u, b, rfl, hk, cv, e, q⟩ := h
  obtain ⟨u1, u2, rfl, r1, r2⟩ := vals2 r
  obtain rfl : u1 = Value.ref a := r1
  have e2 := cv.eq r2
  subst e2
  obtain ⟨P, Z, p⟩ := xk_kit T I hk
  exact PySem.W.kia_one Z I.kIn p e (by intro z; cases z) fun tk => ⟨.bl b, H, I.tok tk, rfl, q⟩
/-- isinstance(e, (T, ..)) of a kept exception -/
theorem call_isXT (T : ExB X.K C B newId initId tl) : CallR X (.builtin "isinstance") (fun xs H Q => ∃ (a tp : Addr) (fs : List (Str × V)) (cs : List V) (ws : List Value) (b : Bool), xs = [.ref a, .ref tp] ∧ XkAt H a C fs ∧ H tp = some (.tup cs) ∧ Paired ClsV cs ws ∧ PySem.W.kitAny X.K (.ref C) ws = some b ∧ Q (.bl b) H) := by
  intro pins s σ H xs us Q I r h
  obtain ⟨a, tp, fs, cs, ws, b, rfl, hk, ht, cv, e, q⟩ := h
  obtain ⟨u1, u2, rfl, r1, r2⟩ := vals2 r
  obtain rfl : u1 = Value.ref a := r1
  obtain rfl : u2 = Value.ref tp := r2
  obtain ⟨P, Z, p⟩ := xk_kit T I hk
  have ot : ObjOk X.prog X.w H s.heap tp (.tup cs) := I.hok tp _ ht
  obtain ⟨_, its, rv, ⟨oc, odd, dt, sl⟩, g1, g2, n, g3⟩ := ot
  obtain rfl := ClsV.all cv rv
  simp only at g2 g3
  subst g2 g3
  exact PySem.W.kia_tup Z I.kIn p g1 e (by intro z; cases z) fun tk => ⟨.bl b, H, I.tok tk, rfl, q⟩
end
end Cr

/-! CrX5: o.m(k = v, ..), what is raised wished for at the caller's slots; binding by one keyword; wide products in place. -/
namespace Cr
open PySem PySem.Spec PyProof.Rows L2
theorem kbn_all {K : PySem.W.Frag} {x qual : Str} {st : Stmt} {f : Addr} {fd : FuncData} {ps ks : List Str} {n : Nat} (F : Fun K x qual st f fd)
    (h : ∀ (kV doc pm : Value) (an : Option Addr) (cdv ct : Value) (us ws : List Value), us.length = n → ws.length = ks.length → bindArgs (PySem.W.fnOf x qual (defArgs st) (defBody st) (defScope st) .none kV doc pm an cdv ct) ⟨us, ks.zip ws⟩ = pure (ps.zip (us ++ ws))) :
    KBn K fd ps n ks (fun us ws => us ++ ws) (fun vs zs => vs ++ zs) := by
  obtain ⟨oc, od, kV, doc, pm, an, cdv, ct, osl, rfl, lk, hcd⟩ := F.ex
  exact ⟨fun s us ws X l1 l2 => BindsTo.of_looks fun M => .of_pure (h kV doc pm an cdv ct us ws l1 l2), fun r1 r2 => r1.append r2⟩
section
variable {X : Cx} {CX : CXT} {k : Nat} {f C : Addr} {fd : FuncData} {ps ks : List Str} {sp : Sp} {E : L2.St → XK} {m : Str} {apos pos : Pos} {o : Expr} {ta : TE} {tk : TA} {kws : List Keyword}
def tMethK (C : Addr) (m : Str) (n : Nat) (sp : Sp) (E : L2.St → XK) (ta : TE) (tk : TA) : TE := fun σ H Q => ta σ H fun x H1 => ∃ a dx fs, x = .ref a ∧ H1 a = some (.ins C dx fs) ∧ fs.lookup m = none ∧
  tk σ H1 fun zs H2 => zs.length = n ∧ sp (x :: zs) H2 Q (E σ)
theorem pe_methK {pl : Sem Bool} (he : PE X o ta) (c : Cls X.K C) (hm : Meth X.K C m f) (F : FnOk X.prog X.w X.K X.mg X.base CX k f fd ps sp) (hr : Room k X.A) (hb : KBn X.K fd ps 1 ks (fun us ws => us ++ ws) (fun vs zs => vs ++ zs)) (hx : ∀ σ, PassesAt CX X σ (E σ)) (hkw : PK X kws tk)
    (hall : (backToKw pos (keywordEach kws X.env)).all (·.1.isSome) = true := by rfl) (hks : (backToKw pos (keywordEach kws X.env)).filterMap (·.1) = ks := by rfl)
    (hpl : ((backTo pos (starEach [] X.env)).any (·.1) || (backToKw pos (keywordEach kws X.env)).any (·.1.isNone)) = false := by rfl)
    (ht : eval (.Call (.Attribute o m apos) [] kws pos) X.env = (do
      let z ← eval o X.env
      standAt apos.atName
      let (g, fst) ← holding [z] (getMethod z m pl)
      callWith pos g fst (backTo pos (starEach [] X.env)) (backToKw pos (keywordEach kws X.env))) := by rfl) :
    PE X (.Call (.Attribute o m apos) [] kws pos) (tMethK C m ks.length sp E ta tk) := by
  refine ⟨fun pins s σ H Q I h => PySem.W.methodCall_KW (pl := pl) (thn (he.run pins s σ H _ I h) fun u s1 z => ?_) ht⟩
  obtain ⟨x, H1, I1, rx, a, dx, fs, rfl, ea, l, q⟩ := z
  obtain rfl : u = Value.ref a := rx
  refine getmeth_ok I1 ea c hm l (PySem.W.callWith_KW0 (first := [.ref a]) (h₀ := X.base) I.ok.mod.kin hm.kp hall ?_ hpl)
  refine thn (hkw.run pos pins s1 σ H1 _ I1 q) fun ws s2 w => ?_
  obtain ⟨zs, H2, I2, rz, l2, q2⟩ := w
  refine ⟨I2.kIn, ?_⟩
  rw [hks]
  have r2 : Vals (V.ref a :: zs) (Value.ref a :: ws) := .cons rfl rz
  refine wpAny_call (codeAny_mono (F.run X.A X.stack s2 H2 ⟨[.ref a], ks.zip ws⟩ (.ref a :: ws) (.ref a :: zs) Q (E σ) hr I2.env0 (hb.to s2 [.ref a] ws I2.kIn rfl (rz.length.symm.trans l2)) r2 q2) fun r s' w => ?_)
  match r, w with
  | .error e, w => exact hx σ pins H2 s2 e s' I2 w
  | .ok (.ret u), w => exact I2.after w
  | .ok .next, w => exact False.elim w
  | .ok .brk, w => exact False.elim w
  | .ok .cont, w => exact False.elim w
end
theorem at0 {X : Cx} (σ : L2.St) : PassesAt CX0 X σ E0 := fun pins H s e s' I c => pass0 (X := X) pins σ H s e s' I c
theorem ip_mulW {X : Cx} : PIp X .Mult (rI CMulW fun i j => .int (i * j)) := by
  have h : OpR X (inplaceOp .Mult) (rI CMulW fun i j => .int (i * j)) := opI fun _ _ _ _ _ _ _ hc q => imul_int q hc.ok
  intro pins s σ H x y v u Q I r1 r2 w
  exact h pins s σ H x y v u Q I r1 r2 w
end Cr

/-! Cr6: a walk over a list within any frame of a comprehension. -/
namespace Cr
open PySem L2
theorem lcw {K : PySem.W.Frag} {a : Addr} {xs : List V} {Hs : Hp} {Fin : Hp → Prop} {Body : V → Hp → (Hp → Prop) → Prop} (Pv : Nat → Hp → Prop) (h0 : Pv 0 Hs) (hl : ∀ i H, i ≤ xs.length → Pv i H → SqL K H a xs) (hs : ∀ i x H, xs[i]? = some x → Pv i H → Body x H (Pv (i + 1)))
    (hd : ∀ H, Pv xs.length H → Fin H) :
    ∃ W : Nat → Nat → Hp → Prop, (∃ m, W 0 m Hs) ∧ ∀ i m H, W i m H → ((Itl K a).stop i H ∧ Fin H) ∨ ((Itl K a).go i H ∧ ∃ Nx : Hp → Prop, (∀ H', Nx H' → ∃ m', m' < m ∧ W (i + 1) m' H') ∧ ∀ x H', (Itl K a).yld i H x H' → Body x H' Nx) := by
  refine ⟨fun i m H => m + i = xs.length ∧ Pv i H, ⟨xs.length, rfl, h0⟩, fun i m H ⟨em, p⟩ => ?_⟩
  have q := hl i H (by omega) p
  by_cases c : i < xs.length
  · refine .inr ⟨⟨xs, xs[i], q, List.getElem?_eq_getElem c⟩, Pv (i + 1), fun H' p' => ⟨m - 1, by omega, by omega, p'⟩, fun x H' y => ?_⟩
    obtain ⟨rfl, y⟩ := y
    exact hs i x _ (y xs q) p
  · obtain rfl : i = xs.length := by omega
    exact .inl ⟨⟨xs, q, Nat.le_refl _⟩, hd H p⟩
theorem ix_tupK {X : Cx} (K : PySem.W.Frag) (hK : X.K = K) : IxR X (rIxT K) := by
  subst hK
  exact ix_tup
theorem ix_listK {X : Cx} (K : PySem.W.Frag) (hK : X.K = K) : IxR X (rIxL K) := by
  subst hK
  exact ix_list
/-- the items of a list, the written part named -/
theorem pi_listK {X : Cx} (K : PySem.W.Frag) (hK : X.K = K) {tg l : Expr} {tl : TE} (hl : PE X l tl) : PI X tg l (iList K tl) := by
  subst hK
  exact pi_list hl
section
variable {g : TG} {tb : TS} {D : Ends} {σ : L2.St} {H : Hp}
/-- for c in text -/
theorem for_str {z : Str} (Pv : Nat → L2.St → Hp → Prop) (h0 : Pv 0 σ H)
    (hs : ∀ i c σ H, z.cps.toList[i]? = some c → Pv i σ H → g (.str ⟨#[c]⟩) σ H fun σ2 H2 => tb { nx := Pv (i + 1), rt := D.rt, bk := D.nx, ct := Pv (i + 1) } σ2 H2) (hd : ∀ σ H, Pv z.cps.toList.length σ H → D.nx σ H) :
    ∃ W : Nat → Nat → L2.St → Hp → Prop, (∃ m, W 0 m σ H) ∧ ∀ i m σ H, W i m σ H → ((Its z).stop i H ∧ D.nx σ H) ∨ ((Its z).go i H ∧ ∃ N : L2.St → Hp → Prop, (∀ σ' H', N σ' H' → ∃ m', m' < m ∧ W (i + 1) m' σ' H') ∧
      ∀ x H', (Its z).yld i H x H' → g x σ H' fun σ2 H2 => tb { nx := N, rt := D.rt, bk := D.nx, ct := N } σ2 H2) := by
  have hz : z.cps.size = z.cps.toList.length := by simp
  refine ⟨fun i m σ H => m + i = z.cps.toList.length ∧ Pv i σ H, ⟨z.cps.toList.length, rfl, h0⟩, fun i m σ H ⟨em, p⟩ => ?_⟩
  by_cases c : i < z.cps.toList.length
  · refine .inr ⟨show i < z.cps.size by omega, Pv (i + 1), fun σ' H' p' => ⟨m - 1, by omega, by omega, p'⟩, fun x H' y => ?_⟩
    obtain ⟨rfl, d, ed, rfl⟩ := y
    exact hs i d σ _ (by rw [Array.getElem?_toList]; exact ed) p
  · obtain rfl : i = z.cps.toList.length := by omega
    exact .inl ⟨show z.cps.size ≤ z.cps.toList.length by omega, hd σ H p⟩
/-- for k in d, d locked -/
theorem for_keys {d : Addr} {o : Obj} {kvs : List (Key × V)} (Pv : Nat → L2.St → Hp → Prop) (h0 : Pv 0 σ H) (hl : ∀ i σ H, i ≤ kvs.length → Pv i σ H → H d = some (.frz o (.dK kvs)))
    (hs : ∀ i k v σ H, kvs[i]? = some (k, v) → Pv i σ H → g (kV k) σ H fun σ2 H2 => tb { nx := Pv (i + 1), rt := D.rt, bk := D.nx, ct := Pv (i + 1) } σ2 H2) (hd : ∀ σ H, Pv kvs.length σ H → D.nx σ H) :
    ∃ W : Nat → Nat → L2.St → Hp → Prop, (∃ m, W 0 m σ H) ∧ ∀ i m σ H, W i m σ H → ((Itk d o kvs).stop i H ∧ D.nx σ H) ∨ ((Itk d o kvs).go i H ∧ ∃ N : L2.St → Hp → Prop, (∀ σ' H', N σ' H' → ∃ m', m' < m ∧ W (i + 1) m' σ' H') ∧
      ∀ x H', (Itk d o kvs).yld i H x H' → g x σ H' fun σ2 H2 => tb { nx := N, rt := D.rt, bk := D.nx, ct := N } σ2 H2) := by
  refine ⟨fun i m σ H => m + i = kvs.length ∧ Pv i σ H, ⟨kvs.length, rfl, h0⟩, fun i m σ H ⟨em, p⟩ => ?_⟩
  have q := hl i σ H (by omega) p
  by_cases c : i < kvs.length
  · refine .inr ⟨⟨q, c⟩, Pv (i + 1), fun σ' H' p' => ⟨m - 1, by omega, by omega, p'⟩, fun x H' y => ?_⟩
    obtain ⟨rfl, k, v, e, rfl⟩ := y
    exact hs i k v σ _ e p
  · obtain rfl : i = kvs.length := by omega
    exact .inl ⟨⟨q, Nat.le_refl _⟩, hd σ H p⟩
end
end Cr

/-! CrX6: f(k = v, ..) by keywords alone; a callee that may raise, but does not here. -/
namespace Cr
open PySem PySem.Spec PyProof.Rows L2
theorem passN {P : Program} {w : World} {X : Cx} : Passes (L2.CX P w) X E0 := fun _ _ _ _ _ _ _ h => by
  obtain ⟨_, _, _, _, _, _, _, _, _, _, _, _, h⟩ := h
  exact h.elim
section
variable {X : Cx} {CX : CXT} {k : Nat} {f : Addr} {fd : FuncData} {ps ks : List Str} {sp : Sp} {E : XK} {x : Str} {p pos : Pos} {tk : TA} {kws : List Keyword} {g : List Value → List Value → List Value} {gV : List V → List V → List V}
def tCallK0 (m : Nat) (sp : Sp) (gV : List V → List V → List V) (E : XK) (tk : TA) : TE := fun σ H Q => tk σ H fun zs H2 => zs.length = m ∧ sp (gV [] zs) H2 Q E
theorem pe_callK0 (F : FnOk X.prog X.w X.K X.mg X.base CX k f fd ps sp) (hr : Room k X.A) (hg : Gl X x) (hm : X.mg x = some (.ref f)) (hk : PySem.W.keepIn X.K (.ref f) = true) (hb : KBn X.K fd ps 0 ks g gV) (hx : Passes CX X E)
    (hkw : PK X kws tk) (hall : (backToKw pos (keywordEach kws X.env)).all (·.1.isSome) = true := by rfl) (hks : (backToKw pos (keywordEach kws X.env)).filterMap (·.1) = ks := by rfl)
    (hdb : (x == ("__debug__" : Str)) = false := by decide)
    (hpl : ((backTo pos (starEach [] X.env)).any (·.1) || (backToKw pos (keywordEach kws X.env)).any (·.1.isNone)) = false := by rfl) :
    PE X (.Call (.Name x p) [] kws pos) (tCallK0 ks.length sp gV E tk) := by
  refine ⟨fun pins s σ H Q I h => ?_⟩
  refine wpAny_Call_Name_kw (ld_glob I hg hm ?_ hdb)
  refine PySem.W.callWith_KW0 (h₀ := X.base) I.ok.mod.kin hk hall ?_ hpl
  refine thn (hkw.run pos pins s σ H _ I h) fun ws s2 ⟨zs, H2, I2, rz, l2, q2⟩ => ⟨I2.kIn, ?_⟩
  rw [hks]
  exact run_fnN (us := []) (vs := []) F hr hb hx I2 .nil rz rfl l2 q2
end
end Cr

/-! Cr7: a comprehension over a text's signs. -/
namespace Cr
open PySem L2
theorem lcs {z : Str} {Hs : Hp} {Fin : Hp → Prop} {Body : V → Hp → (Hp → Prop) → Prop} (Pv : Nat → Hp → Prop) (h0 : Pv 0 Hs) (hs : ∀ i c H, z.cps.toList[i]? = some c → Pv i H → Body (.str ⟨#[c]⟩) H (Pv (i + 1)))
    (hd : ∀ H, Pv z.cps.toList.length H → Fin H) :
    ∃ W : Nat → Nat → Hp → Prop, (∃ m, W 0 m Hs) ∧ ∀ i m H, W i m H → ((Its z).stop i H ∧ Fin H) ∨ ((Its z).go i H ∧ ∃ Nx : Hp → Prop, (∀ H', Nx H' → ∃ m', m' < m ∧ W (i + 1) m' H') ∧ ∀ x H', (Its z).yld i H x H' → Body x H' Nx) := by
  have hz : z.cps.size = z.cps.toList.length := by simp
  refine ⟨fun i m H => m + i = z.cps.toList.length ∧ Pv i H, ⟨z.cps.toList.length, rfl, h0⟩, fun i m H ⟨em, p⟩ => ?_⟩
  by_cases c : i < z.cps.toList.length
  · refine .inr ⟨show i < z.cps.size by omega, Pv (i + 1), fun H' p' => ⟨m - 1, by omega, by omega, p'⟩, fun x H' y => ?_⟩
    obtain ⟨rfl, d, ed, rfl⟩ := y
    exact hs i d _ (by rw [Array.getElem?_toList]; exact ed) p
  · obtain rfl : i = z.cps.toList.length := by omega
    exact .inl ⟨show z.cps.size ≤ z.cps.toList.length by omega, hd H p⟩
end Cr

/-! CrS: a, *b = xs. -/
namespace Cr
open PySem PySem.Spec PySem.W PyProof.Rows L2
section
variable {X : Cx} {pos : Pos} {pins : List (Addr × Obj)} {σ : L2.St} {H : Hp} {s : Shared}
theorem pgs_star {e : Expr} {p : Pos} {es : List Expr} {t : TG} {u : TGs} (h1 : PG X e t) (h2 : PGs X es u)
    (hs : (assignEach (.Starred e p :: es) X.env).map (·.2) = assign e X.env :: (assignEach es X.env).map (·.2) := by rfl) : PGs X (.Starred e p :: es) (gCons t u) := by
  refine ⟨fun pins s σ H vs us Q I r h => ?_⟩
  obtain ⟨v, vr, e1, h⟩ := h
  subst e1
  cases r with
  | cons r rr =>
    rw [hs]
    refine assignInOrder_cons (thn (h1.run pins s σ H _ _ _ I r h) fun _ s1 ⟨σ1, H1, I1, q1⟩ => ?_)
    exact h2.run pins s1 σ1 H1 _ _ Q I1 rr q1
theorem vals_take {xs : List V} {its : List Value} (r : Vals xs its) : ∀ i : Nat, Vals (xs.take i) (its.take i) := by
  induction r with
  | nil => intro i; simp only [List.take_nil]; exact .nil
  | cons h t ih =>
    intro i
    cases i with
    | zero => exact .nil
    | succ i => simp only [List.take_succ_cons]; exact .cons h (ih i)
theorem vals_drop {xs : List V} {its : List Value} (r : Vals xs its) : ∀ i : Nat, Vals (xs.drop i) (its.drop i) := by
  induction r with
  | nil => intro i; simp only [List.drop_nil]; exact .nil
  | cons h t ih =>
    intro i
    cases i with
    | zero => exact .cons h t
    | succ i => simp only [List.drop_succ_cons]; exact ih i
/-- the parts of a starred target -/
def gStar (K : PySem.W.Frag) (n i : Nat) (t : TGs) : TG := fun v σ H Q => ∃ a xs, v = .ref a ∧ SqT K H a xs ∧ n ≤ xs.length + 1 ∧ xs.length ≤ 16384 ∧
  ∀ p, H p = none → t (xs.take i ++ [.ref p] ++ (xs.drop i).drop (xs.length + 1 - n)) σ (upd H p (.lst ((xs.drop i).take (xs.length + 1 - n)))) Q
def gStarL (K : PySem.W.Frag) (n i : Nat) (t : TGs) : TG := fun v σ H Q => ∃ a xs, v = .ref a ∧ SqL K H a xs ∧ n ≤ xs.length + 1 ∧ xs.length ≤ 16384 ∧
  ∀ p, H p = none → t (xs.take i ++ [.ref p] ++ (xs.drop i).drop (xs.length + 1 - n)) σ (upd H p (.lst ((xs.drop i).take (xs.length + 1 - n)))) Q
theorem star_end {E : Value → Shared → Prop} {A : Around} {its : List Value} {xs : List V} {n i : Nat} {h₂ : Heap} {tk : Tok} {Q : List Value → Shared → Prop} (I : Inv X pins σ H s) (rv : Vals xs its) (hz : xs.length ≤ 16384) (he : ∀ b o, s.heap.get? b = some o → h₂.get? b = some o)
    (h : ∀ p s', H p = none → Inv X pins σ (upd H p (.lst ((xs.drop i).take (xs.length + 1 - n)))) s' → Q (its.take i ++ [.ref p] ++ (its.drop i).drop (xs.length + 1 - n)) s') :
    wpAny (model X.prog X.w) A (newList ((its.drop i).take (its.length + 1 - n)) >>= fun d => pure (its.take i ++ [d] ++ (its.drop i).drop (its.length + 1 - n))) Q E { s with heap := h₂, toks := tk } := by
  have el : its.length = xs.length := rv.length.symm
  rw [el]
  have J : Inv X pins σ H { s with heap := h₂, toks := tk } := I.kept (t' := tk) he
  have hlen : ((its.drop i).take (xs.length + 1 - n)).length ≤ sizeLine := by
    rw [List.length_take, List.length_drop, sizeLine_eq]; omega
  refine wpAny_bind (wpAny_newList ?_ hlen)
  refine wpAny_pure (h h₂.objs.size _ (J.hok.fresh (Nat.le_refl _)) ?_)
  refine J.laid (t' := tk) (fun b u e => Heap.get?_push_of_some _ e) (Nat.le_refl _) ?_
  refine (show ObjOk X.prog X.w _ _ _ (.lst ((xs.drop i).take (xs.length + 1 - n))) from ⟨?_, (its.drop i).take (xs.length + 1 - n), 0, vals_take (vals_drop rv i) _, ?_⟩)
  · rw [List.length_take, List.length_drop, sizeLine_eq]; omega
  · exact Heap.get?_push_size _ rfl
theorem pg_star {es : List Expr} {k n i : Nat} {t : TGs} (hc : X.calm = true) (h : PGs X es t) (hn : (assignEach es X.env).length = n := by rfl) (hst : (assignEach es X.env).findIdx? (·.1) = some i := by rfl) (hi : i < n := by decide) :
    PG X (.Tuple es k pos) (gStar X.K n i t) := by
  refine ⟨fun pins s σ H v u Q I r hw => ?_⟩
  obtain ⟨a, xs, e1, hq, hl, hz, hw⟩ := hw
  subst e1
  cases r
  obtain ⟨its, rv, ht, _⟩ := I.tuple hq
  have hh := I.ok.hd hc
  have el : its.length = xs.length := rv.length.symm
  have hlt : a ≠ s.heap.objs.size := by obtain ⟨o, ho, _⟩ := ht; exact Nat.ne_of_lt (Heap.lt_size ho)
  rw [assign_Tuple]
  refine wpAny_bind (wpAny_standAt ?_)
  unfold unpack
  rw [hn, hst]
  refine wpAny_bind (wpAny_holding ?_)
  unfold unpackItems
  refine wpAny_bind ?_
  unfold notIterableAtAll
  refine wpAny_bind (wpAny_specialOf ht.typeIs slot_tuple_iter.lookup ?_)
  refine wpAny_pure ?_
  simp only [Bool.false_eq_true, if_false]
  refine wpAny_bind (wpAny_holding (iter_tuple ht ?_))
  refine wpAny_bind (wpAny_holding (draw_tuple hlt i 0 _ _ ⟨_, Heap.get?_push_size _ rfl, rfl, rfl⟩ (ht.push _) (by rw [List.size_toArray]; omega) fun h₁ hit₁ hs₁ => ?_))
  have ht₁ : IsTup h₁ a its.toArray := (ht.push _).extBut hs₁.extBut hlt
  rw [Nat.zero_add] at hit₁
  have hit₁' := hit₁
  obtain ⟨oi, hoi, _⟩ := hit₁'
  have ht₁' := ht₁
  obtain ⟨ol, hol, _⟩ := ht₁'
  rw [List.drop_zero]
  show wpAny _ _ (if (its.take i).length < i then _ else _) _ _ _
  rw [if_neg (by rw [List.length_take]; omega)]
  refine wpAny_bind (wpAny_holding (kun_collect (s := { s with heap := h₁ }) (T := "tuple_iterator") (.inr (.inr (.inr rfl))) (Walks.tuple (A := X.A.in1) hh s.heap.objs.size a hlt its.toArray) (fun j u st => st.1.typeIs) (k := i) (by rw [List.size_toArray]; omega) ⟨hit₁, ht₁⟩ (Heap.lt_size hoi) (Heap.lt_size hol) (fun h₂ tk hk => ?_) (by rw [List.size_toArray, sizeLine_eq]; omega)))
  have hrl : (its.drop i).length = its.length - i := by rw [List.length_drop]
  have hmid : (its.drop i).length - (n - 1 - i) = its.length + 1 - n := by rw [hrl]; omega
  show wpAny _ _ (if (its.drop i).length < n - 1 - i then _ else _) _ _ _
  rw [if_neg (by rw [hrl]; omega)]
  show wpAny _ _ (newList ((its.drop i).take ((its.drop i).length - (n - 1 - i))) >>= fun d => pure (its.take i ++ [d] ++ (its.drop i).drop ((its.drop i).length - (n - 1 - i)))) _ _ _
  rw [hmid]
  refine star_end (s := s) (n := n) (i := i) I rv hz (fun b o e => ?_) fun p s' np J => ?_
  · have hb : b ≠ s.heap.objs.size := Nat.ne_of_lt (Heap.lt_size e)
    exact hk b o hb (hs₁.extBut b o hb (Heap.get?_push_of_some _ e))
  · have r1 : Vals [V.ref p] [Value.ref p] := .cons rfl .nil
    exact h.run pins s' σ _ _ _ Q J (((vals_take rv i).append r1).append (vals_drop (vals_drop rv i) _)) (hw p np)
theorem pg_starL {es : List Expr} {k n i : Nat} {t : TGs} (hc : X.calm = true) (h : PGs X es t) (hn : (assignEach es X.env).length = n := by rfl) (hst : (assignEach es X.env).findIdx? (·.1) = some i := by rfl) (hi : i < n := by decide) :
    PG X (.Tuple es k pos) (gStarL X.K n i t) := by
  refine ⟨fun pins s σ H v u Q I r hw => ?_⟩
  obtain ⟨a, xs, e1, hq, hl, hz, hw⟩ := hw
  subst e1
  cases r
  obtain ⟨its, rv, hp, _⟩ := I.list hq
  have ht : s.heap.IsList a its.toArray := by obtain ⟨o, n', e1, e2, _, e4⟩ := hp; exact ⟨o, e1, e2, n', e4⟩
  have hh := I.ok.hd hc
  have el : its.length = xs.length := rv.length.symm
  have hlt : a ≠ s.heap.objs.size := by obtain ⟨o, ho, _⟩ := ht; exact Nat.ne_of_lt (Heap.lt_size ho)
  rw [assign_Tuple]
  refine wpAny_bind (wpAny_standAt ?_)
  unfold unpack
  rw [hn, hst]
  refine wpAny_bind (wpAny_holding ?_)
  unfold unpackItems
  refine wpAny_bind ?_
  unfold notIterableAtAll
  refine wpAny_bind (wpAny_specialOf ht.typeIs slot_list_iter.lookup ?_)
  refine wpAny_pure ?_
  simp only [Bool.false_eq_true, if_false]
  refine wpAny_bind (wpAny_holding (wpAny_pyIter_list ht ?_))
  refine wpAny_bind (wpAny_holding (kun_draw hlt i 0 _ _ ⟨_, Heap.get?_push_size _ rfl, rfl, rfl⟩ (ht.push _) (by rw [List.size_toArray]; omega) fun h₁ hit₁ hs₁ => ?_))
  have ht₁ : h₁.IsList a its.toArray := (ht.push _).extBut hs₁.extBut hlt
  rw [Nat.zero_add] at hit₁
  have hit₁' := hit₁
  obtain ⟨oi, hoi, _⟩ := hit₁'
  have ht₁' := ht₁
  obtain ⟨ol, hol, _⟩ := ht₁'
  rw [List.drop_zero]
  show wpAny _ _ (if (its.take i).length < i then _ else _) _ _ _
  rw [if_neg (by rw [List.length_take]; omega)]
  refine wpAny_bind (wpAny_holding (kun_collect (s := { s with heap := h₁ }) (T := "list_iterator") (.inr (.inr (.inl rfl))) (Walks.list (A := X.A.in1) hh s.heap.objs.size a hlt its.toArray) (fun j u st => st.1.typeIs) (k := i) (by rw [List.size_toArray]; omega) ⟨hit₁, ht₁⟩ (Heap.lt_size hoi) (Heap.lt_size hol) (fun h₂ tk hk => ?_) (by rw [List.size_toArray, sizeLine_eq]; omega)))
  have hrl : (its.drop i).length = its.length - i := by rw [List.length_drop]
  have hmid : (its.drop i).length - (n - 1 - i) = its.length + 1 - n := by rw [hrl]; omega
  show wpAny _ _ (if (its.drop i).length < n - 1 - i then _ else _) _ _ _
  rw [if_neg (by rw [hrl]; omega)]
  show wpAny _ _ (newList ((its.drop i).take ((its.drop i).length - (n - 1 - i))) >>= fun d => pure (its.take i ++ [d] ++ (its.drop i).drop ((its.drop i).length - (n - 1 - i)))) _ _ _
  rw [hmid]
  refine star_end (s := s) (n := n) (i := i) I rv hz (fun b o e => ?_) fun p s' np J => ?_
  · have hb : b ≠ s.heap.objs.size := Nat.ne_of_lt (Heap.lt_size e)
    exact hk b o hb (hs₁.extBut b o hb (Heap.get?_push_of_some _ e))
  · have r1 : Vals [V.ref p] [Value.ref p] := .cons rfl .nil
    exact h.run pins s' σ _ _ _ Q J (((vals_take rv i).append r1).append (vals_drop (vals_drop rv i) _)) (hw p np)
/-! ### a list against the empty one -/
theorem isList_of (I : Inv X pins σ H s) {a : Addr} {xs : List V} (h : SqL X.K H a xs) : ∃ its : List Value, Vals xs its ∧ s.heap.IsList a its.toArray := by
  obtain ⟨its, rv, hp, _⟩ := I.list h
  obtain ⟨o, n', e1, e2, _, e4⟩ := hp
  exact ⟨its, rv, o, e1, e2, n', e4⟩
theorem op_neE (hu : X.A.units + 64 < cLine) : OpR X (compareOp .NotEq) (fun x y H Q => ∃ (a b : Addr) (xs : List V), x = .ref a ∧ y = .ref b ∧ SqL X.K H a xs ∧ SqL X.K H b [] ∧ Q (.bl (!xs.isEmpty)) H) := by
  intro pins s σ H x y v u Q I rx ry h
  obtain ⟨a, b, xs, rfl, rfl, ha, hb, q⟩ := h
  cases xs with
  | nil => exact op_neD hu pins s σ H _ _ v u Q I rx ry ⟨.list [], .list [], .lst ha .nil, .lst hb .nil, by rfl, by rfl, q⟩
  | cons y ys =>
    cases rx
    cases ry
    obtain ⟨ia, ra, la⟩ := isList_of I ha
    obtain ⟨ib, rb, lb⟩ := isList_of I hb
    have e1 := ra.length
    have e2 := rb.length
    show wpAny _ _ (richCompare .NotEq (.ref a) (.ref b)) _ _ _
    refine PySem.SeqAt.RcNeAt.lists_lengths la lb ?_ (by omega) _ _ _ _ ⟨.bl true, H, I, rfl, q⟩
    rw [List.size_toArray, List.size_toArray, ← e1, ← e2]
    simp
theorem op_eqE (hu : X.A.units + 64 < cLine) : OpR X (compareOp .Eq) (fun x y H Q => ∃ (a b : Addr) (xs : List V), x = .ref a ∧ y = .ref b ∧ SqL X.K H a xs ∧ SqL X.K H b [] ∧ Q (.bl xs.isEmpty) H) := by
  intro pins s σ H x y v u Q I rx ry h
  obtain ⟨a, b, xs, rfl, rfl, ha, hb, q⟩ := h
  cases xs with
  | nil => exact op_eqD hu pins s σ H _ _ v u Q I rx ry ⟨.list [], .list [], .lst ha .nil, .lst hb .nil, by rfl, by rfl, q⟩
  | cons y ys =>
    cases rx
    cases ry
    obtain ⟨ia, ra, la⟩ := isList_of I ha
    obtain ⟨ib, rb, lb⟩ := isList_of I hb
    have e1 := ra.length
    have e2 := rb.length
    show wpAny _ _ (richCompare .Eq (.ref a) (.ref b)) _ _ _
    refine PySem.SeqAt.RcAt.lists_lengths la lb ?_ (by omega) _ _ _ _ ⟨.bl false, H, I, rfl, q⟩
    rw [List.size_toArray, List.size_toArray, ← e1, ← e2]
    simp
end
end Cr

/-! CrU: tuples put together and cut, wherever the outcome stands. -/
namespace Cr
open PySem L2
def rCatU : R2 := fun x y H Q => ∃ (a b : Addr) (xs ys : List V), x = .ref a ∧ y = .ref b ∧ H a = some (.tup xs) ∧ H b = some (.tup ys) ∧ xs.length + ys.length ≤ sizeLine ∧ ∀ (p : Addr) (H' : Hp), Same H H' → H' p = some (.tup (xs ++ ys)) → Q (.ref p) H'
theorem op_catU {X : Cx} : OpR X (binaryOp .Add) rCatU := by
  intro pins s σ H x y v u Q I rx ry h
  obtain ⟨a, b, xs, ys, rfl, rfl, ha, hb, hl, q⟩ := h
  refine op_catA pins s σ H _ _ v u Q I rx ry ⟨a, b, xs, ys, rfl, rfl, ofT ha, ofT hb, hl, fun e => ?_, fun _ e => ?_, fun _ _ p np => ?_⟩
  · subst e
    exact q b H (Same.refl H) hb
  · subst e
    exact q a H (Same.refl H) (by rw [List.append_nil]; exact ha)
  · exact q p _ (same_up np) upd_same
def rSlU : V → Option Int → Option Int → Hp → VK → Prop := fun x lo hi H Q => ∃ (a : Addr) (xs : List V), x = .ref a ∧ H a = some (.tup xs) ∧ ∀ (p : Addr) (H' : Hp), Same H H' → H' p = some (.tup (cutV xs lo hi)) → Q (.ref p) H'
theorem cutV_all {xs : List V} {lo hi : Option Int} (h : HT.sIx xs.length 0 lo = 0 ∧ HT.sIx xs.length xs.length hi = xs.length) : cutV xs lo hi = xs := by
  unfold cutV
  rw [h.1, h.2, List.drop_zero, Nat.sub_zero, List.take_length]
theorem sl_tupU {X : Cx} : SlR X rSlU := by
  intro pins s σ H x v vl vu lo hi sl Q I rx hs pl pu h
  obtain ⟨a, xs, rfl, ha, q⟩ := h
  exact sl_tupA pins s σ H _ v vl vu lo hi sl Q I rx hs pl pu ⟨a, xs, rfl, ofT ha, fun e => q a H (Same.refl H) (by rw [cutV_all e]; exact ha), fun _ p np => q p _ (same_up np) upd_same⟩
theorem call_tuple_ofK {X : Cx} (K : PySem.W.Frag) (hK : X.K = K) : CallR X (.type "tuple") (fun xs H Q => ∃ p ys, xs = [.ref p] ∧ ((SqL K H p ys ∧ ∀ l, H l = none → Q (.ref l) (upd H l (.tup ys))) ∨ (SqT K H p ys ∧ Q (.ref p) H))) := by
  subst hK
  exact call_tuple_of
theorem sl_listK {X : Cx} (K : PySem.W.Frag) (hK : X.K = K) : SlR X (rSlL K) := by
  subst hK
  exact sl_list
theorem call_len_seqK {X : Cx} (K : PySem.W.Frag) (hK : X.K = K) : CallR X (.builtin "len") (fun xs H Q => ∃ p ys, xs = [.ref p] ∧ (SqL K H p ys ∨ SqT K H p ys) ∧ Q (.int ys.length) H) := by
  subst hK
  exact call_len_seq
end Cr

/-! CrW: texts as lists of signs: split at a sign, rstrip, whole numbers as they are written. -/
namespace Cr
open PySem PySem.Builtin PySem.Builtin.Str L2 TL NumText
/-! ### split at one sign -/
def sp1 (c : Nat) : List Nat → List (List Nat)
  | [] => [[]]
  | d :: r => if d = c then [] :: sp1 c r else match sp1 c r with
    | [] => [[d]]
    | p :: q => (d :: p) :: q
theorem sp1_ne (c : Nat) : ∀ l : List Nat, sp1 c l ≠ []
  | [] => by simp [sp1]
  | d :: r => by
    unfold sp1
    split
    · simp
    · split <;> simp
theorem sp1_hit {c : Nat} (r : List Nat) : sp1 c (c :: r) = [] :: sp1 c r := by rw [sp1, if_pos rfl]
theorem sp1_miss {c d : Nat} (r : List Nat) (h : d ≠ c) : ∃ p q, sp1 c r = p :: q ∧ sp1 c (d :: r) = (d :: p) :: q := by
  cases e : sp1 c r with
  | nil => exact absurd e (sp1_ne c r)
  | cons p q => exact ⟨p, q, rfl, by rw [sp1, if_neg h, e]⟩
theorem pre1 (c d : Nat) (r : List Nat) : pre [c] (d :: r) = decide (d = c) := by
  unfold pre
  by_cases h : d = c
  · simp [h]
  · simp [h]
theorem spl_sp1 (c : Nat) : ∀ (l acc : List Nat), ∃ p q, sp1 c l = p :: q ∧ spl [c] 0 acc l = (acc ++ p) :: q
  | [], acc => ⟨[], [], rfl, by rw [spl_nil, List.append_nil]⟩
  | d :: r, acc => by
    by_cases h : d = c
    · subst h
      obtain ⟨p, q, e1, e2⟩ := spl_sp1 d r []
      refine ⟨[], sp1 d r, sp1_hit r, ?_⟩
      rw [spl_hit (by rw [pre1]; simp)]
      show acc :: spl [d] 0 [] r = _
      rw [e2, e1, List.append_nil, List.nil_append]
    · obtain ⟨p, q, e1, e2⟩ := spl_sp1 c r (acc ++ [d])
      obtain ⟨p', q', e3, e4⟩ := sp1_miss r h
      rw [e1] at e3
      cases e3
      refine ⟨d :: p, q, e4, ?_⟩
      rw [spl_miss (by rw [pre1]; simp [h]), e2, List.append_assoc]
      rfl
theorem split_sp1 {x y : Str} {c : Nat} (ey : tl y = [c]) (hk : y.cps.all (· < 256) = true) : (Txt.split x y).map tl = sp1 c (tl x) := by
  obtain ⟨p, q, e1, e2⟩ := spl_sp1 c (tl x) []
  rw [split_spl x y (by rw [ey]; simp) (kind_ok hk), ey, e1, e2, List.nil_append]
theorem sp1_len (c : Nat) : ∀ l : List Nat, (sp1 c l).length = l.count c + 1
  | [] => rfl
  | d :: r => by
    have ih := sp1_len c r
    by_cases h : d = c
    · subst h
      rw [sp1_hit, List.length_cons, ih, List.count_cons_self]
    · obtain ⟨p, q, e1, e2⟩ := sp1_miss r h
      rw [e1, List.length_cons] at ih
      rw [e2, List.length_cons, ih, List.count_cons_of_ne h]
/-- an infix -/
def Inf (m l : List Nat) : Prop := ∃ a b, l = a ++ m ++ b
theorem Inf.len {m l : List Nat} (h : Inf m l) : m.length ≤ l.length := by
  obtain ⟨a, b, rfl⟩ := h
  simp only [List.length_append]; omega
theorem sp1_mem (c : Nat) : ∀ (l w : List Nat), w ∈ sp1 c l → c ∉ w ∧ Inf w l
  | [], w, h => by
    rw [List.mem_singleton.mp (show w ∈ [[]] from h)]
    exact ⟨by simp, [], [], rfl⟩
  | d :: r, w, h => by
    by_cases e : d = c
    · subst e
      rw [sp1_hit] at h
      rcases List.mem_cons.mp h with rfl | h
      · exact ⟨by simp, [], d :: r, rfl⟩
      · obtain ⟨h1, a, b, h2⟩ := sp1_mem d r w h
        exact ⟨h1, d :: a, b, by rw [h2]; rfl⟩
    · obtain ⟨p, q, e1, e2⟩ := sp1_miss r e
      rw [e2] at h
      rcases List.mem_cons.mp h with rfl | h
      · obtain ⟨h1, a, b, h2⟩ := sp1_mem c r p (by rw [e1]; exact List.mem_cons_self)
        have hp : ∃ b', r = p ++ b' := sp1_pre c r p q e1
        obtain ⟨b', hb⟩ := hp
        refine ⟨fun hm => ?_, [], b', by rw [hb]; rfl⟩
        rcases List.mem_cons.mp hm with hm | hm
        · exact e hm.symm
        · exact h1 hm
      · obtain ⟨h1, a, b, h2⟩ := sp1_mem c r w (by rw [e1]; exact List.mem_cons_of_mem _ h)
        exact ⟨h1, d :: a, b, by rw [h2]; rfl⟩
where sp1_pre (c : Nat) : ∀ (l p : List Nat) (q : List (List Nat)), sp1 c l = p :: q → ∃ b, l = p ++ b
  | [], p, q, h => by cases h; exact ⟨[], rfl⟩
  | d :: r, p, q, h => by
    by_cases e : d = c
    · subst e
      rw [sp1_hit] at h
      cases h
      exact ⟨d :: r, rfl⟩
    · obtain ⟨p', q', e1, e2⟩ := sp1_miss r e
      rw [e2] at h
      cases h
      obtain ⟨b, hb⟩ := sp1_pre c r p' q e1
      exact ⟨b, by rw [hb]; rfl⟩
theorem sp1_join {c : Nat} {ps : List (List Nat)} (hne : ps ≠ []) (hp : ∀ p ∈ ps, c ∉ p) : sp1 c (joinL [c] ps) = ps := by
  obtain ⟨p, q, e1, e2⟩ := spl_sp1 c (joinL [c] ps) []
  rw [spl_join hne hp, List.nil_append] at e2
  rw [e1, e2]
/-! ### rstrip of letters -/
def isL (c : Nat) : Bool := decide (97 ≤ c) && decide (c ≤ 122)
def figs (w : List Nat) : List Nat := (w.reverse.dropWhile isL).reverse
def rest (w : List Nat) : List Nat := (w.reverse.takeWhile isL).reverse
theorem figs_rest (w : List Nat) : figs w ++ rest w = w := by
  unfold figs rest
  rw [← List.reverse_append, List.takeWhile_append_dropWhile, List.reverse_reverse]
theorem rest_L {w : List Nat} {c : Nat} (h : c ∈ rest w) : isL c = true := by
  unfold rest at h
  have h := List.mem_reverse.mp h
  generalize w.reverse = l at h
  induction l with
  | nil => cases h
  | cons d r ih =>
    rw [List.takeWhile_cons] at h
    split at h
    · next hd =>
      rcases List.mem_cons.mp h with rfl | h
      · exact hd
      · exact ih h
    · cases h
theorem figs_app {d l : List Nat} (hl : ∀ c ∈ l, isL c = true) (hd : ∀ c, d.getLast? = some c → isL c = false) : figs (d ++ l) = d ∧ rest (d ++ l) = l := by
  have key : ∀ (x y : List Nat), (∀ c ∈ x, isL c = true) → (∀ c, y.head? = some c → isL c = false) → (x ++ y).dropWhile isL = y ∧ (x ++ y).takeWhile isL = x := by
    intro x y hx hy
    induction x with
    | nil =>
      cases y with
      | nil => exact ⟨rfl, rfl⟩
      | cons c r =>
        have := hy c rfl
        simp [List.dropWhile_cons, List.takeWhile_cons, this]
    | cons c r ih =>
      obtain ⟨a, b⟩ := ih fun d hd => hx d (List.mem_cons_of_mem _ hd)
      have hc := hx c List.mem_cons_self
      simp [List.dropWhile_cons, List.takeWhile_cons, hc, a, b]
  obtain ⟨a, b⟩ := key l.reverse d.reverse (fun c hc => hl c (List.mem_reverse.mp hc)) (fun c hc => hd c (by rw [← hc, List.head?_reverse]))
  unfold figs rest
  rw [List.reverse_append, a, b, List.reverse_reverse, List.reverse_reverse]
  exact ⟨rfl, rfl⟩
def LET : Str := "abcdefghijklmnopqrstuvwxyz"
theorem let_tl : tl LET = [97, 98, 99, 100, 101, 102, 103, 104, 105, 106, 107, 108, 109, 110, 111, 112, 113, 114, 115, 116, 117, 118, 119, 120, 121, 122] := by decide +kernel
theorem let_has (c : Nat) : LET.cps.contains c = isL c := by
  have e : LET.cps.contains c = (tl LET).contains c := by simp [tl]
  rw [e, let_tl]
  unfold isL
  by_cases h : 97 ≤ c ∧ c ≤ 122
  · obtain ⟨a, b⟩ := h
    have : c ∈ [97, 98, 99, 100, 101, 102, 103, 104, 105, 106, 107, 108, 109, 110, 111, 112, 113, 114, 115, 116, 117, 118, 119, 120, 121, 122] := by
      simp only [List.mem_cons, List.not_mem_nil, or_false]; omega
    rw [List.contains_iff_mem.mpr this]
    simp [a, b]
  · have : ¬ c ∈ [97, 98, 99, 100, 101, 102, 103, 104, 105, 106, 107, 108, 109, 110, 111, 112, 113, 114, 115, 116, 117, 118, 119, 120, 121, 122] := by
      simp only [List.mem_cons, List.not_mem_nil, or_false]; omega
    have e2 : (decide (97 ≤ c) && decide (c ≤ 122)) = false := by
      rw [Bool.and_eq_false_iff]
      by_cases a : 97 ≤ c
      · exact .inr (by simp; omega)
      · exact .inl (by simp; omega)
    rw [e2]
    cases q : List.contains [97, 98, 99, 100, 101, 102, 103, 104, 105, 106, 107, 108, 109, 110, 111, 112, 113, 114, 115, 116, 117, 118, 119, 120, 121, 122] c with
    | false => rfl
    | true => exact absurd (List.contains_iff_mem.mp q) this
theorem strip_tl (x : Str) : tl (Txt.rstripChars x LET) = figs (tl x) := by
  have hg : LET.cps.contains = isL := funext let_has
  have key : strSub x 0 (x.length - ((tl x).reverse.takeWhile isL).length) = ⟨(figs (tl x)).toArray⟩ := by
    apply ext_tl
    rw [tl_strSub, List.drop_zero, Nat.sub_zero, len_tl]
    show (tl x).take _ = figs (tl x)
    have e := figs_rest (tl x)
    have el : (rest (tl x)).length = ((tl x).reverse.takeWhile isL).length := by unfold rest; rw [List.length_reverse]
    have hl : (tl x).length - ((tl x).reverse.takeWhile isL).length = (figs (tl x)).length := by
      rw [← el]
      have := congrArg List.length e
      rw [List.length_append] at this
      omega
    rw [hl]
    have e2 := List.take_left (l₁ := figs (tl x)) (l₂ := rest (tl x))
    rw [e] at e2
    exact e2
  unfold Txt.rstripChars Txt.stripBy
  split
  · next h =>
    unfold PySem.stripSame PySem.stripLo PySem.stripHi at h
    simp only [if_true, Bool.false_eq_true, if_false, List.drop_zero] at h
    rw [hg] at h
    have h2 : x.length - ((tl x).reverse.takeWhile isL).length = x.length := by simpa using h
    rw [h2] at key
    rw [PyProof.Rows.strSub_whole] at key
    exact congrArg tl key
  · unfold PySem.stripped PySem.stripLo PySem.stripHi
    simp only [if_true, Bool.false_eq_true, if_false, List.drop_zero]
    rw [hg, key]
/-! ### slices -/
theorem cut_tail (z : Str) (k : Nat) : tl (cutS z (some (k : Int)) none) = (tl z).drop k := by
  unfold cutS
  rw [HT.sIx_nat, HT.sIx_none, len_tl]
  show ((tl z).drop (min k (tl z).length)).take ((tl z).length - min k (tl z).length) = _
  by_cases h : k ≤ (tl z).length
  · rw [Nat.min_eq_left h, List.take_of_length_le (by rw [List.length_drop]; omega)]
  · rw [Nat.min_eq_right (by omega), List.drop_length, List.drop_of_length_le (by omega)]; simp
theorem cut_head (z : Str) (k : Nat) : tl (cutS z none (some (k : Int))) = (tl z).take k := by
  unfold cutS
  rw [HT.sIx_nat, HT.sIx_none, len_tl]
  show ((tl z).drop 0).take (min k (tl z).length - 0) = _
  rw [List.drop_zero, Nat.sub_zero]
  by_cases h : k ≤ (tl z).length
  · rw [Nat.min_eq_left h]
  · rw [Nat.min_eq_right (by omega), List.take_length, List.take_of_length_le (by omega)]
theorem cut_mid (z : Str) (j k : Nat) (h : j ≤ k) : tl (cutS z (some (j : Int)) (some (k : Int))) = ((tl z).drop j).take (k - j) := by
  unfold cutS
  rw [HT.sIx_nat, HT.sIx_nat, len_tl]
  show ((tl z).drop (min j (tl z).length)).take (min k (tl z).length - min j (tl z).length) = _
  by_cases h1 : j ≤ (tl z).length
  · rw [Nat.min_eq_left h1]
    by_cases h2 : k ≤ (tl z).length
    · rw [Nat.min_eq_left h2]
    · rw [Nat.min_eq_right (by omega), List.take_of_length_le (by rw [List.length_drop]; omega), List.take_of_length_le (by rw [List.length_drop]; omega)]
  · rw [Nat.min_eq_right (show (tl z).length ≤ j by omega), List.drop_length, List.drop_of_length_le (show (tl z).length ≤ j by omega)]
    simp
theorem starts1 (x y : Str) (c : Nat) (e : tl y = [c]) : Txt.startswith x y = decide ((tl x).head? = some c) := by
  unfold Txt.startswith Builtin.Str.subAt
  have ly : y.length = 1 := by rw [len_tl, e]; rfl
  have ey : y.cps = #[c] := by
    apply Array.toList_inj.mp
    exact e
  rw [ly, ey]
  have hx : x.cps = (tl x).toArray := by simp
  rw [hx, len_tl]
  cases tl x with
  | nil => simp
  | cons d r =>
    simp
    by_cases h : d = c <;> simp [h]
/-! ### whole numbers as they are written -/
def digs (ds : List Nat) : Bool := ds.all fun c => decide (48 ≤ c) && decide (c ≤ 57)
theorem digs_all {ds : List Nat} (h : digs ds = true) : AllDigits ds := fun c hc => by
  have := List.all_eq_true.mp h c hc
  simpa using this
theorem all_digs {ds : List Nat} (h : AllDigits ds) : digs ds = true := List.all_eq_true.mpr fun c hc => by simpa using h c hc
/-- what stands behind the sign -/
def bare (cs : List Nat) : List Nat := if cs.head? = some 45 then cs.drop 1 else cs
def valL (cs : List Nat) : Int := if cs.head? = some 45 then -((digitsVal (cs.drop 1) : Nat) : Int) else ((digitsVal cs : Nat) : Int)
def whL (cs : List Nat) : Option Int :=
  if (bare cs).length = 0 ∨ 4000 < (bare cs).length ∨ digs (bare cs) = false then none
  else if (bare cs).head? = some 48 ∧ cs ≠ [48] then none else some (valL cs)
theorem int_valL {z : Str} (h0 : bare (tl z) ≠ []) (h1 : digs (bare (tl z)) = true) (h2 : z.length ≤ 4300) : intText? z = some (valL (tl z)) := by
  unfold bare at h0 h1
  unfold valL
  split at h0
  · next c =>
    rw [if_pos c] at h1 ⊢
    cases e : tl z with
    | nil => rw [e] at c; cases c
    | cons d r =>
      rw [e] at c h0 h1
      cases c
      exact intText_neg e (digs_all h1) h0 h2
  · next c =>
    rw [if_neg c] at h1 ⊢
    exact intText_digits (digs_all h1) h0 h2
def FIG : Str := "0123456789"
theorem fig_tl : tl FIG = [48, 49, 50, 51, 52, 53, 54, 55, 56, 57] := by decide +kernel
theorem fig_has (c : Nat) : decide (c ∈ tl FIG) = (decide (48 ≤ c) && decide (c ≤ 57)) := by
  rw [fig_tl]
  by_cases h : 48 ≤ c ∧ c ≤ 57
  · obtain ⟨a, b⟩ := h
    have : c ∈ [48, 49, 50, 51, 52, 53, 54, 55, 56, 57] := by simp only [List.mem_cons, List.not_mem_nil, or_false]; omega
    simp only [this, a, b, decide_true, Bool.and_self]
  · have : ¬ c ∈ [48, 49, 50, 51, 52, 53, 54, 55, 56, 57] := by simp only [List.mem_cons, List.not_mem_nil, or_false]; omega
    rw [decide_eq_false this]
    symm
    rw [Bool.and_eq_false_iff]
    by_cases a : 48 ≤ c
    · exact .inr (by simp; omega)
    · exact .inl (by simp; omega)
/-! ### a written number reads back -/
theorem numL_head {n : Nat} (h : (numL n).head? = some 48) : n = 0 := by
  induction n using Nat.strongRecOn with
  | _ n ih =>
    by_cases h10 : n < 10
    · rw [numL_lt h10] at h
      have : 48 + n = 48 := by simpa using h
      omega
    · rw [numL_step (by omega)] at h
      have hne := numL_ne (n / 10)
      have : (numL (n / 10)).head? = some 48 := by
        cases e : numL (n / 10) with
        | nil => exact absurd e hne
        | cons a b => rw [e] at h; exact h
      have := ih (n / 10) (by omega) this
      omega
theorem whL_num {n : Nat} (h : (numL n).length ≤ 4000) : whL (numL n) = some (n : Int) := by
  have hd := numL_digits n
  have hh : ¬ (numL n).head? = some 45 := fun e => by
    have := hd 45 (List.mem_of_head? e)
    omega
  have hb : bare (numL n) = numL n := if_neg hh
  unfold whL
  rw [hb, if_neg, if_neg]
  · unfold valL
    rw [if_neg hh, numL_val]
  · rintro ⟨h1, h2⟩
    have := numL_head h1
    subst this
    exact h2 (numL_lt (by decide))
  · have := numL_ne n
    rw [all_digs hd]
    rintro (h | h | h)
    · exact this (List.eq_nil_of_length_eq_zero h)
    · omega
    · cases h
end Cr

/-! CrL: len(o), bool(o), repr(o) by own methods. -/
namespace Cr
open PySem PySem.Spec PyProof.Rows L2
section
variable {prog : Program} {w : World} {A : Around} {K : PySem.W.Frag} {E : Value → Shared → Prop} {s : Shared} {a C f : Addr} {ox : Obj} {od : Option Obj}
/-- what len makes of a number -/
def LenBack (Q : Value → Shared → Prop) (v : Value) (s' : Shared) : Prop := ∃ (n : Nat) (t : Tok), v = .int n t ∧ n ≤ sizeLine ∧ ∀ t' tk, Q (.int n t') { s' with toks := tk }
theorem len_tree {Q : Value → Shared → Prop} (X : K.In s.heap) (J : PySem.W.InstAt s.heap a ox C od) (hs : PySem.W.findIn K (.ref C) "__len__" = some (some (.ref f))) (hf : PySem.W.isFn K (.ref f) = true)
    (h : wpAny (model prog w) A (call (.ref f) [.ref a]) (LenBack Q) E s) : wpAny (model prog w) A (Builtin.«len» ⟨[.ref a], []⟩) (fun fin s' => ∃ r, fin = .done (.ret r) ∧ Q r s') E s := by
  unfold Builtin.«len»
  refine wpAny_bind (m := oneArg "len" _) (wpAny_pure ?_)
  refine wpAny_bind (m := callSpecial? (.ref a) (Str.ofString "__len__")) (PySem.W.special_fn X J hs (beq_iff_eq.mp hf) (wpAny_mono h (fun v s' z => ?_) fun _ _ z => z))
  obtain ⟨n, t, rfl, hn, q⟩ := z
  rw [sizeLine_eq] at hn
  refine wpAny_bind (wpAny_holding (wpAny_pure ?_)); refine wpAny_bind (wpAny_letGo ?_)
  show wpAny _ _ (if ((n : Nat) : Int) < 0 then _ else _) _ _ _
  rw [if_neg (by omega)]
  show wpAny _ _ (if ((n : Nat) : Int) ≥ 2 ^ 63 then _ else _) _ _ _
  rw [if_neg (by omega)]
  exact wpAny_bind (wpAny_mkInt (wpAny_pure ⟨_, rfl, q _ _⟩))
theorem truthy_own {Q : Bool → Shared → Prop} (X : K.In s.heap) (J : PySem.W.InstAt s.heap a ox C od) (hs : PySem.W.findIn K (.ref C) "__len__" = some (some (.ref f))) (hn : PySem.W.findIn K (.ref C) "__bool__" = some none) (hf : PySem.W.isFn K (.ref f) = true)
    (h : wpAny (model prog w) A.in1 (call (.ref f) [.ref a]) (LenBack fun v s' => ∃ (n : Nat) (t : Tok), v = .int n t ∧ Q (decide (n ≠ 0)) s') E s) : wpAny (model prog w) A (truthy (.ref a)) Q E s := by
  have key : wpAny (model prog w) A (runValue (.builtin "len" ⟨[.ref a], []⟩)) (fun r s' => ∃ (n : Nat) (t : Tok), r = .int n t ∧ Q (decide (n ≠ 0)) s') E s := by
    refine wpAny_runValue (codeAny_builtin PySem.entry_len ?_)
    rw [Around.under_plainId PySem.plain_len _]
    exact wpAny_mono (len_tree X J hs hf h) (fun fin s' z => by obtain ⟨r, rfl, q⟩ := z; exact q) fun _ _ e => e
  have hsp : ∀ {Q' : Option Value → Shared → Prop}, Q' (some (.ref f)) s → wpAny (model prog w) A (specialOf (.ref a) "__len__") Q' E s := fun q => by
    unfold specialOf
    exact wpAny_bind (J.type.here ((PySem.W.looks_findIn X hs).here q))
  have fin : ∀ (r : Value) (s' : Shared), (∃ (n : Nat) (t : Tok), r = .int n t ∧ Q (decide (n ≠ 0)) s') → wpAny (model prog w) A (match r with | .int n _ => pure (n != 0) | _ => unsupported "internal:truth.len") Q E s' := fun r s' ⟨n, t, e, q⟩ => by
    subst e
    have : ((n : Int) != 0) = decide (n ≠ 0) := by cases n <;> simp <;> omega
    exact wpAny_pure (this ▸ q)
  unfold truthy
  refine wpAny_bind (DSub.special_no (name := Str.ofString "__bool__") X J hn ?_)
  refine wpAny_bind (hsp ?_)
  exact wpAny_bind (wpAny_mono key (fun r s' z => fin r s' z) fun _ _ e => e)
theorem bool_own {Q : Value → Shared → Prop} (X : K.In s.heap) (J : PySem.W.InstAt s.heap a ox C od) (hs : PySem.W.findIn K (.ref C) "__len__" = some (some (.ref f))) (hn : PySem.W.findIn K (.ref C) "__bool__" = some none) (hf : PySem.W.isFn K (.ref f) = true)
    (h : wpAny (model prog w) A.in1.in1.in1 (call (.ref f) [.ref a]) (LenBack fun v s' => ∃ (n : Nat) (t : Tok), v = .int n t ∧ Q (.bool (decide (n ≠ 0))) s') E s) : wpAny (model prog w) A (call (.type "bool") [.ref a]) Q E s := by
  refine callType_codes (T := "bool") (Bi := Builtin.«object.__init__») (Q₁ := fun r s₁ => ∃ b, r = .bool b ∧ Q r s₁) PySem.F.called_bool (PySem.F.typeCall_bool_1 _) PySem.F.entry_object_init ?_ ?_
  · refine codeAny_of_tree ?_
    show wpAny _ A.in1.in1 (do checkBuiltinCall "bool.__new__" ⟨[.type "bool", .ref a], []⟩; again (.builtin "bool.__new__" ⟨[.type "bool", .ref a], []⟩)) _ _ s
    refine wpAny_bind (wpAny_of_eq (PySem.F.newCall_bool_1 _) (wpAny_pure ⟨plainId_quiet (by decide +kernel) _, codeAny_builtin PySem.F.entry_bool_new ?_⟩)); rw [Around.under_plainId (by decide +kernel) _]
    unfold Builtin.«bool.__new__»
    refine wpAny_bind (wpAny_pure ?_)
    refine wpAny_bind (wpAny_of_eq PySem.F.conv_sub_bool ?_)
    refine wpAny_bind (wpAny_pure ?_)
    refine wpAny_bind (truthy_own X J hs hn hf (wpAny_mono h (fun v s' z => ?_) fun _ _ z => z))
    obtain ⟨n, t, rfl, hl, q⟩ := z
    refine ⟨n, t, rfl, hl, fun t' tk => ?_⟩
    obtain ⟨m, u, e, q⟩ := q t' tk
    exact ⟨m, u, e, wpAny_pure ⟨_, rfl, q⟩⟩
  · rintro obj s₁ ⟨b, rfl, hq⟩
    exact ⟨PySem.typeIs_bool _ _, PySem.F.args_object_init_2 _ _, object_init_meets PySem.F.called_bool.init.lookup PySem.F.called_bool.made (by decide) prog w A.in1 _ s₁ ⟨PySem.typeIs_bool _ _, rfl, hq⟩⟩
end
section
variable {X : Cx} {C f : Addr} {fd : FuncData} {ps : List Str} {sp : Sp} {k : Nat}
/-- len(o) by an own __len__ -/
theorem call_lenO (hs : PySem.W.findIn X.K (.ref C) "__len__" = some (some (.ref f))) (hf : PySem.W.isFn X.K (.ref f) = true) (F : FnOk X.prog X.w X.K X.mg X.base CX0 k f fd ps sp) (hb : Binds X.K fd ps []) (room : Room (k + 1) X.A) :
    CallR X (.builtin "len") (fun xs H Q => ∃ a dx fs, xs = [.ref a] ∧ H a = some (.ins C dx fs) ∧ sp [.ref a] H (fun v H' => ∃ n : Nat, v = .int n ∧ n ≤ sizeLine ∧ Q (.int n) H') E0) := by
  intro pins s σ H xs us Q I r h
  obtain ⟨a, dx, fs, rfl, ha, h⟩ := h
  obtain ⟨u, rfl, ru⟩ := vals1 r
  cases ru
  obtain ⟨od, J⟩ := inst_at I ha
  refine call_function_entry_kw PySem.kind_len PySem.plain_len PySem.entry_len (PySem.args_len1 _) ?_
  refine len_tree I.kIn J hs hf ?_
  refine wpAny_mono (run_at F (room.in1.mono (by omega)) rfl hb pass0 I (vs := [.ref a]) (us := [.ref a]) (.cons rfl .nil) h) (fun v s' z => ?_) fun _ _ z => z
  obtain ⟨w, H', I', rw', n, rfl, hn, q⟩ := z
  obtain ⟨t, rfl⟩ : ∃ t, v = .int n t := rw'
  exact ⟨n, t, rfl, hn, fun t' tk => ⟨.int n, H', I'.tok _, ⟨t', rfl⟩, q⟩⟩
/-- bool(o) by an own __len__ -/
theorem call_boolO (hs : PySem.W.findIn X.K (.ref C) "__len__" = some (some (.ref f))) (hn : PySem.W.findIn X.K (.ref C) "__bool__" = some none) (hf : PySem.W.isFn X.K (.ref f) = true) (F : FnOk X.prog X.w X.K X.mg X.base CX0 k f fd ps sp) (hb : Binds X.K fd ps []) (room : Room (k + 3) X.A) :
    CallR X (.type "bool") (fun xs H Q => ∃ a dx fs, xs = [.ref a] ∧ H a = some (.ins C dx fs) ∧ sp [.ref a] H (fun v H' => ∃ n : Nat, v = .int n ∧ n ≤ sizeLine ∧ Q (.bl (decide (n ≠ 0))) H') E0) := by
  intro pins s σ H xs us Q I r h
  obtain ⟨a, dx, fs, rfl, ha, h⟩ := h
  obtain ⟨u, rfl, ru⟩ := vals1 r
  cases ru
  obtain ⟨od, J⟩ := inst_at I ha
  refine bool_own I.kIn J hs hn hf ?_
  refine wpAny_mono (run_at F (room.in1.in1.in1.mono (by omega)) rfl hb pass0 I (vs := [.ref a]) (us := [.ref a]) (.cons rfl .nil) h) (fun v s' z => ?_) fun _ _ z => z
  obtain ⟨w, H', I', rw', n, rfl, hn, q⟩ := z
  obtain ⟨t, rfl⟩ : ∃ t, v = .int n t := rw'
  exact ⟨n, t, rfl, hn, fun t' tk => ⟨n, t', rfl, .bl _, H', I'.tok _, rfl, q⟩⟩
end
/-! ### defs that want that no repr runs around -/
section
variable {X : Cx} {CX : CXT} {k : Nat} {f C : Addr} {fd : FuncData} {ps : List Str} {sp : Sp}
theorem run_atG {A : Around} {E : XK} {pins : List (Addr × Obj)} {σ : L2.St} {H : Hp} {s : Shared} {Q : VK} {us : List Value} {vs : List V} (F : FnG X.prog X.w X.K X.mg X.base CX k f fd ps sp) (room : Room k A) (gd : A.guards = some []) (fr : A.frames = X.A.frames)
    (hb : Binds X.K fd ps []) (hx : Passes CX X E) (I : Inv X pins σ H s) (r : Vals vs us) (h : sp vs H Q E) : wpAny (model X.prog X.w) A (call (.ref f) us) (EP X pins σ Q) X.xe s := by
  have hl : us.length = ps.length := r.length.symm.trans (F.len _ _ _ _ h)
  have e := I.env0
  have b := hb s us I.kIn (by rw [List.append_nil]; exact hl)
  rw [List.append_nil] at b
  refine wpAny_call (codeAny_mono (F.run A X.stack s H ⟨us, []⟩ us vs Q E room gd ⟨fr.trans e.frames, e.mod, e.bs, e.bsz, e.funs, e.frf, e.hok, e.bare⟩ b r h) fun r s' q => ?_)
  match r, q with
  | .error e, q => exact hx pins σ H s e s' I q
  | .ok (.ret u), q => exact I.after q
def tCallG (sp : Sp) (t : TA) : TE := fun σ H Q => t σ H fun vs H1 => sp vs H1 Q E0
/-- f(e, ..), f a def that wants no repr around -/
theorem pe_callG {x : Str} {e : Expr} {es : List Expr} {t : TA} {p pos : Pos} (F : FnG X.prog X.w X.K X.mg X.base CX0 k f fd ps sp) (hr : Room k X.A) (gd : X.A.guards = some []) (hg : Gl X x) (hm : X.mg x = some (.ref f)) (hk : PySem.W.keepIn X.K (.ref f) = true) (hb : Binds X.K fd ps [])
    (ha : PA X (e :: es) t) (hdb : (x == ("__debug__" : Str)) = false := by decide) (he : starEach (e :: es) X.env = (false, eval e X.env) :: starEach es X.env := by rfl) (hpl : (backTo pos (starEach es X.env)).any (·.1) = false := by rfl) :
    PE X (.Call (.Name x p) (e :: es) [] pos) (tCallG sp t) := by
  refine ⟨fun pins s σ H Q I h => ?_⟩
  refine wpAny_Call_Name_kw (ld_glob I hg hm ?_ hdb); refine PySem.W.callWith_K (h₀ := X.base) I.ok.mod.kin hk (thn (ha.run pos pins s σ H _ I h) fun us s1 ⟨vs, H1, I1, r, q⟩ => ⟨I1.kIn, ?_⟩) he hpl
  exact run_atG F hr gd rfl hb pass0 I1 r q
/-- repr(o) by an own __repr__ -/
theorem call_reprO (hs : PySem.W.findIn X.K (.ref C) "__repr__" = some (some (.ref f))) (hf : PySem.W.isFn X.K (.ref f) = true) (F : FnG X.prog X.w X.K X.mg X.base CX0 k f fd ps sp) (hb : Binds X.K fd ps []) (room : Room (k + 1) X.A) (gd : X.A.guards = some []) :
    CallR X (.builtin "repr") (fun xs H Q => ∃ a dx fs, xs = [.ref a] ∧ H a = some (.ins C dx fs) ∧ sp [.ref a] H (fun v H' => ∃ z, v = .str z ∧ Q (.str z) H') E0) := by
  intro pins s σ H xs us Q I r h
  obtain ⟨a, dx, fs, rfl, ha, h⟩ := h
  obtain ⟨u, rfl, ru⟩ := vals1 r
  cases ru
  obtain ⟨od, J⟩ := inst_at I ha
  refine call_function_entry_kw PySem.F.kind_repr PySem.F.plain_repr PySem.F.entry_repr (PySem.F.args_repr1 _) ?_
  unfold Builtin.«repr»
  refine wpAny_bind (m := oneArg "repr" _) (wpAny_pure ?_)
  refine wpAny_bind (m := cRoomFor _ _) (wpAny_cRoomFor (by have := room.un; show X.A.units + 1 < cLine; omega) ?_)
  have hsp : ∀ {Q' : Option Value → Shared → Prop}, Q' (some (.ref f)) s → wpAny (model X.prog X.w) X.A.in1 (specialOf (.ref a) "__repr__") Q' X.xe s := fun q => by
    unfold specialOf
    exact wpAny_bind (J.type.here ((PySem.W.looks_findIn I.kIn hs).here q))
  refine wpAny_bind (hsp ?_)
  refine wpAny_bind (m := callSpecialIfBound? (.ref a) (Str.ofString "__repr__") _) (PySem.W.ifBound_K I.kIn J hs hf ?_)
  refine wpAny_mono (run_atG F (room.in1.mono (by omega)) gd rfl hb pass0 I (vs := [.ref a]) (us := [.ref a]) (.cons rfl .nil) h) (fun v s' z => ?_) fun _ _ z => z
  obtain ⟨w, H', I', rw', b, rfl, q⟩ := z
  obtain ⟨t, rfl⟩ : ∃ t, v = .str b t := rw'
  refine wpAny_bind (wpAny_isInstance (T := "str") (b := true) (typeIs_str _ _ _) isSubtype_str_str ?_)
  exact wpAny_pure ⟨_, rfl, .str b, H', I', ⟨t, rfl⟩, q⟩
end
end Cr

/-! CrY: tuple[::-1], text * number. -/
namespace Cr
open PySem PySem.Spec PyProof.Rows L2
section
variable {prog : Program} {w : World} {A : Around} {E : Value → Shared → Prop} {s : Shared}
theorem adjust_rev (n : Nat) : Builtin.Slice.sliceAdjust none none (-1) (n : Int) = ((n : Int) - 1, -1) := by
  unfold Builtin.Slice.sliceAdjust
  simp
theorem places_rev (n : Nat) : Builtin.Slice.slicePlaces ((n : Int) - 1) (-1) (-1) = n := by
  unfold Builtin.Slice.slicePlaces
  have h1 : ¬ ((-1 : Int) > 0) := by omega
  simp only [h1, if_false]
  split
  · rw [show (- -1 : Int) = 1 by decide, Int.ediv_one]; omega
  · omega
theorem pick_rev (xs : Array Value) : ((List.range xs.size).filterMap fun (m : Nat) => xs[((xs.size : Int) - 1 + (m : Int) * (-1)).toNat]?).toArray = xs.toList.reverse.toArray := by
  have e : (List.range xs.size).filterMap (fun (m : Nat) => xs[((xs.size : Int) - 1 + (m : Int) * (-1)).toNat]?) = ((List.range xs.size).map (fun k => xs.size - 1 - k)).filterMap (xs[·]?) := by
    rw [List.filterMap_map]
    congr 1
    funext m
    show xs[((xs.size : Int) - 1 + (m : Int) * (-1)).toNat]? = xs[xs.size - 1 - m]?
    rw [show ((xs.size : Int) - 1 + (m : Int) * (-1)).toNat = xs.size - 1 - m by omega]
  rw [e, PySem.W.krv_range, List.filterMap_reverse, PySem.W.krv_all]
theorem getItem_tuple_rev {t sl : Addr} {items : Array Value} {vl vu vs : Value} {Q : Value → Shared → Prop} (ht : IsTup s.heap t items) (hs : s.heap.IsSliceOf sl vl vu vs) (pl : IsPart vl none) (pu : IsPart vu none) (ps : IsPart vs (some (-1)))
    (h : Q (.ref s.heap.objs.size) { s with heap := s.heap.push { cls := .type "tuple", data := .seq items.toList.reverse.toArray } }) (hsz : items.size ≤ sizeLine) : wpAny (model prog w) A (getItem (.ref t) (.ref sl)) Q E s := by
  have htake : sizeOk (.seq items.toList.reverse.toArray) := by
    show items.toList.reverse.toArray.size ≤ sizeLine
    rw [List.size_toArray, List.length_reverse, Array.length_toList]
    exact hsz
  obtain ⟨os, hos, hcs, hds⟩ := id hs
  have hTs : s.TypeIs (.ref sl) "slice" := ⟨os, hos, hcs⟩
  unfold getItem
  try with_reducible refine wpAny_holding ?_
  first | refine wpAny_bind (wpAny_pure ?_) | skip
  refine wpAny_bind (wpAny_sequenceKey ht.typeIs (by decide) ?_)
  refine wpAny_bind (wpAny_callSpecial?_slot (name := Str.ofString "__getitem__") ht.typeIs PyProof.Rows.slot_tuple_getitem
    (wpAny_call_entry PyProof.Rows.slot_tuple_getitem ht.typeIs entry_tuple_getitem ?_ (args_tuple_getitem _ _)))
  show wpAny _ _ (Builtin.Tuple.tupleItemsOf (.ref t) >>= _) _ _ s
  refine wpAny_bind (tupleItemsOf_ ht ?_)
  refine wpAny_bind (wpAny_typeOf hTs ?_)
  rw [if_pos (by decide)]
  have ap : ∀ {A : Around} {E : Value → Shared → Prop} {Q : Int × Int × Nat → Shared → Prop}, Q ((items.size : Int) - 1, -1, items.size) s → wpAny (model prog w) A (Builtin.Slice.sliceApplied (.ref sl) (pure (items.size : Int))) Q E s := fun {A E Q} hq => by
    unfold Builtin.Slice.sliceApplied Builtin.Slice.sliceFields
    refine wpAny_bind (wpAny_bind (wpAny_field hos hds (x := vl) rfl (wpAny_bind (wpAny_field hos hds (x := vu) rfl (wpAny_bind (wpAny_field hos hds (x := vs) rfl (wpAny_pure ?_)))))))
    refine wpAny_bind (HT.slicePart_ ps ?_)
    show wpAny _ _ (if ((-1 : Int) == 0) = true then _ else _) _ _ s
    rw [if_neg (by decide)]
    refine wpAny_bind (HT.slicePart_ pl (wpAny_bind (HT.slicePart_ pu (wpAny_bind (wpAny_pure ?_)))))
    show wpAny _ _ (match Builtin.Slice.sliceAdjust none none (-1) (items.size : Int) with | (lo, hi) => pure (lo, (-1 : Int), Builtin.Slice.slicePlaces lo hi (-1))) _ _ s
    rw [adjust_rev]
    show wpAny _ _ (pure ((items.size : Int) - 1, (-1 : Int), Builtin.Slice.slicePlaces ((items.size : Int) - 1) (-1) (-1))) _ _ s
    rw [places_rev]
    exact wpAny_pure hq
  refine wpAny_bind (ap ?_)
  show wpAny _ _ (if ((((items.size : Int) - 1) == 0 && (-1 : Int) == 1 && items.size == items.size) = true) then _ else _) _ _ s
  rw [if_neg (by rw [show ((-1 : Int) == 1) = false from rfl, Bool.and_false, Bool.false_and]; exact Bool.false_ne_true), pick_rev]
  first
    | exact wpAny_bind (m := Builtin.Tuple.tupleExact _) (wpAny_newObj_type (wpAny_pure ⟨_, rfl, wpAny_pure h⟩) htake)
    | exact wpAny_bind (m := Builtin.Tuple.tupleExact _) (wpAny_newObj_type (wpAny_bind (wpAny_pure (wpAny_pure ⟨_, rfl, wpAny_pure h⟩))) htake)
    | exact wpAny_bind (wpAny_bind (m := Builtin.Tuple.tupleExact _) (wpAny_newObj_type (wpAny_pure (wpAny_pure ⟨_, rfl, wpAny_pure h⟩)) htake))
    | exact wpAny_bind (wpAny_bind (m := Builtin.Tuple.tupleExact _) (wpAny_newObj_type (wpAny_pure ⟨_, rfl, wpAny_pure h⟩) htake))
end
section
variable {X : Cx}
def tRevT (K : PySem.W.Frag) (te : TE) : TE := fun σ H Q => te σ H fun x H1 => ∃ a xs, x = .ref a ∧ SqT K H1 a xs ∧ ∀ p, H1 p = none → Q (.ref p) (upd H1 p (.tup xs.reverse))
theorem pe_revT {e : Expr} {te : TE} {k : Nat} {p1 p2 p3 pos : Pos} (he : PE X e te) : PE X (.Subscript e (.Slice none none (some (.UnaryOp .USub (.Constant (.int 1) k p1) p2)) p3) pos) (tRevT X.K te) := by
  refine ⟨fun pins s σ H Q I h => ?_⟩
  refine Subscript_ (thn (he.run pins s σ H _ I h) fun v s1 ⟨x, H1, I1, r1, q1⟩ => ?_)
  obtain ⟨a, xs, ex, hx, q⟩ := q1
  subst ex
  cases r1
  have hst : PO X (some (.UnaryOp .USub (.Constant (.int 1) k p1) p2)) (tPart (tUn (rU fun i => .int (-i)) (tC (.int 1)))) := po_some (pe_un un_neg pe_int)
  refine wpAny_Slice (thn (po_none.run pins s1 σ H1 (fun o H2 => o = none ∧ H2 = H1) I1 ⟨rfl, rfl⟩) fun vl s2 ⟨l, H2, I2, pl, el, e2⟩ => ?_)
  subst el e2
  refine thn (po_none.run pins s2 σ H2 (fun o H3 => o = none ∧ H3 = H2) I2 ⟨rfl, rfl⟩) fun vu s3 ⟨u, H3, I3, pu, eu, e3⟩ => ?_
  subst eu e3
  refine thn (hst.run pins s3 σ H3 (fun o H4 => o = some (-1) ∧ H4 = H3) I3 ⟨1, rfl, -1, rfl, rfl, rfl⟩) fun vs s4 ⟨o, H4, I4, ps, eo, e4⟩ => ?_
  subst eo e4
  have I5 : Inv X pins σ H4 { s4 with heap := s4.heap.push { cls := .type "slice", data := .fields #[vl, vu, vs] } } := I4.kept (t' := s4.toks) fun b ob q => Heap.get?_push_of_some _ q
  obtain ⟨its, r, ht, hz⟩ := I5.tuple hx
  have hlen := r.length
  show wpAny (model X.prog X.w) X.A (subscriptTail e (.Slice none none (some (.UnaryOp .USub (.Constant (.int 1) k p1) p2)) p3) (.ref a) (.ref s4.heap.objs.size)) (EP X pins σ Q) X.xe { s4 with heap := s4.heap.push { cls := .type "slice", data := .fields #[vl, vu, vs] } }
  refine tail_any (ops := [.ref a, .ref s4.heap.objs.size]) ht.typeIs (PyProof.Rows.slot_tuple_getitem.lookup) ?_ (by with_unfolding_all rfl)
  refine getItem_tuple_rev ht (Heap.IsSliceOf.new _ vl vu vs) pl pu ps ?_ (by rw [List.size_toArray]; omega)
  refine ⟨.ref _, _, I5.laid (t' := s4.toks) (o := .tup xs.reverse) (fun b ob q => Heap.get?_push_of_some _ q) (Nat.le_refl _) ?_, rfl, q _ (I5.hok.fresh (Nat.le_refl _))⟩
  exact ⟨by rw [List.length_reverse]; exact hz, _, r.reverse, IsTup.new _ _⟩
/-- text * number -/
def repS (x : Str) (n : Nat) : Str := ⟨(List.replicate n x.cps).foldl (· ++ ·) #[]⟩
theorem fold_size (x : Array Nat) : ∀ (n : Nat) (a : Array Nat), ((List.replicate n x).foldl (· ++ ·) a).size = a.size + x.size * n
  | 0, a => by simp
  | n + 1, a => by
    rw [List.replicate_succ, List.foldl_cons, fold_size x n, Array.size_append, Nat.mul_succ]
    omega
theorem repS_len (x : Str) (n : Nat) : (repS x n).length = x.length * n := by
  show ((List.replicate n x.cps).foldl (· ++ ·) #[]).size = x.cps.size * n
  rw [fold_size]
  simp
theorem op_repS : OpR X (binaryOp .Mult) (fun x y H Q => ∃ (z : Str) (n : Int), x = .str z ∧ y = .int n ∧ 2 ≤ n ∧ n ≤ 100000 ∧ 0 < z.length ∧ z.length * n.toNat ≤ sizeLine ∧ Q (.str (repS z n.toNat)) H) := by
  intro pins s σ H x y v u Q I rx ry h
  obtain ⟨z, n, rfl, rfl, h1, h2, h3, h4, q⟩ := h
  obtain ⟨t, rfl⟩ := rx
  obtain ⟨t', rfl⟩ := ry
  have hs := sizeLine_eq
  refine PySem.P.mul_str (by simp; omega) (fun _ _ => ?_) (fun _ _ => ?_) ?_
  · have hz : (z.length : Int) ≤ sizeLine := by
      have : z.length * 1 ≤ z.length * n.toNat := Nat.mul_le_mul_left _ (by omega)
      omega
    have : (sizeLine : Int) ≤ (2 ^ 63 - 1) / n := by
      rw [hs]
      rw [Int.le_ediv_iff_mul_le (by omega)]
      omega
    omega
  · show decide (z.length * n.toNat > sizeLine) = false
    rw [decide_eq_false_iff_not]; omega
  · rw [if_neg (by omega), if_neg (by simp; omega)]
    refine ⟨?_, .str _, H, I.tok _, ⟨_, rfl⟩, q⟩
    have : (repS z n.toNat).length = z.length * n.toNat := repS_len z n.toNat
    unfold repS at this
    rw [this]; exact h4
end
end Cr

/-! CrZ: sorted(list or tuple of ints). -/
namespace Cr
open PySem PySem.Spec PyProof.Rows L2
section
variable {X : Cx}
theorem cr_sortedT : CallR X (.builtin "sorted") (fun vs H Q => ∃ (a : Addr) (ns : List Int), vs = [V.ref a] ∧ SqT X.K H a (ns.map V.int) ∧
  ∀ (ns' : List Int) (p : Addr), ns'.Perm ns → ns'.Pairwise (· ≤ ·) → H p = none → Q (.ref p) (upd H p (.lst (ns'.map V.int)))) := by
  intro pins s σ H vs us Q I r h
  obtain ⟨a, ns, rfl, hs, q⟩ := h
  obtain ⟨its, rv, ⟨o, ho, hc, n, hd⟩, hz⟩ := I.tuple hs
  rw [Vals.ref1 r]
  have hi := rv.ints
  have hzl : its.length ≤ sizeLine := by rw [← rv.length]; exact hz
  refine Calls.call_function_entry kind_sorted plain_sorted entry_sorted (args_sorted1 _) ?_
  unfold Builtin.«sorted»
  refine wpAny_bind (m := checkCount "sorted" 1 1 _) (wpAny_pure ?_)
  refine wpAny_bind (wpAny_collect_seq a (.inr rfl) ho hc hd (fun h1 keep => ?_) (by rw [List.size_toArray]; exact hzl))
  have I1 : Inv X pins σ H { s with heap := h1 } := I.kept (t' := s.toks) keep
  show wpAny _ _ (newList its >>= _) _ _ _
  refine wpAny_bind (wpAny_newList ?_ hzl)
  have hoL : (h1.push (seqObj "list" its.toArray 0)).get? h1.objs.size = some (seqObj "list" its.toArray 0) := Heap.get?_push_size _ rfl
  show wpAny _ _ _ _ _ { s with heap := h1.push (seqObj "list" its.toArray 0) }
  refine wpAny_bind (wpAny_holding (wpAny_call_entry slot_list_sort ⟨_, hoL, rfl⟩ entry_list_sort (SrtO.list_sort_ord SrtO.swo_int hoL hzl (fun h2 => SrtO.ints_sortable hi h2) fun out hs hb => ⟨_, rfl, ?_⟩) (args_list_sort _)))
  obtain ⟨k1, k2, k3⟩ := SrtO.ints_out hi hs hb
  obtain ⟨ep, he'⟩ := PyProof.Rows.sortedHeap_at (vs := its) (out := out.toArray) hoL
  have hlen : ((out.map SrtO.iv).map V.int).length ≤ sizeLine := by
    rw [List.length_map, k2.length_eq]
    rw [List.length_map] at hz
    exact hz
  refine wpAny_pure ⟨_, rfl, .ref h1.objs.size, upd H h1.objs.size (.lst ((out.map SrtO.iv).map V.int)), I1.laid (t' := s.toks) (fun b u e => ?_) (Nat.le_refl _) ⟨hlen, out, ep, vals_of_ints k1, he'⟩, rfl, q _ _ k2 k3 (I1.hok.fresh (Nat.le_refl _))⟩
  have hb : b < h1.objs.size := Heap.lt_size e
  rw [PyProof.Rows.sortedHeap_old (Nat.ne_of_lt hb) (by rw [size_push']; exact Nat.lt_succ_of_lt hb)]
  exact Heap.get?_push_of_some _ e
end
end Cr

/-! AL0: plain values, how they lie in a heap, readings over plain values (no heap in sight). -/
namespace Al
open PySem L2 Cr
/-- plain values -/
inductive D where
  | non | bl (b : Bool) | int (i : Int) | str (x : Str)
  | lst (ds : List D) | tup (ds : List D) | scr (ns : List Int) | dic (kvs : List (Key × D))
  | ins (c : Nat) (ds : List D) | exc (c : Nat) (ds : List D) | raw (v : V)
/-- what a def's walk rests on: the written part, the classes' places, the slots that hold things of one's own (changed in place) -/
structure Tb where
  a : Nat → Addr
  nm : Nat → List Str
structure Cf where
  K : PySem.W.Frag
  cl : Tb
  O : List Nat
  np : Nat
mutual
inductive Rp (K : PySem.W.Frag) (cl : Tb) (G : Hp) : V → D → Prop
  | non : Rp K cl G .non .non
  | bl (b : Bool) : Rp K cl G (.bl b) (.bl b)
  | int (i : Int) : Rp K cl G (.int i) (.int i)
  | str (x : Str) : Rp K cl G (.str x) (.str x)
  | lst {a : Addr} {vs : List V} {ds : List D} : G a = some (.lst vs) → Rps K cl G vs ds → Rp K cl G (.ref a) (.lst ds)
  | scr {a : Addr} {ns : List Int} : SqL K G a (ns.map V.int) → Rp K cl G (.ref a) (.scr ns)
  | tup {a : Addr} {vs : List V} {ds : List D} : SqT K G a vs → Rps K cl G vs ds → Rp K cl G (.ref a) (.tup ds)
  | dic {a : Addr} {vs : List (Key × V)} {ds : List (Key × D)} : Rd G a (.dK vs) → Rks K cl G vs ds → Rp K cl G (.ref a) (.dic ds)
  | ins {a dx : Addr} {c : Nat} {ns : List Str} {vs : List V} {ds : List D} : G a = some (.ins (cl.a c) dx (ns.zip vs)) → ((cl.nm c).take ds.length = ns ∧ ds.length ≤ (cl.nm c).length) → Rps K cl G vs ds → Rp K cl G (.ref a) (.ins c ds)
  | exc {a : Addr} {c : Nat} {vs : List V} {ds : List D} : XkAt G a (cl.a c) ((cl.nm c).zip vs) → Rps K cl G vs ds → Rp K cl G (.ref a) (.exc c ds)
  | raw (v : V) : Rp K cl G v (.raw v)
inductive Rps (K : PySem.W.Frag) (cl : Tb) (G : Hp) : List V → List D → Prop
  | nil : Rps K cl G [] []
  | cons {v : V} {d : D} {vs : List V} {ds : List D} : Rp K cl G v d → Rps K cl G vs ds → Rps K cl G (v :: vs) (d :: ds)
inductive Rks (K : PySem.W.Frag) (cl : Tb) (G : Hp) : List (Key × V) → List (Key × D) → Prop
  | nil : Rks K cl G [] []
  | cons {f : Key} {v : V} {d : D} {vs : List (Key × V)} {ds : List (Key × D)} : Rp K cl G v d → Rks K cl G vs ds → Rks K cl G ((f, v) :: vs) ((f, d) :: ds)
end
section
variable {K : PySem.W.Frag} {cl : Tb} {G G' H : Hp}
mutual
theorem Rp.up (s : Same G G') {v : V} {d : D} : Rp K cl G v d → Rp K cl G' v d
  | .non => .non
  | .bl b => .bl b
  | .int i => .int i
  | .str x => .str x
  | .lst h r => .lst (s _ _ h) (Rps.up s r)
  | .scr h => .scr (Cr.Same.sqL s h)
  | .tup h r => .tup (Cr.Same.sqT s h) (Rps.up s r)
  | .dic h r => .dic (Cr.Same.lst s h) (Rks.up s r)
  | .ins h e r => .ins (s _ _ h) e (Rps.up s r)
  | .exc h r => .exc (h.up s) (Rps.up s r)
  | .raw v => .raw v
theorem Rps.up (s : Same G G') {v : List V} {d : List D} : Rps K cl G v d → Rps K cl G' v d
  | .nil => .nil
  | .cons h r => .cons (Rp.up s h) (Rps.up s r)
theorem Rks.up (s : Same G G') {v : List (Key × V)} {d : List (Key × D)} : Rks K cl G v d → Rks K cl G' v d
  | .nil => .nil
  | .cons h r => .cons (Rp.up s h) (Rks.up s r)
end
theorem sqL_up {a : Addr} {vs : List V} (s : Same G H) (h : G a = some (.lst vs)) : SqL K H a vs := ofL (s _ _ h)
theorem Rps.len {vs : List V} {ds : List D} : Rps K cl G vs ds → vs.length = ds.length
  | .nil => rfl
  | .cons _ r => by simp [Rps.len r]
theorem Rps.get {vs : List V} {ds : List D} {i : Nat} {v : V} : Rps K cl G vs ds → vs[i]? = some v → ∃ d, ds[i]? = some d ∧ Rp K cl G v d
  | .nil, h => by cases h
  | .cons (d := d) a r, h => by
    cases i with
    | zero => cases h; exact ⟨d, rfl, a⟩
    | succ i => simp only [List.getElem?_cons_succ] at h ⊢; exact Rps.get r h
theorem Rps.getD {vs : List V} {ds : List D} {i : Nat} {d : D} : Rps K cl G vs ds → ds[i]? = some d → ∃ v, vs[i]? = some v ∧ Rp K cl G v d
  | .nil, h => by cases h
  | .cons (v := v) a r, h => by
    cases i with
    | zero => cases h; exact ⟨v, rfl, a⟩
    | succ i => simp only [List.getElem?_cons_succ] at h ⊢; exact Rps.getD r h
theorem Rps.app {vs ws : List V} {ds es : List D} : Rps K cl G vs ds → Rps K cl G ws es → Rps K cl G (vs ++ ws) (ds ++ es)
  | .nil, h => h
  | .cons a r, h => .cons a (Rps.app r h)
theorem Rps.take {vs : List V} {ds : List D} (n : Nat) : Rps K cl G vs ds → Rps K cl G (vs.take n) (ds.take n)
  | .nil => by simp; exact .nil
  | .cons a r => by
    cases n with
    | zero => exact .nil
    | succ n => exact .cons a (Rps.take n r)
theorem Rps.drop {vs : List V} {ds : List D} (n : Nat) : Rps K cl G vs ds → Rps K cl G (vs.drop n) (ds.drop n)
  | .nil => by simp; exact .nil
  | .cons a r => by
    cases n with
    | zero => exact .cons a r
    | succ n => exact Rps.drop n r
theorem Rps.set {vs : List V} {ds : List D} {v : V} {d : D} (n : Nat) (hv : Rp K cl G v d) : Rps K cl G vs ds → Rps K cl G (vs.set n v) (ds.set n d)
  | .nil => .nil
  | .cons a r => by
    cases n with
    | zero => exact .cons hv r
    | succ n => exact .cons a (Rps.set n hv r)
theorem Rps.ints : ∀ ns : List Int, Rps K cl G (ns.map V.int) (ns.map D.int)
  | [] => .nil
  | n :: r => .cons (.int n) (Rps.ints r)
theorem zip_look {α : Type} : ∀ {ns : List Str} {vs : List α} {f : Str} {k : Nat} {v : α}, ns.Nodup → ns[k]? = some f → vs[k]? = some v → (ns.zip vs).lookup f = some v
  | [], _, f, k, v, _, h, _ => by cases h
  | _ :: _, [], f, k, v, _, _, h => by cases h
  | n :: ns, w :: vs, f, 0, v, _, h1, h2 => by
    cases h1; cases h2
    simp [List.zip, List.lookup]
  | n :: ns, w :: vs, f, k + 1, v, hn, h1, h2 => by
    simp only [List.getElem?_cons_succ] at h1 h2
    have hne : (f == n) = false := by
      rw [beq_eq_false_iff_ne]
      rintro rfl
      exact (List.nodup_cons.mp hn).1 (List.mem_of_getElem? h1)
    simp only [List.zip_cons_cons, List.lookup, hne]
    exact zip_look (List.nodup_cons.mp hn).2 h1 h2
theorem zip_none {α : Type} : ∀ {ns : List Str} {vs : List α} {f : Str}, f ∉ ns → (ns.zip vs).lookup f = none
  | [], _, f, _ => rfl
  | _ :: _, [], f, _ => rfl
  | n :: ns, w :: vs, f, h => by
    have hne : (f == n) = false := by
      rw [beq_eq_false_iff_ne]
      rintro rfl
      exact h (by simp)
    simp only [List.zip_cons_cons, List.lookup, hne]
    exact zip_none fun z => h (by simp [z])
end
/-! ### a thing of one's own, at a; what it holds stands in G -/
inductive RpO (K : PySem.W.Frag) (cl : Tb) (G H : Hp) (a : Addr) : D → Prop
  | lst {vs : List V} {ds : List D} : H a = some (.lst vs) → Rps K cl G vs ds → RpO K cl G H a (.lst ds)
  | dic {vs : List (Key × V)} {ds : List (Key × D)} : H a = some (.dK vs) → Rks K cl G vs ds → RpO K cl G H a (.dic ds)
  | ins {dx : Addr} {c : Nat} {ns : List Str} {vs : List V} {ds : List D} : H a = some (.ins (cl.a c) dx (ns.zip vs)) → ((cl.nm c).take ds.length = ns ∧ ds.length ≤ (cl.nm c).length) → Rps K cl G vs ds → RpO K cl G H a (.ins c ds)
theorem RpO.there {K : PySem.W.Frag} {cl : Tb} {G H : Hp} {a : Addr} {d : D} (h : RpO K cl G H a d) : ∃ o, H a = some o := by cases h <;> exact ⟨_, by assumption⟩
theorem RpO.up {K : PySem.W.Frag} {cl : Tb} {G G' H H' : Hp} {a : Addr} {d : D} (h : RpO K cl G H a d) (s : Same G G') (e : H' a = H a) : RpO K cl G' H' a d := by
  cases h with
  | lst h r => exact .lst (e.trans h) (r.up s)
  | dic h r => exact .dic (e.trans h) (r.up s)
  | ins h e' r => exact .ins (e.trans h) e' (r.up s)
/-! ### environments -/
abbrev Ev := List (Option D)
def sl : Ev → Nat → Option D
  | [], _ => none
  | d :: _, 0 => d
  | _ :: r, i + 1 => sl r i
theorem sl_get : ∀ (ρ : Ev) (i : Nat) (d : D), sl ρ i = some d ↔ ρ[i]? = some (some d)
  | [], i, d => by simp [sl]
  | e :: r, 0, d => by simp [sl]
  | e :: r, i + 1, d => by simp only [sl]; rw [sl_get r i d]; simp
theorem sl_set : ∀ (ρ : Ev) (i : Nat) (d : Option D), i < ρ.length → sl (ρ.set i d) i = d
  | [], i, d, h => by cases h
  | e :: r, 0, d, _ => rfl
  | e :: r, i + 1, d, h => by show sl (r.set i d) i = d; exact sl_set r i d (by simpa using h)
theorem sl_set_ne : ∀ (ρ : Ev) (i j : Nat) (d : Option D), j ≠ i → sl (ρ.set i d) j = sl ρ j
  | [], i, j, d, _ => rfl
  | e :: r, 0, 0, d, h => absurd rfl h
  | e :: r, 0, j + 1, d, _ => rfl
  | e :: r, i + 1, 0, d, _ => rfl
  | e :: r, i + 1, j + 1, d, h => by show sl (r.set i d) j = sl r j; exact sl_set_ne r i j d (by omega)
theorem sl_lt {ρ : Ev} {i : Nat} {d : D} (h : sl ρ i = some d) : i < ρ.length := by
  rw [sl_get] at h
  exact (List.getElem?_eq_some_iff.mp h).1
/-- what others hold; where the parameters that are changed in place lie -/
structure Fx where
  m : Hp
  π : Nat → Option Addr
def Fx.up (M : Fx) (p : Addr) (o : HO) : Fx := { M with m := upd M.m p o }
theorem Fx.up_same {M : Fx} {p : Addr} {o : HO} : (M.up p o).m p = some o := upd_same
theorem Fx.up_ne {M : Fx} {p b : Addr} {o : HO} (h : b ≠ p) : (M.up p o).m b = M.m b := upd_ne h
/-- ρ in the heap H: G what never changes -/
structure Rs (cf : Cf) (M : Fx) (G H : Hp) (σ : St) (ρ : Ev) : Prop where
  same : Same G H
  mem : ∀ b o, M.m b = some o → H b = some o ∧ G b = none
  len : σ.length = ρ.length
  imm : ∀ i d, i ∉ cf.O → sl ρ i = some d → ∃ v, σ[i]? = some (some v) ∧ Rp cf.K cf.cl G v d
  own : ∀ i d, i ∈ cf.O → sl ρ i = some d → ∃ a, σ[i]? = some (some (.ref a)) ∧ G a = none ∧ M.m a = none ∧ RpO cf.K cf.cl G H a d
  dis : ∀ i j d e a, i ∈ cf.O → j ∈ cf.O → sl ρ i = some d → sl ρ j = some e → σ[i]? = some (some (.ref a)) → σ[j]? = some (some (.ref a)) → i = j
  par : ∀ i a, M.π i = some a → i ∈ cf.O ∧ i < cf.np ∧ σ[i]? = some (some (.ref a))
theorem free_of {G H : Hp} {p : Addr} (s : Same G H) (h : H p = none) : G p = none := s.free h
/-- a new thing that never changes -/
theorem Rs.new {cf : Cf} {M : Fx} {G H : Hp} {σ : St} {ρ : Ev} {p : Addr} {o : HO} (R : Rs cf M G H σ ρ) (np : H p = none) : Rs cf M (upd G p o) (upd H p o) σ ρ ∧ Same G (upd G p o) ∧ (upd G p o) p = some o := by
  have gp := R.same.free np
  have sG : Same G (upd G p o) := same_up gp
  refine ⟨⟨Same.two R.same, fun b u e => ?_, R.len, fun i d hi e => ?_, fun i d hi e => ?_, R.dis, R.par⟩, sG, upd_same⟩
  · obtain ⟨h1, h2⟩ := R.mem b u e
    have nb : b ≠ p := ne_of_none h1 np
    exact ⟨by rw [upd_ne nb]; exact h1, by rw [upd_ne nb]; exact h2⟩
  · obtain ⟨v, h1, h2⟩ := R.imm i d hi e
    exact ⟨v, h1, h2.up sG⟩
  · obtain ⟨a, h1, h2, h3, h4⟩ := R.own i d hi e
    obtain ⟨u, hu⟩ := h4.there
    have na : a ≠ p := ne_of_none hu np
    exact ⟨a, h1, by rw [upd_ne na]; exact h2, h3, h4.up sG (upd_ne na)⟩
/-- a new thing that others hold -/
theorem Rs.pin {cf : Cf} {M : Fx} {G H : Hp} {σ : St} {ρ : Ev} {p : Addr} {o : HO} (R : Rs cf M G H σ ρ) (np : H p = none) : Rs cf (M.up p o) G (upd H p o) σ ρ := by
  refine ⟨Same.new R.same np, fun b u e => ?_, R.len, R.imm, fun i d hi e => ?_, R.dis, R.par⟩
  · by_cases hb : b = p
    · subst hb
      rw [Fx.up_same] at e
      rw [upd_same]
      exact ⟨e, R.same.free np⟩
    · rw [Fx.up_ne hb] at e
      rw [upd_ne hb]
      exact R.mem b u e
  · obtain ⟨a, h1, h2, h3, h4⟩ := R.own i d hi e
    obtain ⟨u, hu⟩ := h4.there
    have na : a ≠ p := ne_of_none hu np
    exact ⟨a, h1, h2, by rw [Fx.up_ne na]; exact h3, h4.up (Same.refl _) (upd_ne na)⟩
/-- what others hold is changed -/
theorem Rs.repin {cf : Cf} {M : Fx} {G H : Hp} {σ : St} {ρ : Ev} {p : Addr} {o u : HO} (R : Rs cf (M.up p o) G H σ ρ) : Rs cf (M.up p u) G (upd H p u) σ ρ := by
  have gp : G p = none := (R.mem p o Fx.up_same).2
  refine ⟨Same.put R.same gp, fun b w e => ?_, R.len, R.imm, fun i d hi e => ?_, R.dis, R.par⟩
  · by_cases hb : b = p
    · subst hb
      rw [Fx.up_same] at e
      rw [upd_same]
      exact ⟨e, gp⟩
    · rw [Fx.up_ne hb] at e
      rw [upd_ne hb]
      exact R.mem b w (by rw [Fx.up_ne hb]; exact e)
  · obtain ⟨a, h1, h2, h3, h4⟩ := R.own i d hi e
    have na : a ≠ p := fun z => by rw [z, Fx.up_same] at h3; cases h3
    rw [Fx.up_ne na] at h3
    exact ⟨a, h1, h2, by rw [Fx.up_ne na]; exact h3, h4.up (Same.refl _) (upd_ne na)⟩
/-- what others held never changes from here on -/
theorem Rs.thaw {cf : Cf} {M : Fx} {G H : Hp} {σ : St} {ρ : Ev} {p : Addr} {o : HO} (R : Rs cf (M.up p o) G H σ ρ) (np : M.m p = none) : Rs cf M (upd G p o) H σ ρ ∧ Same G (upd G p o) ∧ (upd G p o) p = some o := by
  obtain ⟨hp, gp⟩ := R.mem p o Fx.up_same
  have sG : Same G (upd G p o) := same_up gp
  refine ⟨⟨Same.add R.same hp, fun b w e => ?_, R.len, fun i d hi e => ?_, fun i d hi e => ?_, R.dis, R.par⟩, sG, upd_same⟩
  · have nb : b ≠ p := fun z => by rw [z, np] at e; cases e
    obtain ⟨h1, h2⟩ := R.mem b w (by rw [Fx.up_ne nb]; exact e)
    exact ⟨h1, by rw [upd_ne nb]; exact h2⟩
  · obtain ⟨v, h1, h2⟩ := R.imm i d hi e
    exact ⟨v, h1, h2.up sG⟩
  · obtain ⟨a, h1, h2, h3, h4⟩ := R.own i d hi e
    have na : a ≠ p := fun z => by rw [z, Fx.up_same] at h3; cases h3
    rw [Fx.up_ne na] at h3
    exact ⟨a, h1, by rw [upd_ne na]; exact h2, h3, h4.up sG rfl⟩
/-- a slot that holds what never changes is stored -/
theorem Rs.set {cf : Cf} {M : Fx} {G H : Hp} {σ : St} {ρ : Ev} {i : Nat} {v : V} {d : D} (R : Rs cf M G H σ ρ) (hi : i ∉ cf.O) (h : Rp cf.K cf.cl G v d) : Rs cf M G H (σ.set i (some v)) (ρ.set i (some d)) := by
  refine ⟨R.same, R.mem, by simp [R.len], fun j e hj z => ?_, fun j e hj z => ?_, fun j k e f a hj hk z1 z2 => ?_, fun j a e => ?_⟩
  rotate_right
  · obtain ⟨h1, h2, h3⟩ := R.par j a e
    exact ⟨h1, h2, by rw [List.getElem?_set_ne (fun c => hi (by rw [c]; exact h1))]; exact h3⟩
  · by_cases c : j = i
    · subst c
      have hl := sl_lt z
      rw [List.length_set] at hl
      rw [sl_set ρ j _ hl] at z
      cases z
      exact ⟨v, by rw [List.getElem?_set_self (by rw [R.len]; exact hl)], h⟩
    · rw [sl_set_ne ρ i j _ c] at z
      rw [List.getElem?_set_ne (Ne.symm c)]
      exact R.imm j e hj z
  · have c : j ≠ i := fun c => hi (c ▸ hj)
    rw [sl_set_ne ρ i j _ c] at z
    rw [List.getElem?_set_ne (Ne.symm c)]
    exact R.own j e hj z
  · have c : j ≠ i := fun c => hi (c ▸ hj)
    have c' : k ≠ i := fun c => hi (c ▸ hk)
    rw [sl_set_ne ρ i j _ c] at z1
    rw [sl_set_ne ρ i k _ c'] at z2
    rw [List.getElem?_set_ne (Ne.symm c), List.getElem?_set_ne (Ne.symm c')]
    exact R.dis j k e f a hj hk z1 z2
/-- a slot of one's own holds something new -/
theorem Rs.setO {cf : Cf} {M : Fx} {G H : Hp} {σ : St} {ρ : Ev} {i : Nat} {p : Addr} {o : HO} {d : D} (R : Rs cf (M.up p o) G H σ ρ) (np : M.m p = none) (hi : i ∈ cf.O) (hn : cf.np ≤ i) (h : RpO cf.K cf.cl G H p d) : Rs cf M G H (σ.set i (some (.ref p))) (ρ.set i (some d)) := by
  obtain ⟨hp, gp⟩ := R.mem p o Fx.up_same
  have ot : ∀ j e, j ∈ cf.O → sl ρ j = some e → ∃ a, σ[j]? = some (some (.ref a)) ∧ G a = none ∧ M.m a = none ∧ a ≠ p ∧ RpO cf.K cf.cl G H a e := fun j e hj z => by
    obtain ⟨a, h1, h2, h3, h4⟩ := R.own j e hj z
    have na : a ≠ p := fun z => by rw [z, Fx.up_same] at h3; cases h3
    rw [Fx.up_ne na] at h3
    exact ⟨a, h1, h2, h3, na, h4⟩
  refine ⟨R.same, fun b w e => ?_, by simp [R.len], fun j e hj z => ?_, fun j e hj z => ?_, fun j k e f a hj hk z1 z2 => ?_, fun j a e => ?_⟩
  rotate_right
  · obtain ⟨h1, h2, h3⟩ := R.par j a e
    exact ⟨h1, h2, by rw [List.getElem?_set_ne (by omega)]; exact h3⟩
  · have nb : b ≠ p := fun z => by rw [z, np] at e; cases e
    exact R.mem b w (by rw [Fx.up_ne nb]; exact e)
  · have c : j ≠ i := fun c => hj (c ▸ hi)
    rw [sl_set_ne ρ i j _ c] at z
    rw [List.getElem?_set_ne (Ne.symm c)]
    exact R.imm j e hj z
  · by_cases c : j = i
    · subst c
      have hl := sl_lt z
      rw [List.length_set] at hl
      rw [sl_set ρ j _ hl] at z
      cases z
      exact ⟨p, by rw [List.getElem?_set_self (by rw [R.len]; exact hl)], gp, np, h⟩
    · rw [sl_set_ne ρ i j _ c] at z
      rw [List.getElem?_set_ne (Ne.symm c)]
      obtain ⟨a, h1, h2, h3, _, h4⟩ := ot j e hj z
      exact ⟨a, h1, h2, h3, h4⟩
  · intro q1 q2
    by_cases c : j = i
    · by_cases c' : k = i
      · rw [c, c']
      · subst c
        have hl := sl_lt z1
        rw [List.length_set] at hl
        rw [List.getElem?_set_self (by rw [R.len]; exact hl)] at q1
        rw [List.getElem?_set_ne (Ne.symm c')] at q2
        rw [sl_set_ne ρ j k _ c'] at z2
        obtain ⟨a', h1, _, _, h4, _⟩ := ot k f hk z2
        rw [q2] at h1
        cases q1; cases h1
        exact absurd rfl h4
    · rw [List.getElem?_set_ne (Ne.symm c)] at q1
      rw [sl_set_ne ρ i j _ c] at z1
      by_cases c' : k = i
      · subst c'
        have hl := sl_lt z2
        rw [List.length_set] at hl
        rw [List.getElem?_set_self (by rw [R.len]; exact hl)] at q2
        obtain ⟨a', h1, _, _, h4, _⟩ := ot j e hj z1
        rw [q1] at h1
        cases q2; cases h1
        exact absurd rfl h4
      · rw [List.getElem?_set_ne (Ne.symm c')] at q2
        rw [sl_set_ne ρ i k _ c'] at z2
        exact R.dis j k e f a hj hk z1 z2 q1 q2
/-- a thing of one's own is changed in place -/
theorem Rs.chg {cf : Cf} {M : Fx} {G H : Hp} {σ : St} {ρ : Ev} {i : Nat} {a : Addr} {o : HO} {d e : D} (R : Rs cf M G H σ ρ) (hi : i ∈ cf.O) (hs : sl ρ i = some e) (ha : σ[i]? = some (some (.ref a))) (h : RpO cf.K cf.cl G (upd H a o) a d) : Rs cf M G (upd H a o) σ (ρ.set i (some d)) := by
  obtain ⟨a', h1, h2, h3, h4⟩ := R.own i e hi hs
  rw [ha] at h1
  cases h1
  refine ⟨Same.put R.same h2, fun b w z => ?_, by simp [R.len], fun j e' hj z => ?_, fun j e' hj z => ?_, fun j k e1 f1 b hj hk z1 z2 q1 q2 => ?_, R.par⟩
  · have nb : b ≠ a := fun c => by rw [c, h3] at z; cases z
    obtain ⟨p1, p2⟩ := R.mem b w z
    exact ⟨by rw [upd_ne nb]; exact p1, p2⟩
  · have c : j ≠ i := fun c => hj (c ▸ hi)
    rw [sl_set_ne ρ i j _ c] at z
    exact R.imm j e' hj z
  · by_cases c : j = i
    · subst c
      rw [sl_set ρ j _ (sl_lt hs)] at z
      cases z
      exact ⟨a, ha, h2, h3, h⟩
    · rw [sl_set_ne ρ i j _ c] at z
      obtain ⟨b, q1, q2, q3, q4⟩ := R.own j e' hj z
      have nb : b ≠ a := fun c' => c (R.dis j i e' e a hj hi z hs (c' ▸ q1) ha)
      exact ⟨b, q1, q2, q3, q4.up (Same.refl _) (upd_ne nb)⟩
  · by_cases c : j = i
    · by_cases c' : k = i
      · rw [c, c']
      · subst c
        rw [sl_set_ne ρ j k _ c'] at z2
        exact R.dis j k e f1 b hj hk hs z2 q1 q2
    · rw [sl_set_ne ρ i j _ c] at z1
      by_cases c' : k = i
      · subst c'
        exact R.dis j k e1 e b hj hk z1 hs q1 q2
      · rw [sl_set_ne ρ i k _ c'] at z2
        exact R.dis j k e1 f1 b hj hk z1 z2 q1 q2
/-- less is known of the slots -/
theorem Rs.less {cf : Cf} {M : Fx} {G H : Hp} {σ : St} {ρ ρ' : Ev} (R : Rs cf M G H σ ρ) (hl : ρ'.length = ρ.length) (h : ∀ i d, sl ρ' i = some d → sl ρ i = some d) : Rs cf M G H σ ρ' :=
  ⟨R.same, R.mem, R.len.trans hl.symm, fun i d hi e => R.imm i d hi (h i d e), fun i d hi e => R.own i d hi (h i d e), fun i j d e a hi hj z1 z2 => R.dis i j d e a hi hj (h _ _ z1) (h _ _ z2), R.par⟩
/-- a thing of one's own never changes from here on -/
theorem Rs.frz {cf : Cf} {M : Fx} {G H : Hp} {σ : St} {ρ : Ev} {i : Nat} {d : D} (R : Rs cf M G H σ ρ) (hi : i ∈ cf.O) (hs : sl ρ i = some d) : ∃ a G', σ[i]? = some (some (.ref a)) ∧ Same G G' ∧ Rs cf M G' H σ (ρ.set i none) ∧ Rp cf.K cf.cl G' (.ref a) d := by
  obtain ⟨a, h1, h2, h3, h4⟩ := R.own i d hi hs
  obtain ⟨o, ho⟩ := h4.there
  have sG : Same G (upd G a o) := same_up h2
  have ga : (upd G a o) a = some o := upd_same
  have R' : Rs cf M (upd G a o) H σ (ρ.set i none) := by
    refine ⟨Same.add R.same ho, fun b w z => ?_, by simp [R.len], fun j e' hj z => ?_, fun j e' hj z => ?_, fun j k e1 f1 b hj hk z1 z2 q1 q2 => ?_, R.par⟩
    · have nb : b ≠ a := fun c => by rw [c, h3] at z; cases z
      obtain ⟨p1, p2⟩ := R.mem b w z
      exact ⟨p1, by rw [upd_ne nb]; exact p2⟩
    · have c : j ≠ i := fun c => hj (c ▸ hi)
      rw [sl_set_ne ρ i j _ c] at z
      obtain ⟨v, q1, q2⟩ := R.imm j e' hj z
      exact ⟨v, q1, q2.up sG⟩
    · have c : j ≠ i := fun c => by rw [c, sl_set ρ i _ (sl_lt hs)] at z; cases z
      rw [sl_set_ne ρ i j _ c] at z
      obtain ⟨b, q1, q2, q3, q4⟩ := R.own j e' hj z
      have nb : b ≠ a := fun c' => c (R.dis j i e' d a hj hi z hs (c' ▸ q1) h1)
      exact ⟨b, q1, by rw [upd_ne nb]; exact q2, q3, q4.up sG rfl⟩
    · have c : j ≠ i := fun c => by rw [c, sl_set ρ i _ (sl_lt hs)] at z1; cases z1
      have c' : k ≠ i := fun c => by rw [c, sl_set ρ i _ (sl_lt hs)] at z2; cases z2
      rw [sl_set_ne ρ i j _ c] at z1
      rw [sl_set_ne ρ i k _ c'] at z2
      exact R.dis j k e1 f1 b hj hk z1 z2 q1 q2
  refine ⟨a, _, h1, sG, R', ?_⟩
  cases h4 with
  | lst h r =>
    rw [h] at ho; cases ho
    exact .lst ga (r.up sG)
  | dic h r =>
    rw [h] at ho; cases ho
    exact .dic (.inl ga) (r.up sG)
  | ins h e' r =>
    rw [h] at ho; cases ho
    exact .ins ga e' (r.up sG)
def dropO (O : List Nat) : Nat → Ev → Ev
  | _, [] => []
  | i, d :: r => (if i ∈ O then none else d) :: dropO O (i + 1) r
theorem dropO_len (O : List Nat) : ∀ (k : Nat) (ρ : Ev), (dropO O k ρ).length = ρ.length
  | _, [] => rfl
  | k, d :: r => by simp [dropO, dropO_len O (k + 1) r]
theorem dropO_sl (O : List Nat) : ∀ (k : Nat) (ρ : Ev) (i : Nat) (d : D), sl (dropO O k ρ) i = some d → sl ρ i = some d ∧ k + i ∉ O
  | _, [], i, d, h => by cases h
  | k, e :: r, 0, d, h => by
    simp only [dropO, sl] at h ⊢
    split at h
    · cases h
    · next c => exact ⟨h, c⟩
  | k, e :: r, i + 1, d, h => by
    have := dropO_sl O (k + 1) r i d h
    exact ⟨this.1, by rw [show k + (i + 1) = k + 1 + i by omega]; exact this.2⟩
theorem Rs.dropO {cf : Cf} {M : Fx} {G H : Hp} {σ : St} {ρ : Ev} (R : Rs cf M G H σ ρ) : Rs cf M G H σ (dropO cf.O 0 ρ) := R.less (dropO_len _ _ _) fun i d h => (dropO_sl _ _ _ _ _ h).1
end Al

/-! AL1: readings over plain values: judgements, expressions, statements. -/
namespace Al
open PySem L2 Cr
abbrev XP := D → Prop
abbrev AE := Ev → (D → Ev → Prop) → XP → Prop
abbrev AT := Ev → (Bool → Ev → Prop) → XP → Prop
/-- an argument: a value, or a slot of one's own -/
abbrev Ar := D ⊕ Nat
abbrev AA := Ev → (List Ar → Ev → Prop) → XP → Prop
structure AK where
  nx : Ev → Prop
  rt : D → Ev → Prop
  bk : Ev → Prop
  ct : Ev → Prop
  ex : XP
abbrev AS := AK → Ev → Prop
abbrev AG := D → Ev → (Ev → Prop) → Prop
/-- an exception in the air -/
def XR (K : PySem.W.Frag) (cl : Tb) (G : Hp) (cls : Value) (dx : Option Addr) (x : D) : Prop := ∃ (c : Nat) (d : Addr) (vs : List V) (ds : List D), x = .exc c ds ∧ cls = .ref (cl.a c) ∧ dx = some d ∧ G d = some (.xd ((cl.nm c).zip vs)) ∧ Rps K cl G vs ds
def XW (cf : Cf) (W : WX) (M : Fx) (G : Hp) (σ : St) (X : XP) : Prop := ∀ x cls dx G' H', Same G G' → Same G' H' → (∀ b o, M.m b = some o → H' b = some o ∧ G' b = none) → XR cf.K cf.cl G' cls dx x → X x → W cls dx σ H'
theorem XW.up {cf : Cf} {W : WX} {M : Fx} {G G' : Hp} {σ : St} {X : XP} (h : XW cf W M G σ X) (s : Same G G') : XW cf W M G' σ X := fun x cls dx G2 H2 s1 => h x cls dx G2 H2 (s.trans s1)
section
variable (cf : Cf) (W : WX)
/-- what is wished of a value -/
def QE (M : Fx) (G : Hp) (σ : St) (P : D → Ev → Prop) (Q : VK) : Prop := ∀ d ρ' v G' H', Same G G' → Rs cf M G' H' σ ρ' → Rp cf.K cf.cl G' v d → P d ρ' → Q v H'
def γE (a : AE) : TE := fun σ H Q => ∃ (M : Fx) (G : Hp) (ρ : Ev) (P : D → Ev → Prop) (X : XP), Rs cf M G H σ ρ ∧ QE cf M G σ P Q ∧ XW cf W M G σ X ∧ a ρ P X
def γT (a : AT) : TT := fun σ H Q => ∃ (M : Fx) (G : Hp) (ρ : Ev) (P : Bool → Ev → Prop) (X : XP), Rs cf M G H σ ρ ∧ (∀ b ρ' G' H', Same G G' → Rs cf M G' H' σ ρ' → P b ρ' → Q b H') ∧ XW cf W M G σ X ∧ a ρ P X
inductive RpA (G : Hp) (σ : St) : List V → List Ar → Prop
  | nil : RpA G σ [] []
  | val {v : V} {d : D} {vs : List V} {xs : List Ar} : Rp cf.K cf.cl G v d → RpA G σ vs xs → RpA G σ (v :: vs) (.inl d :: xs)
  | own {v : V} {i : Nat} {vs : List V} {xs : List Ar} : σ[i]? = some (some v) → RpA G σ vs xs → RpA G σ (v :: vs) (.inr i :: xs)
def γA (a : AA) : TA := fun σ H Q => ∃ (M : Fx) (G : Hp) (ρ : Ev) (P : List Ar → Ev → Prop) (X : XP), Rs cf M G H σ ρ ∧ (∀ xs ρ' vs G' H', Same G G' → Rs cf M G' H' σ ρ' → RpA cf G' σ vs xs → P xs ρ' → Q vs H') ∧ XW cf W M G σ X ∧ a ρ P X
/-- what is wished behind a statement -/
structure QS (M : Fx) (G : Hp) (A : AK) (Dn : Ends) : Prop where
  nx : ∀ σ ρ G' H', Same G G' → Rs cf M G' H' σ ρ → A.nx ρ → Dn.nx σ H'
  rt : ∀ σ ρ G' H' v d, Same G G' → Rs cf M G' H' σ ρ → Rp cf.K cf.cl G' v d → A.rt d ρ → Dn.rt v H'
  bk : ∀ σ ρ G' H', Same G G' → Rs cf M G' H' σ ρ → A.bk ρ → Dn.bk σ H'
  ct : ∀ σ ρ G' H', Same G G' → Rs cf M G' H' σ ρ → A.ct ρ → Dn.ct σ H'
  ex : ∀ σ, XW cf W M G σ A.ex
def γS (a : AS) : TS := fun Dn σ H => ∃ (M : Fx) (G : Hp) (ρ : Ev) (A : AK), Rs cf M G H σ ρ ∧ QS cf W M G A Dn ∧ a A ρ
def γG (g : AG) : TG := fun x σ H k => ∃ (M : Fx) (G : Hp) (ρ : Ev) (d : D) (P : Ev → Prop), Rs cf M G H σ ρ ∧ Rp cf.K cf.cl G x d ∧ (∀ σ' ρ' G' H', Same G G' → Rs cf M G' H' σ' ρ' → P ρ' → k σ' H') ∧ g d ρ P
end
theorem RpA.up {cf : Cf} {G G' : Hp} {σ : St} {vs : List V} {xs : List Ar} (s : Same G G') (h : RpA cf G σ vs xs) : RpA cf G' σ vs xs := by
  induction h with
  | nil => exact .nil
  | val a _ ih => exact .val (a.up s) ih
  | own a _ ih => exact .own a ih
section
variable {X : Cx} {cf : Cf} {W : WX}
theorem QE.up {M : Fx} {G G' : Hp} {σ : St} {P : D → Ev → Prop} {Q : VK} (h : QE cf M G σ P Q) (s : Same G G') : QE cf M G' σ P Q := fun d ρ v G2 H2 s1 => h d ρ v G2 H2 (s.trans s1)
theorem QS.up {M : Fx} {G G' : Hp} {A : AK} {Dn : Ends} (h : QS cf W M G A Dn) (s : Same G G') : QS cf W M G' A Dn :=
  ⟨fun σ ρ G2 H2 s1 => h.nx σ ρ G2 H2 (s.trans s1), fun σ ρ G2 H2 v d s1 => h.rt σ ρ G2 H2 v d (s.trans s1), fun σ ρ G2 H2 s1 => h.bk σ ρ G2 H2 (s.trans s1), fun σ ρ G2 H2 s1 => h.ct σ ρ G2 H2 (s.trans s1), fun σ => (h.ex σ).up s⟩
theorem PE.imp {e : Expr} {t t' : TE} (h : PE X e t) (i : ∀ σ H Q, t' σ H Q → t σ H Q) : PE X e t' := ⟨fun pins s σ H Q I q => h.run pins s σ H Q I (i σ H Q q)⟩
theorem PT.imp {e : Expr} {t t' : TT} (h : PT X e t) (i : ∀ σ H Q, t' σ H Q → t σ H Q) : PT X e t' := ⟨fun pins s σ H Q I q => h.run pins s σ H Q I (i σ H Q q)⟩
theorem PW.imp {e : Expr} {t t' : TT} (h : PW X e t) (i : ∀ σ H Q, t' σ H Q → t σ H Q) : PW X e t' := ⟨fun w pins s σ H Q I q => h.run w pins s σ H Q I (i σ H Q q)⟩
theorem PA.imp {e : List Expr} {t t' : TA} (h : PA X e t) (i : ∀ σ H Q, t' σ H Q → t σ H Q) : PA X e t' := ⟨fun p pins s σ H Q I q => h.run p pins s σ H Q I (i σ H Q q)⟩
theorem PS.imp {e : Stmt} {t t' : TS} (h : PS X e t) (i : ∀ Dn σ H, t' Dn σ H → t Dn σ H) : PS X e t' := ⟨fun pins s σ H Q I q => h.run pins s σ H Q I (i Q σ H q)⟩
theorem PSs.imp {e : List Stmt} {t t' : TS} (h : PSs X e t) (i : ∀ Dn σ H, t' Dn σ H → t Dn σ H) : PSs X e t' := ⟨fun pins s σ H Q I q => h.run pins s σ H Q I (i Q σ H q)⟩
abbrev Ee (X : Cx) (cf : Cf) (W : WX) (e : Expr) (a : AE) : Prop := PE X e (γE cf W a)
abbrev Et (X : Cx) (cf : Cf) (W : WX) (e : Expr) (a : AT) : Prop := PT X e (γT cf W a)
abbrev Ew (X : Cx) (cf : Cf) (W : WX) (e : Expr) (a : AT) : Prop := PW X e (γT cf W a)
abbrev Ea (X : Cx) (cf : Cf) (W : WX) (es : List Expr) (a : AA) : Prop := PA X es (γA cf W a)
abbrev Es (X : Cx) (cf : Cf) (W : WX) (st : Stmt) (a : AS) : Prop := PS X st (γS cf W a)
abbrev Eb (X : Cx) (cf : Cf) (W : WX) (st : List Stmt) (a : AS) : Prop := PSs X st (γS cf W a)
abbrev Eg (X : Cx) (cf : Cf) (e : Expr) (g : AG) : Prop := PG X e (γG cf g)
/-! ### names, constants -/
def aV (i : Nat) : AE := fun ρ P _ => match sl ρ i with
  | some d => P d ρ
  | none => False
theorem e_var {i : Nat} {e : Expr} (h : PE X e (tVar i)) (hi : i ∉ cf.O) : Ee X cf W e (aV i) := PE.imp h fun σ H Q ⟨M, G, ρ, P, Xp, R, q, _, a⟩ => by
  unfold aV at a
  cases e : sl ρ i with
  | none => rw [e] at a; exact a.elim
  | some d =>
    rw [e] at a
    obtain ⟨v, h1, h2⟩ := R.imm i d hi e
    exact ⟨v, h1, q d ρ v G H (Same.refl _) R h2 a⟩
/-- a thing of one's own is handed on: it is one's own no longer -/
def aM (i : Nat) : AE := fun ρ P _ => match sl ρ i with
  | some d => P d (ρ.set i none)
  | none => False
theorem e_move {i : Nat} {e : Expr} (h : PE X e (tVar i)) (hi : i ∈ cf.O) : Ee X cf W e (aM i) := PE.imp h fun σ H Q ⟨M, G, ρ, P, Xp, R, q, _, a⟩ => by
  unfold aM at a
  cases e : sl ρ i with
  | none => rw [e] at a; exact a.elim
  | some d =>
    rw [e] at a
    obtain ⟨b, G', h1, s, R', r⟩ := R.frz hi e
    exact ⟨_, h1, q d _ _ G' H s R' r a⟩
def aC (d : D) : AE := fun ρ P _ => P d ρ
theorem e_const {e : Expr} {v : V} {d : D} (h : PE X e (tC v)) (r : ∀ G, Rp cf.K cf.cl G v d) : Ee X cf W e (aC d) := PE.imp h fun σ H Q ⟨M, G, ρ, P, Xp, R, q, _, a⟩ => q d ρ v G H (Same.refl _) R (r G) a
theorem e_int {i j pos} : Ee X cf W (.Constant (.int i) j pos) (aC (.int i)) := e_const pe_int fun _ => .int i
theorem e_bl {i j pos} : Ee X cf W (.Constant (.bool i) j pos) (aC (.bl i)) := e_const pe_bl fun _ => .bl i
theorem e_str {i j pos} : Ee X cf W (.Constant (.str i) j pos) (aC (.str i)) := e_const pe_str fun _ => .str i
theorem e_non {j pos} : Ee X cf W (.Constant .none j pos) (aC .non) := e_const pe_non fun _ => .non
/-! ### operators: a rule over values r, its plain form f -/
def RlO (cf : Cf) (r : R2) (f : D → D → (D → Prop) → Prop) : Prop := ∀ (M : Fx) (G H : Hp) (σ : St) (ρ : Ev) (x y : V) (dx dy : D) (Q : VK) (P : D → Prop), Rs cf M G H σ ρ → Rp cf.K cf.cl G x dx → Rp cf.K cf.cl G y dy →
  (∀ d v G' H', Same G G' → Rs cf M G' H' σ ρ → Rp cf.K cf.cl G' v d → P d → Q v H') → f dx dy P → r x y H Q
def aO (f : D → D → (D → Prop) → Prop) (a b : AE) : AE := fun ρ P X => a ρ (fun x ρ1 => b ρ1 (fun y ρ2 => f x y fun d => P d ρ2) X) X
theorem two {r : R2} {f : D → D → (D → Prop) → Prop} {a b : AE} (hr : RlO cf r f) : ∀ σ H Q, γE cf W (aO f a b) σ H Q → tOp r (γE cf W a) (γE cf W b) σ H Q := by
  rintro σ H Q ⟨M, G, ρ, P, Xp, R, q, w, h⟩
  refine ⟨M, G, ρ, _, Xp, R, fun x ρ1 v G1 H1 s1 R1 rx h1 => ?_, w, h⟩
  refine ⟨M, G1, ρ1, _, Xp, R1, fun y ρ2 u G2 H2 s2 R2 ry h2 => ?_, w.up s1, h1⟩
  exact hr M G2 H2 σ ρ2 v u x y Q _ R2 (rx.up s2) ry (fun d z G3 H3 s3 R3 rz p => q d ρ2 z G3 H3 ((s1.trans s2).trans s3) R3 rz p) h2
theorem e_op {op : Operator} {r : R2} {f : D → D → (D → Prop) → Prop} {x y : Expr} {a b : AE} {pos : Pos} (ho : OpR X (binaryOp op) r) (hr : RlO cf r f) (ha : Ee X cf W x a) (hb : Ee X cf W y b) : Ee X cf W (.BinOp x op y pos) (aO f a b) := PE.imp (pe_op ho ha hb) (two hr)
theorem e_cmp {op : CmpOp} {r : R2} {f : D → D → (D → Prop) → Prop} {x y : Expr} {a b : AE} {pos : Pos} (ho : OpR X (compareOp op) r) (hr : RlO cf r f) (ha : Ee X cf W x a) (hb : Ee X cf W y b) (hm : behindInMarks op y = false := by rfl) : Ee X cf W (.Compare x [op] [y] pos) (aO f a b) := PE.imp (pe_cmpR ho ha hb hm) (two hr)
theorem e_ix {r : R2} {f : D → D → (D → Prop) → Prop} {x y : Expr} {a b : AE} {pos : Pos} (ho : IxR X r) (hr : RlO cf r f) (ha : Ee X cf W x a) (hb : Ee X cf W y b) (hs : PlainIx y := by exact fun _ _ => rfl) : Ee X cf W (.Subscript x y pos) (aO f a b) := PE.imp (pe_ix ho ha hb hs) (two hr)
/-- a truth as a test -/
def aB (a : AE) : AT := fun ρ P X => a ρ (fun d ρ1 => match d with
  | .bl b => P b ρ1
  | _ => False) X
theorem toB {a : AE} : ∀ σ H Q, γT cf W (aB a) σ H Q → (fun σ H Q => γE cf W a σ H fun x H1 => ∃ c, x = .bl c ∧ Q c H1) σ H Q := by
  rintro σ H Q ⟨M, G, ρ, P, Xp, R, q, w, h⟩
  refine ⟨M, G, ρ, _, Xp, R, fun x ρ1 v G1 H1 s1 R1 rx h1 => ?_, w, h⟩
  cases rx with
  | bl b => exact ⟨b, rfl, q b ρ1 G1 H1 s1 R1 h1⟩
  | _ => exact h1.elim
theorem t_val {e : Expr} {a : AE} (h : Ee X cf W e a) (he : ∀ whole, isTrue e X.env whole = (do let v ← whole; standAt e.pos; holding [v] (truthy v)) := by intro _; rfl) : Et X cf W e (aB a) := PT.imp (pt_val h he) toB
theorem t_cmp {op : CmpOp} {r : R2} {f : D → D → (D → Prop) → Prop} {x y : Expr} {a b : AE} {pos : Pos} (ho : OpR X (compareOp op) r) (hr : RlO cf r f) (ha : Ee X cf W x a) (hb : Ee X cf W y b) (hm : behindInMarks op y = false := by rfl) : Et X cf W (.Compare x [op] [y] pos) (aB (aO f a b)) :=
  PT.imp (pt_cmpR ho ha hb hm) fun σ H Q h => two hr σ H _ (toB σ H Q h)
def aTAnd (a b : AT) : AT := fun ρ P X => a ρ (fun c ρ1 => if c = true then b ρ1 P X else P false ρ1) X
def aTOr (a b : AT) : AT := fun ρ P X => a ρ (fun c ρ1 => if c = true then P true ρ1 else b ρ1 P X) X
def aTNot (a : AT) : AT := fun ρ P X => a ρ (fun c ρ1 => P (!c) ρ1) X
theorem w_and1 {x : Expr} {a : AT} {pos : Pos} (ha : Et X cf W x a) : Ew X cf W (.BoolOp .And [x] pos) a := pw_and1 ha
theorem w_or1 {x : Expr} {a : AT} {pos : Pos} (ha : Et X cf W x a) : Ew X cf W (.BoolOp .Or [x] pos) a := pw_or1 ha
theorem w_and {x y : Expr} {rest : List Expr} {a b : AT} {pos : Pos} (ha : Et X cf W x a) (hb : Ew X cf W (.BoolOp .And (y :: rest) pos) b) : Ew X cf W (.BoolOp .And (x :: y :: rest) pos) (aTAnd a b) := PW.imp (pw_and ha hb) fun σ H Q ⟨M, G, ρ, P, Xp, R, q, w, h⟩ => by
  refine ⟨M, G, ρ, _, Xp, R, fun c ρ1 G1 H1 s1 R1 h1 => ?_, w, h⟩
  cases c with
  | true => exact ⟨M, G1, ρ1, P, Xp, R1, fun b ρ2 G2 H2 s2 => q b ρ2 G2 H2 (s1.trans s2), w.up s1, h1⟩
  | false => exact q false ρ1 G1 H1 s1 R1 h1
theorem w_or {x y : Expr} {rest : List Expr} {a b : AT} {pos : Pos} (ha : Et X cf W x a) (hb : Ew X cf W (.BoolOp .Or (y :: rest) pos) b) : Ew X cf W (.BoolOp .Or (x :: y :: rest) pos) (aTOr a b) := PW.imp (pw_or ha hb) fun σ H Q ⟨M, G, ρ, P, Xp, R, q, w, h⟩ => by
  refine ⟨M, G, ρ, _, Xp, R, fun c ρ1 G1 H1 s1 R1 h1 => ?_, w, h⟩
  cases c with
  | false => exact ⟨M, G1, ρ1, P, Xp, R1, fun b ρ2 G2 H2 s2 => q b ρ2 G2 H2 (s1.trans s2), w.up s1, h1⟩
  | true => exact q true ρ1 G1 H1 s1 R1 h1
theorem t_w {x : Expr} {a : AT} (h : Ew X cf W x a) : Et X cf W x a := PW.pt h
theorem t_not {x : Expr} {a : AT} {pos : Pos} (ha : Et X cf W x a) : Et X cf W (.UnaryOp .Not x pos) (aTNot a) := PT.imp (pt_not ha) fun σ H Q ⟨M, G, ρ, P, Xp, R, q, w, h⟩ =>
  ⟨M, G, ρ, _, Xp, R, fun c ρ1 G1 H1 s1 R1 h1 => q (!c) ρ1 G1 H1 s1 R1 h1, w, h⟩
/-! ### and, or, not as values -/
def aAnd (a b : AE) : AE := fun ρ P X => a ρ (fun d ρ1 => match d with
  | .bl c => if c = true then b ρ1 P X else P (.bl false) ρ1
  | _ => False) X
def aOr (a b : AE) : AE := fun ρ P X => a ρ (fun d ρ1 => match d with
  | .bl c => if c = true then P (.bl true) ρ1 else b ρ1 P X
  | _ => False) X
def aNot (a : AE) : AE := fun ρ P X => a ρ (fun d ρ1 => match d with
  | .bl c => P (.bl (!c)) ρ1
  | _ => False) X
theorem e_one {op} {x : Expr} {a : AE} {pos : Pos} (h : Ee X cf W x a) : Ee X cf W (.BoolOp op [x] pos) a := pe_one h
theorem e_and {x y : Expr} {rest : List Expr} {a b : AE} {pos : Pos} (ha : Ee X cf W x a) (hb : Ee X cf W (.BoolOp .And (y :: rest) pos) b) : Ee X cf W (.BoolOp .And (x :: y :: rest) pos) (aAnd a b) := PE.imp (pe_and ha hb) fun σ H Q ⟨M, G, ρ, P, Xp, R, q, w, h⟩ => by
  refine ⟨M, G, ρ, _, Xp, R, fun d ρ1 v G1 H1 s1 R1 rd h1 => ?_, w, h⟩
  cases rd with
  | bl c =>
    refine ⟨c, rfl, ?_⟩
    cases c with
    | true => exact ⟨M, G1, ρ1, P, Xp, R1, q.up s1, w.up s1, h1⟩
    | false => exact q (.bl false) ρ1 _ G1 H1 s1 R1 (.bl _) h1
  | _ => exact h1.elim
theorem e_or {x y : Expr} {rest : List Expr} {a b : AE} {pos : Pos} (ha : Ee X cf W x a) (hb : Ee X cf W (.BoolOp .Or (y :: rest) pos) b) : Ee X cf W (.BoolOp .Or (x :: y :: rest) pos) (aOr a b) := PE.imp (pe_or ha hb) fun σ H Q ⟨M, G, ρ, P, Xp, R, q, w, h⟩ => by
  refine ⟨M, G, ρ, _, Xp, R, fun d ρ1 v G1 H1 s1 R1 rd h1 => ?_, w, h⟩
  cases rd with
  | bl c =>
    refine ⟨c, rfl, ?_⟩
    cases c with
    | false => exact ⟨M, G1, ρ1, P, Xp, R1, q.up s1, w.up s1, h1⟩
    | true => exact q (.bl true) ρ1 _ G1 H1 s1 R1 (.bl _) h1
  | _ => exact h1.elim
theorem e_not {x : Expr} {a : AE} {pos : Pos} (ha : Ee X cf W x a) : Ee X cf W (.UnaryOp .Not x pos) (aNot a) := PE.imp (pe_not ha) fun σ H Q ⟨M, G, ρ, P, Xp, R, q, w, h⟩ => by
  refine ⟨M, G, ρ, _, Xp, R, fun d ρ1 v G1 H1 s1 R1 rd h1 => ?_, w, h⟩
  cases rd with
  | bl c => exact ⟨c, rfl, q _ ρ1 _ G1 H1 s1 R1 (.bl _) h1⟩
  | _ => exact h1.elim
def aIf (c : AT) (a b : AE) : AE := fun ρ P X => c ρ (fun k ρ1 => if k = true then a ρ1 P X else b ρ1 P X) X
theorem e_if {c x y : Expr} {k : AT} {a b : AE} {pos : Pos} (hc : Et X cf W c k) (ha : Ee X cf W x a) (hb : Ee X cf W y b) : Ee X cf W (.IfExp c x y pos) (aIf k a b) := PE.imp (pe_ifExp hc ha hb) fun σ H Q ⟨M, G, ρ, P, Xp, R, q, w, h⟩ => by
  refine ⟨M, G, ρ, _, Xp, R, fun k ρ1 G1 H1 s1 R1 h1 => ?_, w, h⟩
  cases k with
  | true => exact ⟨M, G1, ρ1, P, Xp, R1, q.up s1, w.up s1, h1⟩
  | false => exact ⟨M, G1, ρ1, P, Xp, R1, q.up s1, w.up s1, h1⟩
def aU (f : D → (D → Prop) → Prop) (a : AE) : AE := fun ρ P X => a ρ (fun x ρ1 => f x fun d => P d ρ1) X
def RlU (cf : Cf) (r : V → Hp → VK → Prop) (f : D → (D → Prop) → Prop) : Prop := ∀ (M : Fx) (G H : Hp) (σ : St) (ρ : Ev) (x : V) (dx : D) (Q : VK) (P : D → Prop), Rs cf M G H σ ρ → Rp cf.K cf.cl G x dx →
  (∀ d v G' H', Same G G' → Rs cf M G' H' σ ρ → Rp cf.K cf.cl G' v d → P d → Q v H') → f dx P → r x H Q
theorem one {r : V → Hp → VK → Prop} {f : D → (D → Prop) → Prop} {a : AE} (hr : RlU cf r f) : ∀ σ H Q, γE cf W (aU f a) σ H Q → (fun σ H Q => γE cf W a σ H fun x H1 => r x H1 Q) σ H Q := by
  rintro σ H Q ⟨M, G, ρ, P, Xp, R, q, w, h⟩
  refine ⟨M, G, ρ, _, Xp, R, fun x ρ1 v G1 H1 s1 R1 rx h1 => ?_, w, h⟩
  exact hr M G1 H1 σ ρ1 v x Q _ R1 rx (fun d z G3 H3 s3 R3 rz p => q d ρ1 z G3 H3 (s1.trans s3) R3 rz p) h1
theorem e_un {op : UnaryOp} {r : V → Hp → VK → Prop} {f : D → (D → Prop) → Prop} {x : Expr} {a : AE} {pos : Pos} (ho : UnR X (unaryOp op) r) (hr : RlU cf r f) (ha : Ee X cf W x a) : Ee X cf W (.UnaryOp op x pos) (aU f a) := PE.imp (pe_un ho ha) (one hr)
/-! ### arguments, displays -/
def aNil : AA := fun ρ P _ => P [] ρ
def aCons (a : AE) (r : AA) : AA := fun ρ P X => a ρ (fun d ρ1 => r ρ1 (fun ds ρ2 => P (.inl d :: ds) ρ2) X) X
def aOwn (i : Nat) (r : AA) : AA := fun ρ P X => match sl ρ i with
  | some _ => r ρ (fun ds ρ2 => P (.inr i :: ds) ρ2) X
  | none => False
theorem a_nil : Ea X cf W [] aNil := PA.imp pa_nil fun σ H Q ⟨M, G, ρ, P, Xp, R, q, _, a⟩ => q [] ρ [] G H (Same.refl _) R .nil a
theorem a_cons {e : Expr} {es : List Expr} {a : AE} {r : AA} (ha : Ee X cf W e a) (hr : Ea X cf W es r) (hs : starEach (e :: es) X.env = (false, eval e X.env) :: starEach es X.env := by rfl) : Ea X cf W (e :: es) (aCons a r) := PA.imp (pa_cons ha hr hs) fun σ H Q ⟨M, G, ρ, P, Xp, R, q, w, h⟩ => by
  refine ⟨M, G, ρ, _, Xp, R, fun d ρ1 v G1 H1 s1 R1 rd h1 => ?_, w, h⟩
  refine ⟨M, G1, ρ1, _, Xp, R1, fun ds ρ2 vs G2 H2 s2 R2 rds h2 => ?_, w.up s1, h1⟩
  exact q _ ρ2 _ G2 H2 (s1.trans s2) R2 (.val (rd.up s2) rds) h2
theorem a_own {i : Nat} {e : Expr} {es : List Expr} {r : AA} (ha : PE X e (tVar i)) (hi : i ∈ cf.O) (hr : Ea X cf W es r) (hs : starEach (e :: es) X.env = (false, eval e X.env) :: starEach es X.env := by rfl) : Ea X cf W (e :: es) (aOwn i r) := PA.imp (pa_cons ha hr hs) fun σ H Q ⟨M, G, ρ, P, Xp, R, q, w, h⟩ => by
  unfold aOwn at h
  cases e : sl ρ i with
  | none => rw [e] at h; exact h.elim
  | some d =>
    rw [e] at h
    obtain ⟨b, h1, _⟩ := R.own i d hi e
    refine ⟨_, h1, M, G, ρ, _, Xp, R, fun ds ρ2 vs G2 H2 s2 R2 rds h2 => ?_, w, h⟩
    exact q _ ρ2 _ G2 H2 s2 R2 (.own h1 rds) h2
/-- all arguments are values -/
def vals : List Ar → Option (List D)
  | [] => some []
  | .inl d :: r => (vals r).map (d :: ·)
  | .inr _ :: _ => none
theorem vals_of {G : Hp} {σ : St} : ∀ {vs : List V} {xs : List Ar} {ds : List D}, RpA cf G σ vs xs → vals xs = some ds → Rps cf.K cf.cl G vs ds
  | _, _, _, .nil, h => by cases h; exact .nil
  | _, _, _, .val (xs := xs) a r, h => by
    unfold vals at h
    cases e : vals xs with
    | none => rw [e] at h; cases h
    | some es => rw [e] at h; cases h; exact .cons a (vals_of r e)
  | _, _, _, .own a r, h => by cases h
def withV (xs : List Ar) (k : List D → Prop) : Prop := match vals xs with
  | some ds => k ds
  | none => False
theorem withV_of {xs : List Ar} {k : List D → Prop} (h : withV xs k) : ∃ ds, vals xs = some ds ∧ k ds := by
  unfold withV at h
  cases e : vals xs with
  | none => rw [e] at h; exact h.elim
  | some ds => rw [e] at h; exact ⟨ds, rfl, h⟩
def aTup (a : AA) : AE := fun ρ P X => a ρ (fun xs ρ1 => withV xs fun ds => ds.length ≤ sizeLine ∧ P (.tup ds) ρ1) X
def aLst (a : AA) : AE := fun ρ P X => a ρ (fun xs ρ1 => withV xs fun ds => ds.length ≤ sizeLine ∧ P (.lst ds) ρ1) X
theorem e_tup {es : List Expr} {a : AA} {x1} {pos : Pos} (h : Ea X cf W es a) : Ee X cf W (.Tuple es x1 pos) (aTup a) := PE.imp (pe_tup h) fun σ H Q ⟨M, G, ρ, P, Xp, R, q, w, h⟩ => by
  refine ⟨M, G, ρ, _, Xp, R, fun xs ρ1 vs G1 H1 s1 R1 ra h1 => ?_, w, h⟩
  obtain ⟨ds, e, hl, h1⟩ := withV_of h1
  have r := vals_of ra e
  refine ⟨by rw [r.len]; exact hl, fun p np => ?_⟩
  obtain ⟨R2, s2, gp⟩ := R1.new (o := .tup vs) np
  exact q _ ρ1 _ _ _ (s1.trans s2) R2 (.tup (ofT gp) (r.up s2)) h1
theorem e_lst {es : List Expr} {a : AA} {pos : Pos} (h : Ea X cf W es a) : Ee X cf W (.List es pos) (aLst a) := PE.imp (pe_lst h) fun σ H Q ⟨M, G, ρ, P, Xp, R, q, w, h⟩ => by
  refine ⟨M, G, ρ, _, Xp, R, fun xs ρ1 vs G1 H1 s1 R1 ra h1 => ?_, w, h⟩
  obtain ⟨ds, e, hl, h1⟩ := withV_of h1
  have r := vals_of ra e
  refine ⟨by rw [r.len]; exact hl, fun p np => ?_⟩
  obtain ⟨R2, s2, gp⟩ := R1.new (o := .lst vs) np
  exact q _ ρ1 _ _ _ (s1.trans s2) R2 (.lst gp (r.up s2)) h1
/-! ### built-in functions: a rule over values r, its plain form f -/
def RlC (cf : Cf) (r : List V → Hp → VK → Prop) (f : List D → (D → Prop) → Prop) : Prop := ∀ (M : Fx) (G H : Hp) (σ : St) (ρ : Ev) (xs : List V) (ds : List D) (Q : VK) (P : D → Prop), Rs cf M G H σ ρ → Rps cf.K cf.cl G xs ds →
  (∀ d v G' H', Same G G' → Rs cf M G' H' σ ρ → Rp cf.K cf.cl G' v d → P d → Q v H') → f ds P → r xs H Q
def aF (f : List D → (D → Prop) → Prop) (a : AA) : AE := fun ρ P X => a ρ (fun xs ρ1 => withV xs fun ds => f ds fun d => P d ρ1) X
theorem many {r : List V → Hp → VK → Prop} {f : List D → (D → Prop) → Prop} {a : AA} (hr : RlC cf r f) : ∀ σ H Q, γE cf W (aF f a) σ H Q → (fun σ H Q => γA cf W a σ H fun vs H1 => r vs H1 Q) σ H Q := by
  rintro σ H Q ⟨M, G, ρ, P, Xp, R, q, w, h⟩
  refine ⟨M, G, ρ, _, Xp, R, fun xs ρ1 vs G1 H1 s1 R1 ra h1 => ?_, w, h⟩
  obtain ⟨ds, e, h1⟩ := withV_of h1
  exact hr M G1 H1 σ ρ1 vs ds Q _ R1 (vals_of ra e) (fun d z G3 H3 s3 R3 rz p => q d ρ1 z G3 H3 (s1.trans s3) R3 rz p) h1
theorem e_callB {id : String} {x : Str} {e : Expr} {es : List Expr} {p pos : Pos} {r : List V → Hp → VK → Prop} {f : List D → (D → Prop) → Prop} {a : AA} (hc : CallR X (.builtin id) r) (hr : RlC cf r f) (hg : Gl X x) (hm : X.mg x = none) (hv : bootBuiltins x = some (.builtin id)) (ha : Ea X cf W (e :: es) a) (hn : x ≠ "__name__" := by decide) (hdb : (x == ("__debug__" : Str)) = false := by decide)
    (he : starEach (e :: es) X.env = (false, eval e X.env) :: starEach es X.env := by rfl) (hpl : (backTo pos (starEach es X.env)).any (·.1) = false := by rfl) : Ee X cf W (.Call (.Name x p) (e :: es) [] pos) (aF f a) := PE.imp (pe_callB hc hg hm hv ha hn hdb he hpl) (many hr)
theorem e_callTy {T : String} {x : Str} {e : Expr} {es : List Expr} {p pos : Pos} {r : List V → Hp → VK → Prop} {f : List D → (D → Prop) → Prop} {a : AA} (hc : CallR X (.type T) r) (hr : RlC cf r f) (hg : Gl X x) (hm : X.mg x = none) (hv : bootBuiltins x = some (.type T)) (ha : Ea X cf W (e :: es) a) (hn : x ≠ "__name__" := by decide) (hdb : (x == ("__debug__" : Str)) = false := by decide)
    (he : starEach (e :: es) X.env = (false, eval e X.env) :: starEach es X.env := by rfl) (hpl : (backTo pos (starEach es X.env)).any (·.1) = false := by rfl) : Ee X cf W (.Call (.Name x p) (e :: es) [] pos) (aF f a) := PE.imp (pe_callTy hc hg hm hv ha hn hdb he hpl) (many hr)
/-! ### statements -/
def sNext : AS := fun A ρ => A.nx ρ
def sSeq (s t : AS) : AS := fun A ρ => s { A with nx := t A } ρ
theorem b_nil : Eb X cf W [] sNext := PSs.imp pss_nil fun Dn σ H ⟨M, G, ρ, A, R, q, h⟩ => q.nx σ ρ G H (Same.refl _) R h
theorem b_one {st : Stmt} {s : AS} (h : Es X cf W st s) : Eb X cf W [st] s := pss_one h
theorem b_cons {st : Stmt} {rest : List Stmt} {s t : AS} (h : Es X cf W st s) (ht : Eb X cf W rest t) : Eb X cf W (st :: rest) (sSeq s t) := PSs.imp (pss_cons h ht) fun Dn σ H ⟨M, G, ρ, A, R, q, h⟩ => by
  refine ⟨M, G, ρ, { A with nx := t A }, R, ⟨fun σ1 ρ1 G1 H1 s1 R1 h1 => ?_, q.rt, q.bk, q.ct, q.ex⟩, h⟩
  exact ⟨M, G1, ρ1, A, R1, q.up s1, h1⟩
def sSet (i : Nat) (a : AE) : AS := fun A ρ => a ρ (fun d ρ1 => A.nx (ρ1.set i (some d))) A.ex
def gV (i : Nat) : AG := fun d ρ k => k (ρ.set i (some d))
theorem g_name {i : Nat} {e : Expr} (h : PG X e (gName i)) (hi : i ∉ cf.O) : Eg X cf e (gV i) := ⟨fun pins s σ H x u k I r ⟨M, G, ρ, d, P, R, rx, q, hk⟩ => h.run pins s σ H x u k I r (q _ _ G H (Same.refl _) (R.set hi rx) hk)⟩
theorem asg {a : AE} {g : AG} : ∀ Dn σ H, γS cf W (fun A ρ => a ρ (fun d ρ1 => g d ρ1 A.nx) A.ex) Dn σ H → tAsg (γE cf W a) (γG cf g) Dn σ H := by
  rintro Dn σ H ⟨M, G, ρ, A, R, q, h⟩
  refine ⟨M, G, ρ, _, A.ex, R, fun d ρ1 v G1 H1 s1 R1 rd h1 => ?_, q.ex σ, h⟩
  exact ⟨M, G1, ρ1, d, A.nx, R1, rd, fun σ2 ρ2 G2 H2 s2 R2 h2 => q.nx σ2 ρ2 G2 H2 (s1.trans s2) R2 h2, h1⟩
def sAsg (g : AG) (a : AE) : AS := fun A ρ => a ρ (fun d ρ1 => g d ρ1 A.nx) A.ex
theorem s_asg {tg e : Expr} {a : AE} {g : AG} {pos : Pos} (he : Ee X cf W e a) (hg : Eg X cf tg g) (h : PE X e (γE cf W a) → PG X tg (γG cf g) → PS X (.Assign [tg] e pos) (tAsg (γE cf W a) (γG cf g))) : Es X cf W (.Assign [tg] e pos) (sAsg g a) := PS.imp (h he hg) asg
theorem s_set {i : Nat} {x : Str} {e : Expr} {a : AE} {pos pos' : Pos} (hN : X.N.Nodup) (hi : X.N[i]? = some x) (hx : Loc X.env.scope x) (hO : i ∉ cf.O) (he : Ee X cf W e a) (hs : swapsWith e (some (.Name x pos')) pos.line X.env = pure false := by rfl) (hf : X.fn x = true ∨ X.env.scope.names.lookup x = some .local := by first | exact .inl rfl | exact .inr rfl | assumption) :
    Es X cf W (.Assign [.Name x pos'] e pos) (sSet i a) := PS.imp (ps_set hN hi hx he hs hf) fun Dn σ H ⟨M, G, ρ, A, R, q, h⟩ => by
  refine ⟨M, G, ρ, _, A.ex, R, fun d ρ1 v G1 H1 s1 R1 rd h1 => ?_, q.ex σ, h⟩
  exact q.nx _ _ G1 H1 s1 (R1.set hO rd) h1
def sExpr (a : AE) : AS := fun A ρ => a ρ (fun _ ρ1 => A.nx ρ1) A.ex
theorem s_expr {e : Expr} {a : AE} {pos : Pos} (he : Ee X cf W e a) (hs : swapsWith e none pos.line X.env = pure false := by rfl) : Es X cf W (.Expr e pos) (sExpr a) := PS.imp (ps_expr he hs) fun Dn σ H ⟨M, G, ρ, A, R, q, h⟩ =>
  ⟨M, G, ρ, _, A.ex, R, fun d ρ1 v G1 H1 s1 R1 rd h1 => q.nx _ _ G1 H1 s1 R1 h1, q.ex σ, h⟩
def sRet (a : AE) : AS := fun A ρ => a ρ A.rt A.ex
theorem s_ret {e : Expr} {a : AE} {pos : Pos} (he : Ee X cf W e a) : Es X cf W (.Return (some e) pos) (sRet a) := PS.imp (ps_ret he) fun Dn σ H ⟨M, G, ρ, A, R, q, h⟩ =>
  ⟨M, G, ρ, _, A.ex, R, fun d ρ1 v G1 H1 s1 R1 rd h1 => q.rt σ ρ1 G1 H1 v d s1 R1 rd h1, q.ex σ, h⟩
def sRetN : AS := fun A ρ => A.rt .non ρ
theorem s_retN {pos : Pos} : Es X cf W (.Return none pos) sRetN := PS.imp ps_retN fun Dn σ H ⟨M, G, ρ, A, R, q, h⟩ => q.rt σ ρ G H .non .non (Same.refl _) R .non h
def sIf (c : AT) (s t : AS) : AS := fun A ρ => c ρ (fun b ρ1 => if b = true then s A ρ1 else t A ρ1) A.ex
theorem s_if {c : Expr} {x y : List Stmt} {k : AT} {s t : AS} {pos : Pos} (hc : Et X cf W c k) (hs : Eb X cf W x s) (ht : Eb X cf W y t) : Es X cf W (.If c x y pos) (sIf k s t) := PS.imp (ps_if hc hs ht) fun Dn σ H ⟨M, G, ρ, A, R, q, h⟩ => by
  refine ⟨M, G, ρ, _, A.ex, R, fun b ρ1 G1 H1 s1 R1 h1 => ?_, q.ex σ, h⟩
  cases b with
  | true => exact ⟨M, G1, ρ1, A, R1, q.up s1, h1⟩
  | false => exact ⟨M, G1, ρ1, A, R1, q.up s1, h1⟩
def sBrk : AS := fun A ρ => A.bk ρ
def sCnt : AS := fun A ρ => A.ct ρ
theorem s_brk {st : Stmt} (h : PS X st tBreak) : Es X cf W st sBrk := PS.imp h fun Dn σ H ⟨M, G, ρ, A, R, q, h⟩ => q.bk σ ρ G H (Same.refl _) R h
theorem s_cnt {st : Stmt} (h : PS X st tCont) : Es X cf W st sCnt := PS.imp h fun Dn σ H ⟨M, G, ρ, A, R, q, h⟩ => q.ct σ ρ G H (Same.refl _) R h
theorem s_pass {st : Stmt} (h : PS X st tNext) : Es X cf W st sNext := PS.imp h fun Dn σ H ⟨M, G, ρ, A, R, q, h⟩ => q.nx σ ρ G H (Same.refl _) R h
end
end Al

/-! AL2: things walked, loops, comprehensions. -/
namespace Al
open PySem L2 Cr
abbrev AI := Ev → (List D → Ev → Prop) → XP → Prop
def NX : XP := fun _ => False
def W0 : WX := fun _ _ _ _ => False
/-- what an iterator hands out -/
def ItR (cf : Cf) (G : Hp) (J : It) (ds : List D) : Prop := ∀ (M : Fx) (G' H' : Hp) (σ : St) (ρ : Ev), Same G G' → Rs cf M G' H' σ ρ →
  (∀ i, i < ds.length → J.go i H' ∧ ∀ x H'', J.yld i H' x H'' → ∃ d G'', ds[i]? = some d ∧ Same G' G'' ∧ Rs cf M G'' H'' σ ρ ∧ Rp cf.K cf.cl G'' x d) ∧ J.stop ds.length H'
def γI (cf : Cf) (W : WX) (a : AI) : TI := fun σ H R => ∃ (M : Fx) (G : Hp) (ρ : Ev) (P : List D → Ev → Prop) (X : XP), Rs cf M G H σ ρ ∧ (∀ ds ρ' J G' H', Same G G' → Rs cf M G' H' σ ρ' → ItR cf G' J ds → P ds ρ' → R J H') ∧ XW cf W M G σ X ∧ a ρ P X
section
variable {X : Cx} {cf : Cf} {W : WX}
theorem PI.imp {tg e : Expr} {t t' : TI} (h : PI X tg e t) (i : ∀ σ H Q, t' σ H Q → t σ H Q) : PI X tg e t' := ⟨fun pins s σ H Q I q => h.run pins s σ H Q I (i σ H Q q)⟩
abbrev Ei (X : Cx) (cf : Cf) (W : WX) (tg e : Expr) (a : AI) : Prop := PI X tg e (γI cf W a)
theorem sqL_det {H : Hp} {K : PySem.W.Frag} {a : Addr} {xs ys : List V} (hx : H a = some (.lst xs)) : SqL K H a xs := ofL hx
theorem Itl_ok {G : Hp} {a : Addr} {vs : List V} {ds : List D} (h : G a = some (.lst vs)) (r : Rps cf.K cf.cl G vs ds) : ItR cf G (Itl cf.K a) ds := fun M G' H' σ ρ s R => by
  have hH : SqL cf.K H' a vs := sqL_up (s.trans R.same) h
  refine ⟨fun i hi => ?_, ⟨vs, hH, Nat.le_of_eq r.len⟩⟩
  have hv : i < vs.length := by rw [r.len]; exact hi
  refine ⟨⟨vs, vs[i], hH, by simp [hv]⟩, fun x H'' y => ?_⟩
  obtain ⟨e, y⟩ := y
  subst e
  obtain ⟨d, e1, e2⟩ := r.get (y vs hH)
  exact ⟨d, G', e1, Same.refl _, R, e2.up s⟩
theorem Itt_ok {G : Hp} {a : Addr} {vs : List V} {ds : List D} (h : SqT cf.K G a vs) (r : Rps cf.K cf.cl G vs ds) : ItR cf G (Itt cf.K a) ds := fun M G' H' σ ρ s R => by
  have hH : SqT cf.K H' a vs := Cr.Same.sqT (s.trans R.same) h
  refine ⟨fun i hi => ?_, ⟨vs, hH, Nat.le_of_eq r.len⟩⟩
  have hv : i < vs.length := by rw [r.len]; exact hi
  refine ⟨⟨vs, vs[i], hH, by simp [hv]⟩, fun x H'' y => ?_⟩
  obtain ⟨e, y⟩ := y
  subst e
  obtain ⟨d, e1, e2⟩ := r.get (y vs hH)
  exact ⟨d, G', e1, Same.refl _, R, e2.up s⟩
def iL (a : AE) : AI := fun ρ P X => a ρ (fun d ρ1 => match d with
  | .lst ds => P ds ρ1
  | _ => False) X
def iT (a : AE) : AI := fun ρ P X => a ρ (fun d ρ1 => match d with
  | .tup ds => P ds ρ1
  | _ => False) X
theorem i_list {tg l : Expr} {a : AE} (hl : Ee X cf W l a) (hK : X.K = cf.K := by rfl) : Ei X cf W tg l (iL a) := PI.imp (pi_list hl) fun σ H Q ⟨M, G, ρ, P, Xp, R, q, w, h⟩ => by
  refine ⟨M, G, ρ, _, Xp, R, fun d ρ1 v G1 H1 s1 R1 rd h1 => ?_, w, h⟩
  cases rd with
  | lst hs r => exact ⟨_, rfl, ⟨_, by rw [hK]; exact sqL_up R1.same hs⟩, by rw [hK]; exact q _ ρ1 _ G1 H1 s1 R1 (Itl_ok hs r) h1⟩
  | _ => exact h1.elim
theorem i_tup {tg l : Expr} {a : AE} (hl : Ee X cf W l a) (hK : X.K = cf.K := by rfl) : Ei X cf W tg l (iT a) := PI.imp (pi_tup hl) fun σ H Q ⟨M, G, ρ, P, Xp, R, q, w, h⟩ => by
  refine ⟨M, G, ρ, _, Xp, R, fun d ρ1 v G1 H1 s1 R1 rd h1 => ?_, w, h⟩
  cases rd with
  | tup hs r => exact ⟨_, rfl, ⟨_, by rw [hK]; exact Cr.Same.sqT R1.same hs⟩, by rw [hK]; exact q _ ρ1 _ G1 H1 s1 R1 (Itt_ok hs r) h1⟩
  | _ => exact h1.elim
/-- the numbers lo, lo + 1, .. -/
def rng (lo : Int) : Nat → List D
  | 0 => []
  | n + 1 => .int lo :: rng (lo + 1) n
theorem rng_len (lo : Int) (n : Nat) : (rng lo n).length = n := by
  induction n generalizing lo with
  | zero => rfl
  | succ n ih => simp [rng, ih]
theorem rng_get (lo : Int) (n i : Nat) (h : i < n) : (rng lo n)[i]? = some (.int (lo + i)) := by
  induction n generalizing lo i with
  | zero => omega
  | succ n ih =>
    cases i with
    | zero => simp [rng]
    | succ i => simp only [rng, List.getElem?_cons_succ]; rw [ih (lo + 1) i (by omega), show lo + 1 + (i : Nat) = lo + ((i + 1 : Nat) : Int) by omega]
theorem Itr_ok {G : Hp} (lo : Int) (n : Nat) : ItR cf G (Itr lo n) (rng lo n) := fun M G' H' σ ρ s R => by
  refine ⟨fun i hi => ?_, by rw [rng_len]; exact Nat.le_refl _⟩
  rw [rng_len] at hi
  refine ⟨hi, fun x H'' y => ?_⟩
  obtain ⟨rfl, rfl⟩ := y
  exact ⟨_, G', rng_get lo n i hi, Same.refl _, R, .int _⟩
def iR1 (a : AA) : AI := fun ρ P X => a ρ (fun xs ρ1 => withV xs fun ds => match ds with
  | [.int j] => (-(2 ^ 62) ≤ j ∧ j < 2 ^ 62) ∧ P (rng 0 j.toNat) ρ1
  | _ => False) X
def iR2 (a : AA) : AI := fun ρ P X => a ρ (fun xs ρ1 => withV xs fun ds => match ds with
  | [.int i, .int j] => (-(2 ^ 62) ≤ i ∧ i < 2 ^ 62 ∧ -(2 ^ 62) ≤ j ∧ j < 2 ^ 62) ∧ P (rng i (j - i).toNat) ρ1
  | _ => False) X
theorem i_range1 {tg x : Expr} {a : AA} {p pos : Pos} (hg : Gl X "range") (hm : X.mg "range" = none) (ha : Ea X cf W [x] a) (hs : starEach [x] X.env = [(false, eval x X.env)] := by rfl) : Ei X cf W tg (.Call (.Name "range" p) [x] [] pos) (iR1 a) := PI.imp (pi_range1 hg hm ha hs) fun σ H Q ⟨M, G, ρ, P, Xp, R, q, w, h⟩ => by
  refine ⟨M, G, ρ, _, Xp, R, fun xs ρ1 vs G1 H1 s1 R1 ra h1 => ?_, w, h⟩
  obtain ⟨ds, e, h1⟩ := withV_of h1
  have r := vals_of ra e
  split at h1
  · cases r with
    | cons a1 a2 =>
      cases a2; cases a1
      exact ⟨_, rfl, h1.1.1, h1.1.2, q _ ρ1 _ G1 H1 s1 R1 (Itr_ok _ _) h1.2⟩
  · exact h1.elim
theorem i_range2 {tg x y : Expr} {a : AA} {p pos : Pos} (hg : Gl X "range") (hm : X.mg "range" = none) (ha : Ea X cf W [x, y] a) (hs : starEach [x, y] X.env = [(false, eval x X.env), (false, eval y X.env)] := by rfl) (hs2 : starEach [y] X.env = [(false, eval y X.env)] := by rfl) : Ei X cf W tg (.Call (.Name "range" p) [x, y] [] pos) (iR2 a) := PI.imp (pi_range2 hg hm ha hs hs2) fun σ H Q ⟨M, G, ρ, P, Xp, R, q, w, h⟩ => by
  refine ⟨M, G, ρ, _, Xp, R, fun xs ρ1 vs G1 H1 s1 R1 ra h1 => ?_, w, h⟩
  obtain ⟨ds, e, h1⟩ := withV_of h1
  have r := vals_of ra e
  split at h1
  · cases r with
    | cons a1 a2 =>
      cases a2 with
      | cons a3 a4 =>
        cases a4; cases a1; cases a3
        exact ⟨_, _, rfl, h1.1, q _ ρ1 _ G1 H1 s1 R1 (Itr_ok _ _) h1.2⟩
  · exact h1.elim
/-- the signs of a text -/
def signsD (x : Str) : List D := x.cps.toList.map fun c => D.str ⟨#[c]⟩
theorem Its_ok {G : Hp} (x : Str) : ItR cf G (Its x) (signsD x) := fun M G' H' σ ρ s R => by
  have hl : (signsD x).length = x.cps.size := by simp [signsD]
  refine ⟨fun i hi => ?_, by rw [hl]; exact Nat.le_refl _⟩
  rw [hl] at hi
  refine ⟨hi, fun v H'' y => ?_⟩
  obtain ⟨rfl, c, e, rfl⟩ := y
  refine ⟨.str ⟨#[c]⟩, G', ?_, Same.refl _, R, .str _⟩
  unfold signsD
  rw [List.getElem?_map, Array.getElem?_toList, e]
  rfl
def iS (a : AE) : AI := fun ρ P X => a ρ (fun d ρ1 => match d with
  | .str x => P (signsD x) ρ1
  | _ => False) X
theorem i_str {tg l : Expr} {a : AE} (hl : Ee X cf W l a) : Ei X cf W tg l (iS a) := PI.imp (pi_str hl) fun σ H Q ⟨M, G, ρ, P, Xp, R, q, w, h⟩ => by
  refine ⟨M, G, ρ, _, Xp, R, fun d ρ1 v G1 H1 s1 R1 rd h1 => ?_, w, h⟩
  cases rd with
  | str x => exact ⟨_, rfl, q _ ρ1 _ G1 H1 s1 R1 (Its_ok x) h1⟩
  | _ => exact h1.elim
/-- pairs -/
def enumD (i : Nat) : List D → List D
  | [] => []
  | d :: r => .tup [.int (i : Nat), d] :: enumD (i + 1) r
theorem enumD_len : ∀ (k : Nat) (ds : List D), (enumD k ds).length = ds.length
  | _, [] => rfl
  | k, d :: r => by simp [enumD, enumD_len (k + 1) r]
theorem enumD_get : ∀ (k : Nat) (ds : List D) (i : Nat) (d : D), ds[i]? = some d → (enumD k ds)[i]? = some (.tup [.int ((k + i : Nat) : Int), d])
  | k, [], i, d, h => by cases h
  | k, e :: r, 0, d, h => by cases h; rfl
  | k, e :: r, i + 1, d, h => by
    simp only [List.getElem?_cons_succ, enumD] at h ⊢
    rw [enumD_get (k + 1) r i d h, show k + 1 + i = k + (i + 1) by omega]
theorem Ite_ok {G : Hp} {a : Addr} {vs : List V} {ds : List D} (h : G a = some (.lst vs)) (r : Rps cf.K cf.cl G vs ds) : ItR cf G (Ite cf.K a) (enumD 0 ds) := fun M G' H' σ ρ s R => by
  have hH : SqL cf.K H' a vs := sqL_up (s.trans R.same) h
  refine ⟨fun i hi => ?_, ⟨vs, hH, by rw [enumD_len]; exact Nat.le_of_eq r.len⟩⟩
  rw [enumD_len] at hi
  have hv : i < vs.length := by rw [r.len]; exact hi
  refine ⟨⟨vs, vs[i], hH, by simp [hv]⟩, fun x H'' y => ?_⟩
  obtain ⟨T, z, rfl, nT, rfl, y⟩ := y
  obtain ⟨d, e1, e2⟩ := r.get (y vs hH)
  obtain ⟨R2, s2, gp⟩ := R.new (o := .tup [.int (i : Nat), z]) nT
  refine ⟨_, _, enumD_get 0 ds i d e1, s2, R2, .tup (ofT gp) (.cons ?_ (.cons ((e2.up s).up s2) .nil))⟩
  rw [show ((0 + i : Nat) : Int) = (i : Nat) by omega]
  exact .int _
def iEn (a : AA) : AI := fun ρ P X => a ρ (fun xs ρ1 => withV xs fun ds => match ds with
  | [.lst es] => P (enumD 0 es) ρ1
  | _ => False) X
theorem i_enum {x : Expr} {elts : List Expr} {kk : Nat} {a : AA} {p pos tpos : Pos} (hg : Gl X "enumerate") (hm : X.mg "enumerate" = none) (ha : Ea X cf W [x] a) (hs : starEach [x] X.env = [(false, eval x X.env)] := by rfl) (hK : X.K = cf.K := by rfl) : Ei X cf W (.Tuple elts kk tpos) (.Call (.Name "enumerate" p) [x] [] pos) (iEn a) := PI.imp (pi_enum hg hm ha hs) fun σ H Q ⟨M, G, ρ, P, Xp, R, q, w, h⟩ => by
  refine ⟨M, G, ρ, _, Xp, R, fun xs ρ1 vs G1 H1 s1 R1 ra h1 => ?_, w, h⟩
  obtain ⟨ds, e, h1⟩ := withV_of h1
  have r := vals_of ra e
  split at h1
  · cases r with
    | cons a1 a2 =>
      cases a2
      cases a1 with
      | lst hs r => exact ⟨_, _, rfl, by rw [hK]; exact sqL_up R1.same hs, by rw [hK]; exact q _ ρ1 _ G1 H1 s1 R1 (Ite_ok hs r) h1⟩
  · exact h1.elim
def zipD : List D → List D → List D
  | d :: ds, e :: es => .tup [d, e] :: zipD ds es
  | _, _ => []
theorem zipD_len : ∀ ds es : List D, (zipD ds es).length = min ds.length es.length
  | [], es => by simp [zipD]
  | d :: ds, [] => by simp [zipD]
  | d :: ds, e :: es => by simp only [zipD, List.length_cons, zipD_len ds es]; omega
theorem zipD_get : ∀ (ds es : List D) (i : Nat) (d e : D), ds[i]? = some d → es[i]? = some e → (zipD ds es)[i]? = some (.tup [d, e])
  | [], es, i, d, e, h, _ => by cases h
  | d :: ds, [], i, _, e, _, h => by cases h
  | d :: ds, e :: es, 0, _, _, h1, h2 => by cases h1; cases h2; rfl
  | d :: ds, e :: es, i + 1, _, _, h1, h2 => by
    simp only [List.getElem?_cons_succ, zipD] at h1 h2 ⊢
    exact zipD_get ds es i _ _ h1 h2
theorem Itz_ok {G : Hp} {a b : Addr} {vs us : List V} {ds es : List D} (h : G a = some (.lst vs)) (r : Rps cf.K cf.cl G vs ds) (h' : G b = some (.lst us)) (r' : Rps cf.K cf.cl G us es) : ItR cf G (Itz cf.K a b) (zipD ds es) := fun M G' H' σ ρ s R => by
  have hH : SqL cf.K H' a vs := sqL_up (s.trans R.same) h
  have hH' : SqL cf.K H' b us := sqL_up (s.trans R.same) h'
  have l1 := r.len
  have l2 := r'.len
  refine ⟨fun i hi => ?_, ⟨vs, us, hH, hH', by rw [zipD_len]; omega⟩⟩
  rw [zipD_len] at hi
  have hv : i < vs.length := by omega
  have hu : i < us.length := by omega
  refine ⟨⟨vs, us, vs[i], us[i], hH, hH', by simp [hv], by simp [hu]⟩, fun x H'' y => ?_⟩
  obtain ⟨T, z, z', rfl, nT, rfl, y, y'⟩ := y
  obtain ⟨d, e1, e2⟩ := r.get (y vs hH)
  obtain ⟨d', e1', e2'⟩ := r'.get (y' us hH')
  obtain ⟨R2, s2, gp⟩ := R.new (o := .tup [z, z']) nT
  exact ⟨_, _, zipD_get ds es i d d' e1 e1', s2, R2, .tup (ofT gp) (.cons ((e2.up s).up s2) (.cons ((e2'.up s).up s2) .nil))⟩
theorem ItzT_ok {G : Hp} {a b : Addr} {vs us : List V} {ds es : List D} (h : SqT cf.K G a vs) (r : Rps cf.K cf.cl G vs ds) (h' : SqT cf.K G b us) (r' : Rps cf.K cf.cl G us es) : ItR cf G (RZ.ItzT cf.K a b) (zipD ds es) := fun M G' H' σ ρ s R => by
  have hH : SqT cf.K H' a vs := Cr.Same.sqT (s.trans R.same) h
  have hH' : SqT cf.K H' b us := Cr.Same.sqT (s.trans R.same) h'
  have l1 := r.len
  have l2 := r'.len
  refine ⟨fun i hi => ?_, ⟨vs, us, hH, hH', by rw [zipD_len]; omega⟩⟩
  rw [zipD_len] at hi
  have hv : i < vs.length := by omega
  have hu : i < us.length := by omega
  refine ⟨⟨vs, us, vs[i], us[i], hH, hH', by simp [hv], by simp [hu]⟩, fun x H'' y => ?_⟩
  obtain ⟨T, z, z', rfl, nT, rfl, y, y'⟩ := y
  obtain ⟨d, e1, e2⟩ := r.get (y vs hH)
  obtain ⟨d', e1', e2'⟩ := r'.get (y' us hH')
  obtain ⟨R2, s2, gp⟩ := R.new (o := .tup [z, z']) nT
  exact ⟨_, _, zipD_get ds es i d d' e1 e1', s2, R2, .tup (ofT gp) (.cons ((e2.up s).up s2) (.cons ((e2'.up s).up s2) .nil))⟩
def iZ (a : AA) : AI := fun ρ P X => a ρ (fun xs ρ1 => withV xs fun ds => match ds with
  | [.lst es, .lst fs] => P (zipD es fs) ρ1
  | [.tup es, .tup fs] => P (zipD es fs) ρ1
  | _ => False) X
theorem i_zip {x y : Expr} {elts : List Expr} {kk : Nat} {a : AA} {p pos tpos : Pos} (hg : Gl X "zip") (hm : X.mg "zip" = none) (ha : Ea X cf W [x, y] a) (hs : starEach [x, y] X.env = (false, eval x X.env) :: starEach [y] X.env := by rfl) (hpl : (backTo pos (starEach [y] X.env)).any (·.1) = false := by rfl) (hK : X.K = cf.K := by rfl) :
    Ei X cf W (.Tuple elts kk tpos) (.Call (.Name "zip" p) [x, y] [] pos) (iZ a) := PI.imp (RZ.pi_zipA hg hm ha hs hpl) fun σ H Q ⟨M, G, ρ, P, Xp, R, q, w, h⟩ => by
  refine ⟨M, G, ρ, _, Xp, R, fun xs ρ1 vs G1 H1 s1 R1 ra h1 => ?_, w, h⟩
  obtain ⟨ds, e, h1⟩ := withV_of h1
  have r := vals_of ra e
  split at h1
  · cases r with
    | cons a1 a2 =>
      cases a2 with
      | cons a3 a4 =>
        cases a4
        cases a1 with
        | lst hs r =>
          cases a3 with
          | lst hs' r' => exact ⟨_, _, _, _, rfl, .inl ⟨by rw [hK]; exact sqL_up R1.same hs, by rw [hK]; exact sqL_up R1.same hs', by rw [hK]; exact q _ ρ1 _ G1 H1 s1 R1 (Itz_ok hs r hs' r') h1⟩⟩
  · cases r with
    | cons a1 a2 =>
      cases a2 with
      | cons a3 a4 =>
        cases a4
        cases a1 with
        | tup hs r =>
          cases a3 with
          | tup hs' r' => exact ⟨_, _, _, _, rfl, .inr ⟨by rw [hK]; exact Cr.Same.sqT R1.same hs, by rw [hK]; exact Cr.Same.sqT R1.same hs', by rw [hK]; exact q _ ρ1 _ G1 H1 s1 R1 (ItzT_ok hs r hs' r') h1⟩⟩
  · exact h1.elim
theorem Itv_ok {G : Hp} {a : Addr} {vs : List V} {ds : List D} (h : G a = some (.lst vs)) (r : Rps cf.K cf.cl G vs ds) : ItR cf G (Itv cf.K a vs.length) ds.reverse := fun M G' H' σ ρ s R => by
  have hH : SqL cf.K H' a vs := sqL_up (s.trans R.same) h
  have l1 := r.len
  refine ⟨fun i hi => ?_, show vs.length ≤ ds.reverse.length by rw [List.length_reverse]; omega⟩
  rw [List.length_reverse] at hi
  have hv : i < vs.length := by omega
  have hv' : vs.length - 1 - i < vs.length := by omega
  refine ⟨⟨hv, vs, vs[vs.length - 1 - i], hH, by simp [hv']⟩, fun x H'' y => ?_⟩
  obtain ⟨rfl, y⟩ := y
  obtain ⟨d, e1, e2⟩ := r.get (y vs hH)
  refine ⟨d, G', ?_, Same.refl _, R, e2.up s⟩
  rw [List.getElem?_reverse hi, ← l1]
  exact e1
theorem ItvT_ok {G : Hp} {a : Addr} {vs : List V} {ds : List D} (h : SqT cf.K G a vs) (r : Rps cf.K cf.cl G vs ds) : ItR cf G (RT.ItvT cf.K a vs.length) ds.reverse := fun M G' H' σ ρ s R => by
  have hH : SqT cf.K H' a vs := Cr.Same.sqT (s.trans R.same) h
  have l1 := r.len
  refine ⟨fun i hi => ?_, show vs.length ≤ ds.reverse.length by rw [List.length_reverse]; omega⟩
  rw [List.length_reverse] at hi
  have hv : i < vs.length := by omega
  have hv' : vs.length - 1 - i < vs.length := by omega
  refine ⟨⟨hv, vs, vs[vs.length - 1 - i], hH, by simp [hv']⟩, fun x H'' y => ?_⟩
  obtain ⟨rfl, y⟩ := y
  obtain ⟨d, e1, e2⟩ := r.get (y vs hH)
  refine ⟨d, G', ?_, Same.refl _, R, e2.up s⟩
  rw [List.getElem?_reverse hi, ← l1]
  exact e1
def iRev (a : AE) : AI := fun ρ P X => a ρ (fun d ρ1 => match d with
  | .lst ds => P ds.reverse ρ1
  | .tup ds => P ds.reverse ρ1
  | _ => False) X
theorem i_rev {tg x : Expr} {a : AE} {p pos : Pos} (hg : Gl X "reversed") (hm : X.mg "reversed" = none) (he : Ee X cf W x a) (hs : starEach [x] X.env = (false, eval x X.env) :: starEach [] X.env := by rfl) (hK : X.K = cf.K := by rfl) : Ei X cf W tg (.Call (.Name "reversed" p) [x] [] pos) (iRev a) := PI.imp (RT.pi_revA hg hm he hs) fun σ H Q ⟨M, G, ρ, P, Xp, R, q, w, h⟩ => by
  refine ⟨M, G, ρ, _, Xp, R, fun d ρ1 v G1 H1 s1 R1 rd h1 => ?_, w, h⟩
  cases rd with
  | lst hs r => exact ⟨_, _, rfl, .inl ⟨by rw [hK]; exact sqL_up R1.same hs, by rw [hK]; exact q _ ρ1 _ G1 H1 s1 R1 (Itv_ok hs r) h1⟩⟩
  | tup hs r => exact ⟨_, _, rfl, .inr ⟨by rw [hK]; exact Cr.Same.sqT R1.same hs, by rw [hK]; exact q _ ρ1 _ G1 H1 s1 R1 (ItvT_ok hs r) h1⟩⟩
  | _ => exact h1.elim
/-! ### for -/
def forGo (g : AG) (b : AS) (A : AK) : List D → Ev → Prop
  | [], ρ => A.nx ρ
  | d :: ds, ρ => g d ρ fun ρ1 => b { A with nx := forGo g b A ds, ct := forGo g b A ds, bk := A.nx } ρ1
def sFor (i : AI) (g : AG) (b : AS) : AS := fun A ρ => i ρ (fun ds ρ1 => forGo g b A ds ρ1) A.ex
theorem for_ok {i : AI} {g : AG} {b : AS} : ∀ Dn σ H, γS cf W (sFor i g b) Dn σ H → tFor (γI cf W i) (γG cf g) (γS cf W b) Dn σ H := by
  rintro Dn σ H ⟨M, G, ρ, A, R, q, h⟩
  refine ⟨M, G, ρ, _, A.ex, R, fun ds ρ1 J G1 H1 s1 R1 it h1 => ?_, q.ex σ, h⟩
  refine ⟨fun i m σ H => m = ds.length - i ∧ i ≤ ds.length ∧ ∃ G' ρ', Same G1 G' ∧ Rs cf M G' H σ ρ' ∧ forGo g b A (ds.drop i) ρ', ⟨_, rfl, Nat.zero_le _, G1, ρ1, Same.refl _, R1, h1⟩, ?_⟩
  rintro i m σ2 H2 ⟨rfl, hi, G2, ρ2, s2, R2, h2⟩
  obtain ⟨go, st⟩ := it M G2 H2 σ2 ρ2 s2 R2
  by_cases c : i < ds.length
  · obtain ⟨g1, g2⟩ := go i c
    refine .inr ⟨g1, fun σ H => ∃ G' ρ', Same G1 G' ∧ Rs cf M G' H σ ρ' ∧ forGo g b A (ds.drop (i + 1)) ρ', fun σ' H' z => ⟨_, by omega, rfl, c, z⟩, fun x H3 y => ?_⟩
    obtain ⟨d, G3, e3, s3, R3, r3⟩ := g2 x H3 y
    have ed : ds.drop i = d :: ds.drop (i + 1) := by
      obtain ⟨hl, e4⟩ := List.getElem?_eq_some_iff.mp e3
      rw [← e4]
      exact List.drop_eq_getElem_cons hl
    rw [ed] at h2
    refine ⟨M, G3, ρ2, d, _, R3, r3, fun σ4 ρ4 G4 H4 s4 R4 h4 => ?_, h2⟩
    have s14 : Same G1 G4 := (s2.trans s3).trans s4
    refine ⟨M, G4, ρ4, _, R4, ?_, h4⟩
    have q4 := (q.up s1).up s14
    exact ⟨fun σ5 ρ5 G5 H5 s5 R5 h5 => ⟨G5, ρ5, s14.trans s5, R5, h5⟩, q4.rt, q4.nx, fun σ5 ρ5 G5 H5 s5 R5 h5 => ⟨G5, ρ5, s14.trans s5, R5, h5⟩, q4.ex⟩
  · have e : i = ds.length := by omega
    subst e
    rw [List.drop_length] at h2
    exact .inl ⟨st, q.nx σ2 ρ2 G2 H2 (s1.trans s2) R2 h2⟩
theorem s_for {tg iter : Expr} {body : List Stmt} {i : AI} {g : AG} {b : AS} {pos : Pos} (hp : PassesOwn (model X.prog X.w) X.A X.env X.xe) (hc : X.calm = true) (hi : Ei X cf W tg iter i) (hg : Eg X cf tg g) (hb : Eb X cf W body b)
    (hs : ∀ x, foldedSetIterable iter X.env x = pure x := by intro _; rfl) : Es X cf W (.For tg iter body [] pos) (sFor i g b) := PS.imp (ps_for hp hc hi hg hb hs) for_ok
/-! ### while, at most n turns -/
def whGo (c : AT) (b : AS) (A : AK) : Nat → Ev → Prop
  | 0, _ => False
  | n + 1, ρ => c ρ (fun k ρ1 => if k = true then b { A with nx := whGo c b A n, ct := whGo c b A n, bk := A.nx } ρ1 else A.nx ρ1) A.ex
def sWhile (n : Nat) (c : AT) (b : AS) : AS := fun A ρ => whGo c b A n ρ
theorem while_ok {n : Nat} {c : AT} {b : AS} : ∀ Dn σ H, γS cf W (sWhile n c b) Dn σ H → tWhile (γT cf W c) (γS cf W b) Dn σ H := by
  rintro Dn σ H ⟨M, G, ρ, A, R, q, h⟩
  refine ⟨fun m σ H => ∃ G' ρ', Same G G' ∧ Rs cf M G' H σ ρ' ∧ whGo c b A m ρ', ⟨n, G, ρ, Same.refl _, R, h⟩, ?_⟩
  rintro m σ1 H1 ⟨G1, ρ1, s1, R1, h1⟩
  cases m with
  | zero => exact h1.elim
  | succ m =>
    refine ⟨M, G1, ρ1, _, A.ex, R1, fun k ρ2 G2 H2 s2 R2 h2 => ?_, (q.ex σ1).up s1, h1⟩
    cases k with
    | false => exact q.nx σ1 ρ2 G2 H2 (s1.trans s2) R2 h2
    | true =>
      refine ⟨fun σ H => ∃ G' ρ', Same G G' ∧ Rs cf M G' H σ ρ' ∧ whGo c b A m ρ', fun σ' H' z => ⟨m, Nat.lt_succ_self _, z⟩, ?_⟩
      have s12 := s1.trans s2
      have q2 := q.up s12
      exact ⟨M, G2, ρ2, { A with nx := whGo c b A m, ct := whGo c b A m, bk := A.nx }, R2, ⟨fun σ5 ρ5 G5 H5 s5 R5 h5 => ⟨G5, ρ5, s12.trans s5, R5, h5⟩, q2.rt, q2.nx, fun σ5 ρ5 G5 H5 s5 R5 h5 => ⟨G5, ρ5, s12.trans s5, R5, h5⟩, q2.ex⟩, h2⟩
theorem s_while {n : Nat} {c : Expr} {body : List Stmt} {k : AT} {b : AS} {pos : Pos} (hp : PassesOwn (model X.prog X.w) X.A X.env X.xe) (hc : Et X cf W c k) (hb : Eb X cf W body b) : Es X cf W (.While c body [] pos) (sWhile n k b) := PS.imp (ps_while hp hc hb) while_ok
end
end Al

/-! AL3: targets, new things of one's own, comprehensions. -/
namespace Al
open PySem L2 Cr
/-! ### targets: a name, a tuple of names -/
inductive Tg where
  | nm (i : Nat) | tp (is : List Nat)
def gsN : List Nat → TGs
  | [] => gNil
  | i :: r => gCons (gName i) (gsN r)
def Tg.c (K : PySem.W.Frag) : Tg → TG
  | .nm i => gName i
  | .tp is => gTup K is.length (gsN is)
def Tg.sl : Tg → List Nat
  | .nm i => [i]
  | .tp is => is
def setAll : List Nat → List D → Ev → Ev
  | i :: is, d :: ds, ρ => setAll is ds (ρ.set i (some d))
  | _, _, ρ => ρ
def Tg.a : Tg → AG
  | .nm i => gV i
  | .tp is => fun d ρ k => match d with
    | .tup ds => ds.length = is.length ∧ k (setAll is ds ρ)
    | _ => False
def setAllV : List Nat → List V → St → St
  | i :: is, v :: vs, σ => setAllV is vs (σ.set i (some v))
  | _, _, σ => σ
theorem gsN_of : ∀ (is : List Nat) (vs : List V) (σ : St) (H : Hp) (k : St → Hp → Prop), vs.length = is.length → k (setAllV is vs σ) H → gsN is vs σ H k
  | [], [], σ, H, k, _, h => ⟨rfl, h⟩
  | [], _ :: _, σ, H, k, e, h => by cases e
  | _ :: _, [], σ, H, k, e, h => by cases e
  | i :: is, v :: vs, σ, H, k, e, h => ⟨v, vs, rfl, gsN_of is vs _ H k (by simpa using e) h⟩
theorem Rs.setAll {cf : Cf} {M : Fx} {G H : Hp} : ∀ {is : List Nat} {vs : List V} {ds : List D} {σ : St} {ρ : Ev}, Rs cf M G H σ ρ → (∀ i ∈ is, i ∉ cf.O) → Rps cf.K cf.cl G vs ds → Rs cf M G H (setAllV is vs σ) (setAll is ds ρ)
  | [], _, _, σ, ρ, R, _, _ => by simp only [setAllV, Al.setAll]; exact R
  | i :: is, _, _, σ, ρ, R, h, .nil => by simp only [setAllV, Al.setAll]; exact R
  | i :: is, _, _, σ, ρ, R, h, .cons a r => by
    simp only [setAllV, Al.setAll]
    exact Rs.setAll (R.set (h i (by simp)) a) (fun j hj => h j (by simp [hj])) r
section
variable {X : Cx} {cf : Cf} {W : WX}
theorem tg_ok {t : Tg} (hO : ∀ i ∈ t.sl, i ∉ cf.O) {x : V} {σ : St} {H : Hp} {k : St → Hp → Prop} {M : Fx} {G : Hp} {ρ : Ev} {d : D} {P : Ev → Prop} (R : Rs cf M G H σ ρ) (r : Rp cf.K cf.cl G x d) (q : ∀ us σ' ρ', us.length = t.sl.length → σ' = setAllV t.sl us σ → Rs cf M G H σ' ρ' → P ρ' → k σ' H) (h : t.a d ρ P) : t.c cf.K x σ H k := by
  cases t with
  | nm i => exact q [x] _ _ rfl rfl (R.set (hO i (by simp [Tg.sl])) r) h
  | tp is =>
    cases r with
    | tup hs r =>
      obtain ⟨hl, h⟩ := h
      have l2 := r.len.trans hl
      exact ⟨_, _, rfl, Cr.Same.sqT R.same hs, l2, gsN_of is _ σ H k l2 (q _ _ _ l2 rfl (R.setAll hO r) h)⟩
    | _ => exact h.elim
theorem PG.imp {e : Expr} {t t' : TG} (h : PG X e t) (i : ∀ x σ H Q, t' x σ H Q → t x σ H Q) : PG X e t' := ⟨fun pins s σ H x u Q I r q => h.run pins s σ H x u Q I r (i x σ H Q q)⟩
theorem g_tg {t : Tg} {e : Expr} (h : PG X e (t.c cf.K)) (hO : ∀ i ∈ t.sl, i ∉ cf.O) : Eg X cf e t.a := PG.imp h fun x σ H Q ⟨M, G, ρ, d, P, R, r, q, hk⟩ => tg_ok hO R r (fun us σ' ρ' _ _ R' p => q σ' ρ' G H (Same.refl _) R' p) hk
end
/-! ### new things of one's own -/
/-- the value is a new thing, that no one else holds -/
def QF (cf : Cf) (M : Fx) (G : Hp) (σ : St) (P : D → Ev → Prop) (Q : VK) : Prop := ∀ d ρ' p o G' H', Same G G' → M.m p = none → H' p = some o → Rs cf (M.up p o) G' H' σ ρ' → RpO cf.K cf.cl G' H' p d → P d ρ' → Q (.ref p) H'
def γF (cf : Cf) (W : WX) (a : AE) : TE := fun σ H Q => ∃ (M : Fx) (G : Hp) (ρ : Ev) (P : D → Ev → Prop) (X : XP), Rs cf M G H σ ρ ∧ QF cf M G σ P Q ∧ XW cf W M G σ X ∧ a ρ P X
abbrev Ef (X : Cx) (cf : Cf) (W : WX) (e : Expr) (a : AE) : Prop := PE X e (γF cf W a)
section
variable {X : Cx} {cf : Cf} {W : WX}
theorem RpO.thaw {G H : Hp} {p : Addr} {o : HO} {d : D} (h : RpO cf.K cf.cl G H p d) (ho : H p = some o) (n : G p = none) : Rp cf.K cf.cl (upd G p o) (.ref p) d := by
  have sG : Same G (upd G p o) := same_up n
  have ga : (upd G p o) p = some o := upd_same
  cases h with
  | lst h r =>
    rw [h] at ho; cases ho
    exact .lst ga (r.up sG)
  | dic h r =>
    rw [h] at ho; cases ho
    exact .dic (.inl ga) (r.up sG)
  | ins h e' r =>
    rw [h] at ho; cases ho
    exact .ins ga e' (r.up sG)
theorem QE.qf {M : Fx} {G : Hp} {σ : St} {P : D → Ev → Prop} {Q : VK} (q : QE cf M G σ P Q) : QF cf M G σ P Q := fun d ρ p o G' H' s n ho R r h => by
  have np : G' p = none := (R.mem p o Fx.up_same).2
  obtain ⟨R2, s2, _⟩ := R.thaw n
  exact q d ρ _ _ H' (s.trans s2) R2 (r.thaw ho np) h
/-- a new thing, as a value -/
theorem e_new {e : Expr} {a : AE} (h : Ef X cf W e a) : Ee X cf W e a := PE.imp h fun σ H Q ⟨M, G, ρ, P, Xp, R, q, w, h⟩ => ⟨M, G, ρ, P, Xp, R, q.qf, w, h⟩
theorem f_lst {es : List Expr} {a : AA} {pos : Pos} (h : Ea X cf W es a) : Ef X cf W (.List es pos) (aLst a) := PE.imp (pe_lst h) fun σ H Q ⟨M, G, ρ, P, Xp, R, q, w, h⟩ => by
  refine ⟨M, G, ρ, _, Xp, R, fun xs ρ1 vs G1 H1 s1 R1 ra h1 => ?_, w, h⟩
  obtain ⟨ds, e, hl, h1⟩ := withV_of h1
  have r := vals_of ra e
  refine ⟨by rw [r.len]; exact hl, fun p np => ?_⟩
  have mp : M.m p = none := by
    cases z : M.m p with
    | none => rfl
    | some o => rw [(R1.mem p o z).1] at np; cases np
  exact q _ ρ1 p _ G1 _ s1 mp upd_same (R1.pin np) (.lst upd_same r) h1
theorem Rs.mfree {M : Fx} {G H : Hp} {σ : St} {ρ : Ev} {p : Addr} (R : Rs cf M G H σ ρ) (np : H p = none) : M.m p = none := by
  cases z : M.m p with
  | none => rfl
  | some o => rw [(R.mem p o z).1] at np; cases np
theorem f_dict {pos : Pos} {e : Expr} (h : PE X e tDNewK) : Ef X cf W e (aC (.dic [])) := PE.imp h fun σ H Q ⟨M, G, ρ, P, Xp, R, q, w, h⟩ p np => q _ ρ p _ G _ (Same.refl _) (R.mfree np) upd_same (R.pin np) (.dic upd_same .nil) h
/-- x = (something new), x a slot of one's own -/
theorem s_setO {i : Nat} {x : Str} {e : Expr} {a : AE} {pos pos' : Pos} (hN : X.N.Nodup) (hi : X.N[i]? = some x) (hx : Loc X.env.scope x) (hO : i ∈ cf.O) (hn : cf.np ≤ i) (he : Ef X cf W e a) (hs : swapsWith e (some (.Name x pos')) pos.line X.env = pure false := by rfl) (hf : X.fn x = true ∨ X.env.scope.names.lookup x = some .local := by first | exact .inl rfl | exact .inr rfl | assumption) :
    Es X cf W (.Assign [.Name x pos'] e pos) (sSet i a) := PS.imp (ps_set hN hi hx he hs hf) fun Dn σ H ⟨M, G, ρ, A, R, q, h⟩ => by
  refine ⟨M, G, ρ, _, A.ex, R, fun d ρ1 p o G1 H1 s1 n ho R1 rd h1 => ?_, q.ex σ, h⟩
  exact q.nx _ _ G1 H1 s1 (R1.setO n hO hn rd) h1
/-! ### comprehensions -/
def wipeD (ρ : Ev) : List Nat → Ev
  | [] => ρ
  | v :: vs => (wipeD ρ vs).set v none
def backD (vs : List Nat) : Nat → Ev → Ev → Ev
  | k, d1 :: r1, d :: r => (match vs.contains k with
    | true => d1
    | false => d) :: backD vs (k + 1) r1 r
  | _, _, r => r
theorem wipeD_len (ρ : Ev) : ∀ vs : List Nat, (wipeD ρ vs).length = ρ.length
  | [] => rfl
  | v :: vs => by unfold wipeD; rw [List.length_set, wipeD_len ρ vs]
theorem wipeD_sl {ρ : Ev} {i : Nat} {d : D} : ∀ {vs : List Nat}, sl (wipeD ρ vs) i = some d → sl ρ i = some d ∧ i ∉ vs
  | [], h => ⟨h, by simp⟩
  | v :: vs, h => by
    unfold wipeD at h
    by_cases c : i = v
    · subst c
      have hl := sl_lt h
      rw [List.length_set] at hl
      rw [sl_set _ _ _ hl] at h
      cases h
    · rw [sl_set_ne _ _ _ _ c] at h
      have := wipeD_sl h
      exact ⟨this.1, by simp [c, this.2]⟩
theorem backD_len (vs : List Nat) : ∀ (k : Nat) (a b : Ev), (backD vs k a b).length = b.length
  | _, [], [] => rfl
  | _, [], _ :: _ => rfl
  | _, _ :: _, [] => rfl
  | k, d1 :: r1, d :: r => by simp [backD, backD_len vs (k + 1) r1 r]
theorem backD_sl (vs : List Nat) : ∀ (k : Nat) (a b : Ev) (i : Nat) (d : D), a.length = b.length → sl (backD vs k a b) i = some d → (k + i ∈ vs ∧ sl a i = some d) ∨ (k + i ∉ vs ∧ sl b i = some d)
  | _, [], [], i, d, _, h => by cases h
  | _, [], _ :: _, i, d, e, h => by cases e
  | _, _ :: _, [], i, d, e, h => by cases e
  | k, d1 :: r1, d' :: r, 0, d, e, h => by
    simp only [backD, sl] at h ⊢
    cases c : vs.contains k with
    | true => rw [c] at h; exact .inl ⟨by simpa using c, h⟩
    | false => rw [c] at h; exact .inr ⟨by simpa using c, h⟩
  | k, d1 :: r1, d' :: r, i + 1, d, e, h => by
    have := backD_sl vs (k + 1) r1 r i d (by simpa using e) h
    rw [show k + (i + 1) = k + 1 + i by omega]
    exact this
theorem backD_at (vs : List Nat) : ∀ (k : Nat) (a b : Ev) (i : Nat), a.length = b.length → sl (backD vs k a b) i = if k + i ∈ vs then sl a i else sl b i
  | _, [], [], i, _ => by simp [backD, sl]
  | _, [], _ :: _, i, e => by cases e
  | _, _ :: _, [], i, e => by cases e
  | k, d1 :: r1, d' :: r, 0, e => by
    simp only [backD, sl]
    cases c : vs.contains k with
    | true => rw [if_pos (by simpa using c)]
    | false => rw [if_neg (by simpa using c)]
  | k, d1 :: r1, d' :: r, i + 1, e => by
    rw [show k + (i + 1) = k + 1 + i by omega]
    exact backD_at vs (k + 1) r1 r i (by simpa using e)
theorem wipeD_out {ρ : Ev} {i : Nat} : ∀ {vs : List Nat}, i ∉ vs → sl (wipeD ρ vs) i = sl ρ i
  | [], _ => rfl
  | v :: vs, h => by
    unfold wipeD
    rw [sl_set_ne _ _ _ _ (fun z => h (by simp [z])), wipeD_out (fun z => h (by simp [z]))]
theorem wipe_get {σ : St} {i : Nat} : ∀ {vs : List Nat}, i ∈ vs → (wipe σ vs)[i]? = if i < σ.length then some none else none
  | [], h => by cases h
  | v :: vs, h => by
    unfold wipe
    by_cases c : v = i
    · subst c
      rw [List.getElem?_set]
      simp [wipe_length]
    · rw [List.getElem?_set_ne c]
      exact wipe_get (by simpa [Ne.symm c] using h)
theorem wipe_eq {σ τ : St} {vs : List Nat} (hl : σ.length = τ.length) (h : ∀ i, i ∉ vs → σ[i]? = τ[i]?) : wipe σ vs = wipe τ vs := by
  apply List.ext_getElem?
  intro i
  by_cases c : i ∈ vs
  · rw [wipe_get c, wipe_get c, hl]
  · rw [wipe_out c, wipe_out c]; exact h i c
theorem setAllV_len : ∀ (is : List Nat) (us : List V) (σ : St), (setAllV is us σ).length = σ.length
  | [], us, σ => by simp only [setAllV]
  | _ :: _, [], σ => by simp only [setAllV]
  | i :: is, u :: us, σ => by simp only [setAllV]; rw [setAllV_len is us]; simp
theorem setAllV_ne : ∀ (is : List Nat) (us : List V) (σ : St) (j : Nat), j ∉ is → (setAllV is us σ)[j]? = σ[j]?
  | [], us, σ, j, _ => by simp only [setAllV]
  | _ :: _, [], σ, j, _ => by simp only [setAllV]
  | i :: is, u :: us, σ, j, h => by
    simp only [setAllV]
    rw [setAllV_ne is us _ j (fun z => h (by simp [z])), List.getElem?_set_ne (fun z => h (by simp [z]))]
theorem Rs.wipe {M : Fx} {G H : Hp} {σ : St} {ρ : Ev} {vs : List Nat} (R : Rs cf M G H σ ρ) (hv : ∀ i ∈ vs, i ∉ cf.O) : Rs cf M G H (wipe σ vs) (wipeD ρ vs) := by
  refine ⟨R.same, R.mem, by rw [wipe_length, wipeD_len]; exact R.len, fun i d hi e => ?_, fun i d hi e => ?_, fun i j d e a hi hj z1 z2 q1 q2 => ?_, fun i a e => ?_⟩
  · obtain ⟨e1, e2⟩ := wipeD_sl e
    rw [wipe_out e2]
    exact R.imm i d hi e1
  · obtain ⟨e1, e2⟩ := wipeD_sl e
    rw [wipe_out e2]
    exact R.own i d hi e1
  · exact R.dis i j d e a hi hj (wipeD_sl z1).1 (wipeD_sl z2).1 (by rw [wipe_out (wipeD_sl z1).2] at q1; exact q1) (by rw [wipe_out (wipeD_sl z2).2] at q2; exact q2)
  · obtain ⟨h1, h2, h3⟩ := R.par i a e
    exact ⟨h1, h2, by rw [wipe_out (fun z => hv i z h1)]; exact h3⟩
/-- back behind a comprehension -/
theorem Rs.back {M : Fx} {G G' H H' : Hp} {σ σ2 : St} {ρ ρ2 : Ev} {vs : List Nat} (R : Rs cf M G H σ ρ) (s : Same G G') (R2 : Rs cf M G' H' σ2 ρ2) (hw : L2.wipe σ2 vs = L2.wipe σ vs) (hv : ∀ i ∈ vs, i ∉ cf.O) : Rs cf M G' H' σ (backD vs 0 ρ ρ2) := by
  have hl : σ2.length = σ.length := by rw [← wipe_length σ2 vs, hw, wipe_length]
  have hlr : ρ.length = ρ2.length := by rw [← R.len, ← R2.len, hl]
  have hσ : ∀ i, i ∉ vs → σ2[i]? = σ[i]? := fun i hi => by rw [← wipe_out (σ := σ2) hi, hw, wipe_out hi]
  have sp : ∀ i d, sl (backD vs 0 ρ ρ2) i = some d → (i ∈ vs ∧ sl ρ i = some d) ∨ (i ∉ vs ∧ sl ρ2 i = some d) := fun i d e => by
    have := backD_sl vs 0 ρ ρ2 i d hlr e
    simpa using this
  have on : ∀ i d, i ∈ cf.O → sl (backD vs 0 ρ ρ2) i = some d → i ∉ vs ∧ sl ρ2 i = some d := fun i d hi e => by
    rcases sp i d e with z | z
    · exact absurd hi (hv i z.1)
    · exact z
  refine ⟨R2.same, R2.mem, by rw [backD_len, ← R2.len, hl], fun i d hi e => ?_, fun i d hi e => ?_, fun i j d e a hi hj z1 z2 q1 q2 => ?_, fun i a e => ?_⟩
  · rcases sp i d e with ⟨_, z⟩ | ⟨n, z⟩
    · obtain ⟨v, h1, h2⟩ := R.imm i d hi z
      exact ⟨v, h1, h2.up s⟩
    · rw [← hσ i n]
      exact R2.imm i d hi z
  · obtain ⟨n, z⟩ := on i d hi e
    rw [← hσ i n]
    exact R2.own i d hi z
  · obtain ⟨n1, w1⟩ := on i d hi z1
    obtain ⟨n2, w2⟩ := on j e hj z2
    exact R2.dis i j d e a hi hj w1 w2 (by rw [hσ i n1]; exact q1) (by rw [hσ j n2]; exact q2)
  · obtain ⟨h1, h2, h3⟩ := R2.par i a e
    exact ⟨h1, h2, by rw [← hσ i (fun z => hv i z h1)]; exact h3⟩
def lcGo (g : AG) (tt : AT) (te : AE) (vs : List Nat) : List D → Ev → (List D → Ev → Prop) → Prop
  | [], ρ, P => P [] ρ
  | d :: ds, ρ, P => g d (wipeD ρ vs) fun ρ1 => tt ρ1 (fun b ρ2 => if b = true then te ρ2 (fun e ρ3 => lcGo g tt te vs ds ρ3 fun es ρ4 => P (e :: es) ρ4) NX else lcGo g tt te vs ds ρ2 P) NX
def aLc (i : AI) (g : AG) (tt : AT) (te : AE) (vs : List Nat) : AE := fun ρ P X => i ρ (fun ds ρ1 => ds.length < sizeLine ∧ lcGo g tt te vs ds ρ1 fun es ρ2 => P (.lst es) (backD vs 0 ρ1 ρ2)) X
theorem lc_ok {i : AI} {t : Tg} {tt : AT} {te : AE} {vs : List Nat} (hv : ∀ i ∈ vs, i ∉ cf.O) (ht : ∀ i ∈ t.sl, i ∈ vs) : ∀ σ H Q, γF cf W (aLc i t.a tt te vs) σ H Q → tLc (γI cf W i) (t.c cf.K) (γT cf W0 tt) (γE cf W0 te) vs σ H Q := by
  rintro σ H Q ⟨M, G, ρ, P, Xp, R, q, w, h⟩
  refine ⟨M, G, ρ, _, Xp, R, fun ds ρ1 J G1 H1 s1 R1 it h1 => ?_, w, h⟩
  obtain ⟨hds, h1⟩ := h1
  intro Da nD
  have mD := R1.mfree nD
  refine ⟨fun i m H => m = ds.length - i ∧ i ≤ ds.length ∧ ∃ G' ρ' us es, Same G1 G' ∧ Rs cf (M.up Da (.lst us)) G' H (L2.wipe σ vs) (wipeD ρ' vs) ∧ Rps cf.K cf.cl G' us es ∧ us.length ≤ i ∧ ρ'.length = ρ1.length ∧
    lcGo t.a tt te vs (ds.drop i) ρ' fun rest ρ4 => P (.lst (es ++ rest)) (backD vs 0 ρ1 ρ4), ⟨_, rfl, Nat.zero_le _, G1, ρ1, [], [], Same.refl _, (R1.pin nD).wipe hv, .nil, Nat.le_refl _, rfl, h1⟩, ?_⟩
  rintro i m H2 ⟨rfl, hi, G2, ρ2, us, es, s2, R2, ru, hul, hρ, h2⟩
  obtain ⟨go, st⟩ := it _ G2 H2 _ _ s2 R2
  by_cases c : i < ds.length
  · obtain ⟨g1, g2⟩ := go i c
    refine .inr ⟨g1, fun H => ∃ G' ρ' us es, Same G1 G' ∧ Rs cf (M.up Da (.lst us)) G' H (L2.wipe σ vs) (wipeD ρ' vs) ∧ Rps cf.K cf.cl G' us es ∧ us.length ≤ i + 1 ∧ ρ'.length = ρ1.length ∧
      lcGo t.a tt te vs (ds.drop (i + 1)) ρ' fun rest ρ4 => P (.lst (es ++ rest)) (backD vs 0 ρ1 ρ4), fun H' z => ⟨_, by omega, rfl, c, z⟩, fun x H3 y => ?_⟩
    obtain ⟨d, G3, e3, s3, R3, r3⟩ := g2 x H3 y
    have ed : ds.drop i = d :: ds.drop (i + 1) := by
      obtain ⟨hl, e4⟩ := List.getElem?_eq_some_iff.mp e3
      rw [← e4]
      exact List.drop_eq_getElem_cons hl
    rw [ed] at h2
    refine tg_ok (fun j hj => hv j (ht j hj)) R3 r3 (fun vs' σ4 ρ4 hl4 e4 R4 h4 => ?_) h2
    have hσ4 : L2.wipe σ4 vs = L2.wipe σ vs := by
      have e5 : L2.wipe σ4 vs = L2.wipe (L2.wipe σ vs) vs := wipe_eq (by rw [e4, setAllV_len]) fun j hj => by rw [e4, setAllV_ne _ _ _ _ (fun z => hj (ht j z))]
      rw [e5]
      exact wipe_eq (wipe_length _ _) fun j hj => wipe_out hj
    have s13 := s2.trans s3
    have wlen : ∀ {G' H' : Hp} {ρ' : Ev} {M' : Fx}, Rs cf M' G' H' σ4 ρ' → ρ'.length = ρ1.length := fun {G' H' ρ' M'} R' => by
      rw [← R'.len, ← R1.len, e4, setAllV_len, wipe_length]
    refine ⟨hσ4, _, G3, ρ4, _, NX, R4, fun b ρ5 G5 H5 s5 R5 h5 => ?_, fun _ _ _ _ _ _ _ _ _ z => z.elim, h4⟩
    cases b with
    | false =>
      exact ⟨G5, ρ5, us, es, s13.trans s5, by rw [← hσ4]; exact R5.wipe hv, (ru.up s3).up s5, by omega, wlen R5, h5⟩
    | true =>
      refine ⟨_, G5, ρ5, _, NX, R5, fun e ρ6 v G6 H6 s6 R6 r6 h6 => ?_, fun _ _ _ _ _ _ _ _ _ z => z.elim, h5⟩
      refine ⟨us, (R6.mem Da _ Fx.up_same).1, by omega, G6, ρ6, us ++ [v], es ++ [e], (s13.trans s5).trans s6, ?_, (((ru.up s3).up s5).up s6).app (.cons r6 .nil), by simp; omega, wlen R6, ?_⟩
      · rw [← hσ4]
        exact (R6.repin (u := .lst (us ++ [v]))).wipe hv
      · simpa using h6
  · have e : i = ds.length := by omega
    subst e
    rw [List.drop_length] at h2
    refine .inl ⟨st, ?_⟩
    have h2 : P (.lst (es ++ [])) (backD vs 0 ρ1 ρ2) := h2
    rw [List.append_nil] at h2
    have hH := (R2.mem Da _ Fx.up_same)
    have ww : L2.wipe (L2.wipe σ vs) vs = L2.wipe σ vs := wipe_eq (wipe_length _ _) fun j hj => wipe_out hj
    have R3 : Rs cf (M.up Da (.lst us)) G2 H2 σ (backD vs 0 ρ1 (wipeD ρ2 vs)) := Rs.back (R1.pin (o := .lst us) nD) s2 R2 ww hv
    have R4 : Rs cf (M.up Da (.lst us)) G2 H2 σ (backD vs 0 ρ1 ρ2) := R3.less (by rw [backD_len, backD_len, wipeD_len]) fun j d z => by
      rw [backD_at vs 0 _ _ _ (by rw [wipeD_len]; exact hρ.symm)]
      rw [backD_at vs 0 _ _ _ hρ.symm] at z
      by_cases c : 0 + j ∈ vs
      · rw [if_pos c] at z ⊢
        exact z
      · rw [if_neg c] at z ⊢
        rw [wipeD_out (by simpa using c)]
        exact z
    exact q _ _ Da _ G2 H2 (s1.trans s2) mD hH.1 R4 (.lst hH.1 ru) h2
theorem f_lc {elt tg iter : Expr} {ifs : List Expr} {scope : Scope} {own : List (Str × Nat)} {pos : Pos} {i : AI} {t : Tg} {tt : AT} {te : AE} (hc : X.calm = true) (hN : X.N.Nodup) (hi : Ei X cf W tg iter i) (ok : BlkOk X.N X.env.scope scope own)
    (hg : ∀ (s : Shared) (H : Hp) (C : Addr) (cl : List (Str × Addr)) (fp : List Addr), PG (X.blk s H scope (compEnvC scope cl C X.env) fp) tg (t.c cf.K)) (ht : ∀ (s : Shared) (H : Hp) (C : Addr) (cl : List (Str × Addr)) (fp : List Addr), PTs (X.blk s H scope (compEnvC scope cl C X.env) fp) ifs (γT cf W0 tt))
    (he : ∀ (s : Shared) (H : Hp) (C : Addr) (cl : List (Str × Addr)) (fp : List Addr), Ee (X.blk s H scope (compEnvC scope cl C X.env) fp) cf W0 elt te) (hv : ∀ i ∈ own.map (·.2), i ∉ cf.O) (hts : ∀ i ∈ t.sl, i ∈ own.map (·.2)) (hs : ∀ x, foldedSetIterable iter X.env x = pure x := by intro _; rfl) :
    Ef X cf W (.ListComp elt [⟨tg, iter, ifs, 0⟩] scope pos) (aLc i t.a tt te (own.map (·.2))) := PE.imp (pe_lc hc hN hi ok hg ht he hs) (lc_ok hv hts)
/-- no tests -/
def tY : AT := fun ρ P _ => P true ρ
theorem ts_nil : PTs X [] (γT cf W tY) := ⟨fun pins s σ H Q I ⟨M, G, ρ, P, Xp, R, q, w, h⟩ => pts_nil.run pins s σ H Q I (q true ρ G H (Same.refl _) R h)⟩
theorem ts_one {c : Expr} {a : AT} (h : Et X cf W c a) : PTs X [c] (γT cf W a) := pts_one h
/-- name = [..], the name a local; the list never changes from here on, or is one's own -/
theorem s_setLc {j : Nat} {y : Str} {py : Pos} {elt tg iter : Expr} {ifs : List Expr} {scope : Scope} {own : List (Str × Nat)} {pos spos : Pos} {i : AI} {t : Tg} {tt : AT} {te : AE} (hc : X.calm = true) (hN : X.N.Nodup) (hy : X.N[j]? = some y) (hyl : X.env.scope.names.lookup y = some .local)
    (hsw : swapsWith (.ListComp elt [⟨tg, iter, ifs, 0⟩] scope pos) (some (.Name y py)) spos.line X.env = pure true) (hO : j ∉ cf.O) (hi : Ei X cf W tg iter i) (ok : BlkOk X.N X.env.scope scope own)
    (hg : ∀ (s : Shared) (H : Hp) (C : Addr) (cl : List (Str × Addr)) (fp : List Addr), PG (X.blk s H scope (compEnvC scope cl C X.env) fp) tg (t.c cf.K)) (ht : ∀ (s : Shared) (H : Hp) (C : Addr) (cl : List (Str × Addr)) (fp : List Addr), PTs (X.blk s H scope (compEnvC scope cl C X.env) fp) ifs (γT cf W0 tt))
    (he : ∀ (s : Shared) (H : Hp) (C : Addr) (cl : List (Str × Addr)) (fp : List Addr), Ee (X.blk s H scope (compEnvC scope cl C X.env) fp) cf W0 elt te) (hv : ∀ i ∈ own.map (·.2), i ∉ cf.O) (hts : ∀ i ∈ t.sl, i ∈ own.map (·.2)) (hs : ∀ x, foldedSetIterable iter X.env x = pure x := by intro _; rfl) :
    Es X cf W (.Assign [.Name y py] (.ListComp elt [⟨tg, iter, ifs, 0⟩] scope pos) spos) (sSet j (aLc i t.a tt te (own.map (·.2)))) := PS.imp (ps_setLc hc hN hy hyl hsw hi ok hg ht he hs) fun Dn σ H ⟨M, G, ρ, A, R, q, h⟩ =>
  lc_ok hv hts σ H _ ⟨M, G, ρ, _, A.ex, R, QE.qf fun d ρ1 v G1 H1 s1 R1 rd h1 => q.nx _ _ G1 H1 s1 (R1.set hO rd) h1, q.ex σ, h⟩
theorem s_setLcO {j : Nat} {y : Str} {py : Pos} {elt tg iter : Expr} {ifs : List Expr} {scope : Scope} {own : List (Str × Nat)} {pos spos : Pos} {i : AI} {t : Tg} {tt : AT} {te : AE} (hc : X.calm = true) (hN : X.N.Nodup) (hy : X.N[j]? = some y) (hyl : X.env.scope.names.lookup y = some .local)
    (hsw : swapsWith (.ListComp elt [⟨tg, iter, ifs, 0⟩] scope pos) (some (.Name y py)) spos.line X.env = pure true) (hO : j ∈ cf.O) (hn : cf.np ≤ j) (hi : Ei X cf W tg iter i) (ok : BlkOk X.N X.env.scope scope own)
    (hg : ∀ (s : Shared) (H : Hp) (C : Addr) (cl : List (Str × Addr)) (fp : List Addr), PG (X.blk s H scope (compEnvC scope cl C X.env) fp) tg (t.c cf.K)) (ht : ∀ (s : Shared) (H : Hp) (C : Addr) (cl : List (Str × Addr)) (fp : List Addr), PTs (X.blk s H scope (compEnvC scope cl C X.env) fp) ifs (γT cf W0 tt))
    (he : ∀ (s : Shared) (H : Hp) (C : Addr) (cl : List (Str × Addr)) (fp : List Addr), Ee (X.blk s H scope (compEnvC scope cl C X.env) fp) cf W0 elt te) (hv : ∀ i ∈ own.map (·.2), i ∉ cf.O) (hts : ∀ i ∈ t.sl, i ∈ own.map (·.2)) (hs : ∀ x, foldedSetIterable iter X.env x = pure x := by intro _; rfl) :
    Es X cf W (.Assign [.Name y py] (.ListComp elt [⟨tg, iter, ifs, 0⟩] scope pos) spos) (sSet j (aLc i t.a tt te (own.map (·.2)))) := PS.imp (ps_setLc hc hN hy hyl hsw hi ok hg ht he hs) fun Dn σ H ⟨M, G, ρ, A, R, q, h⟩ =>
  lc_ok hv hts σ H _ ⟨M, G, ρ, _, A.ex, R, fun d ρ1 p o G1 H1 s1 n ho R1 rd h1 => q.nx _ _ G1 H1 s1 (R1.setO n hO hn rd) h1, q.ex σ, h⟩
end
end Al

/-! AL4: defs, calls, methods, making. -/
namespace Al
open PySem PySem.Spec PyProof.Rows L2 Cr
/-! ### a def runs -/
def RunR (X : Cx) (f : Addr) (sp : Sp) (W : WX) : Prop := ∀ (pins : List (Addr × Obj)) (σ : L2.St) (H : Hp) (s : Shared) (Q : VK) (us : List Value) (vs : List V), Inv X pins σ H s → Vals vs us → sp vs H Q (WE W σ) → wpAny (model X.prog X.w) X.A (call (.ref f) us) (EP X pins σ Q) X.xe s
section
variable {X : Cx} {CX : CXT} {k : Nat} {f C : Addr} {fd : FuncData} {ps : List Str} {sp : Sp} {W : WX} {x m : Str} {p pos apos : Pos} {e o : Expr} {es : List Expr} {ta : TE} {t : TA}
theorem at00 (σ : L2.St) {E : XK} : PassesAt CX0 X σ E := fun _ _ _ _ _ _ c => c.elim
theorem atN {P : Program} {w : World} (σ : L2.St) : PassesAt (L2.CX P w) X σ (WE W0 σ) := fun _ _ _ _ _ _ h => by
  obtain ⟨_, _, _, _, _, _, _, _, _, _, _, _, h⟩ := h
  exact h.elim
theorem runOk (F : FnOk X.prog X.w X.K X.mg X.base CX k f fd ps sp) (hr : Room k X.A) (hb : Binds X.K fd ps []) (hx : ∀ σ, PassesAt CX X σ (WE W σ)) : RunR X f sp W := fun pins σ H s Q us vs I r h => run_fnS (E := WE W) F hr hb (hx σ) I r h
theorem runG (F : FnG X.prog X.w X.K X.mg X.base CX k f fd ps sp) (hr : Room k X.A) (gd : X.A.guards = some []) (hb : Binds X.K fd ps []) (hx : ∀ σ, PassesAt CX X σ (WE W σ)) : RunR X f sp W := fun pins σ H s Q us vs I r h => by
  have hl : us.length = ps.length := r.length.symm.trans (F.len _ _ _ _ h)
  have e := I.env0
  have b := hb s us I.kIn (by rw [List.append_nil]; exact hl)
  rw [List.append_nil] at b
  refine wpAny_call (codeAny_mono (F.run X.A X.stack s H ⟨us, []⟩ us vs Q _ hr gd e b r h) fun r s' q => ?_)
  match r, q with
  | .error e, q => exact hx σ pins H s e s' I q
  | .ok (.ret u), q => exact I.after q
def tRun (sp : Sp) (W : WX) (t : TA) : TE := fun σ H Q => t σ H fun vs H1 => sp vs H1 Q (WE W σ)
theorem pe_run (R : RunR X f sp W) (hg : Gl X x) (hm : X.mg x = some (.ref f)) (hk : PySem.W.keepIn X.K (.ref f) = true) (ha : PA X (e :: es) t) (hdb : (x == ("__debug__" : Str)) = false := by decide) (he : starEach (e :: es) X.env = (false, eval e X.env) :: starEach es X.env := by rfl) (hpl : (backTo pos (starEach es X.env)).any (·.1) = false := by rfl) :
    PE X (.Call (.Name x p) (e :: es) [] pos) (tRun sp W t) := by
  refine ⟨fun pins s σ H Q I h => ?_⟩
  refine wpAny_Call_Name_kw (ld_glob I hg hm ?_ hdb)
  refine PySem.W.callWith_K (h₀ := X.base) I.ok.mod.kin hk (thn (ha.run pos pins s σ H _ I h) fun us s1 ⟨vs, H1, I1, r, q⟩ => ⟨I1.kIn, ?_⟩) he hpl
  exact R pins σ H1 s1 Q us vs I1 r q
theorem pe_run0 (R : RunR X f sp W) (hg : Gl X x) (hm : X.mg x = some (.ref f)) (hk : PySem.W.keepIn X.K (.ref f) = true) (hdb : (x == ("__debug__" : Str)) = false := by decide) : PE X (.Call (.Name x p) [] [] pos) (tRun sp W tNil) := by
  refine ⟨fun pins s σ H Q I h => ?_⟩
  refine wpAny_Call_Name_kw (ld_glob I hg hm ?_ hdb)
  exact PySem.W.callWith_K0 I.kIn hk (R pins σ H s Q [] [] I .nil h)
def tRunM (C : Addr) (m : Str) (sp : Sp) (W : WX) (ta : TE) (t : TA) : TE := fun σ H Q => ta σ H fun x H1 => ∃ a dx fs, x = .ref a ∧ H1 a = some (.ins C dx fs) ∧ fs.lookup m = none ∧ t σ H1 fun vs H2 => sp (x :: vs) H2 Q (WE W σ)
theorem pe_runM {pl : Sem Bool} (R : RunR X f sp W) (he : PE X o ta) (c : Cls X.K C) (hm : Meth X.K C m f) (ha : PA X (e :: es) t)
    (hst : starEach (e :: es) X.env = (false, eval e X.env) :: starEach es X.env := by rfl) (hpl : (backTo pos (starEach es X.env)).any (·.1) = false := by rfl)
    (ht : eval (.Call (.Attribute o m apos) (e :: es) [] pos) X.env = (do
      let ov ← eval o X.env
      standAt apos.atName
      let (f, first) ← holding [ov] (getMethod ov m pl)
      callWith pos f first (backTo pos (starEach (e :: es) X.env)) (backToKw pos (keywordEach [] X.env))) := by rfl) :
    PE X (.Call (.Attribute o m apos) (e :: es) [] pos) (tRunM C m sp W ta t) := by
  refine ⟨fun pins s σ H Q I h => ?_⟩
  refine PySem.W.methodCall_KW (pl := pl) (thn (he.run pins s σ H _ I h) fun u s1 ⟨x, H1, I1, rx, a, dx, fs, ex, ea, l, q⟩ => ?_) ht
  subst ex
  obtain rfl : u = Value.ref a := rx
  refine getmeth_ok I1 ea c hm l ?_
  refine PySem.W.callWith_K (first := [.ref a]) (h₀ := X.base) I.ok.mod.kin hm.kp (thn (ha.run pos pins s1 σ H1 _ I1 q) fun us s2 ⟨vs, H2, I2, r, q2⟩ => ⟨I2.kIn, ?_⟩) hst hpl
  exact R pins σ H2 s2 Q (.ref a :: us) (.ref a :: vs) I2 (.cons rfl r) q2
theorem pe_runM0 {pl : Sem Bool} (R : RunR X f sp W) (he : PE X o ta) (c : Cls X.K C) (hm : Meth X.K C m f)
    (ht : eval (.Call (.Attribute o m apos) [] [] pos) X.env = (do
      let ov ← eval o X.env
      standAt apos.atName
      let (f, first) ← holding [ov] (getMethod ov m pl)
      callWith pos f first (backTo pos (starEach [] X.env)) (backToKw pos (keywordEach [] X.env))) := by rfl) :
    PE X (.Call (.Attribute o m apos) [] [] pos) (tRunM C m sp W ta tNil) := by
  refine ⟨fun pins s σ H Q I h => ?_⟩
  refine PySem.W.methodCall_KW (pl := pl) (thn (he.run pins s σ H _ I h) fun u s1 ⟨x, H1, I1, rx, a, dx, fs, ex, ea, l, q⟩ => ?_) ht
  subst ex
  obtain rfl : u = Value.ref a := rx
  refine getmeth_ok I1 ea c hm l ?_
  exact PySem.W.callWith_K0 (first := [.ref a]) I1.kIn hm.kp (R pins σ H1 s1 Q [.ref a] [.ref a] I1 (.cons rfl .nil) q)
/-- making -/
def RunM (X : Cx) (C : Addr) (sp : Sp) (W : WX) : Prop := ∀ (pins : List (Addr × Obj)) (σ : L2.St) (H : Hp) (s : Shared) (Q : VK) (us : List Value) (vs : List V), Inv X pins σ H s → Vals vs us →
  (∀ x dx, H x = none → H dx = none → dx ≠ x → sp (.ref x :: vs) (upd (upd H dx (.own x)) x (.ins C dx [])) (fun v H2 => v = .non ∧ Q (.ref x) H2) (WE W σ)) → wpAny (model X.prog X.w) X.A (call (.ref C) us) (EP X pins σ Q) X.xe s
theorem runMk (M : Mk X.K C f) (F : FnOk X.prog X.w X.K X.mg X.base CX k f fd ps sp) (hr : Room (k + 1) X.A) (hb : Binds X.K fd ps []) (hx : ∀ σ, PassesAt CX X σ (WE W σ)) : RunM X C sp W := fun pins σ H s Q us vs I r h => by
  have hq := h (s.heap.objs.size + 1) s.heap.objs.size (I.hok.fresh (Nat.le_succ _)) (I.hok.fresh (Nat.le_refl _)) (Nat.ne_of_lt (Nat.lt_succ_self _))
  have I2 := Inv.made (C := C) I
  have r2 : Vals (V.ref (s.heap.objs.size + 1) :: vs) (Value.ref (s.heap.objs.size + 1) :: us) := .cons rfl r
  have hl : (Value.ref (s.heap.objs.size + 1) :: us).length = ps.length := by
    have e := r2.length
    rw [F.len _ _ _ _ hq] at e
    exact e.symm
  have b := hb _ (Value.ref (s.heap.objs.size + 1) :: us) I2.kIn (by rw [List.append_nil]; exact hl)
  rw [List.append_nil] at b
  refine wpAny_call (make_map (f := f) I.kIn M.makes M.init (beq_iff_eq.mp M.fn) (codeAny_mono (F.run _ X.stack _ _ ⟨Value.ref (s.heap.objs.size + 1) :: us, []⟩ (Value.ref (s.heap.objs.size + 1) :: us) _ _ _ (hr.make C us [])
    (I2.env0.make C us []) b r2 hq) fun r s' hq' => ?_))
  cases r with
  | error e => exact hx σ pins _ _ e s' I2 hq'
  | ok fl =>
    cases fl with
    | ret u =>
      obtain ⟨v, H', I3, rv, ev, q3⟩ := I2.after hq'
      subst ev
      exact ⟨rv, ⟨V.ref (s.heap.objs.size + 1), H', I3, rfl, q3⟩⟩
    | next => exact False.elim hq'
    | brk => exact False.elim hq'
    | cont => exact False.elim hq'
def tRunC (C : Addr) (sp : Sp) (W : WX) (t : TA) : TE := fun σ H Q => t σ H fun vs H1 => ∀ x dx, H1 x = none → H1 dx = none → dx ≠ x →
  sp (.ref x :: vs) (upd (upd H1 dx (.own x)) x (.ins C dx [])) (fun v H2 => v = .non ∧ Q (.ref x) H2) (WE W σ)
theorem pe_runC (R : RunM X C sp W) (hg : Gl X x) (hm : X.mg x = some (.ref C)) (hk : PySem.W.keepIn X.K (.ref C) = true) (ha : PA X (e :: es) t) (hdb : (x == ("__debug__" : Str)) = false := by decide) (he : starEach (e :: es) X.env = (false, eval e X.env) :: starEach es X.env := by rfl) (hpl : (backTo pos (starEach es X.env)).any (·.1) = false := by rfl) :
    PE X (.Call (.Name x p) (e :: es) [] pos) (tRunC C sp W t) := by
  refine ⟨fun pins s σ H Q I h => ?_⟩
  refine wpAny_Call_Name_kw (ld_glob I hg hm ?_ hdb)
  refine PySem.W.callWith_K (h₀ := X.base) I.ok.mod.kin hk (thn (ha.run pos pins s σ H _ I h) fun us s1 ⟨vs, H1, I1, r, q⟩ => ⟨I1.kIn, ?_⟩) he hpl
  exact R pins σ H1 s1 Q us vs I1 r q
theorem pe_runC0 (R : RunM X C sp W) (hg : Gl X x) (hm : X.mg x = some (.ref C)) (hk : PySem.W.keepIn X.K (.ref C) = true) (hdb : (x == ("__debug__" : Str)) = false := by decide) : PE X (.Call (.Name x p) [] [] pos) (tRunC C sp W tNil) := by
  refine ⟨fun pins s σ H Q I h => ?_⟩
  refine wpAny_Call_Name_kw (ld_glob I hg hm ?_ hdb)
  exact PySem.W.callWith_K0 I.kIn hk (R pins σ H s Q [] [] I .nil h)
end
/-! ### promises over plain values -/
abbrev AF := List D → (D → List D → Prop) → XP → Prop
abbrev AF0 := List D → (D → Prop) → XP → Prop
abbrev AFo := D → List D → (D → D → Prop) → XP → Prop
def af0 (F : AF0) : AF := fun ds P X => F ds (fun d => P d ds) X
def afo (F : AFo) : AF := fun ds P X => match ds with
  | o :: r => F o r (fun d o' => P d (o' :: r)) X
  | [] => False
def NoPi (m : Hp) : Fx := ⟨m, fun _ => none⟩
def pi0 (a0 : Addr) : Nat → Option Addr
  | 0 => some a0
  | _ + 1 => none
def Lift (cf : Cf) (F : AF) : Sp := fun vs H Q E => ∃ (m G : Hp) (ds : List D) (P : D → List D → Prop) (X : XP), Rs cf (NoPi m) G H (vs.map some) (ds.map some) ∧ F ds P X ∧
  (∀ d ds' v G' H', Same G G' → Rs cf (NoPi m) G' H' (vs.map some) (ds'.map some) → Rp cf.K cf.cl G' v d → P d ds' → Q v H') ∧
  ∀ x cls dx G' H', Same G G' → Same G' H' → (∀ b o, m b = some o → H' b = some o ∧ G' b = none) → XR cf.K cf.cl G' cls dx x → X x → E cls dx H'
theorem Lift.len {cf : Cf} {F : AF} {n : Nat} (h : ∀ ds P X, F ds P X → ds.length = n) (vs : List V) (H : Hp) (Q : VK) (E : XK) (l : Lift cf F vs H Q E) : vs.length = n := by
  obtain ⟨m, G, ds, P, X, R, hF, _⟩ := l
  have := R.len
  rw [List.length_map, List.length_map] at this
  rw [this]
  exact h ds P X hF
theorem sl_map : ∀ (ds : List D) (i : Nat), sl (ds.map some) i = ds[i]?
  | [], i => by simp [sl]
  | d :: r, 0 => by simp [sl]
  | d :: r, i + 1 => by simp only [List.map_cons, sl, List.getElem?_cons_succ]; exact sl_map r i
theorem sl_pad : ∀ (ρ : Ev) (k i : Nat), sl (ρ ++ List.replicate k none) i = sl ρ i
  | [], 0, i => by simp [sl]
  | [], k + 1, 0 => by simp [sl, List.replicate_succ]
  | [], k + 1, i + 1 => by
    have := sl_pad [] k i
    simp only [List.nil_append] at this
    simp only [List.nil_append, List.replicate_succ, sl]
    exact this
  | d :: r, k, 0 => rfl
  | d :: r, k, i + 1 => sl_pad r k i
theorem Rs.start {cf : Cf} {m G H : Hp} {vs : List V} {ds : List D} {N : List Str} {k : Nat} (R : Rs cf (NoPi m) G H (vs.map some) (ds.map some)) (hk : N.length - vs.length = k) : Rs cf (NoPi m) G H (L2.start N vs) (ds.map some ++ List.replicate k none) := by
  have hl := R.len
  have look : ∀ i d, sl (ds.map some ++ List.replicate k none) i = some d → sl (ds.map some) i = some d ∧ (L2.start N vs)[i]? = (vs.map some)[i]? := fun i d e => by
    rw [sl_pad] at e
    have hi := sl_lt e
    refine ⟨e, ?_⟩
    unfold L2.start
    rw [List.getElem?_append_left (by rw [hl]; exact hi)]
  refine ⟨R.same, R.mem, by unfold L2.start; rw [hk]; simp only [List.length_append, List.length_replicate]; rw [hl], fun i d hi e => ?_, fun i d hi e => ?_, fun i j d e a hi hj z1 z2 q1 q2 => ?_, fun i a e => nomatch e⟩
  · obtain ⟨e1, e2⟩ := look i d e
    rw [e2]
    exact R.imm i d hi e1
  · obtain ⟨e1, e2⟩ := look i d e
    rw [e2]
    exact R.own i d hi e1
  · obtain ⟨a1, a2⟩ := look i d z1
    obtain ⟨b1, b2⟩ := look j e z2
    rw [a2] at q1
    rw [b2] at q2
    exact R.dis i j d e a hi hj a1 b1 q1 q2
/-- a def's end: of a pure one; of one whose first parameter is changed in place -/
def endP (P : D → Prop) (X : XP) : AK := ⟨fun _ => P .non, fun d _ => P d, fun _ => False, fun _ => False, X⟩
def at0s (ρ : Ev) (k : D → Prop) : Prop := match sl ρ 0 with
  | some o => k o
  | none => False
def endO (P : D → D → Prop) (X : XP) : AK := ⟨fun ρ => at0s ρ (P .non), fun d ρ => at0s ρ (P d), fun _ => False, fun _ => False, X⟩
theorem at0s_of {ρ : Ev} {k : D → Prop} (h : at0s ρ k) : ∃ o, sl ρ 0 = some o ∧ k o := by
  unfold at0s at h
  cases e : sl ρ 0 with
  | none => rw [e] at h; exact h.elim
  | some o => rw [e] at h; exact ⟨o, rfl, h⟩
section
variable {X : Cx} {cf cg : Cf} {W : WX}
theorem body0 {E : XK} {H : Hp} {vs : List V} {Q : VK} {F : AF0} {N : List Str} {k n : Nat} {s : AS} (hlen : ∀ ds P X, F ds P X → ds.length = n) (hF : ∀ ds P X, F ds P X → s (endP P X) (ds.map some ++ List.replicate k none)) (hk : N.length - n = k) (hp : ∀ i ∈ cf.O, n ≤ i)
    (h : Lift cf (af0 F) vs H Q E) : γS cf (fun cls d _ H => E cls d H) s { nx := fun _ H' => Q .non H', rt := Q } (start N vs) H := by
  obtain ⟨m, G, ds, P, Xp, R, hf, q, qx⟩ := h
  have hd : ds.length = n := hlen ds _ _ hf
  have hl : vs.length = n := by
    have := R.len
    rw [List.length_map, List.length_map] at this
    rw [this]; exact hd
  have R2 := R.start (N := N) (k := k) (by rw [hl]; exact hk)
  have hO : ∀ i d, i ∈ cf.O → sl (ds.map some) i = some d → False := fun i d hi e => by
    have := sl_lt e
    rw [List.length_map, hd] at this
    have := hp i hi
    omega
  have back : ∀ {σ : L2.St} {ρ : Ev} {G' H' : Hp}, Same G G' → Rs cf (NoPi m) G' H' σ ρ → Rs cf (NoPi m) G' H' (vs.map some) (ds.map some) := fun s1 R1 =>
    ⟨R1.same, R1.mem, R.len, fun i d hi e => (by obtain ⟨v, e1, e2⟩ := R.imm i d hi e; exact ⟨v, e1, e2.up s1⟩), fun i d hi e => (hO i d hi e).elim, fun i j d e a hi hj z1 => (hO i d hi z1).elim, fun i a e => nomatch e⟩
  exact ⟨NoPi m, G, _, endP (fun d => P d ds) Xp, R2, ⟨fun σ ρ G' H' s1 R1 h1 => q .non ds .non G' H' s1 (back s1 R1) .non h1, fun σ ρ G' H' v d s1 R1 rd h1 => q d ds v G' H' s1 (back s1 R1) rd h1, fun _ _ _ _ _ _ z => z.elim, fun _ _ _ _ _ _ z => z.elim, fun σ x cls dx G' H' s1 s2 hm xr hx => qx x cls dx G' H' s1 s2 hm xr hx⟩, hF ds _ _ hf⟩
theorem bodyO {E : XK} {H : Hp} {vs : List V} {Q : VK} {F : AFo} {N : List Str} {k n : Nat} {s : AS} (hlen : ∀ o ds P X, F o ds P X → ds.length + 1 = n) (hF : ∀ o ds P X, F o ds P X → s (endO P X) ((o :: ds).map some ++ List.replicate k none)) (hk : N.length - n = k) (h0 : 0 ∈ cf.O) (hp : ∀ i ∈ cf.O, i = 0 ∨ n ≤ i) (hn : 0 < cf.np)
    (h : Lift cf (afo F) vs H Q E) : γS cf (fun cls d _ H => E cls d H) s { nx := fun _ H' => Q .non H', rt := Q } (start N vs) H := by
  obtain ⟨m, G, dss, P, Xp, R, hf, q, qx⟩ := h
  cases dss with
  | nil => exact hf.elim
  | cons o ds =>
  have hf : F o ds (fun d o' => P d (o' :: ds)) Xp := hf
  have hd : ds.length + 1 = n := hlen o ds _ _ hf
  have hl : vs.length = n := by
    have := R.len
    rw [List.length_map, List.length_map] at this
    rw [this]; exact hd
  obtain ⟨a0, v0, g0, m0, r0⟩ := R.own 0 o h0 rfl
  have R2 := R.start (N := N) (k := k) (by rw [hl]; exact hk)
  have v1 : (start N vs)[0]? = some (some (.ref a0)) := by
    unfold L2.start
    rw [List.getElem?_append_left (by rw [List.length_map]; omega)]
    exact v0
  have R3 : Rs cf ⟨m, pi0 a0⟩ G H (start N vs) ((o :: ds).map some ++ List.replicate k none) := ⟨R2.same, R2.mem, R2.len, R2.imm, R2.own, R2.dis, fun i a e => by
    cases i with
    | zero => cases e; exact ⟨h0, hn, v1⟩
    | succ i => cases e⟩
  have hO : ∀ (o' : D) i d, i ∈ cf.O → sl ((o' :: ds).map some) i = some d → i = 0 ∧ d = o' := fun o' i d hi e => by
    have := sl_lt e
    rw [List.length_map, List.length_cons, hd] at this
    have : i = 0 := by have := hp i hi; omega
    subst this
    cases e
    exact ⟨rfl, rfl⟩
  have back : ∀ {σ : L2.St} {ρ : Ev} {G' H' : Hp} {o' : D}, Same G G' → Rs cf ⟨m, pi0 a0⟩ G' H' σ ρ → sl ρ 0 = some o' → Rs cf (NoPi m) G' H' (vs.map some) ((o' :: ds).map some) := fun {σ ρ G' H' o'} s1 R1 e0 => by
    obtain ⟨a, w1, w2, w3, w4⟩ := R1.own 0 o' h0 e0
    obtain ⟨_, _, p1⟩ := R1.par 0 a0 rfl
    rw [p1] at w1
    cases w1
    refine ⟨R1.same, R1.mem, by simpa using R.len, fun i d hi e => ?_, fun i d hi e => ?_, fun i j d e a hi hj z1 z2 _ _ => ?_, fun i a e => nomatch e⟩
    · have ni : i ≠ 0 := fun c => hi (c ▸ h0)
      obtain ⟨j, rfl⟩ : ∃ j, i = j + 1 := ⟨i - 1, by omega⟩
      obtain ⟨v, e1, e2⟩ := R.imm (j + 1) d hi e
      exact ⟨v, e1, e2.up s1⟩
    · obtain ⟨rfl, rfl⟩ := hO o' i d hi e
      exact ⟨a0, v0, w2, w3, w4⟩
    · rw [(hO o' i d hi z1).1, (hO o' j e hj z2).1]
  refine ⟨_, G, _, endO (fun d o' => P d (o' :: ds)) Xp, R3, ⟨fun σ ρ G' H' s1 R1 h1 => ?_, fun σ ρ G' H' v d s1 R1 rd h1 => ?_, fun _ _ _ _ _ _ z => z.elim, fun _ _ _ _ _ _ z => z.elim, fun σ x cls dx G' H' s1 s2 hm xr hx => qx x cls dx G' H' s1 s2 hm xr hx⟩, hF o ds _ _ hf⟩
  · obtain ⟨o', e, h1⟩ := at0s_of h1
    exact q .non _ .non G' H' s1 (back s1 R1 e) .non h1
  · obtain ⟨o', e, h1⟩ := at0s_of h1
    exact q d _ v G' H' s1 (back s1 R1 e) rd h1
theorem bodyN {E : XK} {H : Hp} {vs : List V} {Q : VK} {F : AF0} {N : List Str} {k n : Nat} {s : AS} (hlen : ∀ ds P X, F ds P X → ds.length = n) (hF : ∀ ds P X, F ds P X → s (endP P NX) (ds.map some ++ List.replicate k none)) (hk : N.length - n = k) (hp : ∀ i ∈ cf.O, n ≤ i)
    (h : Lift cf (af0 F) vs H Q E) : γS cf W s { nx := fun _ H' => Q .non H', rt := Q } (start N vs) H := by
  obtain ⟨m, G, ds, P, Xp, R, hf, q, qx⟩ := h
  have hd : ds.length = n := hlen ds _ _ hf
  have hl : vs.length = n := by
    have := R.len
    rw [List.length_map, List.length_map] at this
    rw [this]; exact hd
  have R2 := R.start (N := N) (k := k) (by rw [hl]; exact hk)
  have hO : ∀ i d, i ∈ cf.O → sl (ds.map some) i = some d → False := fun i d hi e => by
    have := sl_lt e
    rw [List.length_map, hd] at this
    have := hp i hi
    omega
  have back : ∀ {σ : L2.St} {ρ : Ev} {G' H' : Hp}, Same G G' → Rs cf (NoPi m) G' H' σ ρ → Rs cf (NoPi m) G' H' (vs.map some) (ds.map some) := fun s1 R1 =>
    ⟨R1.same, R1.mem, R.len, fun i d hi e => (by obtain ⟨v, e1, e2⟩ := R.imm i d hi e; exact ⟨v, e1, e2.up s1⟩), fun i d hi e => (hO i d hi e).elim, fun i j d e a hi hj z1 => (hO i d hi z1).elim, fun i a e => nomatch e⟩
  exact ⟨NoPi m, G, _, endP (fun d => P d ds) NX, R2, ⟨fun σ ρ G' H' s1 R1 h1 => q .non ds .non G' H' s1 (back s1 R1) .non h1, fun σ ρ G' H' v d s1 R1 rd h1 => q d ds v G' H' s1 (back s1 R1) rd h1, fun _ _ _ _ _ _ z => z.elim, fun _ _ _ _ _ _ z => z.elim, fun σ x cls dx G' H' s1 s2 hm xr hx => hx.elim⟩, hF ds _ _ hf⟩
theorem bodyON {E : XK} {H : Hp} {vs : List V} {Q : VK} {F : AFo} {N : List Str} {k n : Nat} {s : AS} (hlen : ∀ o ds P X, F o ds P X → ds.length + 1 = n) (hF : ∀ o ds P X, F o ds P X → s (endO P NX) ((o :: ds).map some ++ List.replicate k none)) (hk : N.length - n = k) (h0 : 0 ∈ cf.O) (hp : ∀ i ∈ cf.O, i = 0 ∨ n ≤ i) (hn : 0 < cf.np)
    (h : Lift cf (afo F) vs H Q E) : γS cf W s { nx := fun _ H' => Q .non H', rt := Q } (start N vs) H := by
  obtain ⟨m, G, dss, P, Xp, R, hf, q, qx⟩ := h
  cases dss with
  | nil => exact hf.elim
  | cons o ds =>
  have hf : F o ds (fun d o' => P d (o' :: ds)) Xp := hf
  have hd : ds.length + 1 = n := hlen o ds _ _ hf
  have hl : vs.length = n := by
    have := R.len
    rw [List.length_map, List.length_map] at this
    rw [this]; exact hd
  obtain ⟨a0, v0, g0, m0, r0⟩ := R.own 0 o h0 rfl
  have R2 := R.start (N := N) (k := k) (by rw [hl]; exact hk)
  have v1 : (start N vs)[0]? = some (some (.ref a0)) := by
    unfold L2.start
    rw [List.getElem?_append_left (by rw [List.length_map]; omega)]
    exact v0
  have R3 : Rs cf ⟨m, pi0 a0⟩ G H (start N vs) ((o :: ds).map some ++ List.replicate k none) := ⟨R2.same, R2.mem, R2.len, R2.imm, R2.own, R2.dis, fun i a e => by
    cases i with
    | zero => cases e; exact ⟨h0, hn, v1⟩
    | succ i => cases e⟩
  have hO : ∀ (o' : D) i d, i ∈ cf.O → sl ((o' :: ds).map some) i = some d → i = 0 ∧ d = o' := fun o' i d hi e => by
    have := sl_lt e
    rw [List.length_map, List.length_cons, hd] at this
    have : i = 0 := by have := hp i hi; omega
    subst this
    cases e
    exact ⟨rfl, rfl⟩
  have back : ∀ {σ : L2.St} {ρ : Ev} {G' H' : Hp} {o' : D}, Same G G' → Rs cf ⟨m, pi0 a0⟩ G' H' σ ρ → sl ρ 0 = some o' → Rs cf (NoPi m) G' H' (vs.map some) ((o' :: ds).map some) := fun {σ ρ G' H' o'} s1 R1 e0 => by
    obtain ⟨a, w1, w2, w3, w4⟩ := R1.own 0 o' h0 e0
    obtain ⟨_, _, p1⟩ := R1.par 0 a0 rfl
    rw [p1] at w1
    cases w1
    refine ⟨R1.same, R1.mem, by simpa using R.len, fun i d hi e => ?_, fun i d hi e => ?_, fun i j d e a hi hj z1 z2 _ _ => ?_, fun i a e => nomatch e⟩
    · have ni : i ≠ 0 := fun c => hi (c ▸ h0)
      obtain ⟨j, rfl⟩ : ∃ j, i = j + 1 := ⟨i - 1, by omega⟩
      obtain ⟨v, e1, e2⟩ := R.imm (j + 1) d hi e
      exact ⟨v, e1, e2.up s1⟩
    · obtain ⟨rfl, rfl⟩ := hO o' i d hi e
      exact ⟨a0, v0, w2, w3, w4⟩
    · rw [(hO o' i d hi z1).1, (hO o' j e hj z2).1]
  refine ⟨_, G, _, endO (fun d o' => P d (o' :: ds)) NX, R3, ⟨fun σ ρ G' H' s1 R1 h1 => ?_, fun σ ρ G' H' v d s1 R1 rd h1 => ?_, fun _ _ _ _ _ _ z => z.elim, fun _ _ _ _ _ _ z => z.elim, fun σ x cls dx G' H' s1 s2 hm xr hx => hx.elim⟩, hF o ds _ _ hf⟩
  · obtain ⟨o', e, h1⟩ := at0s_of h1
    exact q .non _ .non G' H' s1 (back s1 R1 e) .non h1
  · obtain ⟨o', e, h1⟩ := at0s_of h1
    exact q d _ v G' H' s1 (back s1 R1 e) rd h1
/-! ### calls -/
/-- all but G stays, but for a -/
def outG (G H : Hp) (no : Addr → Prop) [DecidablePred no] : Hp := fun b => if no b then none else match G b with
  | none => H b
  | some _ => none
theorem outG_of {G H : Hp} {no : Addr → Prop} [DecidablePred no] {b : Addr} {o : HO} (h : outG G H no b = some o) : H b = some o ∧ G b = none ∧ ¬ no b := by
  unfold outG at h
  split at h
  · cases h
  · next c =>
    split at h
    · next e => exact ⟨h, e, c⟩
    · cases h
theorem outG_to {G H : Hp} {no : Addr → Prop} [DecidablePred no] {b : Addr} {o : HO} (h : H b = some o) (g : G b = none) (n : ¬ no b) : outG G H no b = some o := by
  unfold outG
  rw [if_neg n, g]
  exact h
/-- the caller's part behind a call -/
theorem Rs.after {M : Fx} {G H G' H' : Hp} {σ : L2.St} {ρ : Ev} {no : Addr → Prop} [DecidablePred no] (R : Rs cf M G H σ ρ) (s : Same G G') (s' : Same G' H') (hm : ∀ b o, outG G H no b = some o → H' b = some o ∧ G' b = none)
    (hM : ∀ b o, M.m b = some o → ¬ no b) (hO : ∀ i d a, i ∈ cf.O → sl ρ i = some d → σ[i]? = some (some (.ref a)) → ¬ no a) : Rs cf M G' H' σ ρ := by
  refine ⟨s', fun b o e => ?_, R.len, fun i d hi e => ?_, fun i d hi e => ?_, R.dis, R.par⟩
  · obtain ⟨h1, h2⟩ := R.mem b o e
    exact hm b o (outG_to h1 h2 (hM b o e))
  · obtain ⟨v, e1, e2⟩ := R.imm i d hi e
    exact ⟨v, e1, e2.up s⟩
  · obtain ⟨a, h1, h2, h3, h4⟩ := R.own i d hi e
    obtain ⟨o, ho⟩ := h4.there
    obtain ⟨k1, k2⟩ := hm a o (outG_to ho h2 (hO i d a hi e h1))
    exact ⟨a, h1, k2, h3, h4.up s (k1.trans ho.symm)⟩
theorem Rps.sl {K : PySem.W.Frag} {cl : Tb} {G : Hp} {vs : List V} {ds : List D} (r : Rps K cl G vs ds) {i : Nat} {d : D} (h : Al.sl (ds.map some) i = some d) : ∃ v, (vs.map some)[i]? = some (some v) ∧ Rp K cl G v d := by
  rw [sl_map] at h
  obtain ⟨v, e, r⟩ := r.getD h
  exact ⟨v, by rw [List.getElem?_map, e]; rfl, r⟩
theorem XW.call {M : Fx} {G H : Hp} {σ : L2.St} {ρ : Ev} {Xp : XP} {no : Addr → Prop} [DecidablePred no] (w : XW cf W M G σ Xp) (R : Rs cf M G H σ ρ) (hM : ∀ b o, M.m b = some o → ¬ no b) (hK : cg.K = cf.K) (hc : cg.cl = cf.cl) :
    ∀ x cls dx G' H', Same G G' → Same G' H' → (∀ b o, outG G H no b = some o → H' b = some o ∧ G' b = none) → XR cg.K cg.cl G' cls dx x → Xp x → WE W σ cls dx H' := fun x cls dx G' H' s1 s2 hm xr hx => by
  rw [hK, hc] at xr
  exact w x cls dx G' H' s1 s2 (fun b o e => hm b o (outG_to (R.mem b o e).1 (R.mem b o e).2 (hM b o e))) xr hx
def noA : Addr → Prop := fun _ => False
instance : DecidablePred noA := fun _ => isFalse id
theorem lift0 {F : AF0} {M : Fx} {G H : Hp} {σ : L2.St} {ρ : Ev} {P : D → Ev → Prop} {Xp : XP} {Q : VK} {vs : List V} {ds : List D} {n : Nat} (hlen : ∀ ds P X, F ds P X → ds.length = n) (hp : ∀ i ∈ cg.O, n ≤ i) (hK : cg.K = cf.K) (hc : cg.cl = cf.cl)
    (R : Rs cf M G H σ ρ) (r : Rps cf.K cf.cl G vs ds) (q : QE cf M G σ P Q) (w : XW cf W M G σ Xp) (h : F ds (fun d => P d ρ) Xp) : Lift cg (af0 F) vs H Q (WE W σ) := by
  have hd := hlen ds _ _ h
  have hO : ∀ i d, i ∈ cg.O → sl (ds.map some) i = some d → False := fun i d hi e => by
    have := sl_lt e
    rw [List.length_map, hd] at this
    have := hp i hi
    omega
  refine ⟨outG G H noA, G, ds, fun d ds' => P d ρ, Xp, ⟨R.same, fun b o (e : outG G H noA b = some o) => ⟨(outG_of e).1, (outG_of e).2.1⟩, by simp [r.len], fun i d hi e => ?_, fun i d hi e => (hO i d hi e).elim, fun i j d e a hi hj z1 => (hO i d hi z1).elim, fun i a e => nomatch e⟩, h, fun d ds' v G' H' s1 R1 rd hP => ?_, w.call R (fun _ _ _ z => z) hK hc⟩
  · rw [hK, hc]; exact r.sl e
  · rw [hK, hc] at rd
    exact q d ρ v G' H' s1 (R.after (no := noA) s1 R1.same R1.mem (fun _ _ _ z => z) (fun _ _ _ _ _ _ z => z)) rd hP
def aCall (F : AF0) (a : AA) : AE := fun ρ P X => a ρ (fun xs ρ1 => withV xs fun ds => F ds (fun d => P d ρ1) X) X
theorem e_call {f : Addr} {x : Str} {e : Expr} {es : List Expr} {p pos : Pos} {F : AF0} {a : AA} {n : Nat} (Rn : RunR X f (Lift cg (af0 F)) W) (hlen : ∀ ds P X, F ds P X → ds.length = n) (hp : ∀ i ∈ cg.O, n ≤ i) (hg : Gl X x) (hm : X.mg x = some (.ref f)) (hk : PySem.W.keepIn X.K (.ref f) = true) (ha : Ea X cf W (e :: es) a)
    (hK : cg.K = cf.K := by rfl) (hc : cg.cl = cf.cl := by rfl) (hdb : (x == ("__debug__" : Str)) = false := by decide) (he : starEach (e :: es) X.env = (false, eval e X.env) :: starEach es X.env := by rfl) (hpl : (backTo pos (starEach es X.env)).any (·.1) = false := by rfl) :
    Ee X cf W (.Call (.Name x p) (e :: es) [] pos) (aCall F a) := PE.imp (pe_run Rn hg hm hk ha hdb he hpl) fun σ H Q ⟨M, G, ρ, P, Xp, R, q, w, h⟩ => by
  refine ⟨M, G, ρ, _, Xp, R, fun xs ρ1 vs G1 H1 s1 R1 ra h1 => ?_, w, h⟩
  obtain ⟨ds, e, h1⟩ := withV_of h1
  exact lift0 hlen hp hK hc R1 (vals_of ra e) (q.up s1) (w.up s1) h1
theorem e_call0 {f : Addr} {x : Str} {p pos : Pos} {F : AF0} {n : Nat} (Rn : RunR X f (Lift cg (af0 F)) W) (hlen : ∀ ds P X, F ds P X → ds.length = n) (hp : ∀ i ∈ cg.O, n ≤ i) (hg : Gl X x) (hm : X.mg x = some (.ref f)) (hk : PySem.W.keepIn X.K (.ref f) = true)
    (hK : cg.K = cf.K := by rfl) (hc : cg.cl = cf.cl := by rfl) (hdb : (x == ("__debug__" : Str)) = false := by decide) :
    Ee X cf W (.Call (.Name x p) [] [] pos) (aCall F aNil) := PE.imp (pe_run0 Rn hg hm hk hdb) fun σ H Q ⟨M, G, ρ, P, Xp, R, q, w, h⟩ => lift0 hlen hp hK hc R .nil q w h
/-- o.m(..), o of the class number c -/
def aMeth (c : Nat) (F : AF0) (o : AE) (a : AA) : AE := fun ρ P X => o ρ (fun d ρ1 => match d with
  | .ins c' fs => match Nat.beq c' c with
    | true => a ρ1 (fun xs ρ2 => withV xs fun ds => F (.ins c' fs :: ds) (fun d => P d ρ2) X) X
    | false => False
  | _ => False) X
theorem meth_ok {C : Addr} {m : Str} {c n : Nat} {F : AF0} {o : AE} {a : AA} (hlen : ∀ ds P X, F ds P X → ds.length = n) (hp : ∀ i ∈ cg.O, n ≤ i) (hK : cg.K = cf.K) (hc : cg.cl = cf.cl) (hC : cf.cl.a c = C) (hm : m ∉ cf.cl.nm c) :
    ∀ σ H Q, γE cf W (aMeth c F o a) σ H Q → tRunM C m (Lift cg (af0 F)) W (γE cf W o) (γA cf W a) σ H Q := by
  rintro σ H Q ⟨M, G, ρ, P, Xp, R, q, w, h⟩
  refine ⟨M, G, ρ, _, Xp, R, fun d ρ1 v G1 H1 s1 R1 rd h1 => ?_, w, h⟩
  cases rd with
  | @ins a dx c' ns vs' ds' h2 e2 r2 =>
    simp only at h1
    cases hb : Nat.beq c' c with
    | false => rw [hb] at h1; exact h1.elim
    | true =>
      rw [hb] at h1
      obtain rfl : c' = c := Nat.eq_of_beq_eq_true hb
      refine ⟨a, dx, _, rfl, by rw [← hC]; exact R1.same _ _ h2, ?_, M, G1, ρ1, _, Xp, R1, fun xs ρ2 vs G2 H2 s2 R2 ra h3 => ?_, w.up s1, h1⟩
      · exact zip_none fun z => hm (by rw [← e2.1] at z; exact List.mem_of_mem_take z)
      · obtain ⟨ds, e, h3⟩ := withV_of h3
        exact lift0 hlen hp hK hc R2 (.cons (.ins (s2 _ _ h2) e2 (r2.up s2)) (vals_of ra e)) (q.up (s1.trans s2)) (w.up (s1.trans s2)) h3
  | _ => exact h1.elim
theorem e_meth {f C : Addr} {m : Str} {c n : Nat} {x e : Expr} {es : List Expr} {apos pos : Pos} {F : AF0} {o : AE} {a : AA} {pl : Sem Bool} (Rn : RunR X f (Lift cg (af0 F)) W) (hlen : ∀ ds P X, F ds P X → ds.length = n) (hp : ∀ i ∈ cg.O, n ≤ i) (ho : Ee X cf W x o) (hcl : Cls X.K C) (hme : Meth X.K C m f) (ha : Ea X cf W (e :: es) a)
    (hC : cf.cl.a c = C) (hm : m ∉ cf.cl.nm c) (hK : cg.K = cf.K := by rfl) (hc : cg.cl = cf.cl := by rfl)
    (hst : starEach (e :: es) X.env = (false, eval e X.env) :: starEach es X.env := by rfl) (hpl : (backTo pos (starEach es X.env)).any (·.1) = false := by rfl)
    (ht : eval (.Call (.Attribute x m apos) (e :: es) [] pos) X.env = (do
      let ov ← eval x X.env
      standAt apos.atName
      let (f, first) ← holding [ov] (getMethod ov m pl)
      callWith pos f first (backTo pos (starEach (e :: es) X.env)) (backToKw pos (keywordEach [] X.env))) := by rfl) :
    Ee X cf W (.Call (.Attribute x m apos) (e :: es) [] pos) (aMeth c F o a) := PE.imp (pe_runM Rn ho hcl hme ha hst hpl ht) (meth_ok hlen hp hK hc hC hm)
theorem e_meth0 {f C : Addr} {m : Str} {c n : Nat} {x : Expr} {apos pos : Pos} {F : AF0} {o : AE} {pl : Sem Bool} (Rn : RunR X f (Lift cg (af0 F)) W) (hlen : ∀ ds P X, F ds P X → ds.length = n) (hp : ∀ i ∈ cg.O, n ≤ i) (ho : Ee X cf W x o) (hcl : Cls X.K C) (hme : Meth X.K C m f)
    (hC : cf.cl.a c = C) (hm : m ∉ cf.cl.nm c) (hK : cg.K = cf.K := by rfl) (hc : cg.cl = cf.cl := by rfl)
    (ht : eval (.Call (.Attribute x m apos) [] [] pos) X.env = (do
      let ov ← eval x X.env
      standAt apos.atName
      let (f, first) ← holding [ov] (getMethod ov m pl)
      callWith pos f first (backTo pos (starEach [] X.env)) (backToKw pos (keywordEach [] X.env))) := by rfl) :
    Ee X cf W (.Call (.Attribute x m apos) [] [] pos) (aMeth c F o aNil) := PE.imp (pe_runM0 Rn ho hcl hme ht) fun σ H Q h => by
  have := meth_ok (cg := cg) (C := C) (m := m) hlen hp hK hc hC hm σ H Q h
  obtain ⟨M, G, ρ, P, Xp, R, q, w, h⟩ := this
  refine ⟨M, G, ρ, P, Xp, R, fun d ρ' v G' H' s1 R1 r1 p1 => ?_, w, h⟩
  obtain ⟨a, dx, fs, e1, e2, e3, h4⟩ := q d ρ' v G' H' s1 R1 r1 p1
  refine ⟨a, dx, fs, e1, e2, e3, ?_⟩
  obtain ⟨M, G, ρ, P, Xp, R, q, w, h⟩ := h4
  exact q [] ρ [] G H' (Same.refl _) R .nil h
/-- a def whose first parameter is changed in place, called with a slot of one's own -/
theorem liftO {F : AFo} {M : Fx} {G H : Hp} {σ : L2.St} {ρ : Ev} {P : D → Ev → Prop} {Xp : XP} {Q : VK} {vs : List V} {ds : List D} {n i0 : Nat} {a0 : Addr} {o : D} (hlen : ∀ o ds P X, F o ds P X → ds.length + 1 = n) (h0 : 0 ∈ cg.O) (hp : ∀ i ∈ cg.O, i = 0 ∨ n ≤ i) (hK : cg.K = cf.K) (hc : cg.cl = cf.cl)
    (R : Rs cf M G H σ ρ) (r : Rps cf.K cf.cl G vs ds) (hi : i0 ∈ cf.O) (e0 : sl ρ i0 = some o) (ea : σ[i0]? = some (some (.ref a0))) (q : QE cf M G σ P Q) (w : XW cf W M G σ Xp) (h : F o ds (fun d o' => P d (ρ.set i0 (some o'))) Xp) : Lift cg (afo F) (.ref a0 :: vs) H Q (WE W σ) := by
  have hd := hlen o ds _ _ h
  obtain ⟨a, w1, w2, w3, w4⟩ := R.own i0 o hi e0
  rw [ea] at w1
  cases w1
  have hO : ∀ (o' : D) (ds' : List D) i d, ds'.length = ds.length → i ∈ cg.O → sl ((o' :: ds').map some) i = some d → i = 0 ∧ d = o' := fun o' ds' i d hl hi e => by
    have := sl_lt e
    rw [List.length_map, List.length_cons, hl, hd] at this
    have : i = 0 := by have := hp i hi; omega
    subst this
    cases e
    exact ⟨rfl, rfl⟩
  have hM : ∀ b u, M.m b = some u → ¬ b = a0 := fun b u e c => by rw [c, w3] at e; cases e
  refine ⟨outG G H (· = a0), G, o :: ds, fun d ds' => ∃ o' , ds' = o' :: ds ∧ P d (ρ.set i0 (some o')), Xp, ⟨R.same, fun b u (e : outG G H (· = a0) b = some u) => ⟨(outG_of e).1, (outG_of e).2.1⟩, by simp [r.len], fun i d hi e => ?_, fun i d hi e => ?_, fun i j d e a hi hj z1 z2 _ _ => ?_, fun i a e => nomatch e⟩, ?_, fun d ds' v G' H' s1 R1 rd hP => ?_, w.call R hM hK hc⟩
  · have ni : i ≠ 0 := fun c => hi (c ▸ h0)
    obtain ⟨j, rfl⟩ : ∃ j, i = j + 1 := ⟨i - 1, by omega⟩
    rw [hK, hc]; exact r.sl e
  · obtain ⟨rfl, rfl⟩ := hO o ds i d rfl hi e
    refine ⟨a0, rfl, w2, ?_, by rw [hK, hc]; exact w4⟩
    cases z : outG G H (· = a0) a0 with
    | none => exact z
    | some u => exact absurd rfl (outG_of z).2.2
  · rw [(hO o ds i d rfl hi z1).1, (hO o ds j e rfl hj z2).1]
  · show F o ds (fun d o' => ∃ o'', o' :: ds = o'' :: ds ∧ P d (ρ.set i0 (some o''))) Xp
    have e : (fun d o' => ∃ o'', o' :: ds = o'' :: ds ∧ P d (ρ.set i0 (some o''))) = fun (d : D) (o' : D) => P d (ρ.set i0 (some o')) := by
      funext d o'
      exact propext ⟨fun ⟨o'', e, p⟩ => by cases e; exact p, fun p => ⟨o', rfl, p⟩⟩
    rw [e]; exact h
  · obtain ⟨o', rfl, hP⟩ := hP
    rw [hK, hc] at rd
    obtain ⟨a, x1, x2, x3, x4⟩ := R1.own 0 o' h0 rfl
    cases x1
    rw [hK, hc] at x4
    have R2 : Rs cf M G' H' σ (ρ.set i0 none) := by
      refine (R.less (by simp) fun j d z => ?_).after s1 R1.same R1.mem hM fun j d a hj z e c => ?_
      · by_cases cj : j = i0
        · rw [cj, sl_set ρ i0 _ (sl_lt e0)] at z; cases z
        · rw [sl_set_ne ρ i0 j _ cj] at z; exact z
      · have cj : j ≠ i0 := fun cj => by rw [cj, sl_set ρ i0 _ (sl_lt e0)] at z; cases z
        rw [sl_set_ne ρ i0 j _ cj] at z
        exact cj (R.dis j i0 d o a0 hj hi z e0 (c ▸ e) ea)
    refine q d _ v G' H' s1 ?_ rd hP
    refine ⟨R2.same, R2.mem, by simpa using R2.len, fun j d hj z => ?_, fun j d hj z => ?_, fun j k d e a hj hk z1 z2 q1 q2 => ?_, R2.par⟩
    · have cj : j ≠ i0 := fun cj => hj (cj ▸ hi)
      rw [sl_set_ne ρ i0 j _ cj] at z
      exact R2.imm j d hj (by rw [sl_set_ne ρ i0 j _ cj]; exact z)
    · by_cases cj : j = i0
      · subst cj
        rw [sl_set ρ j _ (sl_lt e0)] at z
        cases z
        exact ⟨a0, ea, x2, w3, x4⟩
      · rw [sl_set_ne ρ i0 j _ cj] at z
        exact R2.own j d hj (by rw [sl_set_ne ρ i0 j _ cj]; exact z)
    · have up : ∀ j d, sl (ρ.set i0 (some o')) j = some d → ∃ d', sl ρ j = some d' := fun j d z => by
        by_cases cj : j = i0
        · subst cj; exact ⟨o, e0⟩
        · rw [sl_set_ne ρ i0 j _ cj] at z; exact ⟨d, z⟩
      obtain ⟨d', y1⟩ := up j d z1
      obtain ⟨e', y2⟩ := up k e z2
      exact R.dis j k d' e' a hj hk y1 y2 q1 q2
def aCallO (i : Nat) (F : AFo) (a : AA) : AE := fun ρ P X => match sl ρ i with
  | some _ => a ρ (fun xs ρ1 => withV xs fun ds => match sl ρ1 i with
    | some o => F o ds (fun d o' => P d (ρ1.set i (some o'))) X
    | none => False) X
  | none => False
theorem e_callO {f : Addr} {x : Str} {e0 : Expr} {es : List Expr} {p pos : Pos} {i : Nat} {F : AFo} {a : AA} {n : Nat} (Rn : RunR X f (Lift cg (afo F)) W) (hlen : ∀ o ds P X, F o ds P X → ds.length + 1 = n) (h0 : 0 ∈ cg.O) (hp : ∀ i ∈ cg.O, i = 0 ∨ n ≤ i) (hg : Gl X x) (hm : X.mg x = some (.ref f)) (hk : PySem.W.keepIn X.K (.ref f) = true)
    (hv : PE X e0 (tVar i)) (hi : i ∈ cf.O) (ha : Ea X cf W es a) (hs : starEach (e0 :: es) X.env = (false, eval e0 X.env) :: starEach es X.env := by rfl)
    (hK : cg.K = cf.K := by rfl) (hc : cg.cl = cf.cl := by rfl) (hdb : (x == ("__debug__" : Str)) = false := by decide) (hpl : (backTo pos (starEach es X.env)).any (·.1) = false := by rfl) :
    Ee X cf W (.Call (.Name x p) (e0 :: es) [] pos) (aCallO i F a) := PE.imp (pe_run Rn hg hm hk (pa_cons hv ha hs) hdb hs hpl) fun σ H Q ⟨M, G, ρ, P, Xp, R, q, w, h⟩ => by
  unfold aCallO at h
  cases e : sl ρ i with
  | none => rw [e] at h; exact h.elim
  | some d =>
    rw [e] at h
    obtain ⟨a0, w1, _⟩ := R.own i d hi e
    refine ⟨_, w1, M, G, ρ, _, Xp, R, fun xs ρ1 vs G1 H1 s1 R1 ra h1 => ?_, w, h⟩
    obtain ⟨ds, e1, h1⟩ := withV_of h1
    cases e2 : sl ρ1 i with
    | none => rw [e2] at h1; exact h1.elim
    | some o =>
      rw [e2] at h1
      exact liftO hlen h0 hp hK hc R1 (vals_of ra e1) hi e2 w1 (q.up s1) (w.up s1) h1
/-- C(..): the class number c -/
def aMake (c : Nat) (F : AFo) (a : AA) : AE := fun ρ P X => a ρ (fun xs ρ1 => withV xs fun ds => F (.ins c []) ds (fun d o => match d with
  | .non => P o ρ1
  | _ => False) X) X
theorem make_ok {C : Addr} {c n : Nat} {F : AFo} {a : AA} (hlen : ∀ o ds P X, F o ds P X → ds.length + 1 = n) (h0 : 0 ∈ cg.O) (hp : ∀ i ∈ cg.O, i = 0 ∨ n ≤ i) (hK : cg.K = cf.K) (hc : cg.cl = cf.cl) (hC : cf.cl.a c = C) :
    ∀ σ H Q, γF cf W (aMake c F a) σ H Q → tRunC C (Lift cg (afo F)) W (γA cf W a) σ H Q := by
  rintro σ H Q ⟨M, G, ρ, P, Xp, R, q, w, h⟩
  refine ⟨M, G, ρ, _, Xp, R, fun xs ρ1 vs G1 H1 s1 R1 ra h1 => ?_, w, h⟩
  obtain ⟨ds, e1, h1⟩ := withV_of h1
  intro x dx nx ndx nex
  have r := vals_of ra e1
  generalize hH2 : upd (upd H1 dx (.own x)) x (.ins C dx []) = H2
  have hx : H2 x = some (.ins C dx []) := by rw [← hH2]; exact upd_same
  have k12 : Same H1 H2 := fun b o e => by rw [← hH2, upd_ne (ne_of_none e nx), upd_ne (ne_of_none e ndx)]; exact e
  have gx := R1.same.free nx
  have mx := R1.mfree nx
  have hd := hlen _ ds _ _ h1
  have hO : ∀ (o' : D) (ds' : List D) i d, ds'.length = ds.length → i ∈ cg.O → sl ((o' :: ds').map some) i = some d → i = 0 ∧ d = o' := fun o' ds' i d hl hi e => by
    have := sl_lt e
    rw [List.length_map, List.length_cons, hl, hd] at this
    have : i = 0 := by have := hp i hi; omega
    subst this
    cases e
    exact ⟨rfl, rfl⟩
  have hM : ∀ b u, M.m b = some u → ¬ b = x := fun b u e c => by rw [c, mx] at e; cases e
  have R12 : Rs cf M G1 H2 σ ρ1 := ⟨R1.same.trans k12, fun b o e => ⟨k12 _ _ (R1.mem b o e).1, (R1.mem b o e).2⟩, R1.len, R1.imm, fun i d hi e => (by
    obtain ⟨b, w1, w2, w3, w4⟩ := R1.own i d hi e
    obtain ⟨u, hu⟩ := w4.there
    exact ⟨b, w1, w2, w3, w4.up (Same.refl _) ((k12 _ _ hu).trans hu.symm)⟩), R1.dis, R1.par⟩
  have w12 : XW cf W M G1 σ Xp := w.up s1
  refine ⟨outG G1 H2 (· = x), G1, .ins c [] :: ds, fun d ds' => ∃ o', ds' = o' :: ds ∧ d = .non ∧ P o' ρ1, Xp, ⟨R12.same, fun b u (e : outG G1 H2 (· = x) b = some u) => ⟨(outG_of e).1, (outG_of e).2.1⟩, by simp [r.len], fun i d hi e => ?_, fun i d hi e => ?_, fun i j d e a hi hj z1 z2 _ _ => ?_, fun i a e => nomatch e⟩, ?_, fun d ds' v G' H' s2 R2 rd hP => ?_, w12.call R12 hM hK hc⟩
  · have ni : i ≠ 0 := fun c => hi (c ▸ h0)
    obtain ⟨j, rfl⟩ : ∃ j, i = j + 1 := ⟨i - 1, by omega⟩
    rw [hK, hc]; exact r.sl e
  · obtain ⟨rfl, rfl⟩ := hO _ ds i d rfl hi e
    refine ⟨x, rfl, gx, ?_, ?_⟩
    · show outG G1 H2 (· = x) x = none
      cases z : outG G1 H2 (· = x) x with
      | none => rfl
      | some u => exact absurd rfl (outG_of z).2.2
    · exact .ins (ns := []) (vs := []) (by rw [hc, hC]; exact hx) ⟨rfl, Nat.zero_le _⟩ .nil
  · rw [(hO _ ds i d rfl hi z1).1, (hO _ ds j e rfl hj z2).1]
  · show F (.ins c []) ds (fun d o' => ∃ o'', o' :: ds = o'' :: ds ∧ d = .non ∧ P o'' ρ1) Xp
    have e : (fun d o' => ∃ o'', o' :: ds = o'' :: ds ∧ d = .non ∧ P o'' ρ1) = fun (d : D) (o' : D) => (match d with
        | .non => P o' ρ1
        | _ => False) := by
      funext d o'
      refine propext ⟨fun ⟨o'', e, ed, p⟩ => by cases e; subst ed; exact p, fun p => ?_⟩
      cases d with
      | non => exact ⟨o', rfl, rfl, p⟩
      | _ => exact p.elim
    rw [e]; exact h1
  · obtain ⟨o', rfl, rfl, hP⟩ := hP
    cases rd
    refine ⟨rfl, ?_⟩
    obtain ⟨b, x1, x2, x3, x4⟩ := R2.own 0 o' h0 rfl
    cases x1
    rw [hK, hc] at x4
    obtain ⟨u, hu⟩ := x4.there
    have nO : ∀ i d a, i ∈ cf.O → sl ρ1 i = some d → σ[i]? = some (some (.ref a)) → ¬ a = x := fun i d a hi e ea c => by
      obtain ⟨b, w1, w2, w3, w4⟩ := R1.own i d hi e
      rw [ea] at w1
      cases w1
      obtain ⟨z, hz⟩ := w4.there
      rw [c, nx] at hz; cases hz
    have R3 : Rs cf M G' H' σ ρ1 := R12.after s2 R2.same R2.mem hM nO
    refine q o' ρ1 x u G' H' (s1.trans s2) mx hu ⟨R3.same, fun b o e => ?_, R3.len, R3.imm, fun i d hi e => ?_, R3.dis, R3.par⟩ x4 hP
    · by_cases c : b = x
      · subst c
        rw [Fx.up_same] at e
        cases e
        exact ⟨hu, x2⟩
      · rw [Fx.up_ne c] at e
        exact R3.mem b o e
    · obtain ⟨b, w1, w2, w3, w4⟩ := R3.own i d hi e
      exact ⟨b, w1, w2, by rw [Fx.up_ne (nO i d b hi e w1)]; exact w3, w4⟩
theorem f_make {C : Addr} {x : Str} {e : Expr} {es : List Expr} {p pos : Pos} {c n : Nat} {F : AFo} {a : AA} (Rn : RunM X C (Lift cg (afo F)) W) (hlen : ∀ o ds P X, F o ds P X → ds.length + 1 = n) (h0 : 0 ∈ cg.O) (hp : ∀ i ∈ cg.O, i = 0 ∨ n ≤ i) (hC : cf.cl.a c = C) (hg : Gl X x) (hm : X.mg x = some (.ref C)) (hk : PySem.W.keepIn X.K (.ref C) = true) (ha : Ea X cf W (e :: es) a)
    (hK : cg.K = cf.K := by rfl) (hc : cg.cl = cf.cl := by rfl) (hdb : (x == ("__debug__" : Str)) = false := by decide) (he : starEach (e :: es) X.env = (false, eval e X.env) :: starEach es X.env := by rfl) (hpl : (backTo pos (starEach es X.env)).any (·.1) = false := by rfl) :
    Ef X cf W (.Call (.Name x p) (e :: es) [] pos) (aMake c F a) := PE.imp (pe_runC Rn hg hm hk ha hdb he hpl) (make_ok hlen h0 hp hK hc hC)
end
end Al

/-! AL5: operators, fields, lists of one's own. -/
namespace Al
open PySem PySem.Spec PyProof.Rows L2 Cr
section
variable {X : Cx} {cf : Cf} {W : WX}
/-! ### whole numbers -/
def fI (g : Int → Int → D) : D → D → (D → Prop) → Prop := fun x y P => match x, y with
  | .int i, .int j => P (g i j)
  | _, _ => False
def fIC (C : Int → Int → Prop) (g : Int → Int → D) : D → D → (D → Prop) → Prop := fun x y P => match x, y with
  | .int i, .int j => C i j ∧ P (g i j)
  | _, _ => False
theorem rl_I {g : Int → Int → V} {gd : Int → Int → D} (h : ∀ i j G, Rp cf.K cf.cl G (g i j) (gd i j)) : RlO cf (rI0 g) (fI gd) := fun M G H σ ρ x y dx dy Q P R rx ry q hf => by
  unfold fI at hf
  split at hf
  · cases rx; cases ry
    exact ⟨_, _, rfl, rfl, q _ _ G H (Same.refl _) R (h _ _ G) hf⟩
  · exact hf.elim
theorem rl_IC {C : Int → Int → Prop} {g : Int → Int → V} {gd : Int → Int → D} (h : ∀ i j G, Rp cf.K cf.cl G (g i j) (gd i j)) : RlO cf (rI C g) (fIC C gd) := fun M G H σ ρ x y dx dy Q P R rx ry q hf => by
  unfold fIC at hf
  split at hf
  · cases rx; cases ry
    exact ⟨_, _, rfl, rfl, hf.1, q _ _ G H (Same.refl _) R (h _ _ G) hf.2⟩
  · exact hf.elim
abbrev oAdd := fI fun i j => .int (i + j)
abbrev oSub := fI fun i j => .int (i - j)
abbrev oMul := fIC CMul fun i j => .int (i * j)
abbrev oMulW := fIC CMulW fun i j => .int (i * j)
abbrev oMod := fIC (fun _ j => j ≠ 0) fun i j => .int (i.fmod j)
abbrev oDiv := fIC CDivN fun i j => .int (i.fdiv j)
abbrev oDivW := fIC CDivW fun i j => .int (i / j)
abbrev oPow := fIC CPow fun i j => .int (i ^ j.toNat)
abbrev oLt := fI fun i j => .bl (decide (i < j))
abbrev oLe := fI fun i j => .bl (decide (i ≤ j))
abbrev oGt := fI fun i j => .bl (decide (j < i))
abbrev oGe := fI fun i j => .bl (decide (j ≤ i))
theorem r_int {g : Int → Int → Int} : ∀ i j G, Rp cf.K cf.cl G (.int (g i j)) (.int (g i j)) := fun i j G => .int _
theorem r_bl {g : Int → Int → Bool} : ∀ i j G, Rp cf.K cf.cl G (.bl (g i j)) (.bl (g i j)) := fun i j G => .bl _
def oNeg : D → (D → Prop) → Prop := fun x P => match x with
  | .int i => P (.int (-i))
  | _ => False
theorem rl_neg : RlU cf (rU fun i => .int (-i)) oNeg := fun M G H σ ρ x dx Q P R rx q hf => by
  unfold oNeg at hf
  split at hf
  · cases rx; exact ⟨_, rfl, q _ _ G H (Same.refl _) R (.int _) hf⟩
  · exact hf.elim
/-! ### == of scalars -/
def eqS : D → D → Option Bool
  | .non, .non => some true
  | .non, .int _ => some false | .int _, .non => some false | .non, .bl _ => some false | .bl _, .non => some false | .non, .str _ => some false | .str _, .non => some false
  | .int i, .int j => some (decide (i = j))
  | .bl a, .bl b => some (decide (a = b))
  | .str x, .str y => some (decide (x = y))
  | .int _, .str _ => some false | .str _, .int _ => some false | .bl _, .str _ => some false | .str _, .bl _ => some false
  | _, _ => none
def oEq : D → D → (D → Prop) → Prop := fun x y P => match eqS x y with
  | some b => P (.bl b)
  | none => False
def oNe : D → D → (D → Prop) → Prop := fun x y P => match eqS x y with
  | some b => P (.bl (!b))
  | none => False
theorem eqS_of {G : Hp} {x y : V} {dx dy : D} {b : Bool} (rx : Rp cf.K cf.cl G x dx) (ry : Rp cf.K cf.cl G y dy) (h : eqS dx dy = some b) : scal x y = true ∧ decide (x = y) = b := by
  cases rx <;> cases ry <;> simp only [eqS, reduceCtorEq, Option.some.injEq] at h <;> subst h <;> simp [scal]
theorem rl_eq : RlO cf rEq oEq := fun M G H σ ρ x y dx dy Q P R rx ry q hf => by
  unfold oEq at hf
  cases e : eqS dx dy with
  | none => rw [e] at hf; exact hf.elim
  | some b =>
    rw [e] at hf
    obtain ⟨h1, h2⟩ := eqS_of rx ry e
    exact ⟨h1, by rw [h2]; exact q _ _ G H (Same.refl _) R (.bl _) hf⟩
theorem rl_ne : RlO cf rNe oNe := fun M G H σ ρ x y dx dy Q P R rx ry q hf => by
  unfold oNe at hf
  cases e : eqS dx dy with
  | none => rw [e] at hf; exact hf.elim
  | some b =>
    rw [e] at hf
    obtain ⟨h1, h2⟩ := eqS_of rx ry e
    exact ⟨h1, by rw [h2]; exact q _ _ G H (Same.refl _) R (.bl _) hf⟩
/-- is None -/
def oIsN : D → D → (D → Prop) → Prop := fun x y P => match y with
  | .non => match x with
    | .non => P (.bl true)
    | .raw _ => False
    | _ => P (.bl false)
  | _ => False
def oNotN : D → D → (D → Prop) → Prop := fun x y P => match y with
  | .non => match x with
    | .non => P (.bl false)
    | .raw _ => False
    | _ => P (.bl true)
  | _ => False
theorem rl_isN : RlO cf (fun x y H Q => y = .non ∧ Q (.bl (decide (x = .non))) H) oIsN := fun M G H σ ρ x y dx dy Q P R rx ry q hf => by
  unfold oIsN at hf
  cases ry <;> first
    | exact hf.elim
    | skip
  refine ⟨rfl, ?_⟩
  cases rx <;> first
    | exact hf.elim
    | exact q _ _ G H (Same.refl _) R (.bl _) hf
theorem rl_notN : RlO cf (fun x y H Q => y = .non ∧ Q (.bl (!decide (x = .non))) H) oNotN := fun M G H σ ρ x y dx dy Q P R rx ry q hf => by
  unfold oNotN at hf
  cases ry <;> first
    | exact hf.elim
    | skip
  refine ⟨rfl, ?_⟩
  cases rx <;> first
    | exact hf.elim
    | exact q _ _ G H (Same.refl _) R (.bl _) hf
/-! ### == of data -/
mutual
def pyD : D → Option PyData
  | .non => some .none
  | .bl b => some (.bool b)
  | .int i => some (.int i)
  | .str x => some (.str x)
  | .lst ds => (pyDs ds).map .list
  | .tup ds => (pyDs ds).map .tuple
  | _ => none
def pyDs : List D → Option (List PyData)
  | [] => some []
  | d :: r => match pyD d, pyDs r with
    | some p, some ps => some (p :: ps)
    | _, _ => none
end
mutual
theorem py_of {G : Hp} {v : V} {d : D} {p : PyData} : Rp cf.K cf.cl G v d → pyD d = some p → Dp cf.K G v p
  | .non, h => by simp only [pyD, Option.some.injEq] at h; subst h; exact .non
  | .bl b, h => by simp only [pyD, Option.some.injEq] at h; subst h; exact .bl b
  | .int b, h => by simp only [pyD, Option.some.injEq] at h; subst h; exact .int b
  | .str b, h => by simp only [pyD, Option.some.injEq] at h; subst h; exact .str b
  | .lst (ds := ds) a r, h => by
    simp only [pyD] at h
    cases e : pyDs ds with
    | none => rw [e] at h; cases h
    | some ps => rw [e] at h; cases h; exact .lst (ofL a) (pys_of r e)
  | .tup (ds := ds) a r, h => by
    simp only [pyD] at h
    cases e : pyDs ds with
    | none => rw [e] at h; cases h
    | some ps => rw [e] at h; cases h; exact .tup a (pys_of r e)
  | .scr _, h => by simp only [pyD] at h; cases h
  | .dic _ _, h => by simp only [pyD] at h; cases h
  | .ins _ _ _, h => by simp only [pyD] at h; cases h
  | .exc _ _, h => by simp only [pyD] at h; cases h
  | .raw _, h => by simp only [pyD] at h; cases h
theorem pys_of {G : Hp} {vs : List V} {ds : List D} {ps : List PyData} : Rps cf.K cf.cl G vs ds → pyDs ds = some ps → DpAll cf.K G vs ps
  | .nil, h => by simp only [pyDs, Option.some.injEq] at h; subst h; exact .nil
  | .cons (d := d) (ds := ds) a r, h => by
    simp only [pyDs] at h
    cases e : pyD d with
    | none => rw [e] at h; cases h
    | some p =>
      cases e2 : pyDs ds with
      | none => rw [e, e2] at h; cases h
      | some ps => rw [e, e2] at h; cases h; exact .cons (py_of a e) (pys_of r e2)
end
mutual
theorem Dp.up {K : PySem.W.Frag} {G H : Hp} (s : Same G H) {v : V} {p : PyData} : Dp K G v p → Dp K H v p
  | .non => .non
  | .bl b => .bl b
  | .int b => .int b
  | .str b => .str b
  | .lst a r => .lst (Cr.Same.sqL s a) (DpAll.up s r)
  | .tup a r => .tup (Cr.Same.sqT s a) (DpAll.up s r)
theorem DpAll.up {K : PySem.W.Frag} {G H : Hp} (s : Same G H) {v : List V} {p : List PyData} : DpAll K G v p → DpAll K H v p
  | .nil => .nil
  | .cons a r => .cons (Dp.up s a) (DpAll.up s r)
end
def shD (d : D) : Bool := match pyD d with
  | some p => SeqAt.shaped p
  | none => false
def eqvD (x y : D) : Bool := match pyD x, pyD y with
  | some p, some q => PyData.eqv p q
  | _, _ => false
def oEqD : D → D → (D → Prop) → Prop := fun x y P => (shD x = true ∧ shD y = true) ∧ P (.bl (eqvD x y))
def oNeD : D → D → (D → Prop) → Prop := fun x y P => (shD x = true ∧ shD y = true) ∧ P (.bl (!eqvD x y))
theorem shD_of {d : D} (h : shD d = true) : ∃ p, pyD d = some p ∧ SeqAt.shaped p = true := by
  unfold shD at h
  cases e : pyD d with
  | none => rw [e] at h; cases h
  | some p => rw [e] at h; exact ⟨p, rfl, h⟩
theorem rl_eqD (hK : X.K = cf.K := by rfl) : RlO cf (rEqD X.K) oEqD := fun M G H σ ρ x y dx dy Q P R rx ry q hf => by
  obtain ⟨⟨h1, h2⟩, hf⟩ := hf
  obtain ⟨p, e1, s1⟩ := shD_of h1
  obtain ⟨p', e2, s2⟩ := shD_of h2
  rw [hK]
  refine ⟨p, p', Al.Dp.up R.same (py_of rx e1), Al.Dp.up R.same (py_of ry e2), s1, s2, ?_⟩
  unfold eqvD at hf
  rw [e1, e2] at hf
  exact q _ _ G H (Same.refl _) R (.bl _) hf
theorem rl_neD (hK : X.K = cf.K := by rfl) : RlO cf (rNeD X.K) oNeD := fun M G H σ ρ x y dx dy Q P R rx ry q hf => by
  obtain ⟨⟨h1, h2⟩, hf⟩ := hf
  obtain ⟨p, e1, s1⟩ := shD_of h1
  obtain ⟨p', e2, s2⟩ := shD_of h2
  rw [hK]
  refine ⟨p, p', Al.Dp.up R.same (py_of rx e1), Al.Dp.up R.same (py_of ry e2), s1, s2, ?_⟩
  unfold eqvD at hf
  rw [e1, e2] at hf
  exact q _ _ G H (Same.refl _) R (.bl _) hf
/-- xs == [], xs != [], whatever stands in xs -/
def oEqE : D → D → (D → Prop) → Prop := fun x y P => match x, y with
  | .lst ds, .lst [] => P (.bl ds.isEmpty)
  | _, _ => False
def oNeE : D → D → (D → Prop) → Prop := fun x y P => match x, y with
  | .lst ds, .lst [] => P (.bl (!ds.isEmpty))
  | _, _ => False
theorem isE {G : Hp} {vs : List V} {ds : List D} (r : Rps cf.K cf.cl G vs ds) : vs.isEmpty = ds.isEmpty := by cases r <;> rfl
theorem rl_eqE (hK : X.K = cf.K := by rfl) : RlO cf (fun x y H Q => ∃ (a b : Addr) (xs : List V), x = .ref a ∧ y = .ref b ∧ SqL X.K H a xs ∧ SqL X.K H b [] ∧ Q (.bl xs.isEmpty) H) oEqE := fun M G H σ ρ x y dx dy Q P R rx ry q hf => by
  unfold oEqE at hf
  split at hf
  · cases rx with
    | lst h1 r1 =>
      cases ry with
      | lst h2 r2 =>
        cases r2
        rw [← isE r1] at hf
        exact ⟨_, _, _, rfl, rfl, by rw [hK]; exact sqL_up R.same h1, by rw [hK]; exact sqL_up R.same h2, q _ _ G H (Same.refl _) R (.bl _) hf⟩
  · exact hf.elim
theorem rl_neE (hK : X.K = cf.K := by rfl) : RlO cf (fun x y H Q => ∃ (a b : Addr) (xs : List V), x = .ref a ∧ y = .ref b ∧ SqL X.K H a xs ∧ SqL X.K H b [] ∧ Q (.bl (!xs.isEmpty)) H) oNeE := fun M G H σ ρ x y dx dy Q P R rx ry q hf => by
  unfold oNeE at hf
  split at hf
  · cases rx with
    | lst h1 r1 =>
      cases ry with
      | lst h2 r2 =>
        cases r2
        rw [← isE r1] at hf
        exact ⟨_, _, _, rfl, rfl, by rw [hK]; exact sqL_up R.same h1, by rw [hK]; exact sqL_up R.same h2, q _ _ G H (Same.refl _) R (.bl _) hf⟩
  · exact hf.elim
/-! ### + of texts, tuples, lists -/
def oCatS : D → D → (D → Prop) → Prop := fun x y P => match x, y with
  | .str a, .str b => a.length + b.length ≤ sizeLine ∧ P (.str (a ++ b))
  | _, _ => False
theorem rl_catS : RlO cf (fun x y H Q => ∃ i j, x = .str i ∧ y = .str j ∧ i.length + j.length ≤ sizeLine ∧ Q (.str (i ++ j)) H) oCatS := fun M G H σ ρ x y dx dy Q P R rx ry q hf => by
  unfold oCatS at hf
  split at hf
  · cases rx; cases ry
    exact ⟨_, _, rfl, rfl, hf.1, q _ _ G H (Same.refl _) R (.str _) hf.2⟩
  · exact hf.elim
def oCatT : D → D → (D → Prop) → Prop := fun x y P => match x, y with
  | .tup a, .tup b => a.length + b.length ≤ sizeLine ∧ P (.tup (a ++ b))
  | _, _ => False
theorem rl_catT (hK : X.K = cf.K := by rfl) : RlO cf (rCatA X.K) oCatT := fun M G H σ ρ x y dx dy Q P R rx ry q hf => by
  unfold oCatT at hf
  split at hf
  · cases rx with
    | tup h1 r1 =>
      cases ry with
      | tup h2 r2 =>
        rw [hK]
        refine ⟨_, _, _, _, rfl, rfl, Cr.Same.sqT R.same h1, Cr.Same.sqT R.same h2, by rw [r1.len, r2.len]; exact hf.1, fun e => ?_, fun _ e => ?_, fun _ _ p np => ?_⟩
        · subst e
          cases r1
          exact q _ _ G H (Same.refl _) R (.tup h2 r2) hf.2
        · subst e
          cases r2
          rw [List.append_nil] at hf
          exact q _ _ G H (Same.refl _) R (.tup h1 r1) hf.2
        · obtain ⟨R2, s2, gp⟩ := R.new (o := .tup _) np
          exact q _ _ _ _ s2 R2 (.tup (ofT gp) ((r1.app r2).up s2)) hf.2
  · exact hf.elim
def oCatL : D → D → (D → Prop) → Prop := fun x y P => match x, y with
  | .lst a, .lst b => a.length + b.length ≤ sizeLine ∧ P (.lst (a ++ b))
  | _, _ => False
/-! ### items -/
def oIxL : D → D → (D → Prop) → Prop := fun x y P => match x, y with
  | .lst ds, .int i => match atI ds i with
    | some d => P d
    | none => False
  | _, _ => False
def oIxT : D → D → (D → Prop) → Prop := fun x y P => match x, y with
  | .tup ds, .int i => match atI ds i with
    | some d => P d
    | none => False
  | _, _ => False
theorem atI_of {K : PySem.W.Frag} {cl : Tb} {G : Hp} {vs : List V} {ds : List D} {i : Int} {d : D} (r : Rps K cl G vs ds) (h : atI ds i = some d) : ∃ v, atI vs i = some v ∧ Rp K cl G v d := by
  unfold atI at h ⊢
  rw [r.len]
  cases e : ixN ds.length i with
  | none => rw [e] at h; cases h
  | some j =>
    rw [e] at h
    exact r.getD h
theorem rl_ixL (hK : X.K = cf.K := by rfl) : RlO cf (rIxL X.K) oIxL := fun M G H σ ρ x y dx dy Q P R rx ry q hf => by
  unfold oIxL at hf
  split at hf
  · next ds i =>
    cases rx with
    | lst h1 r1 =>
      cases ry
      cases e : atI ds i with
      | none => rw [e] at hf; exact hf.elim
      | some d =>
        rw [e] at hf
        obtain ⟨v, e1, r⟩ := atI_of r1 e
        exact ⟨_, _, _, v, rfl, rfl, by rw [hK]; exact sqL_up R.same h1, e1, q _ _ G H (Same.refl _) R r hf⟩
  · exact hf.elim
theorem rl_ixT (hK : X.K = cf.K := by rfl) : RlO cf (rIxT X.K) oIxT := fun M G H σ ρ x y dx dy Q P R rx ry q hf => by
  unfold oIxT at hf
  split at hf
  · next ds i =>
    cases rx with
    | tup h1 r1 =>
      cases ry
      cases e : atI ds i with
      | none => rw [e] at hf; exact hf.elim
      | some d =>
        rw [e] at hf
        obtain ⟨v, e1, r⟩ := atI_of r1 e
        exact ⟨_, _, _, v, rfl, rfl, by rw [hK]; exact Cr.Same.sqT R.same h1, e1, q _ _ G H (Same.refl _) R r hf⟩
  · exact hf.elim
def oIxA : D → D → (D → Prop) → Prop := fun x y P => match x with
  | .lst _ => oIxL x y P
  | .tup _ => oIxT x y P
  | _ => False
theorem rl_ixA (hK : X.K = cf.K := by rfl) : RlO cf (rIx X.K) oIxA := fun M G H σ ρ x y dx dy Q P R rx ry q hf => by
  unfold oIxA at hf
  split at hf
  · exact .inl (rl_ixL hK M G H σ ρ x y _ dy Q P R rx ry q hf)
  · exact .inr (.inl (rl_ixT hK M G H σ ρ x y _ dy Q P R rx ry q hf))
  · exact hf.elim
def oIxS : D → D → (D → Prop) → Prop := fun x y P => match x, y with
  | .str z, .int i => z.length ≤ sizeLine ∧ (match atI z.cps.toList i with
    | some c => P (.str ⟨#[c]⟩)
    | none => False)
  | _, _ => False
theorem rl_ixS : RlO cf rIxS oIxS := fun M G H σ ρ x y dx dy Q P R rx ry q hf => by
  unfold oIxS at hf
  split at hf
  · next z i =>
    cases rx; cases ry
    obtain ⟨hl, hf⟩ := hf
    cases e : atI z.cps.toList i with
    | none => rw [e] at hf; exact hf.elim
    | some c =>
      rw [e] at hf
      exact ⟨_, _, c, rfl, rfl, hl, e, q _ _ G H (Same.refl _) R (.str _) hf⟩
  · exact hf.elim
/-! ### slices -/
def cutD (xs : List D) (lo hi : Option Int) : List D := (xs.drop (HT.sIx xs.length 0 lo)).take (HT.sIx xs.length xs.length hi - HT.sIx xs.length 0 lo)
theorem Rps.cut {K : PySem.W.Frag} {cl : Tb} {G : Hp} {vs : List V} {ds : List D} (r : Rps K cl G vs ds) (lo hi : Option Int) : Rps K cl G (cutV vs lo hi) (cutD ds lo hi) := by
  unfold cutV cutD
  rw [r.len]
  exact (r.drop _).take _
abbrev AO := Ev → (Option Int → Ev → Prop) → XP → Prop
def pN : AO := fun ρ P _ => P none ρ
def pS (a : AE) : AO := fun ρ P X => a ρ (fun d ρ1 => match d with
  | .int i => P (some i) ρ1
  | _ => False) X
def γO (cf : Cf) (W : WX) (a : AO) : TO := fun σ H Q => ∃ (M : Fx) (G : Hp) (ρ : Ev) (P : Option Int → Ev → Prop) (X : XP), Rs cf M G H σ ρ ∧ (∀ b ρ' G' H', Same G G' → Rs cf M G' H' σ ρ' → P b ρ' → Q b H') ∧ XW cf W M G σ X ∧ a ρ P X
theorem PO.imp {e : Option Expr} {t t' : TO} (h : PO X e t) (i : ∀ σ H Q, t' σ H Q → t σ H Q) : PO X e t' := ⟨fun pins s σ H Q I q => h.run pins s σ H Q I (i σ H Q q)⟩
abbrev Eo (X : Cx) (cf : Cf) (W : WX) (e : Option Expr) (a : AO) : Prop := PO X e (γO cf W a)
theorem o_none : Eo X cf W none pN := PO.imp po_none fun σ H Q ⟨M, G, ρ, P, Xp, R, q, _, a⟩ => q none ρ G H (Same.refl _) R a
theorem o_some {e : Expr} {a : AE} (h : Ee X cf W e a) : Eo X cf W (some e) (pS a) := PO.imp (po_some h) fun σ H Q ⟨M, G, ρ, P, Xp, R, q, w, h⟩ => by
  refine ⟨M, G, ρ, _, Xp, R, fun d ρ1 v G1 H1 s1 R1 rd h1 => ?_, w, h⟩
  cases rd with
  | int i => exact ⟨i, rfl, q _ ρ1 G1 H1 s1 R1 h1⟩
  | _ => exact h1.elim
def RlS (cf : Cf) (r : V → Option Int → Option Int → Hp → VK → Prop) (f : D → Option Int → Option Int → (D → Prop) → Prop) : Prop := ∀ (M : Fx) (G H : Hp) (σ : L2.St) (ρ : Ev) (x : V) (dx : D) (lo hi : Option Int) (Q : VK) (P : D → Prop), Rs cf M G H σ ρ → Rp cf.K cf.cl G x dx →
  (∀ d v G' H', Same G G' → Rs cf M G' H' σ ρ → Rp cf.K cf.cl G' v d → P d → Q v H') → f dx lo hi P → r x lo hi H Q
def aSl (f : D → Option Int → Option Int → (D → Prop) → Prop) (a : AE) (l u : AO) : AE := fun ρ P X => a ρ (fun x ρ1 => l ρ1 (fun lo ρ2 => u ρ2 (fun hi ρ3 => f x lo hi fun d => P d ρ3) X) X) X
theorem e_slice {r : V → Option Int → Option Int → Hp → VK → Prop} {f : D → Option Int → Option Int → (D → Prop) → Prop} {e : Expr} {lo hi : Option Expr} {a : AE} {l u : AO} {p2 pos : Pos} (hs : SlR X r) (hr : RlS cf r f) (he : Ee X cf W e a) (hl : Eo X cf W lo l) (hu : Eo X cf W hi u) : Ee X cf W (.Subscript e (.Slice lo hi none p2) pos) (aSl f a l u) := PE.imp (pe_slice hs he hl hu) fun σ H Q ⟨M, G, ρ, P, Xp, R, q, w, h⟩ => by
  refine ⟨M, G, ρ, _, Xp, R, fun x ρ1 v G1 H1 s1 R1 rx h1 => ?_, w, h⟩
  refine ⟨M, G1, ρ1, _, Xp, R1, fun lo ρ2 G2 H2 s2 R2 h2 => ?_, w.up s1, h1⟩
  refine ⟨M, G2, ρ2, _, Xp, R2, fun hi ρ3 G3 H3 s3 R3 h3 => ?_, (w.up s1).up s2, h2⟩
  exact hr M G3 H3 σ ρ3 v x lo hi Q _ R3 ((rx.up s2).up s3) (fun d z G4 H4 s4 R4 rz p => q d ρ3 z G4 H4 (((s1.trans s2).trans s3).trans s4) R4 rz p) h3
def slL : D → Option Int → Option Int → (D → Prop) → Prop := fun x lo hi P => match x with
  | .lst ds => P (.lst (cutD ds lo hi))
  | .scr ns => P (.lst (cutD (ns.map D.int) lo hi))
  | _ => False
def slT : D → Option Int → Option Int → (D → Prop) → Prop := fun x lo hi P => match x with
  | .tup ds => P (.tup (cutD ds lo hi))
  | _ => False
def slS : D → Option Int → Option Int → (D → Prop) → Prop := fun x lo hi P => match x with
  | .str z => z.length ≤ sizeLine ∧ P (.str (cutS z lo hi))
  | _ => False
theorem rl_slL (hK : X.K = cf.K := by rfl) : RlS cf (rSlL X.K) slL := fun M G H σ ρ x dx lo hi Q P R rx q hf => by
  unfold slL at hf
  split at hf
  · cases rx with
    | lst h1 r1 =>
      rw [hK]
      refine ⟨_, _, rfl, sqL_up R.same h1, fun p np => ?_⟩
      obtain ⟨R2, s2, gp⟩ := R.new (o := .lst _) np
      exact q _ _ _ _ s2 R2 (.lst gp ((r1.cut lo hi).up s2)) hf
  · next ns =>
    cases rx with
    | scr h1 =>
      rw [hK]
      refine ⟨_, _, rfl, Cr.Same.sqL R.same h1, fun p np => ?_⟩
      obtain ⟨R2, s2, gp⟩ := R.new (o := .lst _) np
      exact q _ _ _ _ s2 R2 (.lst gp (((Rps.ints ns).cut lo hi).up s2)) hf
  · exact hf.elim
theorem rl_slT (hK : X.K = cf.K := by rfl) : RlS cf (rSlA X.K) slT := fun M G H σ ρ x dx lo hi Q P R rx q hf => by
  unfold slT at hf
  split at hf
  · cases rx with
    | tup h1 r1 =>
      rw [hK]
      refine ⟨_, _, rfl, Cr.Same.sqT R.same h1, fun e => ?_, fun _ p np => ?_⟩
      · have r2 := r1.cut lo hi
        rw [cutV_all e] at r2
        exact q _ _ G H (Same.refl _) R (.tup h1 r2) hf
      · obtain ⟨R2, s2, gp⟩ := R.new (o := .tup _) np
        exact q _ _ _ _ s2 R2 (.tup (ofT gp) ((r1.cut lo hi).up s2)) hf
  · exact hf.elim
theorem rl_slS : RlS cf rSlS slS := fun M G H σ ρ x dx lo hi Q P R rx q hf => by
  unfold slS at hf
  split at hf
  · cases rx
    exact ⟨_, rfl, hf.1, q _ _ G H (Same.refl _) R (.str _) hf.2⟩
  · exact hf.elim
/-! ### fields -/
def aFld (c k : Nat) (a : AE) : AE := fun ρ P X => a ρ (fun d ρ1 => match d with
  | .ins c' ds => match Nat.beq c' c with
    | true => match ds[k]? with
      | some v => P v ρ1
      | none => False
    | false => False
  | _ => False) X
theorem fld_at {G H : Hp} {dx : Addr} {c k : Nat} {f : Str} {ns : List Str} {vs : List V} {ds : List D} {d : D} (hN : (cf.cl.nm c).Nodup) (hf : (cf.cl.nm c)[k]? = some f) (en : (cf.cl.nm c).take ds.length = ns ∧ ds.length ≤ (cf.cl.nm c).length) (r : Rps cf.K cf.cl G vs ds) (h : ds[k]? = some d) : ∃ v, (ns.zip vs).lookup f = some v ∧ Rp cf.K cf.cl G v d := by
  obtain ⟨v, e1, r1⟩ := r.getD h
  have hk : k < ds.length := (List.getElem?_eq_some_iff.mp h).1
  refine ⟨v, zip_look (by rw [← en.1]; exact hN.sublist (List.take_sublist _ _)) ?_ e1, r1⟩
  rw [← en.1, List.getElem?_take, if_pos hk]
  exact hf
theorem e_fld {C : Addr} {c k : Nat} {f : Str} {e : Expr} {a : AE} {pos : Pos} (hC : cf.cl.a c = C) (hcl : Cls X.K C) (hn : NoAttr X.K C f) (hN : (cf.cl.nm c).Nodup) (hf : (cf.cl.nm c)[k]? = some f) (he : Ee X cf W e a) (hb : attributeBase e f X.env (eval e X.env) = eval e X.env := by rfl) : Ee X cf W (.Attribute e f pos) (aFld c k a) := PE.imp (pe_fld he hb) fun σ H Q ⟨M, G, ρ, P, Xp, R, q, w, h⟩ => by
  refine ⟨M, G, ρ, _, Xp, R, fun d ρ1 v G1 H1 s1 R1 rd h1 => ?_, w, h⟩
  cases rd with
  | @ins a dx c' ns vs' ds' h2 e2 r2 =>
    simp only at h1
    cases hb : Nat.beq c' c with
    | false => rw [hb] at h1; exact h1.elim
    | true =>
      rw [hb] at h1
      obtain rfl : c' = c := Nat.eq_of_beq_eq_true hb
      cases e3 : ds'[k]? with
      | none => rw [e3] at h1; exact h1.elim
      | some d =>
        rw [e3] at h1
        obtain ⟨v, l, r⟩ := fld_at (H := H1) (dx := dx) hN hf e2 r2 e3
        exact ⟨a, C, dx, _, v, rfl, by rw [← hC]; exact R1.same _ _ h2, hcl, hn, l, q d ρ1 v G1 H1 s1 R1 r h1⟩
  | _ => exact h1.elim
/-- a field of a thing of one's own -/
def aFldO (i c k : Nat) : AE := fun ρ P _ => match sl ρ i with
  | some (.ins c' ds) => match Nat.beq c' c with
    | true => match ds[k]? with
      | some v => P v ρ
      | none => False
    | false => False
  | _ => False
theorem e_fldO {C : Addr} {i c k : Nat} {f : Str} {e : Expr} {pos : Pos} (hC : cf.cl.a c = C) (hcl : Cls X.K C) (hn : NoAttr X.K C f) (hN : (cf.cl.nm c).Nodup) (hf : (cf.cl.nm c)[k]? = some f) (he : PE X e (tVar i)) (hi : i ∈ cf.O) (hb : attributeBase e f X.env (eval e X.env) = eval e X.env := by rfl) : Ee X cf W (.Attribute e f pos) (aFldO i c k) := PE.imp (pe_fld he hb) fun σ H Q ⟨M, G, ρ, P, Xp, R, q, w, h⟩ => by
  unfold aFldO at h
  cases e0 : sl ρ i with
  | none => rw [e0] at h; exact h.elim
  | some d =>
    rw [e0] at h
    obtain ⟨a, w1, w2, w3, w4⟩ := R.own i d hi e0
    refine ⟨_, w1, ?_⟩
    cases w4 with
    | @ins dx c' ns vs' ds' h2 e2 r2 =>
      simp only at h
      cases hb : Nat.beq c' c with
      | false => rw [hb] at h; exact h.elim
      | true =>
        rw [hb] at h
        obtain rfl : c' = c := Nat.eq_of_beq_eq_true hb
        cases e3 : ds'[k]? with
        | none => rw [e3] at h; exact h.elim
        | some d =>
          rw [e3] at h
          obtain ⟨v, l, r⟩ := fld_at (H := H) (dx := dx) hN hf e2 r2 e3
          exact ⟨a, C, dx, _, v, rfl, by rw [← hC]; exact h2, hcl, hn, l, q d ρ v G H (Same.refl _) R r h⟩
    | _ => exact h.elim
def setF {α : Type} : Nat → α → List α → Option (List α)
  | 0, d, [] => some [d]
  | _ + 1, _, [] => none
  | 0, d, _ :: r => some (d :: r)
  | k + 1, d, x :: r => match setF k d r with
    | some r' => some (x :: r')
    | none => none
theorem setF_len {α : Type} : ∀ {k : Nat} {d : α} {r r' : List α}, setF k d r = some r' → r'.length = max r.length (k + 1) ∧ k ≤ r.length
  | 0, d, [], r', h => by cases h; simp
  | k + 1, d, [], r', h => by cases h
  | 0, d, x :: r, r', h => by cases h; simp
  | k + 1, d, x :: r, r', h => by
    simp only [setF] at h
    cases e : setF k d r with
    | none => rw [e] at h; cases h
    | some r2 => rw [e] at h; cases h; have := setF_len e; simp; omega
theorem putF_zip : ∀ {N : List Str} {k : Nat} {f : Str} {y : V} {vs vs' : List V}, N.Nodup → N[k]? = some f → vs.length ≤ N.length → setF k y vs = some vs' → putF f y ((N.take vs.length).zip vs) = (N.take vs'.length).zip vs'
  | [], k, f, y, vs, vs', _, h, _, _ => by cases h
  | n :: N, 0, f, y, [], vs', _, h, _, e => by cases h; cases e; simp [putF]
  | n :: N, k + 1, f, y, [], vs', _, h, _, e => by cases e
  | n :: N, 0, f, y, v :: vs, vs', _, h, _, e => by cases h; cases e; simp [putF]
  | n :: N, k + 1, f, y, v :: vs, vs', hN, h, hl, e => by
    simp only [setF] at e
    cases e2 : setF k y vs with
    | none => rw [e2] at e; cases e
    | some r2 =>
      rw [e2] at e
      cases e
      simp only [List.getElem?_cons_succ] at h
      have ne : n ≠ f := by
        rintro rfl
        exact (List.nodup_cons.mp hN).1 (List.mem_of_getElem? h)
      have ih := putF_zip (List.nodup_cons.mp hN).2 h (by simpa using hl) e2
      simp only [List.length_cons, List.take_succ_cons, List.zip_cons_cons, putF, if_neg ne, ih]
theorem Rps.setF {K : PySem.W.Frag} {cl : Tb} {G : Hp} {v : V} {d : D} (hv : Rp K cl G v d) : ∀ {k : Nat} {vs : List V} {ds ds' : List D}, Rps K cl G vs ds → Al.setF k d ds = some ds' → ∃ vs', Al.setF k v vs = some vs' ∧ Rps K cl G vs' ds'
  | 0, _, _, ds', .nil, h => by cases h; exact ⟨_, rfl, .cons hv .nil⟩
  | k + 1, _, _, ds', .nil, h => by cases h
  | 0, _, _, ds', .cons a r, h => by cases h; exact ⟨_, rfl, .cons hv r⟩
  | k + 1, _, _, ds', .cons (ds := ds) a r, h => by
    simp only [Al.setF] at h
    cases e : Al.setF k d ds with
    | none => rw [e] at h; cases h
    | some r2 =>
      rw [e] at h
      cases h
      obtain ⟨vs', e1, r1⟩ := Rps.setF hv r e
      exact ⟨_, by simp only [Al.setF, e1], .cons a r1⟩
/-- self.f = e, self a thing of one's own -/
def sFldO (i c k : Nat) (a : AE) : AS := fun A ρ => a ρ (fun d ρ1 => match sl ρ1 i with
  | some (.ins c' ds) => match Nat.beq c' c with
    | true => match setF k d ds with
      | some ds' => A.nx (ρ1.set i (some (.ins c ds')))
      | none => False
    | false => False
  | _ => False) A.ex
theorem s_fldO {C : Addr} {i c k : Nat} {f : Str} {e v : Expr} {a : AE} {pos pos' : Pos} (hC : cf.cl.a c = C) (hcl : Cls X.K C) (hn : NoAttr X.K C f) (hN : (cf.cl.nm c).Nodup) (hl : (cf.cl.nm c).length < 1000) (hf : (cf.cl.nm c)[k]? = some f) (he : PE X e (tVar i)) (hi : i ∈ cf.O) (hv : Ee X cf W v a) (hs : swapsWith v (some (.Attribute e f pos')) pos.line X.env = pure false := by rfl) :
    Es X cf W (.Assign [.Attribute e f pos'] v pos) (sFldO i c k a) := PS.imp (ps_fld he hv hs) fun Dn σ H ⟨M, G, ρ, A, R, q, h⟩ => by
  refine ⟨M, G, ρ, _, A.ex, R, fun d ρ1 v G1 H1 s1 R1 rd h1 => ?_, q.ex σ, h⟩
  cases e0 : sl ρ1 i with
  | none => rw [e0] at h1; exact h1.elim
  | some o =>
    rw [e0] at h1
    obtain ⟨a, w1, w2, w3, w4⟩ := R1.own i o hi e0
    refine ⟨_, w1, ?_⟩
    cases w4 with
    | @ins dx c' ns vs' ds' h2 e2 r2 =>
      simp only at h1
      cases hb : Nat.beq c' c with
      | false => rw [hb] at h1; exact h1.elim
      | true =>
        rw [hb] at h1
        obtain rfl : c' = c := Nat.eq_of_beq_eq_true hb
        cases e3 : setF k d ds' with
        | none => rw [e3] at h1; exact h1.elim
        | some ds2 =>
          rw [e3] at h1
          obtain ⟨vs2, e4, r4⟩ := Rps.setF rd r2 e3
          have hk : k < (cf.cl.nm c').length := (List.getElem?_eq_some_iff.mp hf).1
          have l1 := setF_len e4
          have l2 := r2.len
          have hlen : vs'.length ≤ (cf.cl.nm c').length := by rw [l2]; exact e2.2
          have pz := putF_zip hN hf hlen e4
          rw [← e2.1, ← l2] at h2
          refine ⟨a, C, dx, _, rfl, by rw [← hC]; exact h2, hcl, hn, ?_, ?_⟩
          · rw [List.length_zip, List.length_take]; omega
          · refine q.nx _ _ G1 _ s1 ?_ h1
            refine R1.chg hi e0 w1 ?_
            refine .ins (dx := dx) (ns := (cf.cl.nm c').take vs2.length) (vs := vs2) ?_ ⟨by rw [r4.len], by rw [← r4.len]; omega⟩ r4
            rw [upd_same, pz, hC]
    | _ => exact h1.elim
end
end Al

/-! AL6: lists of one's own changed, built-in functions, texts, isinstance. -/
namespace Al
open PySem PySem.Spec PyProof.Rows L2 Cr
section
variable {X : Cx} {cf : Cf} {W : WX}
/-! ### a list of one's own -/
/-- the list in slot i -/
def withL (ρ : Ev) (i : Nat) (k : List D → Prop) : Prop := match sl ρ i with
  | some (.lst ds) => k ds
  | _ => False
theorem withL_of {ρ : Ev} {i : Nat} {k : List D → Prop} (h : withL ρ i k) : ∃ ds, sl ρ i = some (.lst ds) ∧ k ds := by
  unfold withL at h
  split at h
  · next ds e => exact ⟨ds, e, h⟩
  · exact h.elim
theorem Rs.listO {M : Fx} {G H : Hp} {σ : L2.St} {ρ : Ev} {i : Nat} {ds : List D} (R : Rs cf M G H σ ρ) (hi : i ∈ cf.O) (e : sl ρ i = some (.lst ds)) : ∃ a vs, σ[i]? = some (some (.ref a)) ∧ H a = some (.lst vs) ∧ Rps cf.K cf.cl G vs ds := by
  obtain ⟨a, w1, w2, w3, w4⟩ := R.own i _ hi e
  cases w4 with
  | lst h r => exact ⟨a, _, w1, h, r⟩
/-- x.append(e) -/
def aApp (i : Nat) (a : AE) : AE := fun ρ P X => withL ρ i fun _ => a ρ (fun d ρ1 => withL ρ1 i fun ds => ds.length < sizeLine ∧ P .non (ρ1.set i (some (.lst (ds ++ [d]))))) X
theorem e_app {i : Nat} {o e : Expr} {a : AE} {apos pos : Pos} (ho : PE X o (tVar i)) (hi : i ∈ cf.O) (he : Ee X cf W e a)
    (h : PE X o (tVar i) → PA X [e] (tCons (γE cf W a) tNil) → PE X (.Call (.Attribute o "append" apos) [e] [] pos) (tBM X.K "list" rAppend (tVar i) (tCons (γE cf W a) tNil))) (hs : starEach [e] X.env = [(false, eval e X.env)] := by rfl) (hK : X.K = cf.K := by rfl) :
    Ee X cf W (.Call (.Attribute o "append" apos) [e] [] pos) (aApp i a) := PE.imp (h ho (pa_cons he pa_nil hs)) fun σ H Q ⟨M, G, ρ, P, Xp, R, q, w, h⟩ => by
  obtain ⟨ds0, e0, h⟩ := withL_of h
  obtain ⟨b, vs0, w1, hb, _⟩ := R.listO hi e0
  refine ⟨_, w1, .inl ⟨rfl, vs0, ofL hb⟩, M, G, ρ, _, Xp, R, fun d ρ1 v G1 H1 s1 R1 rd h1 => ?_, w, h⟩
  obtain ⟨ds, e1, hl, h1⟩ := withL_of h1
  obtain ⟨b', vs, w2, hb', r⟩ := R1.listO hi e1
  rw [w1] at w2
  cases w2
  refine ⟨b, vs, v, rfl, rfl, hb', by rw [r.len]; exact hl, ?_⟩
  exact q _ _ _ G1 _ s1 (R1.chg hi e1 w1 (.lst upd_same (r.app (.cons rd .nil)))) .non h1
/-- x.reverse() -/
def aRev (i : Nat) : AE := fun ρ P X => withL ρ i fun ds => P .non (ρ.set i (some (.lst ds.reverse)))
theorem Rps.rev {K : PySem.W.Frag} {cl : Tb} {G : Hp} {vs : List V} {ds : List D} : Rps K cl G vs ds → Rps K cl G vs.reverse ds.reverse
  | .nil => .nil
  | .cons a r => by simp only [List.reverse_cons]; exact (Rps.rev r).app (.cons a .nil)
theorem e_rev {i : Nat} {e : Expr} (h : PE X e (tBM0 X.K "list" rReverse (tVar i))) (hi : i ∈ cf.O) : Ee X cf W e (aRev i) := PE.imp h fun σ H Q ⟨M, G, ρ, P, Xp, R, q, w, h⟩ => by
  obtain ⟨ds0, e0, h⟩ := withL_of h
  obtain ⟨b, vs0, w1, hb, r⟩ := R.listO hi e0
  exact ⟨_, w1, .inl ⟨rfl, vs0, ofL hb⟩, b, vs0, rfl, rfl, hb, q _ _ _ G _ (Same.refl _) (R.chg hi e0 w1 (.lst upd_same r.rev)) .non h⟩
/-- x.pop() -/
def aPop (i : Nat) : AE := fun ρ P X => withL ρ i fun ds => match ds[ds.length - 1]? with
  | some d => P d (ρ.set i (some (.lst ds.dropLast)))
  | none => False
theorem Rps.dropLast {K : PySem.W.Frag} {cl : Tb} {G : Hp} {vs : List V} {ds : List D} (r : Rps K cl G vs ds) : Rps K cl G vs.dropLast ds.dropLast := by
  rw [List.dropLast_eq_take, List.dropLast_eq_take, r.len]
  exact r.take _
theorem e_pop {i : Nat} {e : Expr} (h : PE X e (tBM0 X.K "list" rPop (tVar i))) (hi : i ∈ cf.O) : Ee X cf W e (aPop i) := PE.imp h fun σ H Q ⟨M, G, ρ, P, Xp, R, q, w, h⟩ => by
  obtain ⟨ds0, e0, h⟩ := withL_of h
  obtain ⟨b, vs0, w1, hb, r⟩ := R.listO hi e0
  cases e2 : ds0[ds0.length - 1]? with
  | none => rw [e2] at h; exact h.elim
  | some d =>
    rw [e2] at h
    obtain ⟨v, e3, r3⟩ := r.getD e2
    exact ⟨_, w1, .inl ⟨rfl, vs0, ofL hb⟩, b, vs0, v, rfl, rfl, hb, by rw [r.len]; exact e3, q _ _ _ G _ (Same.refl _) (R.chg hi e0 w1 (.lst upd_same r.dropLast)) r3 h⟩
/-- x.extend(ys), ys never changes -/
def aExt (i : Nat) (a : AE) : AE := fun ρ P X => withL ρ i fun _ => a ρ (fun d ρ1 => match d with
  | .lst es => withL ρ1 i fun ds => ds.length + es.length ≤ sizeLine ∧ P .non (ρ1.set i (some (.lst (ds ++ es))))
  | _ => False) X
/-- x[k] of a list of one's own -/
def aIxO (i : Nat) (k : AE) : AE := fun ρ P X => withL ρ i fun _ => k ρ (fun kd ρ1 => match kd with
  | .int n => withL ρ1 i fun ds => match atI ds n with
    | some d => P d ρ1
    | none => False
  | _ => False) X
theorem e_ixO {i : Nat} {o e : Expr} {k : AE} {pos : Pos} (ho : PE X o (tVar i)) (hi : i ∈ cf.O) (he : Ee X cf W e k) (hs : PlainIx e := by exact fun _ _ => rfl) (hK : X.K = cf.K := by rfl) : Ee X cf W (.Subscript o e pos) (aIxO i k) := PE.imp (pe_ix ix_list ho he hs) fun σ H Q ⟨M, G, ρ, P, Xp, R, q, w, h⟩ => by
  obtain ⟨ds0, e0, h⟩ := withL_of h
  obtain ⟨b, vs0, w1, hb, r⟩ := R.listO hi e0
  refine ⟨_, w1, M, G, ρ, _, Xp, R, fun d ρ1 v G1 H1 s1 R1 rd h1 => ?_, w, h⟩
  cases rd with
  | int n =>
    obtain ⟨ds, e1, h1⟩ := withL_of h1
    obtain ⟨b', vs, w2, hb', r⟩ := R1.listO hi e1
    rw [w1] at w2
    cases w2
    cases e2 : atI ds n with
    | none => rw [e2] at h1; exact h1.elim
    | some d =>
      rw [e2] at h1
      obtain ⟨v, e3, r3⟩ := atI_of r e2
      exact ⟨b, vs, n, v, rfl, rfl, ofL hb', e3, q _ _ _ G1 _ s1 R1 r3 h1⟩
  | _ => exact h1.elim
/-- x[k] = e -/
def sIxO (i : Nat) (a k : AE) : AS := fun A ρ => a ρ (fun d ρ1 => withL ρ1 i fun _ => k ρ1 (fun kd ρ2 => match kd with
  | .int n => withL ρ2 i fun ds => match ixN ds.length n with
    | some j => A.nx (ρ2.set i (some (.lst (ds.set j d))))
    | none => False
  | _ => False) A.ex) A.ex
theorem s_ixO {i : Nat} {o e v : Expr} {a k : AE} {pos p2 : Pos} (ho : PE X o (tVar i)) (hi : i ∈ cf.O) (hv : Ee X cf W v a) (he : Ee X cf W e k)
    (h : PE X v (γE cf W a) → PG X (.Subscript o e p2) (gSub (tVar i) (γE cf W k) rSetL) → PS X (.Assign [.Subscript o e p2] v pos) (tAsg (γE cf W a) (gSub (tVar i) (γE cf W k) rSetL))) (hg : PE X o (tVar i) → PE X e (γE cf W k) → PG X (.Subscript o e p2) (gSub (tVar i) (γE cf W k) rSetL)) :
    Es X cf W (.Assign [.Subscript o e p2] v pos) (sIxO i a k) := PS.imp (h hv (hg ho he)) fun Dn σ H ⟨M, G, ρ, A, R, q, h⟩ => by
  refine ⟨M, G, ρ, _, A.ex, R, fun d ρ1 v G1 H1 s1 R1 rd h1 => ?_, q.ex σ, h⟩
  obtain ⟨ds0, e0, h1⟩ := withL_of h1
  obtain ⟨b, vs0, w1, hb, r⟩ := R1.listO hi e0
  refine ⟨_, w1, M, G1, ρ1, _, A.ex, R1, fun kd ρ2 kv G2 H2 s2 R2 rk h2 => ?_, (q.ex σ).up s1, h1⟩
  cases rk with
  | int n =>
    obtain ⟨ds, e1, h2⟩ := withL_of h2
    obtain ⟨b', vs, w2, hb', r⟩ := R2.listO hi e1
    rw [w1] at w2
    cases w2
    cases e2 : ixN ds.length n with
    | none => rw [e2] at h2; exact h2.elim
    | some j =>
      rw [e2] at h2
      refine ⟨b, vs, n, j, rfl, rfl, hb', by rw [r.len]; exact e2, ?_⟩
      exact q.nx _ _ G2 _ (s1.trans s2) (R2.chg hi e1 w1 (.lst upd_same (r.set j (rd.up s2)))) h2
  | _ => exact h2.elim
/-- len(x), tuple(x), list(x) of a list of one's own -/
def aLenO (i : Nat) : AE := fun ρ P _ => withL ρ i fun ds => P (.int (ds.length : Nat)) ρ
theorem e_lenO {i : Nat} {e : Expr} (h : PE X e (fun σ H Q => tVar i σ H fun x H1 => ∃ p ys, x = .ref p ∧ (SqL X.K H1 p ys ∨ SqT X.K H1 p ys) ∧ Q (.int ys.length) H1)) (hi : i ∈ cf.O) : Ee X cf W e (aLenO i) := PE.imp h fun σ H Q ⟨M, G, ρ, P, Xp, R, q, w, h⟩ => by
  obtain ⟨ds0, e0, h⟩ := withL_of h
  obtain ⟨b, vs0, w1, hb, r⟩ := R.listO hi e0
  rw [← r.len] at h
  exact ⟨_, w1, b, vs0, rfl, .inl (ofL hb), q _ _ _ G _ (Same.refl _) R (.int _) h⟩
def aTupO (i : Nat) : AE := fun ρ P _ => withL ρ i fun ds => P (.tup ds) ρ
theorem e_tupO {i : Nat} {e : Expr} (h : PE X e (fun σ H Q => tVar i σ H fun x H1 => ∃ p ys, x = .ref p ∧ ((SqL X.K H1 p ys ∧ ∀ l, H1 l = none → Q (.ref l) (upd H1 l (.tup ys))) ∨ (SqT X.K H1 p ys ∧ Q (.ref p) H1)))) (hi : i ∈ cf.O) : Ee X cf W e (aTupO i) := PE.imp h fun σ H Q ⟨M, G, ρ, P, Xp, R, q, w, h⟩ => by
  obtain ⟨ds0, e0, h⟩ := withL_of h
  obtain ⟨b, vs0, w1, hb, r⟩ := R.listO hi e0
  refine ⟨_, w1, b, vs0, rfl, .inl ⟨ofL hb, fun p np => ?_⟩⟩
  obtain ⟨R2, s2, gp⟩ := R.new (o := .tup vs0) np
  exact q _ _ _ _ _ s2 R2 (.tup (ofT gp) (r.up s2)) h
/-- x == [], x != [] of a list of one's own -/
def aEmpO (i : Nat) (neg : Bool) : AE := fun ρ P _ => withL ρ i fun ds => P (.bl (if neg then !ds.isEmpty else ds.isEmpty)) ρ
theorem e_empO {i : Nat} {neg : Bool} {e : Expr} (h : PE X e (fun σ H Q => tVar i σ H fun x H1 => 0 ≤ sizeLine ∧ ∀ p, H1 p = none → ∃ (a b : Addr) (xs : List V), x = .ref a ∧ V.ref p = .ref b ∧ SqL X.K (upd H1 p (.lst [])) a xs ∧ SqL X.K (upd H1 p (.lst [])) b [] ∧ Q (.bl (if neg then !xs.isEmpty else xs.isEmpty)) (upd H1 p (.lst [])))) (hi : i ∈ cf.O) : Ee X cf W e (aEmpO i neg) := PE.imp h fun σ H Q ⟨M, G, ρ, P, Xp, R, q, w, h⟩ => by
  obtain ⟨ds0, e0, h⟩ := withL_of h
  obtain ⟨b, vs0, w1, hb, r⟩ := R.listO hi e0
  refine ⟨_, w1, Nat.zero_le _, fun p np => ?_⟩
  obtain ⟨R2, s2, gp⟩ := R.new (o := .lst []) np
  have nb : b ≠ p := ne_of_none hb np
  rw [← isE r] at h
  exact ⟨b, p, vs0, rfl, rfl, ofL (by rw [upd_ne nb]; exact hb), ofL upd_same, q _ _ _ _ _ s2 R2 (.bl _) h⟩
/-! ### built-in functions -/
def fLen : List D → (D → Prop) → Prop := fun ds P => match ds with
  | [.lst es] => P (.int (es.length : Nat))
  | [.scr es] => P (.int (es.length : Nat))
  | [.tup es] => P (.int (es.length : Nat))
  | _ => False
theorem rl_len (hK : X.K = cf.K := by rfl) : RlC cf (fun xs H Q => ∃ p ys, xs = [.ref p] ∧ (SqL X.K H p ys ∨ SqT X.K H p ys) ∧ Q (.int ys.length) H) fLen := fun M G H σ ρ xs ds Q P R rx q hf => by
  unfold fLen at hf
  split at hf
  · cases rx with
    | cons a r =>
      cases r
      cases a with
      | lst h1 r1 => rw [← r1.len] at hf; exact ⟨_, _, rfl, .inl (by rw [hK]; exact sqL_up R.same h1), q _ _ G H (Same.refl _) R (.int _) hf⟩
  · next es =>
    cases rx with
    | cons a r =>
      cases r
      cases a with
      | scr h1 => rw [← List.length_map (f := V.int) (as := es)] at hf; exact ⟨_, _, rfl, .inl (by rw [hK]; exact Cr.Same.sqL R.same h1), q _ _ G H (Same.refl _) R (.int _) hf⟩
  · cases rx with
    | cons a r =>
      cases r
      cases a with
      | tup h1 r1 => rw [← r1.len] at hf; exact ⟨_, _, rfl, .inr (by rw [hK]; exact Cr.Same.sqT R.same h1), q _ _ G H (Same.refl _) R (.int _) hf⟩
  · exact hf.elim
def fLenS : List D → (D → Prop) → Prop := fun ds P => match ds with
  | [.str z] => z.length ≤ sizeLine ∧ P (.int (z.length : Nat))
  | _ => False
theorem rl_lenS : RlC cf (fun xs H Q => ∃ z, xs = [.str z] ∧ z.length ≤ sizeLine ∧ Q (.int z.length) H) fLenS := fun M G H σ ρ xs ds Q P R rx q hf => by
  unfold fLenS at hf
  split at hf
  · cases rx with
    | cons a r =>
      cases r; cases a
      exact ⟨_, rfl, hf.1, q _ _ G H (Same.refl _) R (.int _) hf.2⟩
  · exact hf.elim
def fStrI : List D → (D → Prop) → Prop := fun ds P => match ds with
  | [.int i] => i.natAbs.log2 < 1920 ∧ P (.str (toString i))
  | _ => False
theorem rl_strI : RlC cf (fun xs H Q => ∃ i, xs = [.int i] ∧ i.natAbs.log2 < 1920 ∧ Q (.str (toString i)) H) fStrI := fun M G H σ ρ xs ds Q P R rx q hf => by
  unfold fStrI at hf
  split at hf
  · cases rx with
    | cons a r =>
      cases r; cases a
      exact ⟨_, rfl, hf.1, q _ _ G H (Same.refl _) R (.str _) hf.2⟩
  · exact hf.elim
def fIntS : List D → (D → Prop) → Prop := fun ds P => match ds with
  | [.str a] => match PySem.intText? a with
    | some n => a.length ≤ 640 ∧ P (.int n)
    | none => False
  | _ => False
theorem rl_intS : RlC cf (fun xs H Q => ∃ a n, xs = [.str a] ∧ PySem.intText? a = some n ∧ a.length ≤ 640 ∧ Q (.int n) H) fIntS := fun M G H σ ρ xs ds Q P R rx q hf => by
  unfold fIntS at hf
  split at hf
  · next a =>
    cases rx with
    | cons b r =>
      cases r; cases b
      cases e : PySem.intText? a with
      | none => rw [e] at hf; exact hf.elim
      | some n => rw [e] at hf; exact ⟨_, _, rfl, e, hf.1, q _ _ G H (Same.refl _) R (.int _) hf.2⟩
  · exact hf.elim
def fInt1 : List D → (D → Prop) → Prop := fun ds P => match ds with
  | [.int i] => P (.int i)
  | [.bl b] => P (.int (if b then 1 else 0))
  | _ => False
theorem rl_int1 : RlC cf (fun xs H Q => (∃ i, xs = [.int i] ∧ Q (.int i) H) ∨ ∃ k, xs = [.bl k] ∧ Q (.int (if k then 1 else 0)) H) fInt1 := fun M G H σ ρ xs ds Q P R rx q hf => by
  unfold fInt1 at hf
  split at hf
  · cases rx with
    | cons b r =>
      cases r; cases b
      exact .inl ⟨_, rfl, q _ _ G H (Same.refl _) R (.int _) hf⟩
  · cases rx with
    | cons b r =>
      cases r; cases b
      exact .inr ⟨_, rfl, q _ _ G H (Same.refl _) R (.int _) hf⟩
  · exact hf.elim
def fList : List D → (D → Prop) → Prop := fun ds P => match ds with
  | [.lst es] => P (.lst es)
  | [.tup es] => P (.lst es)
  | _ => False
def fTuple : List D → (D → Prop) → Prop := fun ds P => match ds with
  | [.lst es] => P (.tup es)
  | [.tup es] => P (.tup es)
  | _ => False
theorem rl_list (hK : X.K = cf.K := by rfl) : RlC cf (fun xs H Q => ∃ p ys, xs = [.ref p] ∧ (SqL X.K H p ys ∨ SqT X.K H p ys) ∧ ∀ l, H l = none → Q (.ref l) (upd H l (.lst ys))) fList := fun M G H σ ρ xs ds Q P R rx q hf => by
  rw [hK]
  unfold fList at hf
  split at hf
  · cases rx with
    | cons a r =>
      cases r
      cases a with
      | lst h1 r1 =>
        refine ⟨_, _, rfl, .inl (sqL_up R.same h1), fun l nl => ?_⟩
        obtain ⟨R2, s2, gp⟩ := R.new (o := .lst _) nl
        exact q _ _ _ _ s2 R2 (.lst gp (r1.up s2)) hf
  · cases rx with
    | cons a r =>
      cases r
      cases a with
      | tup h1 r1 =>
        refine ⟨_, _, rfl, .inr (Cr.Same.sqT R.same h1), fun l nl => ?_⟩
        obtain ⟨R2, s2, gp⟩ := R.new (o := .lst _) nl
        exact q _ _ _ _ s2 R2 (.lst gp (r1.up s2)) hf
  · exact hf.elim
/-- list(..) as a new thing of one's own -/
theorem f_list {x : Str} {e : Expr} {p pos : Pos} {a : AE} (hg : Gl X x) (hm : X.mg x = none) (hv : bootBuiltins x = some (.type "list")) (ha : Ee X cf W e a) (hn : x ≠ "__name__" := by decide) (hdb : (x == ("__debug__" : Str)) = false := by decide)
    (he : starEach [e] X.env = [(false, eval e X.env)] := by rfl) (hpl : (backTo pos (starEach [] X.env)).any (·.1) = false := by rfl) (hK : X.K = cf.K := by rfl) : Ef X cf W (.Call (.Name x p) [e] [] pos) (aF fList (aCons a aNil)) := PE.imp (pe_callTy call_list_of hg hm hv (pa_cons ha pa_nil he) hn hdb he hpl) fun σ H Q ⟨M, G, ρ, P, Xp, R, q, w, h⟩ => by
  refine ⟨M, G, ρ, _, Xp, R, fun d ρ1 v G1 H1 s1 R1 rd h1 => ?_, w, h⟩
  have h1 : fList [d] fun d => P d ρ1 := h1
  unfold fList at h1
  split at h1
  · next es e =>
    cases e
    cases rd with
    | lst h2 r2 =>
      refine ⟨_, _, rfl, .inl (by rw [hK]; exact sqL_up R1.same h2), fun l nl => ?_⟩
      exact q _ ρ1 l _ G1 _ s1 (R1.mfree nl) upd_same (R1.pin nl) (.lst upd_same r2) h1
  · next es e =>
    cases e
    cases rd with
    | tup h2 r2 =>
      refine ⟨_, _, rfl, .inr (by rw [hK]; exact Cr.Same.sqT R1.same h2), fun l nl => ?_⟩
      exact q _ ρ1 l _ G1 _ s1 (R1.mfree nl) upd_same (R1.pin nl) (.lst upd_same r2) h1
  · exact h1.elim
theorem rl_tuple (hK : X.K = cf.K := by rfl) : RlC cf (fun xs H Q => ∃ p ys, xs = [.ref p] ∧ ((SqL X.K H p ys ∧ ∀ l, H l = none → Q (.ref l) (upd H l (.tup ys))) ∨ (SqT X.K H p ys ∧ Q (.ref p) H))) fTuple := fun M G H σ ρ xs ds Q P R rx q hf => by
  rw [hK]
  unfold fTuple at hf
  split at hf
  · cases rx with
    | cons a r =>
      cases r
      cases a with
      | lst h1 r1 =>
        refine ⟨_, _, rfl, .inl ⟨sqL_up R.same h1, fun l nl => ?_⟩⟩
        obtain ⟨R2, s2, gp⟩ := R.new (o := .tup _) nl
        exact q _ _ _ _ s2 R2 (.tup (ofT gp) (r1.up s2)) hf
  · cases rx with
    | cons a r =>
      cases r
      cases a with
      | tup h1 r1 => exact ⟨_, _, rfl, .inr ⟨Cr.Same.sqT R.same h1, q _ _ G H (Same.refl _) R (.tup h1 r1) hf⟩⟩
  · exact hf.elim
/-- a list of truths -/
def blsD : List D → Option (List Bool)
  | [] => some []
  | .bl b :: r => (blsD r).map (b :: ·)
  | _ :: _ => none
theorem bls_of {G : Hp} : ∀ {vs : List V} {ds : List D} {bs : List Bool}, Rps cf.K cf.cl G vs ds → blsD ds = some bs → vs = bs.map V.bl
  | _, _, _, .nil, h => by cases h; rfl
  | _, _, _, .cons (ds := ds) a r, h => by
    cases a with
    | bl b =>
      simp only [blsD] at h
      cases e : blsD ds with
      | none => rw [e] at h; cases h
      | some bs => rw [e] at h; cases h; rw [bls_of r e]; rfl
    | _ => cases h
def fAll : List D → (D → Prop) → Prop := fun ds P => match ds with
  | [.lst es] => match blsD es with
    | some bs => P (.bl (bs.all id))
    | none => False
  | _ => False
theorem rl_all (hK : X.K = cf.K := by rfl) : RlC cf (rAll X.K) fAll := fun M G H σ ρ xs ds Q P R rx q hf => by
  unfold fAll at hf
  split at hf
  · next es =>
    cases rx with
    | cons a r =>
      cases r
      cases a with
      | lst h1 r1 =>
        cases e : blsD es with
        | none => rw [e] at hf; exact hf.elim
        | some bs =>
          rw [e] at hf
          have := bls_of r1 e
          subst this
          exact ⟨_, bs, rfl, by rw [hK]; exact sqL_up R.same h1, q _ _ G H (Same.refl _) R (.bl _) hf⟩
  · exact hf.elim
def fAny : List D → (D → Prop) → Prop := fun ds P => match ds with
  | [.lst es] => match blsD es with
    | some bs => P (.bl (bs.any id))
    | none => False
  | _ => False
theorem rl_any (hK : X.K = cf.K := by rfl) : RlC cf (rAny X.K) fAny := fun M G H σ ρ xs ds Q P R rx q hf => by
  unfold fAny at hf
  split at hf
  · next es =>
    cases rx with
    | cons a r =>
      cases r
      cases a with
      | lst h1 r1 =>
        cases e : blsD es with
        | none => rw [e] at hf; exact hf.elim
        | some bs =>
          rw [e] at hf
          have := bls_of r1 e
          subst this
          exact ⟨_, bs, rfl, by rw [hK]; exact sqL_up R.same h1, q _ _ G H (Same.refl _) R (.bl _) hf⟩
  · exact hf.elim
def fAbs : List D → (D → Prop) → Prop := fun ds P => match ds with
  | [.int i] => P (.int (if i < 0 then -i else i))
  | _ => False
theorem rl_abs : RlC cf (fun xs H Q => ∃ i, xs = [.int i] ∧ Q (.int (if i < 0 then -i else i)) H) fAbs := fun M G H σ ρ xs ds Q P R rx q hf => by
  unfold fAbs at hf
  split at hf
  · cases rx with
    | cons b r =>
      cases r; cases b
      exact ⟨_, rfl, q _ _ G H (Same.refl _) R (.int _) hf⟩
  · exact hf.elim
def fMax2 : List D → (D → Prop) → Prop := fun ds P => match ds with
  | [.int i, .int j] => P (.int (if j > i then j else i))
  | _ => False
def fMin2 : List D → (D → Prop) → Prop := fun ds P => match ds with
  | [.int i, .int j] => P (.int (if j < i then j else i))
  | _ => False
theorem rl_max2 : RlC cf (fun xs H Q => ∃ i j, xs = [.int i, .int j] ∧ Q (.int (if j > i then j else i)) H) fMax2 := fun M G H σ ρ xs ds Q P R rx q hf => by
  unfold fMax2 at hf
  split at hf
  · cases rx with
    | cons b r =>
      cases r with
      | cons c r => cases r; cases b; cases c; exact ⟨_, _, rfl, q _ _ G H (Same.refl _) R (.int _) hf⟩
  · exact hf.elim
theorem rl_min2 : RlC cf (fun xs H Q => ∃ i j, xs = [.int i, .int j] ∧ Q (.int (if j < i then j else i)) H) fMin2 := fun M G H σ ρ xs ds Q P R rx q hf => by
  unfold fMin2 at hf
  split at hf
  · cases rx with
    | cons b r =>
      cases r with
      | cons c r => cases r; cases b; cases c; exact ⟨_, _, rfl, q _ _ G H (Same.refl _) R (.int _) hf⟩
  · exact hf.elim
/-! ### texts -/
def aM1 (f : Str → D → (D → Prop) → Prop) (a b : AE) : AE := fun ρ P X => a ρ (fun x ρ1 => match x with
  | .str z => b ρ1 (fun y ρ2 => f z y fun d => P d ρ2) X
  | _ => False) X
def RlM (cf : Cf) (r : V → List V → Hp → VK → Prop) (f : Str → D → (D → Prop) → Prop) : Prop := ∀ (M : Fx) (G H : Hp) (σ : L2.St) (ρ : Ev) (z : Str) (y : V) (dy : D) (Q : VK) (P : D → Prop), Rs cf M G H σ ρ → Rp cf.K cf.cl G y dy →
  (∀ d v G' H', Same G G' → Rs cf M G' H' σ ρ → Rp cf.K cf.cl G' v d → P d → Q v H') → f z dy P → r (.str z) [y] H Q
theorem m1_ok {r : V → List V → Hp → VK → Prop} {f : Str → D → (D → Prop) → Prop} {a b : AE} (hr : RlM cf r f) : ∀ σ H Q, γE cf W (aM1 f a b) σ H Q → tM1 r (γE cf W a) (γE cf W b) σ H Q := by
  rintro σ H Q ⟨M, G, ρ, P, Xp, R, q, w, h⟩
  refine ⟨M, G, ρ, _, Xp, R, fun x ρ1 v G1 H1 s1 R1 rx h1 => ?_, w, h⟩
  cases rx with
  | str z =>
    refine ⟨⟨z, rfl⟩, M, G1, ρ1, _, Xp, R1, fun y ρ2 u G2 H2 s2 R2 ry h2 => ?_, w.up s1, h1⟩
    exact hr M G2 H2 σ ρ2 z u y Q _ R2 ry (fun d z G3 H3 s3 R3 rz p => q d ρ2 z G3 H3 ((s1.trans s2).trans s3) R3 rz p) h2
  | _ => exact h1.elim
def strsD : List D → Option (List Str)
  | [] => some []
  | .str b :: r => match strsD r with
    | some ys => some (b :: ys)
    | none => none
  | _ :: _ => none
theorem strs_of {G : Hp} : ∀ {vs : List V} {ds : List D} {bs : List Str}, Rps cf.K cf.cl G vs ds → strsD ds = some bs → vs = bs.map V.str
  | _, _, _, .nil, h => by cases h; rfl
  | _, _, _, .cons (ds := ds) a r, h => by
    cases a with
    | str b =>
      simp only [strsD] at h
      cases e : strsD ds with
      | none => rw [e] at h; cases h
      | some bs => rw [e] at h; cases h; rw [strs_of r e]; rfl
    | _ => cases h
def mJoin : Str → D → (D → Prop) → Prop := fun a y P => match y with
  | .lst es => match strsD es with
    | some ys => (ys.map (·.length)).sum + ys.length * a.length ≤ 16777216 ∧ P (.str (Txt.join a ys))
    | none => False
  | .tup es => match strsD es with
    | some ys => (ys.map (·.length)).sum + ys.length * a.length ≤ 16777216 ∧ P (.str (Txt.join a ys))
    | none => False
  | _ => False
theorem rl_join (hK : X.K = cf.K := by rfl) : RlM cf (fun x xs H Q => ∃ a p, ∃ ys : List Str, x = .str a ∧ xs = [.ref p] ∧ (SqL X.K H p (ys.map V.str) ∨ SqT X.K H p (ys.map V.str)) ∧ (ys.map (·.length)).sum + ys.length * a.length ≤ 16777216 ∧ Q (.str (Txt.join a ys)) H) mJoin := fun M G H σ ρ z y dy Q P R ry q hf => by
  rw [hK]
  unfold mJoin at hf
  split at hf
  · next es =>
    cases ry with
    | lst h1 r1 =>
      cases e : strsD es with
      | none => rw [e] at hf; exact hf.elim
      | some ys =>
        rw [e] at hf
        have := strs_of r1 e
        subst this
        exact ⟨_, _, ys, rfl, rfl, .inl (sqL_up R.same h1), hf.1, q _ _ G H (Same.refl _) R (.str _) hf.2⟩
  · next es =>
    cases ry with
    | tup h1 r1 =>
      cases e : strsD es with
      | none => rw [e] at hf; exact hf.elim
      | some ys =>
        rw [e] at hf
        have := strs_of r1 e
        subst this
        exact ⟨_, _, ys, rfl, rfl, .inr (Cr.Same.sqT R.same h1), hf.1, q _ _ G H (Same.refl _) R (.str _) hf.2⟩
  · exact hf.elim
theorem e_join {o e : Expr} {a b : AE} {apos pos : Pos} (ho : Ee X cf W o a) (he : Ee X cf W e b) (hs : starEach [e] X.env = [(false, eval e X.env)] := by rfl) (hbase : attributeBase o "join" X.env (eval o X.env) = eval o X.env := by rfl) (hline : (apos.endLine == pos.line) = true := by rfl) (hK : X.K = cf.K := by rfl) :
    Ee X cf W (.Call (.Attribute o "join" apos) [e] [] pos) (aM1 mJoin a b) := PE.imp (pe_join ho he hs hbase hline) (m1_ok (rl_join hK))
theorem Rps.strs {K : PySem.W.Frag} {cl : Tb} {G : Hp} : ∀ ys : List Str, Rps K cl G (ys.map V.str) (ys.map D.str)
  | [] => .nil
  | y :: r => .cons (.str y) (Rps.strs r)
def mSplit : Str → D → (D → Prop) → Prop := fun a y P => match y with
  | .str b => ((b.length == 0) = false ∧ a.length + 2 ≤ sizeLine) ∧ P (.lst ((Txt.split a b).map D.str))
  | _ => False
theorem rl_split : RlM cf (fun x xs H Q => ∃ a b, x = .str a ∧ xs = [.str b] ∧ (b.length == 0) = false ∧ a.length + 2 ≤ sizeLine ∧ rNewStrs (Txt.split a b) H Q) mSplit := fun M G H σ ρ z y dy Q P R ry q hf => by
  unfold mSplit at hf
  split at hf
  · cases ry
    refine ⟨_, _, rfl, rfl, hf.1.1, hf.1.2, fun p np => ?_⟩
    obtain ⟨R2, s2, gp⟩ := R.new (o := .lst _) np
    exact q _ _ _ _ s2 R2 (.lst gp (Rps.strs _)) hf.2
  · exact hf.elim
def mPart : Str → D → (D → Prop) → Prop := fun a y P => match y with
  | .str b => ((b.length == 0) = false ∧ a.length ≤ sizeLine) ∧ P (.tup [.str (Txt.partition a b).1, .str (Txt.partition a b).2.1, .str (Txt.partition a b).2.2])
  | _ => False
theorem rl_part : RlM cf (fun x xs H Q => ∃ a b, x = .str a ∧ xs = [.str b] ∧ (b.length == 0) = false ∧ a.length ≤ sizeLine ∧
    ∀ p, H p = none → Q (.ref p) (upd H p (.tup [.str (Txt.partition a b).1, .str (Txt.partition a b).2.1, .str (Txt.partition a b).2.2]))) mPart := fun M G H σ ρ z y dy Q P R ry q hf => by
  unfold mPart at hf
  split at hf
  · cases ry
    refine ⟨_, _, rfl, rfl, hf.1.1, hf.1.2, fun p np => ?_⟩
    obtain ⟨R2, s2, gp⟩ := R.new (o := .tup _) np
    exact q _ _ _ _ s2 R2 (.tup (ofT gp) (.cons (.str _) (.cons (.str _) (.cons (.str _) .nil)))) hf.2
  · exact hf.elim
def mStarts : Str → D → (D → Prop) → Prop := fun a y P => match y with
  | .str b => P (.bl (Txt.startswith a b))
  | _ => False
theorem rl_starts : RlM cf (fun x xs H Q => ∃ a b, x = .str a ∧ xs = [.str b] ∧ Q (.bl (Txt.startswith a b)) H) mStarts := fun M G H σ ρ z y dy Q P R ry q hf => by
  unfold mStarts at hf
  split at hf
  · cases ry
    exact ⟨_, _, rfl, rfl, q _ _ G H (Same.refl _) R (.bl _) hf⟩
  · exact hf.elim
theorem e_split {o e : Expr} {a b : AE} {apos pos : Pos} (ho : Ee X cf W o a) (he : Ee X cf W e b) (hs : starEach [e] X.env = [(false, eval e X.env)] := by rfl) (hbase : attributeBase o "split" X.env (eval o X.env) = eval o X.env := by rfl) (hline : (apos.endLine == pos.line) = true := by rfl) :
    Ee X cf W (.Call (.Attribute o "split" apos) [e] [] pos) (aM1 mSplit a b) := PE.imp (pe_split ho he hs hbase hline) (m1_ok rl_split)
theorem e_part {o e : Expr} {a b : AE} {apos pos : Pos} (ho : Ee X cf W o a) (he : Ee X cf W e b) (hs : starEach [e] X.env = [(false, eval e X.env)] := by rfl) (hbase : attributeBase o "partition" X.env (eval o X.env) = eval o X.env := by rfl) (hline : (apos.endLine == pos.line) = true := by rfl) :
    Ee X cf W (.Call (.Attribute o "partition" apos) [e] [] pos) (aM1 mPart a b) := PE.imp (pe_partition ho he hs hbase hline) (m1_ok rl_part)
theorem e_starts {o e : Expr} {a b : AE} {apos pos : Pos} (ho : Ee X cf W o a) (he : Ee X cf W e b) (hs : starEach [e] X.env = [(false, eval e X.env)] := by rfl) (hbase : attributeBase o "startswith" X.env (eval o X.env) = eval o X.env := by rfl) (hline : (apos.endLine == pos.line) = true := by rfl) :
    Ee X cf W (.Call (.Attribute o "startswith" apos) [e] [] pos) (aM1 mStarts a b) := PE.imp (pe_m1 F.slot_str_startswith F.type_str_startswith mt_startswith ho he hs hbase hline) (m1_ok rl_starts)
/-- a sign in a text -/
def oInS (neg : Bool) : D → D → (D → Prop) → Prop := fun x y P => match x, y with
  | .str ⟨⟨[c]⟩⟩, .str z => P (.bl (if neg then !decide (c ∈ z.cps.toList) else decide (c ∈ z.cps.toList)))
  | _, _ => False
theorem rl_inS : RlO cf (fun x y H Q => ∃ (c : Nat) (z : Str), x = .str ⟨#[c]⟩ ∧ y = .str z ∧ Q (.bl (decide (c ∈ z.cps.toList))) H) (oInS false) := fun M G H σ ρ x y dx dy Q P R rx ry q hf => by
  unfold oInS at hf
  split at hf
  · cases rx; cases ry
    exact ⟨_, _, rfl, rfl, q _ _ G H (Same.refl _) R (.bl _) hf⟩
  · exact hf.elim
theorem rl_notInS : RlO cf (fun x y H Q => ∃ (c : Nat) (z : Str), x = .str ⟨#[c]⟩ ∧ y = .str z ∧ Q (.bl (!decide (c ∈ z.cps.toList))) H) (oInS true) := fun M G H σ ρ x y dx dy Q P R rx ry q hf => by
  unfold oInS at hf
  split at hf
  · cases rx; cases ry
    exact ⟨_, _, rfl, rfl, q _ _ G H (Same.refl _) R (.bl _) hf⟩
  · exact hf.elim
/-- in a list or a tuple of flat things -/
def flatD : D → Bool
  | .non => true | .bl _ => true | .int _ => true | .str _ => true
  | _ => false
def eqF : D → D → Bool
  | .non, .non => true
  | .bl a, .bl b => a == b
  | .bl a, .int b => (if a then 1 else 0) == b
  | .int a, .bl b => a == (if b then 1 else 0)
  | .int a, .int b => a == b
  | .str a, .str b => a == b
  | _, _ => false
def inD (x : D) (ds : List D) : Bool := ds.any fun y => eqF y x
def oIn (neg : Bool) : D → D → (D → Prop) → Prop := fun x y P => match y with
  | .lst ds => (flatD x = true ∧ ds.all flatD = true) ∧ P (.bl (if neg then !inD x ds else inD x ds))
  | .tup ds => (flatD x = true ∧ ds.all flatD = true) ∧ P (.bl (if neg then !inD x ds else inD x ds))
  | _ => False
theorem flat_of {G : Hp} {v : V} {d : D} (r : Rp cf.K cf.cl G v d) (h : flatD d = true) : flatV v = true := by cases r <;> first | rfl | cases h
theorem flats_of {G : Hp} : ∀ {vs : List V} {ds : List D}, Rps cf.K cf.cl G vs ds → ds.all flatD = true → vs.all flatV = true
  | _, _, .nil, _ => rfl
  | _, _, .cons a r, h => by
    simp only [List.all_cons, Bool.and_eq_true] at h ⊢
    exact ⟨flat_of a h.1, flats_of r h.2⟩
theorem eqF_of {G : Hp} {v u : V} {d e : D} (r : Rp cf.K cf.cl G v d) (r' : Rp cf.K cf.cl G u e) (h : flatD d = true) (h' : flatD e = true) : eqV v u = eqF d e := by
  cases r <;> (try (simp [flatD] at h; done)) <;> cases r' <;> first | rfl | (simp [flatD] at h')
theorem in_of {G : Hp} {x : V} {dx : D} (rx : Rp cf.K cf.cl G x dx) (hx : flatD dx = true) : ∀ {vs : List V} {ds : List D}, Rps cf.K cf.cl G vs ds → ds.all flatD = true → inV x vs = inD dx ds
  | _, _, .nil, _ => rfl
  | _, _, .cons a r, h => by
    simp only [List.all_cons, Bool.and_eq_true] at h
    simp only [inV, inD, List.any_cons]
    have := in_of rx hx r h.2
    unfold inV inD at this
    rw [this, eqF_of a rx h.1 hx]
theorem rl_in {neg : Bool} (hK : X.K = cf.K := by rfl) : RlO cf (rIn X.K neg) (oIn neg) := fun M G H σ ρ x y dx dy Q P R rx ry q hf => by
  rw [hK]
  unfold oIn at hf
  split at hf
  · cases ry with
    | lst h1 r1 =>
      obtain ⟨⟨f1, f2⟩, hf⟩ := hf
      rw [← in_of rx f1 r1 f2] at hf
      exact ⟨_, _, rfl, .inl (sqL_up R.same h1), flat_of rx f1, flats_of r1 f2, q _ _ G H (Same.refl _) R (.bl _) hf⟩
  · cases ry with
    | tup h1 r1 =>
      obtain ⟨⟨f1, f2⟩, hf⟩ := hf
      rw [← in_of rx f1 r1 f2] at hf
      exact ⟨_, _, rfl, .inr (Cr.Same.sqT R.same h1), flat_of rx f1, flats_of r1 f2, q _ _ G H (Same.refl _) R (.bl _) hf⟩
  · exact hf.elim
/-! ### isinstance -/
def aIs (g : D → Option Bool) (a : AE) : AE := fun ρ P X => a ρ (fun d ρ1 => match g d with
  | some b => P (.bl b) ρ1
  | none => False) X
def tyS : D → Option String
  | .non => some "NoneType" | .bl _ => some "bool" | .int _ => some "int" | .str _ => some "str" | .lst _ => some "list" | .tup _ => some "tuple" | .dic _ => some "dict"
  | _ => none
theorem ty_of {G H : Hp} {v : V} {d : D} {n : String} (r : Rp cf.K cf.cl G v d) (s : Same G H) (h : tyS d = some n) : TyX cf.K H v (.type n) := by
  cases r with
  | non => cases h; exact .base .non
  | bl b => cases h; exact .base (.bl b)
  | int b => cases h; exact .base (.int b)
  | str b => cases h; exact .base (.str b)
  | lst a _ =>
    cases h
    exact .base (.lst (s _ _ a))
  | tup a _ =>
    cases h
    rcases Cr.Same.sqT s a with z | ⟨o, its, n, e, c, _⟩
    · rcases z with z | ⟨o, z⟩
      · exact .base (.tup z)
      · exact .fTuple z
    · exact .kTuple e c
  | dic a _ =>
    cases h
    rcases Cr.Same.lst s a with z | ⟨o, z⟩
    · exact .base (.dK z)
    · exact .fDict z
  | _ => cases h
def isT (T : String) (d : D) : Option Bool := match tyS d with
  | some n => some (n == T || (n == "bool" && T == "int"))
  | none => none
def IsOk (K : PySem.W.Frag) (cl : Tb) (u : Value) (g : D → Option Bool) : Prop := ∀ (G H : Hp) (v : V) (d : D) (b : Bool), Same G H → Rp K cl G v d → g d = some b → ∃ t, TyX K H v t ∧ PySem.W.kitOne K t u = some b
theorem e_isi {x c : Expr} {g : D → Option Bool} {a : AE} {p pos : Pos} {cv : V} {u : Value} (hg : Gl X "isinstance") (hm : X.mg "isinstance" = none) (hx : Ee X cf W x a) (hc : PE X c (tC cv)) (hu : ClsV cv u) (ok : IsOk cf.K cf.cl u g)
    (he : starEach [x, c] X.env = (false, eval x X.env) :: starEach [c] X.env := by rfl) (he2 : starEach [c] X.env = [(false, eval c X.env)] := by rfl) (hpl : (backTo pos (starEach [c] X.env)).any (·.1) = false := by rfl) (hK : X.K = cf.K := by rfl) :
    Ee X cf W (.Call (.Name "isinstance" p) [x, c] [] pos) (aIs g a) := PE.imp (pe_callB call_isi hg hm (by decide +kernel) (pa_cons hx (pa_cons hc pa_nil he2) he) (by decide) (by decide) he hpl) fun σ H Q ⟨M, G, ρ, P, Xp, R, q, w, h⟩ => by
  refine ⟨M, G, ρ, _, Xp, R, fun d ρ1 v G1 H1 s1 R1 rd h1 => ?_, w, h⟩
  cases e : g d with
  | none => rw [e] at h1; exact h1.elim
  | some b =>
    rw [e] at h1
    obtain ⟨t, ty, k⟩ := ok G1 H1 v d b R1.same rd e
    exact ⟨v, cv, t, u, b, rfl, hu, by rw [hK]; exact ty, by rw [hK]; exact k, q _ ρ1 _ G1 H1 s1 R1 (.bl b) h1⟩
theorem isT_ok {K : PySem.W.Frag} {cl : Tb} {T : String} (h : ∀ n ∈ ["NoneType", "bool", "int", "str", "list", "tuple", "dict"], PySem.W.kitOne K (.type n) (.type T) = some (n == T || (n == "bool" && T == "int"))) : IsOk K cl (.type T) (isT T) := fun G H v d b s r e => by
  unfold isT at e
  cases e2 : tyS d with
  | none => rw [e2] at e; cases e
  | some n =>
    rw [e2] at e
    cases e
    refine ⟨.type n, ty_of (cf := ⟨K, cl, [], 0⟩) r s e2, h n ?_⟩
    cases d <;> cases e2 <;> simp
end
end Al

/-! AL7: operators by what stands there, tests, targets with a star, f-strings, defs as wholes. -/
namespace Al
open PySem PySem.Spec PyProof.Rows L2 Cr
section
variable {X : Cx} {cf : Cf} {W : WX}
theorem OpR.or {f : Value → Value → Sem Value} {r r' : R2} (h : OpR X f r) (h' : OpR X f r') : OpR X f (fun x y H Q => r x y H Q ∨ r' x y H Q) := fun pins s σ H x y v u Q I r1 r2 q => by
  rcases q with q | q
  · exact h pins s σ H x y v u Q I r1 r2 q
  · exact h' pins s σ H x y v u Q I r1 r2 q
theorem CallR.or {f : Value} {r r' : List V → Hp → VK → Prop} (h : CallR X f r) (h' : CallR X f r') : CallR X f (fun xs H Q => r xs H Q ∨ r' xs H Q) := fun pins s σ H xs us Q I r1 q => by
  rcases q with q | q
  · exact h pins s σ H xs us Q I r1 q
  · exact h' pins s σ H xs us Q I r1 q
theorem rl_catL : RlO cf rCat oCatL := fun M G H σ ρ x y dx dy Q P R rx ry q hf => by
  unfold oCatL at hf
  split at hf
  · cases rx with
    | lst h1 r1 =>
      cases ry with
      | lst h2 r2 =>
        refine ⟨_, _, _, _, rfl, rfl, R.same _ _ h1, R.same _ _ h2, by rw [r1.len, r2.len]; exact hf.1, fun p np => ?_⟩
        obtain ⟨R2, s2, gp⟩ := R.new (o := .lst _) np
        exact q _ _ _ _ s2 R2 (.lst gp ((r1.app r2).up s2)) hf.2
  · exact hf.elim
/-! ### + -/
def rAddA (K : PySem.W.Frag) : R2 := fun x y H Q => (((rI0 fun i j => .int (i + j)) x y H Q ∨ ∃ i j, x = .str i ∧ y = .str j ∧ i.length + j.length ≤ sizeLine ∧ Q (.str (i ++ j)) H) ∨ rCatA K x y H Q) ∨ rCat x y H Q
theorem op_addA : OpR X (binaryOp .Add) (rAddA X.K) := ((op_add.or op_add_str).or op_catA).or op_cat
def oAddA : D → D → (D → Prop) → Prop := fun x y P => match x with
  | .int _ => oAdd x y P
  | .str _ => oCatS x y P
  | .tup _ => oCatT x y P
  | .lst _ => oCatL x y P
  | _ => False
theorem rl_addA (hK : X.K = cf.K := by rfl) : RlO cf (rAddA X.K) oAddA := fun M G H σ ρ x y dx dy Q P R rx ry q hf => by
  unfold oAddA at hf
  split at hf
  · exact .inl (.inl (.inl (rl_I r_int M G H σ ρ x y _ dy Q P R rx ry q hf)))
  · exact .inl (.inl (.inr (rl_catS M G H σ ρ x y _ dy Q P R rx ry q hf)))
  · exact .inl (.inr (rl_catT hK M G H σ ρ x y _ dy Q P R rx ry q hf))
  · exact .inr (rl_catL M G H σ ρ x y _ dy Q P R rx ry q hf)
  · exact hf.elim
/-! ### * -/
def MulOk (i j : Int) : Prop := CMul i j ∨ CMulW i j
def rMulA : R2 := fun x y H Q => (((rI CMul fun i j => .int (i * j)) x y H Q ∨ (rI CMulW fun i j => .int (i * j)) x y H Q) ∨ rRep x y H Q) ∨ ∃ (z : Str) (n : Int), x = .str z ∧ y = .int n ∧ 2 ≤ n ∧ n ≤ 100000 ∧ 0 < z.length ∧ z.length * n.toNat ≤ sizeLine ∧ Q (.str (repS z n.toNat)) H
theorem op_mulA : OpR X (binaryOp .Mult) rMulA := ((op_mul.or op_mulW).or op_rep).or op_repS
def oMulA : D → D → (D → Prop) → Prop := fun x y P => match x, y with
  | .int i, .int j => MulOk i j ∧ P (.int (i * j))
  | .lst ds, .int k => (-(2 ^ 63) ≤ k ∧ k < 2 ^ 63 ∧ ds.length * k.toNat ≤ sizeLine) ∧ P (.lst (List.replicate k.toNat ds).flatten)
  | .str z, .int n => (2 ≤ n ∧ n ≤ 100000 ∧ 0 < z.length ∧ z.length * n.toNat ≤ sizeLine) ∧ P (.str (repS z n.toNat))
  | _, _ => False
theorem Rps.rep {K : PySem.W.Frag} {cl : Tb} {G : Hp} {vs : List V} {ds : List D} (r : Rps K cl G vs ds) : ∀ n : Nat, Rps K cl G (List.replicate n vs).flatten (List.replicate n ds).flatten
  | 0 => .nil
  | n + 1 => by simp only [List.replicate_succ, List.flatten_cons]; exact r.app (Rps.rep r n)
theorem rl_mulA : RlO cf rMulA oMulA := fun M G H σ ρ x y dx dy Q P R rx ry q hf => by
  unfold oMulA at hf
  split at hf
  · cases rx; cases ry
    rcases hf.1 with c | c
    · exact .inl (.inl (.inl ⟨_, _, rfl, rfl, c, q _ _ G H (Same.refl _) R (.int _) hf.2⟩))
    · exact .inl (.inl (.inr ⟨_, _, rfl, rfl, c, q _ _ G H (Same.refl _) R (.int _) hf.2⟩))
  · cases ry
    cases rx with
    | lst h1 r1 =>
      refine .inl (.inr ⟨_, _, _, rfl, rfl, R.same _ _ h1, hf.1.1, hf.1.2.1, by rw [r1.len]; exact hf.1.2.2, fun p np => ?_⟩)
      obtain ⟨R2, s2, gp⟩ := R.new (o := .lst _) np
      exact q _ _ _ _ s2 R2 (.lst gp ((r1.rep _).up s2)) hf.2
  · cases rx; cases ry
    exact .inr ⟨_, _, rfl, rfl, hf.1.1, hf.1.2.1, hf.1.2.2.1, hf.1.2.2.2, q _ _ G H (Same.refl _) R (.str _) hf.2⟩
  · exact hf.elim
/-! ### items, slices, len -/
def oIx : D → D → (D → Prop) → Prop := fun x y P => match x with
  | .lst _ => oIxL x y P
  | .tup _ => oIxT x y P
  | .str _ => oIxS x y P
  | _ => False
theorem rl_ix (hK : X.K = cf.K := by rfl) : RlO cf (rIx X.K) oIx := fun M G H σ ρ x y dx dy Q P R rx ry q hf => by
  unfold oIx at hf
  split at hf
  · exact .inl (rl_ixL hK M G H σ ρ x y _ dy Q P R rx ry q hf)
  · exact .inr (.inl (rl_ixT hK M G H σ ρ x y _ dy Q P R rx ry q hf))
  · exact .inr (.inr (rl_ixS M G H σ ρ x y _ dy Q P R rx ry q hf))
  · exact hf.elim
def rSlAll (K : PySem.W.Frag) : V → Option Int → Option Int → Hp → VK → Prop := fun x lo hi H Q => (rSlL K x lo hi H Q ∨ rSlA K x lo hi H Q) ∨ rSlS x lo hi H Q
theorem sl_all : SlR X (rSlAll X.K) := (sl_list.or sl_tupA).or sl_str
def slA : D → Option Int → Option Int → (D → Prop) → Prop := fun x lo hi P => match x with
  | .lst _ => slL x lo hi P
  | .scr _ => slL x lo hi P
  | .tup _ => slT x lo hi P
  | .str _ => slS x lo hi P
  | _ => False
theorem rl_slA (hK : X.K = cf.K := by rfl) : RlS cf (rSlAll X.K) slA := fun M G H σ ρ x dx lo hi Q P R rx q hf => by
  unfold slA at hf
  split at hf
  · exact .inl (.inl (rl_slL hK M G H σ ρ x _ lo hi Q P R rx q hf))
  · exact .inl (.inl (rl_slL hK M G H σ ρ x _ lo hi Q P R rx q hf))
  · exact .inl (.inr (rl_slT hK M G H σ ρ x _ lo hi Q P R rx q hf))
  · exact .inr (rl_slS M G H σ ρ x _ lo hi Q P R rx q hf)
  · exact hf.elim
theorem Rks.len {K : PySem.W.Frag} {cl : Tb} {G : Hp} {vs : List (Key × V)} {ds : List (Key × D)} : Rks K cl G vs ds → vs.length = ds.length
  | .nil => rfl
  | .cons _ r => by simp [Rks.len r]
def rLenA (K : PySem.W.Frag) : List V → Hp → VK → Prop := fun xs H Q => ((∃ p ys, xs = [.ref p] ∧ (SqL K H p ys ∨ SqT K H p ys) ∧ Q (.int ys.length) H) ∨ ∃ z, xs = [.str z] ∧ z.length ≤ sizeLine ∧ Q (.int z.length) H) ∨ ∃ a kvs, xs = [V.ref a] ∧ Rd H a (.dK kvs) ∧ Q (.int kvs.length) H
theorem call_lenDR : CallR X (.builtin "len") (fun xs H Q => ∃ a kvs, xs = [V.ref a] ∧ Rd H a (.dK kvs) ∧ Q (.int kvs.length) H) := by
  intro pins s σ H xs us Q I r h
  obtain ⟨a, kvs, rfl, ea, q⟩ := h
  obtain ⟨u, rfl, ru⟩ := vals1 r
  cases ru
  exact d_len I ea fun t s' I' => ⟨.int kvs.length, H, I', ⟨t, rfl⟩, q⟩
theorem call_lenA : CallR X (.builtin "len") (rLenA X.K) := (call_len_seq.or call_len_str).or call_lenDR
def fLenA : List D → (D → Prop) → Prop := fun ds P => match ds with
  | [.lst es] => P (.int (es.length : Nat))
  | [.tup es] => P (.int (es.length : Nat))
  | [.scr es] => P (.int (es.length : Nat))
  | [.str z] => z.length ≤ sizeLine ∧ P (.int (z.length : Nat))
  | [.dic kvs] => P (.int (kvs.length : Nat))
  | _ => False
theorem rl_lenA (hK : X.K = cf.K := by rfl) : RlC cf (rLenA X.K) fLenA := fun M G H σ ρ xs ds Q P R rx q hf => by
  unfold fLenA at hf
  split at hf
  · exact .inl (.inl (rl_len hK M G H σ ρ xs _ Q P R rx q hf))
  · exact .inl (.inl (rl_len hK M G H σ ρ xs _ Q P R rx q hf))
  · exact .inl (.inl (rl_len hK M G H σ ρ xs _ Q P R rx q hf))
  · exact .inl (.inr (rl_lenS M G H σ ρ xs _ Q P R rx q hf))
  · cases rx with
    | cons a r =>
      cases r
      cases a with
      | dic h1 r1 => rw [← r1.len] at hf; exact .inr ⟨_, _, rfl, Cr.Same.lst R.same h1, q _ _ G H (Same.refl _) R (.int _) hf⟩
  · exact hf.elim
/-! ### ==, != -/
def rEqA (K : PySem.W.Frag) : R2 := fun x y H Q => (rEq x y H Q ∨ rEqD K x y H Q) ∨ ∃ (a b : Addr) (xs : List V), x = .ref a ∧ y = .ref b ∧ SqL K H a xs ∧ SqL K H b [] ∧ Q (.bl xs.isEmpty) H
def rNeA (K : PySem.W.Frag) : R2 := fun x y H Q => (rNe x y H Q ∨ rNeD K x y H Q) ∨ ∃ (a b : Addr) (xs : List V), x = .ref a ∧ y = .ref b ∧ SqL K H a xs ∧ SqL K H b [] ∧ Q (.bl (!xs.isEmpty)) H
theorem op_eqA (hu : X.A.units + 64 < cLine) : OpR X (compareOp .Eq) (rEqA X.K) := (op_eq.or (op_eqD hu)).or (op_eqE hu)
theorem op_neA (hu : X.A.units + 64 < cLine) : OpR X (compareOp .NotEq) (rNeA X.K) := (op_ne.or (op_neD hu)).or (op_neE hu)
def oEqA : D → D → (D → Prop) → Prop := fun x y P => match eqS x y with
  | some b => P (.bl b)
  | none => match x, y with
    | .lst ds, .lst [] => P (.bl ds.isEmpty)
    | _, _ => oEqD x y P
def oNeA : D → D → (D → Prop) → Prop := fun x y P => match eqS x y with
  | some b => P (.bl (!b))
  | none => match x, y with
    | .lst ds, .lst [] => P (.bl (!ds.isEmpty))
    | _, _ => oNeD x y P
theorem rl_eqA (hK : X.K = cf.K := by rfl) : RlO cf (rEqA X.K) oEqA := fun M G H σ ρ x y dx dy Q P R rx ry q hf => by
  unfold oEqA at hf
  cases e : eqS dx dy with
  | some b =>
    rw [e] at hf
    exact .inl (.inl (rl_eq M G H σ ρ x y dx dy Q P R rx ry q (by unfold oEq; rw [e]; exact hf)))
  | none =>
    rw [e] at hf
    simp only at hf
    split at hf
    · exact .inr (rl_eqE hK M G H σ ρ x y _ _ Q P R rx ry q hf)
    · exact .inl (.inr (rl_eqD hK M G H σ ρ x y dx dy Q P R rx ry q hf))
theorem rl_neA (hK : X.K = cf.K := by rfl) : RlO cf (rNeA X.K) oNeA := fun M G H σ ρ x y dx dy Q P R rx ry q hf => by
  unfold oNeA at hf
  cases e : eqS dx dy with
  | some b =>
    rw [e] at hf
    exact .inl (.inl (rl_ne M G H σ ρ x y dx dy Q P R rx ry q (by unfold oNe; rw [e]; exact hf)))
  | none =>
    rw [e] at hf
    simp only at hf
    split at hf
    · exact .inr (rl_neE hK M G H σ ρ x y _ _ Q P R rx ry q hf)
    · exact .inl (.inr (rl_neD hK M G H σ ρ x y dx dy Q P R rx ry q hf))
/-! ### in -/
def rInA (K : PySem.W.Frag) (neg : Bool) : R2 := fun x y H Q => rIn K neg x y H Q ∨ ∃ (c : Nat) (z : Str), x = .str ⟨#[c]⟩ ∧ y = .str z ∧ Q (.bl (if neg then !decide (c ∈ z.cps.toList) else decide (c ∈ z.cps.toList))) H
theorem op_inA : OpR X (compareOp .In) (rInA X.K false) := op_in_seq.or op_in_sign
theorem op_notInA : OpR X (compareOp .NotIn) (rInA X.K true) := op_notIn_seq.or op_notIn_sign
def oInA (neg : Bool) : D → D → (D → Prop) → Prop := fun x y P => match y with
  | .lst _ => oIn neg x y P
  | .tup _ => oIn neg x y P
  | .str _ => oInS neg x y P
  | _ => False
theorem rl_inSg {neg : Bool} : RlO cf (fun x y H Q => ∃ (c : Nat) (z : Str), x = .str ⟨#[c]⟩ ∧ y = .str z ∧ Q (.bl (if neg then !decide (c ∈ z.cps.toList) else decide (c ∈ z.cps.toList))) H) (oInS neg) := fun M G H σ ρ x y dx dy Q P R rx ry q hf => by
  unfold oInS at hf
  split at hf
  · cases rx; cases ry
    exact ⟨_, _, rfl, rfl, q _ _ G H (Same.refl _) R (.bl _) hf⟩
  · exact hf.elim
theorem rl_inA {neg : Bool} (hK : X.K = cf.K := by rfl) : RlO cf (rInA X.K neg) (oInA neg) := fun M G H σ ρ x y dx dy Q P R rx ry q hf => by
  unfold oInA at hf
  split at hf
  · exact .inl (rl_in hK M G H σ ρ x y dx _ Q P R rx ry q hf)
  · exact .inl (rl_in hK M G H σ ρ x y dx _ Q P R rx ry q hf)
  · exact .inr (rl_inSg M G H σ ρ x y dx _ Q P R rx ry q hf)
  · exact hf.elim
/-! ### str(x) -/
def rStrA : List V → Hp → VK → Prop := fun xs H Q => (∃ i, xs = [.int i] ∧ i.natAbs.log2 < 1920 ∧ Q (.str (toString i)) H) ∨ ∃ a, xs = [.str a] ∧ Q (.str a) H
theorem call_strA : CallR X (.type "str") rStrA := call_str_int.or SkE.call_str_str
def fStrA : List D → (D → Prop) → Prop := fun ds P => match ds with
  | [.int i] => i.natAbs.log2 < 1920 ∧ P (.str (toString i))
  | [.str a] => P (.str a)
  | _ => False
theorem rl_strA : RlC cf rStrA fStrA := fun M G H σ ρ xs ds Q P R rx q hf => by
  unfold fStrA at hf
  split at hf
  · cases rx with
    | cons a r =>
      cases r; cases a
      exact .inl ⟨_, rfl, hf.1, q _ _ G H (Same.refl _) R (.str _) hf.2⟩
  · cases rx with
    | cons a r =>
      cases r; cases a
      exact .inr ⟨_, rfl, q _ _ G H (Same.refl _) R (.str _) hf⟩
  · exact hf.elim
def rIntA : List V → Hp → VK → Prop := fun xs H Q => ((∃ i, xs = [.int i] ∧ Q (.int i) H) ∨ ∃ k, xs = [.bl k] ∧ Q (.int (if k then 1 else 0)) H) ∨ ∃ a n, xs = [.str a] ∧ PySem.intText? a = some n ∧ a.length ≤ 640 ∧ Q (.int n) H
theorem call_intA : CallR X (.type "int") rIntA := call_int1.or call_int_str
def fIntA : List D → (D → Prop) → Prop := fun ds P => match ds with
  | [.int i] => P (.int i)
  | [.bl b] => P (.int (if b then 1 else 0))
  | [.str _] => fIntS ds P
  | _ => False
theorem rl_intA : RlC cf rIntA fIntA := fun M G H σ ρ xs ds Q P R rx q hf => by
  unfold fIntA at hf
  split at hf
  · exact .inl (rl_int1 M G H σ ρ xs _ Q P R rx q hf)
  · exact .inl (rl_int1 M G H σ ρ xs _ Q P R rx q hf)
  · exact .inr (rl_intS M G H σ ρ xs _ Q P R rx q hf)
  · exact hf.elim
/-! ### tests -/
def truD : D → Option Bool
  | .non => some false
  | .bl b => some b
  | .int i => some (i != 0)
  | .str y => if y.length ≤ sizeLine then some ((y.length : Int) != 0) else none
  | .lst ds => some (!ds.isEmpty)
  | .tup ds => some (!ds.isEmpty)
  | _ => none
def aTr (a : AE) : AT := fun ρ P X => a ρ (fun d ρ1 => match truD d with
  | some b => P b ρ1
  | none => False) X
theorem tru_of {G H : Hp} {v : V} {d : D} {b : Bool} (r : Rp cf.K cf.cl G v d) (s : Same G H) (h : truD d = some b) : TruV cf.K v H b := by
  cases r with
  | non => cases h; rfl
  | bl b => cases h; rfl
  | int i => cases h; rfl
  | str y =>
    simp only [truD] at h
    split at h
    · next c => cases h; exact ⟨c, rfl⟩
    · cases h
  | lst a r => cases h; exact .inl ⟨_, ofL (s _ _ a), by rw [isE r]⟩
  | tup a r => cases h; exact .inr (.inl ⟨_, Cr.Same.sqT s a, by rw [isE r]⟩)
  | _ => cases h
theorem t_truth {e : Expr} {a : AE} (h : Ee X cf W e a) (he : ∀ whole, isTrue e X.env whole = (do let v ← whole; standAt e.pos; holding [v] (truthy v)) := by intro _; rfl) (hK : X.K = cf.K := by rfl) : Et X cf W e (aTr a) := PT.imp (pt_truth h he) fun σ H Q ⟨M, G, ρ, P, Xp, R, q, w, h⟩ => by
  refine ⟨M, G, ρ, _, Xp, R, fun d ρ1 v G1 H1 s1 R1 rd h1 => ?_, w, h⟩
  cases e : truD d with
  | none => rw [e] at h1; exact h1.elim
  | some b => rw [e] at h1; exact ⟨b, by rw [hK]; exact tru_of rd R1.same e, q b ρ1 G1 H1 s1 R1 h1⟩
/-- x or y, x and y, as values by truth -/
def aOrT (a b : AE) : AE := fun ρ P X => a ρ (fun d ρ1 => match truD d with
  | some true => P d ρ1
  | some false => b ρ1 P X
  | none => False) X
theorem e_orT {x y : Expr} {rest : List Expr} {a b : AE} {pos : Pos} (ha : Ee X cf W x a) (hb : Ee X cf W (.BoolOp .Or (y :: rest) pos) b) (hK : X.K = cf.K := by rfl) : Ee X cf W (.BoolOp .Or (x :: y :: rest) pos) (aOrT a b) := PE.imp (pe_orT ha hb) fun σ H Q ⟨M, G, ρ, P, Xp, R, q, w, h⟩ => by
  refine ⟨M, G, ρ, _, Xp, R, fun d ρ1 v G1 H1 s1 R1 rd h1 => ?_, w, h⟩
  cases e : truD d with
  | none => rw [e] at h1; exact h1.elim
  | some b =>
    rw [e] at h1
    refine ⟨b, by rw [hK]; exact tru_of rd R1.same e, ?_⟩
    cases b with
    | true => exact q d ρ1 v G1 H1 s1 R1 rd h1
    | false => exact ⟨M, G1, ρ1, P, Xp, R1, q.up s1, w.up s1, h1⟩
/-! ### a < b < c -/
def aCh (f g : D → D → (D → Prop) → Prop) (a b c : AE) : AE := fun ρ P X => a ρ (fun x ρ1 => b ρ1 (fun y ρ2 => f x y fun d => match d with
  | .bl true => c ρ2 (fun z ρ3 => g y z fun e => P e ρ3) X
  | .bl false => P (.bl false) ρ2
  | _ => False) X) X
theorem ch_ok {r r' : R2} {f g : D → D → (D → Prop) → Prop} {a b c : AE} (hr : RlO cf r f) (hr' : RlO cf r' g) : ∀ σ H Q, γE cf W (aCh f g a b c) σ H Q → tChain r r' (γE cf W a) (γE cf W b) (γE cf W c) σ H Q := by
  rintro σ H Q ⟨M, G, ρ, P, Xp, R, q, w, h⟩
  refine ⟨M, G, ρ, _, Xp, R, fun x ρ1 v G1 H1 s1 R1 rx h1 => ?_, w, h⟩
  refine ⟨M, G1, ρ1, _, Xp, R1, fun y ρ2 u G2 H2 s2 R2 ry h2 => ?_, w.up s1, h1⟩
  refine hr M G2 H2 σ ρ2 v u x y _ _ R2 (rx.up s2) ry (fun d z G3 H3 s3 R3 rz p => ?_) h2
  have s13 := (s1.trans s2).trans s3
  cases rz with
  | bl k =>
    refine ⟨k, rfl, ?_⟩
    cases k with
    | true =>
      refine ⟨M, G3, ρ2, _, Xp, R3, fun z ρ3 t G4 H4 s4 R4 rt h4 => ?_, w.up s13, p⟩
      exact hr' M G4 H4 σ ρ3 u t y z Q _ R4 ((ry.up s3).up s4) rt (fun d z G5 H5 s5 R5 rz p => q d ρ3 z G5 H5 ((s13.trans s4).trans s5) R5 rz p) h4
    | false => exact q (.bl false) ρ2 _ G3 H3 s13 R3 (.bl _) p
  | _ => exact p.elim
theorem e_chain {op op' : CmpOp} {r r' : R2} {f g : D → D → (D → Prop) → Prop} {x y z : Expr} {a b c : AE} {pos : Pos} (ho : OpR X (compareOp op) r) (ho' : OpR X (compareOp op') r') (hr : RlO cf r f) (hr' : RlO cf r' g) (ha : Ee X cf W x a) (hb : Ee X cf W y b) (hc : Ee X cf W z c)
    (hm : lastMarks [op, op'] [y, z] = false := by with_unfolding_all rfl) : Ee X cf W (.Compare x [op, op'] [y, z] pos) (aCh f g a b c) := PE.imp (pe_chain ho ho' ha hb hc hm) (ch_ok hr hr')
theorem t_chain {op op' : CmpOp} {r r' : R2} {f g : D → D → (D → Prop) → Prop} {x y z : Expr} {a b c : AE} {pos : Pos} (ho : OpR X (compareOp op) r) (ho' : OpR X (compareOp op') r') (hr : RlO cf r f) (hr' : RlO cf r' g) (ha : Ee X cf W x a) (hb : Ee X cf W y b) (hc : Ee X cf W z c)
    (hm : lastMarks [op, op'] [y, z] = false := by with_unfolding_all rfl) : Et X cf W (.Compare x [op, op'] [y, z] pos) (aB (aCh f g a b c)) := PT.imp (pt_chain ho ho' ha hb hc hm) fun σ H Q h => ch_ok hr hr' σ H _ (toB σ H Q h)
/-! ### x op= e -/
def sAug (i : Nat) (f : D → D → (D → Prop) → Prop) (a : AE) : AS := fun A ρ => match sl ρ i with
  | some x => a ρ (fun y ρ1 => f x y fun z => A.nx (ρ1.set i (some z))) A.ex
  | none => False
theorem s_aug {i : Nat} {x : Str} {e : Expr} {op : Operator} {ti : TIp} {f : D → D → (D → Prop) → Prop} {a : AE} {pos pos' : Pos} (hN : X.N.Nodup) (hi : X.N[i]? = some x) (hx : Loc X.env.scope x) (hO : i ∉ cf.O) (he : Ee X cf W e a) (ho : PIp X op ti) (hr : RlO cf ti f) (hf : X.fn x = true ∨ X.env.scope.names.lookup x = some .local := by first | exact .inl rfl | exact .inr rfl | assumption)
    (h : PE X e (γE cf W a) → PS X (.AugAssign (.Name x pos') op e pos) (tAug i (γE cf W a) ti)) : Es X cf W (.AugAssign (.Name x pos') op e pos) (sAug i f a) := PS.imp (h he) fun Dn σ H ⟨M, G, ρ, A, R, q, h⟩ => by
  unfold sAug at h
  cases e0 : sl ρ i with
  | none => rw [e0] at h; exact h.elim
  | some x =>
    rw [e0] at h
    obtain ⟨v, e1, r1⟩ := R.imm i x hO e0
    refine ⟨v, e1, M, G, ρ, _, A.ex, R, fun y ρ1 u G1 H1 s1 R1 ry h1 => ?_, q.ex σ, h⟩
    exact hr M G1 H1 σ ρ1 v u x y _ _ R1 (r1.up s1) ry (fun d z G2 H2 s2 R2 rz p => q.nx _ _ G2 H2 (s1.trans s2) (R2.set hO rz) p) h1
/-! ### a, *b = xs -/
def starD (n i : Nat) (ds : List D) : List D := ds.take i ++ [.lst ((ds.drop i).take (ds.length + 1 - n))] ++ (ds.drop i).drop (ds.length + 1 - n)
def gSt (i : Nat) (is : List Nat) : AG := fun d ρ k => match d with
  | .tup ds => (is.length ≤ ds.length + 1 ∧ ds.length ≤ 16384 ∧ i < is.length) ∧ k (setAll is (starD is.length i ds) ρ)
  | .lst ds => (is.length ≤ ds.length + 1 ∧ ds.length ≤ 16384 ∧ i < is.length) ∧ k (setAll is (starD is.length i ds) ρ)
  | _ => False
theorem star_len {α : Type} (xs : List α) (y : α) (n i : Nat) (h1 : n ≤ xs.length + 1) (h2 : i < n) : (xs.take i ++ [y] ++ (xs.drop i).drop (xs.length + 1 - n)).length = n := by
  simp only [List.length_append, List.length_take, List.length_drop, List.length_cons, List.length_nil]
  omega
theorem g_star {e : Expr} {i : Nat} {is : List Nat} (h : PG X e (gStar X.K is.length i (gsN is))) (hO : ∀ j ∈ is, j ∉ cf.O) (hK : X.K = cf.K := by rfl) : Eg X cf e (fun d ρ k => match d with
  | .tup _ => gSt i is d ρ k
  | _ => False) := PG.imp h fun x σ H Q ⟨M, G, ρ, d, P, R, r, q, hk⟩ => by
  cases r with
  | @tup a vs ds hs r =>
    obtain ⟨⟨h1, h2, h3⟩, hk⟩ := hk
    have hl := r.len
    refine ⟨a, vs, rfl, by rw [hK]; exact Cr.Same.sqT R.same hs, by omega, by omega, fun p np => ?_⟩
    obtain ⟨R2, s2, gp⟩ := R.new (o := .lst ((vs.drop i).take (vs.length + 1 - is.length))) np
    refine gsN_of is _ σ _ Q (star_len vs _ _ i (by omega) h3) ?_
    refine q _ _ _ _ s2 (R2.setAll hO (ds := starD is.length i ds) ?_) hk
    unfold starD
    have r2 := r.up s2
    rw [← hl]
    exact ((r2.take i).app (.cons (.lst gp ((r2.drop i).take _)) .nil)).app ((r2.drop i).drop _)
  | _ => exact hk.elim
theorem g_starL {e : Expr} {i : Nat} {is : List Nat} (h : PG X e (gStarL X.K is.length i (gsN is))) (hO : ∀ j ∈ is, j ∉ cf.O) (hK : X.K = cf.K := by rfl) : Eg X cf e (fun d ρ k => match d with
  | .lst _ => gSt i is d ρ k
  | _ => False) := PG.imp h fun x σ H Q ⟨M, G, ρ, d, P, R, r, q, hk⟩ => by
  cases r with
  | @lst a vs ds hs r =>
    obtain ⟨⟨h1, h2, h3⟩, hk⟩ := hk
    have hl := r.len
    refine ⟨a, vs, rfl, by rw [hK]; exact ofL (R.same _ _ hs), by omega, by omega, fun p np => ?_⟩
    obtain ⟨R2, s2, gp⟩ := R.new (o := .lst ((vs.drop i).take (vs.length + 1 - is.length))) np
    refine gsN_of is _ σ _ Q (star_len vs _ _ i (by omega) h3) ?_
    refine q _ _ _ _ s2 (R2.setAll hO (ds := starD is.length i ds) ?_) hk
    unfold starD
    have r2 := r.up s2
    rw [← hl]
    exact ((r2.take i).app (.cons (.lst gp ((r2.drop i).take _)) .nil)).app ((r2.drop i).drop _)
  | _ => exact hk.elim
/-! ### x[::-1] -/
def oRevL : D → (D → Prop) → Prop := fun x P => match x with
  | .lst ds => P (.lst ds.reverse)
  | _ => False
def oRevT : D → (D → Prop) → Prop := fun x P => match x with
  | .tup ds => P (.tup ds.reverse)
  | _ => False
def oRevS : D → (D → Prop) → Prop := fun x P => match x with
  | .str z => z.length ≤ sizeLine ∧ P (.str (revS z))
  | _ => False
theorem e_revL {e : Expr} {a : AE} {k : Nat} {p1 p2 p3 pos : Pos} (he : Ee X cf W e a) (hK : X.K = cf.K := by rfl) : Ee X cf W (.Subscript e (.Slice none none (some (.UnaryOp .USub (.Constant (.int 1) k p1) p2)) p3) pos) (aU oRevL a) := PE.imp (pe_revL he) (one (r := fun x H1 Q => ∃ a xs, x = .ref a ∧ SqL X.K H1 a xs ∧ ∀ p, H1 p = none → Q (.ref p) (upd H1 p (.lst xs.reverse))) fun M G H σ ρ x dx Q P R rx q hf => by
  unfold oRevL at hf
  split at hf
  · cases rx with
    | lst h1 r1 =>
      refine ⟨_, _, rfl, by rw [hK]; exact sqL_up R.same h1, fun p np => ?_⟩
      obtain ⟨R2, s2, gp⟩ := R.new (o := .lst _) np
      exact q _ _ _ _ s2 R2 (.lst gp (r1.rev.up s2)) hf
  · exact hf.elim)
theorem e_revT {e : Expr} {a : AE} {k : Nat} {p1 p2 p3 pos : Pos} (he : Ee X cf W e a) (hK : X.K = cf.K := by rfl) : Ee X cf W (.Subscript e (.Slice none none (some (.UnaryOp .USub (.Constant (.int 1) k p1) p2)) p3) pos) (aU oRevT a) := PE.imp (pe_revT he) (one (r := fun x H1 Q => ∃ a xs, x = .ref a ∧ SqT X.K H1 a xs ∧ ∀ p, H1 p = none → Q (.ref p) (upd H1 p (.tup xs.reverse))) fun M G H σ ρ x dx Q P R rx q hf => by
  unfold oRevT at hf
  split at hf
  · cases rx with
    | tup h1 r1 =>
      refine ⟨_, _, rfl, by rw [hK]; exact Cr.Same.sqT R.same h1, fun p np => ?_⟩
      obtain ⟨R2, s2, gp⟩ := R.new (o := .tup _) np
      exact q _ _ _ _ s2 R2 (.tup (ofT gp) (r1.rev.up s2)) hf
  · exact hf.elim)
theorem e_revS {e : Expr} {a : AE} {k : Nat} {p1 p2 p3 pos : Pos} (he : Ee X cf W e a) : Ee X cf W (.Subscript e (.Slice none none (some (.UnaryOp .USub (.Constant (.int 1) k p1) p2)) p3) pos) (aU oRevS a) := PE.imp (pe_revS he) (one (r := fun x H1 Q => ∃ z : Str, x = .str z ∧ z.length ≤ sizeLine ∧ Q (.str (revS z)) H1) fun M G H σ ρ x dx Q P R rx q hf => by
  unfold oRevS at hf
  split at hf
  · cases rx
    exact ⟨_, rfl, hf.1, q _ _ G H (Same.refl _) R (.str _) hf.2⟩
  · exact hf.elim)
/-! ### f-strings -/
def oFmt : D → (D → Prop) → Prop := fun x P => match x with
  | .str y => y.length ≤ sizeLine ∧ P (.str y)
  | .int i => i.natAbs.log2 < 1920 ∧ P (.str (toString i))
  | _ => False
theorem e_fmt {e : Expr} {a : AE} {pos : Pos} (he : Ee X cf W e a) : Ee X cf W (.FormattedValue e (-1) none pos) (aU oFmt a) := PE.imp (pe_fmt he) (one (r := fun x H1 Q => (∃ y : Str, x = .str y ∧ y.length ≤ sizeLine ∧ Q (.str y) H1) ∨ ∃ i : Int, x = .int i ∧ i.natAbs.log2 < 1920 ∧ Q (.str (toString i)) H1) fun M G H σ ρ x dx Q P R rx q hf => by
  unfold oFmt at hf
  split at hf
  · cases rx
    exact .inl ⟨_, rfl, hf.1, q _ _ G H (Same.refl _) R (.str _) hf.2⟩
  · cases rx
    exact .inr ⟨_, rfl, hf.1, q _ _ G H (Same.refl _) R (.str _) hf.2⟩
  · exact hf.elim)
def jGo : List AE → Str → Ev → (Str → Ev → Prop) → XP → Prop
  | [], acc, ρ, P, _ => P acc ρ
  | a :: as, acc, ρ, P, X => a ρ (fun d ρ1 => match d with
    | .str y => (acc ++ y).length ≤ sizeLine ∧ jGo as (acc ++ y) ρ1 P X
    | _ => False) X
def aJ (as : List AE) : AE := fun ρ P X => jGo as Str.empty ρ (fun s ρ1 => P (.str s) ρ1) X
theorem js_ok {M : Fx} {σ : L2.St} {Xp : XP} : ∀ (as : List AE) (acc : Str) (G H : Hp) (ρ : Ev) (P : Str → Ev → Prop) (Q : Str → Hp → Prop), Rs cf M G H σ ρ → (∀ s ρ' G' H', Same G G' → Rs cf M G' H' σ ρ' → P s ρ' → Q s H') → XW cf W M G σ Xp → jGo as acc ρ P Xp → tJs (as.map (γE cf W)) acc σ H Q
  | [], acc, G, H, ρ, P, Q, R, q, w, h => q acc ρ G H (Same.refl _) R h
  | a :: as, acc, G, H, ρ, P, Q, R, q, w, h => by
    refine ⟨M, G, ρ, _, Xp, R, fun d ρ1 v G1 H1 s1 R1 rd h1 => ?_, w, h⟩
    cases rd with
    | str y => exact ⟨y, rfl, h1.1, js_ok as (acc ++ y) G1 H1 ρ1 P Q R1 (fun s ρ' G' H' s2 => q s ρ' G' H' (s1.trans s2)) (w.up s1) h1.2⟩
    | _ => exact h1.elim
theorem e_joined {v1 v2 : Expr} {rest : List Expr} {as : List AE} {pos : Pos} (h : PJ X (v1 :: v2 :: rest) (as.map (γE cf W))) : Ee X cf W (.JoinedStr (v1 :: v2 :: rest) pos) (aJ as) := PE.imp (pe_joined h) fun σ H Q ⟨M, G, ρ, P, Xp, R, q, w, h⟩ =>
  js_ok as Str.empty G H ρ _ _ R (fun s ρ' G' H' s1 R1 p => q (.str s) ρ' _ G' H' s1 R1 (.str s) p) w h
theorem e_joined1 {e : Expr} {a : AE} {pos : Pos} (he : Ee X cf W e a) : Ee X cf W (.JoinedStr [e] pos) a := pe_joined1 he
end
end Al
namespace Al
open PySem PySem.Spec PyProof.Rows L2 Cr
section
variable {X : Cx} {cf : Cf} {W : WX}
theorem rl_sub : RlO cf (rI0 fun i j => .int (i - j)) oSub := rl_I r_int
theorem rl_mod : RlO cf (rI (fun _ j => j ≠ 0) fun i j => .int (i.fmod j)) oMod := rl_IC r_int
theorem rl_divN : RlO cf (rI CDivN fun i j => .int (i.fdiv j)) oDiv := rl_IC r_int
theorem rl_divW : RlO cf (rI CDivW fun i j => .int (i / j)) oDivW := rl_IC r_int
def DivOk (i j : Int) : Prop := CDivN i j ∨ CDivW i j
abbrev oDivA := fIC DivOk fun i j => .int (i.fdiv j)
theorem op_divA : OpR X (binaryOp .FloorDiv) (rI DivOk fun i j => .int (i.fdiv j)) := fun pins s σ H x y v u Q I rx ry h => by
  obtain ⟨i, j, rfl, rfl, c, q⟩ := h
  rcases c with c | c
  · exact op_fdivN pins s σ H _ _ v u Q I rx ry ⟨i, j, rfl, rfl, c, q⟩
  · refine op_fdivW pins s σ H _ _ v u Q I rx ry ⟨i, j, rfl, rfl, c, ?_⟩
    show Q (.int (i / j)) H
    rw [← Int.fdiv_eq_ediv_of_nonneg _ (Int.le_of_lt c.1)]
    exact q
theorem rl_divA : RlO cf (rI DivOk fun i j => .int (i.fdiv j)) oDivA := rl_IC r_int
theorem rl_pow : RlO cf (rI CPow fun i j => .int (i ^ j.toNat)) oPow := rl_IC r_int
theorem rl_lt : RlO cf (rI0 fun i j => .bl (decide (i < j))) oLt := rl_I r_bl
theorem rl_le : RlO cf (rI0 fun i j => .bl (decide (i ≤ j))) oLe := rl_I r_bl
theorem rl_gt : RlO cf (rI0 fun i j => .bl (decide (j < i))) oGt := rl_I r_bl
theorem rl_ge : RlO cf (rI0 fun i j => .bl (decide (j ≤ i))) oGe := rl_I r_bl
end
end Al

/-! AL8: further rules. -/
namespace Al
open PySem PySem.Spec PyProof.Rows L2 Cr
section
variable {X : Cx} {cf : Cf} {W : WX}
theorem rl_ipadd : RlO cf (ipI fun i j => i + j) oAdd := fun M G H σ ρ x y dx dy Q P R rx ry q hf => rl_I (g := fun i j => .int (i + j)) r_int M G H σ ρ x y dx dy Q P R rx ry q hf
theorem rl_ipsub : RlO cf (ipI fun i j => i - j) oSub := fun M G H σ ρ x y dx dy Q P R rx ry q hf => rl_I (g := fun i j => .int (i - j)) r_int M G H σ ρ x y dx dy Q P R rx ry q hf
theorem rl_mulW : RlO cf (rI CMulW fun i j => .int (i * j)) oMulW := rl_IC r_int
def gStT (i : Nat) (is : List Nat) : AG := fun d ρ k => match d with
  | .tup _ => gSt i is d ρ k
  | _ => False
def gStL (i : Nat) (is : List Nat) : AG := fun d ρ k => match d with
  | .lst _ => gSt i is d ρ k
  | _ => False
/-- x == [], x != [] of a list of one's own, as a test -/
theorem t_empO {i : Nat} {neg : Bool} {e : Expr} (h : PT X e (fun σ H Q => tVar i σ H fun x H1 => 0 ≤ sizeLine ∧ ∀ p, H1 p = none → ∃ (a b : Addr) (xs : List V), x = .ref a ∧ V.ref p = .ref b ∧ SqL X.K (upd H1 p (.lst [])) a xs ∧ SqL X.K (upd H1 p (.lst [])) b [] ∧ ∃ k, V.bl (if neg then !xs.isEmpty else xs.isEmpty) = .bl k ∧ Q k (upd H1 p (.lst [])))) (hi : i ∈ cf.O) : Et X cf W e (aB (aEmpO i neg)) := PT.imp h fun σ H Q ⟨M, G, ρ, P, Xp, R, q, w, h⟩ => by
  obtain ⟨ds0, e0, h⟩ := withL_of h
  obtain ⟨b, vs0, w1, hb, r⟩ := R.listO hi e0
  refine ⟨_, w1, Nat.zero_le _, fun p np => ?_⟩
  obtain ⟨R2, s2, gp⟩ := R.new (o := .lst []) np
  have nb : b ≠ p := ne_of_none hb np
  rw [← isE r] at h
  exact ⟨b, p, vs0, rfl, rfl, ofL (by rw [upd_ne nb]; exact hb), ofL upd_same, _, rfl, q _ _ _ _ s2 R2 h⟩
/-- x, y = a, b -/
def sPar (i j : Nat) (a : AA) : AS := fun A ρ => a ρ (fun xs ρ1 => withV xs fun ds => match ds with
  | [x, y] => A.nx ((ρ1.set i (some x)).set j (some y))
  | _ => False) A.ex
theorem s_par {i j : Nat} {st : Stmt} {es : List Expr} {a : AA} (hi : i ∉ cf.O) (hj : j ∉ cf.O) (ha : Ea X cf W es a) (h : PA X es (γA cf W a) → PS X st (tPar i j (γA cf W a))) : Es X cf W st (sPar i j a) := PS.imp (h ha) fun Dn σ H ⟨M, G, ρ, A, R, q, h⟩ => by
  refine ⟨M, G, ρ, _, A.ex, R, fun xs ρ1 vs G1 H1 s1 R1 ra h1 => ?_, q.ex σ, h⟩
  obtain ⟨ds, e, h1⟩ := withV_of h1
  have r := vals_of ra e
  split at h1
  · cases r with
    | cons a1 a2 =>
      cases a2 with
      | cons a3 a4 =>
        cases a4
        exact ⟨_, _, rfl, q.nx _ _ G1 H1 s1 ((R1.set hi a1).set hj a3) h1⟩
  · exact h1.elim
theorem lenO_of {i : Nat} {o : Expr} {p pos : Pos} (ho : PE X o (tVar i)) (hg : Gl X "len") (hm : X.mg "len" = none) (he : starEach [o] X.env = [(false, eval o X.env)] := by rfl) (hpl : (backTo pos (starEach [] X.env)).any (·.1) = false := by rfl) :
    PE X (.Call (.Name "len" p) [o] [] pos) (fun σ H Q => tVar i σ H fun x H1 => ∃ p ys, x = .ref p ∧ (SqL X.K H1 p ys ∨ SqT X.K H1 p ys) ∧ Q (.int ys.length) H1) := PE.imp (pe_callB call_len_seq hg hm (by decide +kernel) (pa_cons ho pa_nil he) (by decide) (by decide) he hpl) fun σ H Q ⟨v, e, p, ys, ex, h, q⟩ => ⟨v, e, p, ys, by rw [ex], h, q⟩
theorem tupO_of {i : Nat} {o : Expr} {p pos : Pos} (ho : PE X o (tVar i)) (hg : Gl X "tuple") (hm : X.mg "tuple" = none) (he : starEach [o] X.env = [(false, eval o X.env)] := by rfl) (hpl : (backTo pos (starEach [] X.env)).any (·.1) = false := by rfl) :
    PE X (.Call (.Name "tuple" p) [o] [] pos) (fun σ H Q => tVar i σ H fun x H1 => ∃ p ys, x = .ref p ∧ ((SqL X.K H1 p ys ∧ ∀ l, H1 l = none → Q (.ref l) (upd H1 l (.tup ys))) ∨ (SqT X.K H1 p ys ∧ Q (.ref p) H1))) := PE.imp (pe_callTy call_tuple_of hg hm (by decide +kernel) (pa_cons ho pa_nil he) (by decide) (by decide) he hpl) fun σ H Q ⟨v, e, p, ys, ex, h⟩ => ⟨v, e, p, ys, by rw [ex], h⟩
/-- x.pop(i) -/
def aPopAt (i : Nat) (a : AE) : AE := fun ρ P X => withL ρ i fun _ => a ρ (fun k ρ1 => match k with
  | .int n => withL ρ1 i fun ds => (-(2 ^ 63) ≤ n ∧ n < 2 ^ 63) ∧ (match seqIndex? n ds.length with
    | some j => match ds[j]? with
      | some d => P d (ρ1.set i (some (.lst (ds.eraseIdx j))))
      | none => False
    | none => False)
  | _ => False) X
theorem Rps.erase {K : PySem.W.Frag} {cl : Tb} {G : Hp} : ∀ {vs : List V} {ds : List D} (n : Nat), Rps K cl G vs ds → Rps K cl G (vs.eraseIdx n) (ds.eraseIdx n)
  | _, _, n, .nil => .nil
  | _, _, 0, .cons a r => r
  | _, _, n + 1, .cons a r => .cons a (Rps.erase n r)
theorem e_popAt {i : Nat} {o e : Expr} {a : AE} {apos pos : Pos} (ho : PE X o (tVar i)) (hi : i ∈ cf.O) (he : Ee X cf W e a)
    (h : PE X o (tVar i) → PA X [e] (tCons (γE cf W a) tNil) → PE X (.Call (.Attribute o "pop" apos) [e] [] pos) (tBM X.K "list" rPopAt (tVar i) (tCons (γE cf W a) tNil))) (hs : starEach [e] X.env = [(false, eval e X.env)] := by rfl) :
    Ee X cf W (.Call (.Attribute o "pop" apos) [e] [] pos) (aPopAt i a) := PE.imp (h ho (pa_cons he pa_nil hs)) fun σ H Q ⟨M, G, ρ, P, Xp, R, q, w, h⟩ => by
  obtain ⟨ds0, e0, h⟩ := withL_of h
  obtain ⟨b, vs0, w1, hb, _⟩ := R.listO hi e0
  refine ⟨_, w1, .inl ⟨rfl, vs0, ofL hb⟩, M, G, ρ, _, Xp, R, fun d ρ1 v G1 H1 s1 R1 rd h1 => ?_, w, h⟩
  cases rd with
  | int n =>
    obtain ⟨ds, e1, hl, h1⟩ := withL_of h1
    obtain ⟨b', vs, w2, hb', r⟩ := R1.listO hi e1
    rw [w1] at w2
    cases w2
    cases e2 : seqIndex? n ds.length with
    | none => rw [e2] at h1; exact h1.elim
    | some j =>
      rw [e2] at h1
      simp only at h1
      cases e3 : ds[j]? with
      | none => rw [e3] at h1; exact h1.elim
      | some d =>
        rw [e3] at h1
        obtain ⟨y, e4, r4⟩ := r.getD e3
        exact ⟨b, vs, n, j, y, rfl, rfl, hb', hl.1, hl.2, by rw [r.len]; exact e2, e4, q _ _ _ G1 _ s1 (R1.chg hi e1 w1 (.lst upd_same (r.erase j))) r4 h1⟩
  | _ => exact h1.elim
theorem e_ext {i : Nat} {o e : Expr} {a : AE} {apos pos : Pos} (ho : PE X o (tVar i)) (hi : i ∈ cf.O) (he : Ee X cf W e a)
    (h : PE X o (tVar i) → PA X [e] (tCons (γE cf W a) tNil) → PE X (.Call (.Attribute o "extend" apos) [e] [] pos) (tBM X.K "list" rExtend (tVar i) (tCons (γE cf W a) tNil))) (hs : starEach [e] X.env = [(false, eval e X.env)] := by rfl) :
    Ee X cf W (.Call (.Attribute o "extend" apos) [e] [] pos) (aExt i a) := PE.imp (h ho (pa_cons he pa_nil hs)) fun σ H Q ⟨M, G, ρ, P, Xp, R, q, w, h⟩ => by
  obtain ⟨ds0, e0, h⟩ := withL_of h
  obtain ⟨b, vs0, w1, hb, _⟩ := R.listO hi e0
  refine ⟨_, w1, .inl ⟨rfl, vs0, ofL hb⟩, M, G, ρ, _, Xp, R, fun d ρ1 v G1 H1 s1 R1 rd h1 => ?_, w, h⟩
  cases rd with
  | lst hz rz =>
    obtain ⟨ds, e1, hl, h1⟩ := withL_of h1
    obtain ⟨b', vs, w2, hb', r⟩ := R1.listO hi e1
    rw [w1] at w2
    cases w2
    exact ⟨b, _, vs, _, rfl, rfl, hb', R1.same _ _ hz, by rw [r.len, rz.len]; exact hl, q _ _ _ G1 _ s1 (R1.chg hi e1 w1 (.lst upd_same (r.app rz))) .non h1⟩
  | _ => exact h1.elim
/-- xs + ys as a new thing of one's own -/
theorem f_cat {x y : Expr} {a b : AE} {pos : Pos} (ha : Ee X cf W x a) (hb : Ee X cf W y b) : Ef X cf W (.BinOp x .Add y pos) (aO oCatL a b) := PE.imp (pe_op op_cat ha hb) fun σ H Q ⟨M, G, ρ, P, Xp, R, q, w, h⟩ => by
  refine ⟨M, G, ρ, _, Xp, R, fun x ρ1 v G1 H1 s1 R1 rx h1 => ?_, w, h⟩
  refine ⟨M, G1, ρ1, _, Xp, R1, fun y ρ2 u G2 H2 s2 R2 ry h2 => ?_, w.up s1, h1⟩
  unfold oCatL at h2
  split at h2
  · cases rx with
    | lst hx r1 =>
      cases ry with
      | lst hy r2 =>
        refine ⟨_, _, _, _, rfl, rfl, R2.same _ _ (s2 _ _ hx), R2.same _ _ hy, by rw [r1.len, r2.len]; exact h2.1, fun p np => ?_⟩
        exact q _ ρ2 p _ G2 _ (s1.trans s2) (R2.mfree np) upd_same (R2.pin np) (.lst upd_same ((r1.up s2).app r2)) h2.2
  · exact h2.elim
/-- list(range(n)) -/
def aLr (a : AA) : AE := fun ρ P X => a ρ (fun xs ρ1 => withV xs fun ds => match ds with
  | [.int n] => (-(2 ^ 62) ≤ n ∧ n ≤ 16777216) ∧ P (.lst (rng 0 n.toNat)) ρ1
  | _ => False) X
theorem rgV_rng (n : Int) {K : PySem.W.Frag} {cl : Tb} {G : Hp} : Rps K cl G (rgV 0 n) (rng 0 n.toNat) := by
  have key : ∀ (m : Nat) (lo : Int), Rps K cl G ((List.range m).map fun i => V.int (lo + (i : Nat))) (rng lo m) := by
    intro m
    induction m with
    | zero => intro lo; exact .nil
    | succ m ih =>
      intro lo
      rw [List.range_succ_eq_map, List.map_cons, List.map_map]
      refine .cons (by rw [show lo + ((0 : Nat) : Int) = lo by omega]; exact .int _) ?_
      have := ih (lo + 1)
      rw [show ((fun i : Nat => V.int (lo + (i : Nat))) ∘ Nat.succ) = fun i : Nat => V.int (lo + 1 + (i : Nat)) from funext fun i => by simp only [Function.comp, V.int.injEq]; omega]
      exact this
  unfold rgV
  rw [show (n - 0).toNat = n.toNat by omega]
  exact key n.toNat 0
theorem f_listR {x : Expr} {a : AE} {p pos p2 pos2 : Pos} (hg : Gl X "list") (hm : X.mg "list" = none) (hgr : Gl X "range") (hmr : X.mg "range" = none) (hc : X.calm = true) (ha : Ee X cf W x a)
    (na : starEach [x] X.env = (false, eval x X.env) :: starEach [] X.env := by rfl) (na2 : starEach [.Call (.Name "range" p2) [x] [] pos2] X.env = (false, eval (.Call (.Name "range" p2) [x] [] pos2) X.env) :: starEach [] X.env := by rfl) :
    Ef X cf W (.Call (.Name "list" p) [.Call (.Name "range" p2) [x] [] pos2] [] pos) (aLr (aCons a aNil)) := PE.imp (pe_listRg hc hg hm (prg_1 hgr hmr ha na) na2) fun σ H Q ⟨M, G, ρ, P, Xp, R, q, w, h⟩ => by
  refine ⟨M, G, ρ, _, Xp, R, fun d ρ1 v G1 H1 s1 R1 rd h1 => ?_, w, h⟩
  cases rd with
  | int n =>
    have h1 : (-(2 ^ 62) ≤ n ∧ n ≤ 16777216) ∧ P (.lst (rng 0 n.toNat)) ρ1 := h1
    refine ⟨n, rfl, ⟨by decide, by decide, h1.1.1, by omega, by omega⟩, fun p np => ?_⟩
    exact q _ ρ1 p _ G1 _ s1 (R1.mfree np) upd_same (R1.pin np) (.lst upd_same (rgV_rng n)) h1.2
  | _ => exact h1.elim
/-! ### isinstance by the written types -/
theorem kit7 {K : PySem.W.Frag} {T : String} (hT : T ∈ ["int", "bool", "str", "tuple", "list", "dict"]) : ∀ n ∈ ["NoneType", "bool", "int", "str", "list", "tuple", "dict"], PySem.W.kitOne K (.type n) (.type T) = some (n == T || (n == "bool" && T == "int")) := by
  intro n hn
  simp only [List.mem_cons, List.not_mem_nil, or_false] at hn hT
  rcases hT with rfl | rfl | rfl | rfl | rfl | rfl <;> rcases hn with rfl | rfl | rfl | rfl | rfl | rfl | rfl <;> rfl
theorem is_int {K : PySem.W.Frag} {cl : Tb} : IsOk K cl (.type "int") (isT "int") := isT_ok (kit7 (by simp))
theorem is_bool {K : PySem.W.Frag} {cl : Tb} : IsOk K cl (.type "bool") (isT "bool") := isT_ok (kit7 (by simp))
theorem is_str {K : PySem.W.Frag} {cl : Tb} : IsOk K cl (.type "str") (isT "str") := isT_ok (kit7 (by simp))
theorem is_tuple {K : PySem.W.Frag} {cl : Tb} : IsOk K cl (.type "tuple") (isT "tuple") := isT_ok (kit7 (by simp))
theorem is_list {K : PySem.W.Frag} {cl : Tb} : IsOk K cl (.type "list") (isT "list") := isT_ok (kit7 (by simp))
theorem is_dict {K : PySem.W.Frag} {cl : Tb} : IsOk K cl (.type "dict") (isT "dict") := isT_ok (kit7 (by simp))
end
end Al

/-! AL9: keywords, defaults, dicts, repr, sorted. -/
namespace Al
open PySem PySem.Spec PyProof.Rows L2 Cr
section
variable {X : Cx} {cf cg : Cf} {W : WX}
/-! ### sorted -/
def intsD : List D → Option (List Int)
  | [] => some []
  | .int i :: r => match intsD r with
    | some ns => some (i :: ns)
    | none => none
  | _ :: _ => none
theorem ints_of {G : Hp} : ∀ {vs : List V} {ds : List D} {ns : List Int}, Rps cf.K cf.cl G vs ds → intsD ds = some ns → vs = ns.map V.int
  | _, _, _, .nil, h => by cases h; rfl
  | _, _, _, .cons (ds := ds) a r, h => by
    cases a with
    | int b =>
      simp only [intsD] at h
      cases e : intsD ds with
      | none => rw [e] at h; cases h
      | some bs => rw [e] at h; cases h; rw [ints_of r e]; rfl
    | _ => cases h
theorem intsD_map (ns : List Int) : intsD (ns.map D.int) = some ns := by
  induction ns with
  | nil => rfl
  | cons n r ih => simp [intsD, ih]
/-- sorted(xs), whole numbers -/
def srtI (ns : List Int) : List Int := ns.mergeSort (fun a b => decide (a ≤ b))
theorem srtI_of {ns ms : List Int} (h1 : ms.Perm ns) (h2 : ms.Pairwise (· ≤ ·)) : ms = srtI ns := by
  have p : (srtI ns).Perm ns := List.mergeSort_perm _ _
  have s : (srtI ns).Pairwise (fun a b => decide (a ≤ b) = true) := List.pairwise_mergeSort (fun a b c h1 h2 => by simp at *; omega) (fun a b => by simp; omega) ns
  exact List.Perm.eq_of_pairwise (le := fun a b => decide (a ≤ b) = true) (fun a b _ _ h1 h2 => by simp at *; omega) (h2.imp fun h => by simpa using h) s (h1.trans p.symm)
def rSortA (K : PySem.W.Frag) : List V → Hp → VK → Prop := fun vs H Q => rSortedI K vs H Q ∨ ∃ (a : Addr) (ns : List Int), vs = [V.ref a] ∧ SqT K H a (ns.map V.int) ∧
  ∀ (ns' : List Int) (p : Addr), ns'.Perm ns → ns'.Pairwise (· ≤ ·) → H p = none → Q (.ref p) (upd H p (.lst (ns'.map V.int)))
theorem cr_sortedA : CallR X (.builtin "sorted") (rSortA X.K) := cr_sortedI.or cr_sortedT
def fSorted : List D → (D → Prop) → Prop := fun ds P => match ds with
  | [.lst es] => match intsD es with
    | some ns => P (.lst ((srtI ns).map D.int))
    | none => False
  | [.tup es] => match intsD es with
    | some ns => P (.lst ((srtI ns).map D.int))
    | none => False
  | _ => False
theorem rl_sorted (hK : X.K = cf.K := by rfl) : RlC cf (rSortA X.K) fSorted := fun M G H σ ρ xs ds Q P R rx q hf => by
  rw [hK]
  unfold fSorted at hf
  split at hf
  · next es =>
    cases rx with
    | cons a r =>
      cases r
      cases a with
      | lst h1 r1 =>
        cases e : intsD es with
        | none => rw [e] at hf; exact hf.elim
        | some ns =>
          rw [e] at hf
          have := ints_of r1 e
          subst this
          refine .inl ⟨_, ns, rfl, sqL_up R.same h1, fun ms p pm pw np => ?_⟩
          obtain ⟨R2, s2, gp⟩ := R.new (o := .lst (ms.map V.int)) np
          have hf : P (.lst ((srtI ns).map D.int)) := hf
          rw [← srtI_of pm pw] at hf
          exact q _ _ _ _ s2 R2 (.lst gp (Rps.ints ms)) hf
  · next es =>
    cases rx with
    | cons a r =>
      cases r
      cases a with
      | tup h1 r1 =>
        cases e : intsD es with
        | none => rw [e] at hf; exact hf.elim
        | some ns =>
          rw [e] at hf
          have := ints_of r1 e
          subst this
          refine .inr ⟨_, ns, rfl, Cr.Same.sqT R.same h1, fun ms p pm pw np => ?_⟩
          obtain ⟨R2, s2, gp⟩ := R.new (o := .lst (ms.map V.int)) np
          have hf : P (.lst ((srtI ns).map D.int)) := hf
          rw [← srtI_of pm pw] at hf
          exact q _ _ _ _ s2 R2 (.lst gp (Rps.ints ms)) hf
  · exact hf.elim
def fSum : List D → (D → Prop) → Prop := fun ds P => match ds with
  | [.lst es] => match intsD es with
    | some ns => P (.int ns.sum)
    | none => False
  | _ => False
theorem rl_sum (hK : X.K = cf.K := by rfl) : RlC cf (rSum X.K) fSum := fun M G H σ ρ xs ds Q P R rx q hf => by
  rw [hK]
  unfold fSum at hf
  split at hf
  · next es =>
    cases rx with
    | cons a r =>
      cases r
      cases a with
      | lst h1 r1 =>
        cases e : intsD es with
        | none => rw [e] at hf; exact hf.elim
        | some ns =>
          rw [e] at hf
          have := ints_of r1 e
          subst this
          exact ⟨_, ns, rfl, sqL_up R.same h1, q _ _ G H (Same.refl _) R (.int _) hf⟩
  · exact hf.elim
/-! ### repr of data -/
def fRepr : List D → (D → Prop) → Prop := fun ds P => match ds with
  | [d] => match pyD d with
    | some p => (p.showable = true ∧ p.depth ≤ 64 ∧ p.shown.length ≤ sizeLine) ∧ P (.str p.shown)
    | none => False
  | _ => False
theorem rl_repr (hK : X.K = cf.K := by rfl) : RlC cf (fun xs H Q => ∃ (v : V) (d : PyData), xs = [v] ∧ Th X.K H v d ∧ d.showable = true ∧ d.depth ≤ 64 ∧ d.shown.length ≤ sizeLine ∧ Q (.str d.shown) H) fRepr := fun M G H σ ρ xs ds Q P R rx q hf => by
  rw [hK]
  unfold fRepr at hf
  split at hf
  · next d =>
    cases rx with
    | cons a r =>
      cases r
      cases e : pyD d with
      | none => rw [e] at hf; exact hf.elim
      | some p =>
        rw [e] at hf
        exact ⟨_, p, rfl, .dp (Al.Dp.up R.same (py_of a e)), hf.1.1, hf.1.2.1, hf.1.2.2, q _ _ G H (Same.refl _) R (.str _) hf.2⟩
  · exact hf.elim
theorem call_reprW (hg : X.A.guards = some [] ∧ X.A.units + 66 < cLine) : CallR X (.builtin "repr") (fun xs H Q => ∃ (v : V) (d : PyData), xs = [v] ∧ Th X.K H v d ∧ d.showable = true ∧ d.depth ≤ 64 ∧ d.shown.length ≤ sizeLine ∧ Q (.str d.shown) H) := call_reprA hg.1 hg.2
/-! ### dicts -/
def keyD : D → Option Key
  | .int i => some (.inl i)
  | .str z => some (.inr z)
  | _ => none
theorem key_of {G : Hp} {v : V} {d : D} {k : Key} (r : Rp cf.K cf.cl G v d) (h : keyD d = some k) : v = kV k := by
  cases r <;> cases h <;> rfl
def valD (kvs : List (Key × D)) (k : Key) : Option D := match kvs with
  | [] => none
  | (j, d) :: r => if j = k then some d else valD r k
theorem val_of {K : PySem.W.Frag} {cl : Tb} {G : Hp} : ∀ {vs : List (Key × V)} {ds : List (Key × D)} {k : Key}, Rks K cl G vs ds → (∀ d, valD ds k = some d → ∃ v, valV vs k = some v ∧ Rp K cl G v d) ∧ (valD ds k = none → valV vs k = none)
  | _, _, k, .nil => ⟨fun d h => (by cases h), fun _ => rfl⟩
  | _, _, k, .cons (f := j) a r => by
    have ih := val_of (k := k) r
    simp only [valD]
    by_cases c : j = k
    · rw [if_pos c, valV_pos c]
      exact ⟨fun d h => (by cases h; exact ⟨_, rfl, a⟩), fun h => (by cases h)⟩
    · rw [if_neg c, valV_neg c]
      exact ih
def oDget : D → D → (D → Prop) → Prop := fun x y P => match x, keyD y with
  | .dic kvs, some k => match valD kvs k with
    | some d => P d
    | none => False
  | _, _ => False
theorem e_dget {x y : Expr} {a b : AE} {pos : Pos} (hu : X.A.units + 1 < cLine) (ha : Ee X cf W x a) (hb : Ee X cf W y b) (hs : NoSl y := by exact fun _ _ => rfl) : Ee X cf W (.Subscript x y pos) (aO oDget a b) := PE.imp (pe_dget hu ha hb hs) fun σ H Q ⟨M, G, ρ, P, Xp, R, q, w, h⟩ => by
  refine ⟨M, G, ρ, _, Xp, R, fun x ρ1 v G1 H1 s1 R1 rx h1 => ?_, w, h⟩
  refine ⟨M, G1, ρ1, _, Xp, R1, fun y ρ2 u G2 H2 s2 R2 ry h2 => ?_, w.up s1, h1⟩
  unfold oDget at h2
  split at h2
  · next kvs k ek =>
    cases rx with
    | @dic a vs _ h3 r3 =>
      cases e : valD kvs k with
      | none => rw [e] at h2; exact h2.elim
      | some d =>
        rw [e] at h2
        obtain ⟨z, e1, r1⟩ := (val_of r3).1 d e
        exact ⟨a, z, rfl, .inl ⟨vs, k, Cr.Same.lst (s2.trans R2.same) h3, key_of ry ek, e1.symm⟩, q d ρ2 z G2 H2 (s1.trans s2) R2 (r1.up s2) h2⟩
  · exact h2.elim
def oInD (neg : Bool) : D → D → (D → Prop) → Prop := fun x y P => match y, keyD x with
  | .dic kvs, some k => P (.bl (if neg then !(valD kvs k).isSome else (valD kvs k).isSome))
  | _, _ => False
theorem in_ok {a b : AE} : ∀ σ H Q, γE cf W (aO (oInD false) a b) σ H Q → tDIn (γE cf W a) (γE cf W b) σ H Q := by
  rintro σ H Q ⟨M, G, ρ, P, Xp, R, q, w, h⟩
  refine ⟨M, G, ρ, _, Xp, R, fun x ρ1 v G1 H1 s1 R1 rx h1 => ?_, w, h⟩
  refine ⟨M, G1, ρ1, _, Xp, R1, fun y ρ2 u G2 H2 s2 R2 ry h2 => ?_, w.up s1, h1⟩
  unfold oInD at h2
  split at h2
  · next kvs k ek =>
    cases ry with
    | @dic a vs _ h3 r3 =>
      refine ⟨a, valV vs k, rfl, .inl ⟨vs, k, Cr.Same.lst R2.same h3, key_of rx ek, rfl⟩, ?_⟩
      have e : (valV vs k).isSome = (valD kvs k).isSome := by
        cases e : valD kvs k with
        | none => rw [(val_of r3).2 e]; rfl
        | some d => obtain ⟨z, e1, _⟩ := (val_of r3).1 d e; rw [e1]; rfl
      rw [e]
      exact q _ ρ2 _ G2 H2 (s1.trans s2) R2 (.bl _) h2
  · exact h2.elim
theorem nin_ok {a b : AE} : ∀ σ H Q, γE cf W (aO (oInD true) a b) σ H Q → tDNotIn (γE cf W a) (γE cf W b) σ H Q := by
  rintro σ H Q ⟨M, G, ρ, P, Xp, R, q, w, h⟩
  refine ⟨M, G, ρ, _, Xp, R, fun x ρ1 v G1 H1 s1 R1 rx h1 => ?_, w, h⟩
  refine ⟨M, G1, ρ1, _, Xp, R1, fun y ρ2 u G2 H2 s2 R2 ry h2 => ?_, w.up s1, h1⟩
  unfold oInD at h2
  split at h2
  · next kvs k ek =>
    cases ry with
    | @dic a vs _ h3 r3 =>
      refine ⟨a, valV vs k, rfl, .inl ⟨vs, k, Cr.Same.lst R2.same h3, key_of rx ek, rfl⟩, ?_⟩
      have e : (valV vs k).isSome = (valD kvs k).isSome := by
        cases e : valD kvs k with
        | none => rw [(val_of r3).2 e]; rfl
        | some d => obtain ⟨z, e1, _⟩ := (val_of r3).1 d e; rw [e1]; rfl
      rw [e]
      exact q _ ρ2 _ G2 H2 (s1.trans s2) R2 (.bl _) h2
  · exact h2.elim
theorem e_din {x y : Expr} {a b : AE} {pos : Pos} (hu : X.A.units + 1 < cLine) (ha : Ee X cf W x a) (hb : Ee X cf W y b) (hm : behindInMarks .In y = false := by rfl) : Ee X cf W (.Compare x [.In] [y] pos) (aO (oInD false) a b) := PE.imp (pe_cmp (pc_din hu ha hb) hm) in_ok
theorem e_dnin {x y : Expr} {a b : AE} {pos : Pos} (hu : X.A.units + 1 < cLine) (ha : Ee X cf W x a) (hb : Ee X cf W y b) (hm : behindInMarks .NotIn y = false := by rfl) : Ee X cf W (.Compare x [.NotIn] [y] pos) (aO (oInD true) a b) := PE.imp (pe_cmp (pc_dnotin hu ha hb) hm) nin_ok
theorem t_din {x y : Expr} {a b : AE} {pos : Pos} (hu : X.A.units + 1 < cLine) (ha : Ee X cf W x a) (hb : Ee X cf W y b) (hm : behindInMarks .In y = false := by rfl) : Et X cf W (.Compare x [.In] [y] pos) (aB (aO (oInD false) a b)) := PT.imp (pt_cmp (pc_din hu ha hb) hm) fun σ H Q h => in_ok σ H _ (toB σ H Q h)
theorem t_dnin {x y : Expr} {a b : AE} {pos : Pos} (hu : X.A.units + 1 < cLine) (ha : Ee X cf W x a) (hb : Ee X cf W y b) (hm : behindInMarks .NotIn y = false := by rfl) : Et X cf W (.Compare x [.NotIn] [y] pos) (aB (aO (oInD true) a b)) := PT.imp (pt_cmp (pc_dnotin hu ha hb) hm) fun σ H Q h => nin_ok σ H _ (toB σ H Q h)
/-- {k: e, ..}, the keys written and apart -/
def dGo : List (Key × AE) → Ev → (List (Key × D) → Ev → Prop) → XP → Prop
  | [], ρ, P, _ => P [] ρ
  | (k, a) :: r, ρ, P, X => a ρ (fun d ρ1 => dGo r ρ1 (fun kvs ρ2 => P ((k, d) :: kvs) ρ2) X) X
def aDisp (kas : List (Key × AE)) : AE := fun ρ P X => dGo kas ρ (fun kvs ρ1 => P (.dic kvs) ρ1) X
theorem putK_new {κ : Type} [DecidableEq κ] {kvs : List (κ × V)} {k : κ} {v : V} (h : k ∉ kvs.map (·.1)) : putK kvs k v = kvs ++ [(k, v)] := by
  unfold putK
  rw [if_neg]
  intro c
  rw [List.any_eq_true] at c
  obtain ⟨p, hp, e⟩ := c
  exact h (List.mem_map.mpr ⟨p, hp, by simpa using e⟩)
theorem merge_nd : ∀ (more kvs : List (Key × V)), ((kvs ++ more).map (·.1)).Nodup → mergeK kvs more = kvs ++ more
  | [], kvs, _ => by simp [mergeK]
  | (k, v) :: r, kvs, h => by
    have hk : k ∉ kvs.map (·.1) := by
      rw [List.map_append, List.nodup_append] at h
      intro hm
      exact h.2.2 k hm k (by simp) rfl
    have := merge_nd r (kvs ++ [(k, v)]) (by simpa using h)
    unfold mergeK at this ⊢
    rw [List.foldl_cons, putK_new hk, this]
    simp
theorem dis_ok {M : Fx} {σ : L2.St} {Xp : XP} : ∀ (kas : List (Key × AE)) (G H : Hp) (ρ : Ev) (P : List (Key × D) → Ev → Prop) (Q : List (V × V) → Hp → Prop), Rs cf M G H σ ρ → (∀ kvs vs ρ' G' H', Same G G' → Rs cf M G' H' σ ρ' → vs.map (·.1) = kas.map (·.1) → Rks cf.K cf.cl G' vs kvs → P kvs ρ' → Q (vs.map fun kv => (kV kv.1, kv.2)) H') → XW cf W M G σ Xp → dGo kas ρ P Xp → tPairs (kas.map fun ka => (tC (kV ka.1), γE cf W ka.2)) σ H Q
  | [], G, H, ρ, P, Q, R, q, w, h => q [] [] ρ G H (Same.refl _) R rfl .nil h
  | (k, a) :: r, G, H, ρ, P, Q, R, q, w, h => by
    refine ⟨M, G, ρ, _, Xp, R, fun d ρ1 v G1 H1 s1 R1 rd h1 => ?_, w, h⟩
    exact dis_ok r G1 H1 ρ1 _ _ R1 (fun kvs vs ρ' G' H' s2 R2 ek rk p => q ((k, d) :: kvs) ((k, v) :: vs) ρ' G' H' (s1.trans s2) R2 (by simp [ek]) (.cons (rd.up s2) rk) p) (w.up s1) h1
theorem f_disp {keys : List (Option Expr)} {values : List Expr} {kas : List (Key × AE)} {pos : Pos} (h : PPs X pos keys values (kas.map fun ka => (tC (kV ka.1), γE cf W ka.2))) (hn : (kas.map (·.1)).Nodup) (hall : keys.all (·.isSome) = true := by rfl) (hl : keys.length = values.length := by rfl) (h0 : keys ≠ [] := by exact fun z => by cases z) (h15 : keys.length ≤ 15 := by decide) (hk : kas.length ≤ 15 := by decide) : Ef X cf W (.Dict keys values pos) (aDisp kas) := PE.imp (pe_disp h hall hl h0 h15) fun σ H Q ⟨M, G, ρ, P, Xp, R, q, w, h⟩ p np => by
  have mp := R.mfree np
  refine dis_ok (M := M.up p (.dK [])) kas G _ ρ _ _ (R.pin np) (fun kvs vs ρ' G' H' s1 R1 ek rk hp => ?_) (fun x cls dx G' H' s1 s2 hm xr hx => w x cls dx G' H' s1 s2 (fun b o e => hm b o (by rw [Fx.up_ne (fun c => by rw [c, mp] at e; cases e)]; exact e)) xr hx) h
  have hlen : vs.length = kas.length := by
    have := congrArg List.length ek
    simpa using this
  refine ⟨(R1.mem p _ Fx.up_same).1, vs, rfl, by rw [hlen]; exact hk, ?_⟩
  have em : mergeK [] vs = vs := by
    have := merge_nd vs [] (by rw [List.nil_append, ek]; exact hn)
    simpa using this
  rw [em]
  exact q _ ρ' p _ G' _ s1 mp upd_same R1.repin (.dic upd_same rk) hp
/-! ### keywords and defaults -/
theorem PK.imp {kws : List Keyword} {t t' : TA} (h : PK X kws t) (i : ∀ σ H Q, t' σ H Q → t σ H Q) : PK X kws t' := ⟨fun pos pins s σ H Q I q => h.run pos pins s σ H Q I (i σ H Q q)⟩
abbrev Ek (X : Cx) (cf : Cf) (W : WX) (kws : List Keyword) (a : AA) : Prop := PK X kws (γA cf W a)
theorem k_nil : Ek X cf W [] aNil := PK.imp pk_nil fun σ H Q ⟨M, G, ρ, P, Xp, R, q, _, a⟩ => q [] ρ [] G H (Same.refl _) R .nil a
theorem k_cons {nm : Option Str} {e : Expr} {kpos : Pos} {kws : List Keyword} {a : AE} {r : AA} (ha : Ee X cf W e a) (hr : Ek X cf W kws r) : Ek X cf W (⟨nm, e, kpos⟩ :: kws) (aCons a r) := PK.imp (pk_cons ha hr) fun σ H Q ⟨M, G, ρ, P, Xp, R, q, w, h⟩ => by
  refine ⟨M, G, ρ, _, Xp, R, fun d ρ1 v G1 H1 s1 R1 rd h1 => ?_, w, h⟩
  refine ⟨M, G1, ρ1, _, Xp, R1, fun ds ρ2 vs G2 H2 s2 R2 rds h2 => ?_, w.up s1, h1⟩
  exact q _ ρ2 _ G2 H2 (s1.trans s2) R2 (.val (rd.up s2) rds) h2
/-- a call that lets out nothing, by keywords: gD puts the values in the parameters' order -/
def aCallK (n m : Nat) (F : AF0) (gD : List D → List D → List D) (a k : AA) : AE := fun ρ P X => a ρ (fun xs ρ1 => withV xs fun ds => k ρ1 (fun ys ρ2 => withV ys fun es => match Nat.beq ds.length n && Nat.beq es.length m with
  | true => F (gD ds es) (fun d => P d ρ2) X
  | false => False) X) X
def GOk (gV : List V → List V → List V) (gD : List D → List D → List D) : Prop := ∀ (K : PySem.W.Frag) (cl : Tb) (G : Hp) (vs zs : List V) (ds es : List D), Rps K cl G vs ds → Rps K cl G zs es → Rps K cl G (gV vs zs) (gD ds es)
theorem E0_lift {F : AF0} {vs : List V} {H : Hp} {Q : VK} (hN : ∀ ds P X X', F ds P X → F ds P X') {E : XK} (h : Lift cg (af0 F) vs H Q E) : Lift cg (af0 F) vs H Q E0 := by
  obtain ⟨m, G, ds, P, Xp, R, hf, q, _⟩ := h
  exact ⟨m, G, ds, P, NX, R, hN _ _ _ _ hf, q, fun _ _ _ _ _ _ _ _ _ z => z.elim⟩
/-- a def runs, by keywords; by defaults -/
def RunK (X : Cx) (f : Addr) (n : Nat) (ks : List Str) (gV : List V → List V → List V) (sp : Sp) : Prop := ∀ (pins : List (Addr × Obj)) (σ : L2.St) (H : Hp) (s : Shared) (Q : VK) (us ws : List Value) (vs zs : List V), Inv X pins σ H s → Vals vs us → Vals zs ws → vs.length = n → zs.length = ks.length → sp (gV vs zs) H Q E0 → wpAny (model X.prog X.w) X.A (call (.ref f) us (ks.zip ws)) (EP X pins σ Q) X.xe s
theorem runK {f : Addr} {fd : FuncData} {lv n : Nat} {ps ks : List Str} {sp : Sp} {g : List Value → List Value → List Value} {gV : List V → List V → List V} (Fn : FnOk X.prog X.w X.K X.mg X.base CX0 lv f fd ps sp) (hr : Room lv X.A) (hb : KBn X.K fd ps n ks g gV) : RunK X f n ks gV sp := fun pins σ H s Q us ws vs zs I r rz l1 l2 q => run_fnN Fn hr hb pass0 I r rz l1 l2 q
def tRunK (n m : Nat) (sp : Sp) (gV : List V → List V → List V) (t tk : TA) : TE := fun σ H Q => t σ H fun vs H1 => tk σ H1 fun zs H2 => vs.length = n ∧ zs.length = m ∧ sp (gV vs zs) H2 Q E0
theorem e_callK {f : Addr} {x : Str} {e : Expr} {es : List Expr} {kws : List Keyword} {p pos : Pos} {F : AF0} {a k : AA} {n m np : Nat} {ks : List Str} {gV : List V → List V → List V} {gD : List D → List D → List D} (Rn : RunK X f n ks gV (Lift cg (af0 F))) (hN : ∀ ds P X X', F ds P X → F ds P X') (hlen : ∀ ds P X, F ds P X → ds.length = np) (hp : ∀ i ∈ cg.O, np ≤ i) (hg : Gl X x) (hm : X.mg x = some (.ref f)) (hk : PySem.W.keepIn X.K (.ref f) = true)
    (gok : GOk gV gD) (ha : Ea X cf W (e :: es) a) (hkw : Ek X cf W kws k) (hK : cg.K = cf.K := by rfl) (hc : cg.cl = cf.cl := by rfl)
    (hl : ks.length = m := by rfl) (hall : (backToKw pos (keywordEach kws X.env)).all (·.1.isSome) = true := by rfl) (hks : (backToKw pos (keywordEach kws X.env)).filterMap (·.1) = ks := by rfl)
    (hdb : (x == ("__debug__" : Str)) = false := by decide) (he : starEach (e :: es) X.env = (false, eval e X.env) :: starEach es X.env := by rfl)
    (hpl : ((backTo pos (starEach (e :: es) X.env)).any (·.1) || (backToKw pos (keywordEach kws X.env)).any (·.1.isNone)) = false := by rfl) :
    Ee X cf W (.Call (.Name x p) (e :: es) kws pos) (aCallK n m F gD a k) := by
  subst hl
  have pe : PE X (.Call (.Name x p) (e :: es) kws pos) (tRunK n ks.length (Lift cg (af0 F)) gV (γA cf W a) (γA cf W k)) := by
    refine ⟨fun pins s σ H Q I h => ?_⟩
    refine wpAny_Call_Name_kw (ld_glob I hg hm ?_ hdb)
    refine PySem.W.callWith_KW (h₀ := X.base) I.ok.mod.kin hk hall (thn (ha.run pos pins s σ H _ I h) fun us s1 ⟨vs, H1, I1, r, q⟩ => ?_) hpl he
    refine thn (hkw.run pos pins s1 σ H1 _ I1 q) fun ws s2 ⟨zs, H2, I2, rz, l1, l2, q2⟩ => ⟨I2.kIn, ?_⟩
    rw [hks]
    exact Rn pins σ H2 s2 Q us ws vs zs I2 r rz l1 l2 q2
  refine PE.imp pe fun σ H Q ⟨M, G, ρ, P, Xp, R, q, w, h⟩ => ?_
  refine ⟨M, G, ρ, _, Xp, R, fun xs ρ1 vs G1 H1 s1 R1 ra h1 => ?_, w, h⟩
  obtain ⟨ds, e, h1⟩ := withV_of h1
  refine ⟨M, G1, ρ1, _, Xp, R1, fun ys ρ2 zs G2 H2 s2 R2 rb h2 => ?_, w.up s1, h1⟩
  obtain ⟨es', e', h2⟩ := withV_of h2
  have r1 := (vals_of ra e).up s2
  have r2 := vals_of rb e'
  split at h2
  · next hb =>
    rw [Bool.and_eq_true] at hb
    refine ⟨r1.len.trans (Nat.eq_of_beq_eq_true hb.1), r2.len.trans (Nat.eq_of_beq_eq_true hb.2), ?_⟩
    exact E0_lift hN (lift0 (cf := cf) (W := W) hlen hp hK hc R2 (gok _ _ _ _ _ _ _ r1 r2) (q.up (s1.trans s2)) (w.up (s1.trans s2)) h2)
  · exact h2.elim
theorem e_callK0 {f : Addr} {x : Str} {kws : List Keyword} {p pos : Pos} {F : AF0} {k : AA} {m np : Nat} {ks : List Str} {gV : List V → List V → List V} {gD : List D → List D → List D} (Rn : RunK X f 0 ks gV (Lift cg (af0 F))) (hN : ∀ ds P X X', F ds P X → F ds P X') (hlen : ∀ ds P X, F ds P X → ds.length = np) (hp : ∀ i ∈ cg.O, np ≤ i) (hg : Gl X x) (hm : X.mg x = some (.ref f)) (hk : PySem.W.keepIn X.K (.ref f) = true)
    (gok : GOk gV gD) (hkw : Ek X cf W kws k) (hK : cg.K = cf.K := by rfl) (hc : cg.cl = cf.cl := by rfl)
    (hl : ks.length = m := by rfl) (hall : (backToKw pos (keywordEach kws X.env)).all (·.1.isSome) = true := by rfl) (hks : (backToKw pos (keywordEach kws X.env)).filterMap (·.1) = ks := by rfl)
    (hdb : (x == ("__debug__" : Str)) = false := by decide)
    (hpl : ((backTo pos (starEach [] X.env)).any (·.1) || (backToKw pos (keywordEach kws X.env)).any (·.1.isNone)) = false := by rfl) :
    Ee X cf W (.Call (.Name x p) [] kws pos) (aCallK 0 m F gD aNil k) := by
  subst hl
  have pe : PE X (.Call (.Name x p) [] kws pos) (fun σ H Q => γA cf W k σ H fun zs H2 => zs.length = ks.length ∧ Lift cg (af0 F) (gV [] zs) H2 Q E0) := by
    refine ⟨fun pins s σ H Q I h => ?_⟩
    refine wpAny_Call_Name_kw (ld_glob I hg hm ?_ hdb)
    refine PySem.W.callWith_KW0 (h₀ := X.base) I.ok.mod.kin hk hall ?_ hpl
    refine thn (hkw.run pos pins s σ H _ I h) fun ws s2 ⟨zs, H2, I2, rz, l2, q2⟩ => ⟨I2.kIn, ?_⟩
    rw [hks]
    exact Rn pins σ H2 s2 Q [] ws [] zs I2 .nil rz rfl l2 q2
  refine PE.imp pe fun σ H Q ⟨M, G, ρ, P, Xp, R, q, w, h⟩ => ?_
  refine ⟨M, G, ρ, _, Xp, R, fun ys ρ2 zs G2 H2 s2 R2 rb h2 => ?_, w, h⟩
  obtain ⟨es', e', h2⟩ := withV_of h2
  have r2 := vals_of rb e'
  split at h2
  · next hb =>
    rw [Bool.and_eq_true] at hb
    refine ⟨r2.len.trans (Nat.eq_of_beq_eq_true hb.2), ?_⟩
    exact E0_lift hN (lift0 (cf := cf) (W := W) hlen hp hK hc R2 (gok _ _ _ _ _ _ _ .nil r2) (q.up s2) (w.up s2) h2)
  · exact h2.elim
/-- f(e, ..), what lacks by defaults -/
def aCallD (dd : List D) (F : AF0) (a : AA) : AE := fun ρ P X => a ρ (fun xs ρ1 => withV xs fun ds => F (ds ++ dd) (fun d => P d ρ1) X) X
def RunD (X : Cx) (f : Addr) (dvs : List V) (sp : Sp) : Prop := ∀ (pins : List (Addr × Obj)) (σ : L2.St) (H : Hp) (s : Shared) (Q : VK) (us : List Value) (vs : List V), Inv X pins σ H s → Vals vs us → sp (vs ++ dvs) H Q E0 → wpAny (model X.prog X.w) X.A (call (.ref f) us) (EP X pins σ Q) X.xe s
theorem runD {f : Addr} {fd : FuncData} {lv : Nat} {ps : List Str} {sp : Sp} {dvs : List V} {dus : List Value} (Fn : FnOk X.prog X.w X.K X.mg X.base CX0 lv f fd ps sp) (hr : Room lv X.A) (hb : Binds X.K fd ps dus) (hd : Vals dvs dus) : RunD X f dvs sp := fun pins σ H s Q us vs I r q => run_fn Fn hr hb hd pass0 I r q
theorem e_callD {f : Addr} {x : Str} {e : Expr} {es : List Expr} {p pos : Pos} {F : AF0} {a : AA} {np : Nat} {dvs : List V} {dd : List D} (Rn : RunD X f dvs (Lift cg (af0 F))) (hN : ∀ ds P X X', F ds P X → F ds P X') (hlen : ∀ ds P X, F ds P X → ds.length = np) (hp : ∀ i ∈ cg.O, np ≤ i) (hg : Gl X x) (hm : X.mg x = some (.ref f)) (hk : PySem.W.keepIn X.K (.ref f) = true)
    (rd : ∀ G, Rps cf.K cf.cl G dvs dd) (ha : Ea X cf W (e :: es) a) (hK : cg.K = cf.K := by rfl) (hc : cg.cl = cf.cl := by rfl)
    (hdb : (x == ("__debug__" : Str)) = false := by decide) (he : starEach (e :: es) X.env = (false, eval e X.env) :: starEach es X.env := by rfl) (hpl : (backTo pos (starEach es X.env)).any (·.1) = false := by rfl) :
    Ee X cf W (.Call (.Name x p) (e :: es) [] pos) (aCallD dd F a) := by
  have pe : PE X (.Call (.Name x p) (e :: es) [] pos) (fun σ H Q => γA cf W a σ H fun vs H1 => Lift cg (af0 F) (vs ++ dvs) H1 Q E0) := by
    refine ⟨fun pins s σ H Q I h => ?_⟩
    refine wpAny_Call_Name_kw (ld_glob I hg hm ?_ hdb)
    refine PySem.W.callWith_K (h₀ := X.base) I.ok.mod.kin hk (thn (ha.run pos pins s σ H _ I h) fun us s1 ⟨vs, H1, I1, r, q⟩ => ⟨I1.kIn, ?_⟩) he hpl
    exact Rn pins σ H1 s1 Q us vs I1 r q
  refine PE.imp pe fun σ H Q ⟨M, G, ρ, P, Xp, R, q, w, h⟩ => ?_
  refine ⟨M, G, ρ, _, Xp, R, fun xs ρ1 vs G1 H1 s1 R1 ra h1 => ?_, w, h⟩
  obtain ⟨ds, e, h1⟩ := withV_of h1
  exact E0_lift hN (lift0 (cf := cf) (W := W) hlen hp hK hc R1 ((vals_of ra e).app (rd G1)) (q.up s1) (w.up s1) h1)
/-! ### dicts of the module: in -/
def oInK (neg : Bool) (ks : List Str) : D → D → (D → Prop) → Prop := fun x _ P => match x with
  | .str z => P (.bl (if neg then !ks.contains z else ks.contains z))
  | _ => False
end
end Al

/-! CrK: what stands at the module's top: tuples of texts, dicts by texts, defs with keyword-only parameters. -/
namespace Al
open PySem PySem.Spec PyProof.Rows L2 Cr
/-- a tuple of texts -/
structure TupG (K : PySem.W.Frag) (mg : Str → Option Value) (x : Str) (zs : List Str) where
  a : Addr
  mg : mg x = some (.ref a)
  sq : ∀ H, SqT K H a (zs.map V.str)
theorem TupG.rp {K : PySem.W.Frag} {mg : Str → Option Value} {x : Str} {zs : List Str} (g : TupG K mg x zs) {cl : Tb} {G : Hp} : Rp K cl G (.ref g.a) (.tup (zs.map D.str)) := .tup (g.sq G) (Rps.strs zs)
theorem sqT_mk {K : PySem.W.Frag} {a : Addr} {o : Obj} {its : Array Value} {n : Nat} {zs : List Str} (l : K.lookup a = some o) (hc : o.cls = .type "tuple") (hd : o.data = .seq its n) (hv : Vals (zs.map V.str) its.toList) (hz : zs.length ≤ sizeLine) (H : Hp) : SqT K H a (zs.map V.str) :=
  .inr ⟨o, its, n, l, hc, hd, by have := hv.length; simp at this; omega, hv⟩
/-- a dict by texts -/
inductive KeysAre : List DictEntry → List Str → Prop
  | nil : KeysAre [] []
  | cons {e : DictEntry} {k : Str} {t : Tok} {es : List DictEntry} {ks : List Str} : e.key = .str k t → KeysAre es ks → KeysAre (e :: es) (k :: ks)
structure KdG (w : World) (K : PySem.W.Frag) (mg : Str → Option Value) (x : Str) (ks : List Str) where
  d : Addr
  es : Array DictEntry
  n : Nat
  kd : KDict K w d es n
  mg : mg x = some (.ref d)
  ks : KeysAre es.toList ks
theorem keys_find : ∀ {es : List DictEntry} {ks : List Str} (z : Str), KeysAre es ks → (es.find? (·.key.isStr z)).isSome = ks.contains z ∧ es.any (·.refKey) = false
  | _, _, z, .nil => ⟨rfl, rfl⟩
  | _, _, z, .cons (e := e) (k := k) (es := es) (ks := ks) h r => by
    have ih := keys_find z r
    have e1 : e.key.isStr z = (k == z) := by rw [h]; rfl
    have e2 : e.refKey = false := by unfold DictEntry.refKey; rw [h]
    refine ⟨?_, by simp only [List.any_cons, e2, ih.2, Bool.or_self]⟩
    rw [List.find?_cons]
    by_cases c : k = z
    · rw [e1, show (k == z) = true by simp [c]]
      simp [c]
    · have c1 : (k == z) = false := by simp [c]
      rw [e1, c1]
      simp only
      rw [ih.1, List.contains_cons]
      have : (z == k) = false := by simp [Ne.symm c]
      rw [this, Bool.false_or]
theorem KdG.ns {w : World} {K : PySem.W.Frag} {mg : Str → Option Value} {x : Str} {ks : List Str} (g : KdG w K mg x ks) (z : Str) : ∃ r, PySem.W.nsIn K g.d z = some r ∧ r.isSome = ks.contains z := by
  obtain ⟨h1, h2⟩ := keys_find z g.ks
  unfold PySem.W.nsIn
  rw [g.kd.at_]
  simp only
  cases e : g.es.toList.find? (·.key.isStr z) with
  | some en => rw [e] at h1; exact ⟨_, rfl, h1⟩
  | none => rw [e] at h1; rw [h2]; exact ⟨_, rfl, h1⟩
section
variable {X : Cx} {cf : Cf} {W : WX}
def oInK1 (neg : Bool) (ks : List Str) : D → (D → Prop) → Prop := fun x P => match x with
  | .str z => P (.bl (if neg then !ks.contains z else ks.contains z))
  | _ => False
theorem e_inK {mg : Str → Option Value} {x : Str} {ks : List Str} {e y : Expr} {a : AE} {pos : Pos} (g : KdG X.w X.K mg x ks) (he : Ee X cf W e a) (hy : PE X y (tC (.ref g.d))) (hm : behindInMarks .In y = false := by rfl) : Ee X cf W (.Compare e [.In] [y] pos) (aU (oInK1 false ks) a) := PE.imp (pe_cmpR (op_in_kd g.kd) he hy hm) (one (r := fun x H Q => ∃ (z : Str) (r : Option Value), x = .str z ∧ V.ref g.d = .ref g.d ∧ PySem.W.nsIn X.K g.d z = some r ∧ Q (.bl r.isSome) H) fun M G H σ ρ x dx Q P R rx q hf => by
  unfold oInK1 at hf
  split at hf
  · cases rx
    next z =>
    obtain ⟨r, e1, e2⟩ := g.ns z
    exact ⟨z, r, rfl, rfl, e1, by rw [e2]; exact q _ _ G H (Same.refl _) R (.bl _) hf⟩
  · exact hf.elim)
theorem t_inK {mg : Str → Option Value} {x : Str} {ks : List Str} {e y : Expr} {a : AE} {pos : Pos} (g : KdG X.w X.K mg x ks) (he : Ee X cf W e a) (hy : PE X y (tC (.ref g.d))) (hm : behindInMarks .In y = false := by rfl) : Et X cf W (.Compare e [.In] [y] pos) (aB (aU (oInK1 false ks) a)) := PT.imp (pt_cmpR (op_in_kd g.kd) he hy hm) fun σ H Q h => one (r := fun x H Q => ∃ (z : Str) (r : Option Value), x = .str z ∧ V.ref g.d = .ref g.d ∧ PySem.W.nsIn X.K g.d z = some r ∧ Q (.bl r.isSome) H) (fun M G H σ ρ x dx Q P R rx q hf => by
  unfold oInK1 at hf
  split at hf
  · cases rx
    next z =>
    obtain ⟨r, e1, e2⟩ := g.ns z
    exact ⟨z, r, rfl, rfl, e1, by rw [e2]; exact q _ _ G H (Same.refl _) R (.bl _) hf⟩
  · exact hf.elim) σ H _ (toB σ H Q h)
theorem e_ninK {mg : Str → Option Value} {x : Str} {ks : List Str} {e y : Expr} {a : AE} {pos : Pos} (g : KdG X.w X.K mg x ks) (he : Ee X cf W e a) (hy : PE X y (tC (.ref g.d))) (hm : behindInMarks .NotIn y = false := by rfl) : Ee X cf W (.Compare e [.NotIn] [y] pos) (aU (oInK1 true ks) a) := PE.imp (pe_cmpR (op_notIn_kd g.kd) he hy hm) (one (r := fun x H Q => ∃ (z : Str) (r : Option Value), x = .str z ∧ V.ref g.d = .ref g.d ∧ PySem.W.nsIn X.K g.d z = some r ∧ Q (.bl (!r.isSome)) H) fun M G H σ ρ x dx Q P R rx q hf => by
  unfold oInK1 at hf
  split at hf
  · cases rx
    next z =>
    obtain ⟨r, e1, e2⟩ := g.ns z
    exact ⟨z, r, rfl, rfl, e1, by rw [e2]; exact q _ _ G H (Same.refl _) R (.bl _) hf⟩
  · exact hf.elim)
theorem t_ninK {mg : Str → Option Value} {x : Str} {ks : List Str} {e y : Expr} {a : AE} {pos : Pos} (g : KdG X.w X.K mg x ks) (he : Ee X cf W e a) (hy : PE X y (tC (.ref g.d))) (hm : behindInMarks .NotIn y = false := by rfl) : Et X cf W (.Compare e [.NotIn] [y] pos) (aB (aU (oInK1 true ks) a)) := PT.imp (pt_cmpR (op_notIn_kd g.kd) he hy hm) fun σ H Q h => one (r := fun x H Q => ∃ (z : Str) (r : Option Value), x = .str z ∧ V.ref g.d = .ref g.d ∧ PySem.W.nsIn X.K g.d z = some r ∧ Q (.bl (!r.isSome)) H) (fun M G H σ ρ x dx Q P R rx q hf => by
  unfold oInK1 at hf
  split at hf
  · cases rx
    next z =>
    obtain ⟨r, e1, e2⟩ := g.ns z
    exact ⟨z, r, rfl, rfl, e1, by rw [e2]; exact q _ _ G H (Same.refl _) R (.bl _) hf⟩
  · exact hf.elim) σ H _ (toB σ H Q h)
end
/-- a def with one keyword-only parameter (the last), a number by default -/
structure FkAt (K : PySem.W.Frag) (mg : Str → Option Value) (x qual : Str) (st : Stmt) (ps : List Str) (n : Nat) (kn : Str) (dv : Int) where
  f : Addr
  fd : FuncData
  F : Fun K x qual st f fd
  mg : mg x = some (.ref f)
  kb : KBn K fd ps n [kn] (fun us ws => us ++ ws) (fun vs zs => vs ++ zs)
  du : Value
  dr : RelV (.int dv) du
  db : Binds K fd ps [du]
theorem gok_app : GOk (fun vs zs => vs ++ zs) (fun ds es => ds ++ es) := fun _ _ _ _ _ _ _ r1 r2 => r1.app r2
/-- two keywords in the contrary order -/
def swp {α : Type} : List α → List α → List α := fun _ ws => match ws with
  | [a, b] => [b, a]
  | _ => []
theorem gok_swp : GOk swp swp := fun _ _ _ _ zs _ es _ r2 => by
  cases r2 with
  | nil => exact .nil
  | cons a r =>
    cases r with
    | nil => exact .nil
    | cons b r =>
      cases r with
      | nil => exact .cons b (.cons a .nil)
      | cons _ _ => exact .nil
theorem kbn_swp {K : PySem.W.Frag} {x qual : Str} {st : Stmt} {f : Addr} {fd : FuncData} {ps : List Str} {k1 k2 : Str} (F : Fun K x qual st f fd)
    (h : ∀ (kV doc pm : Value) (an : Option Addr) (cdv ct : Value) (a b : Value), bindArgs (PySem.W.fnOf x qual (defArgs st) (defBody st) (defScope st) .none kV doc pm an cdv ct) ⟨[], [(k1, a), (k2, b)]⟩ = pure (ps.zip [b, a])) :
    KBn K fd ps 0 [k1, k2] swp swp := by
  obtain ⟨oc, od, kV, doc, pm, an, cdv, ct, osl, rfl, lk, hcd⟩ := F.ex
  refine ⟨fun s us ws X l1 l2 => BindsTo.of_looks fun M => ?_, fun {vs us zs ws} r1 r2 => ?_⟩
  · match us, ws, l1, l2 with
    | [], [a, b], _, _ => exact .of_pure (h kV doc pm an cdv ct a b)
  · cases r2 with
    | nil => exact .nil
    | cons a r =>
      cases r with
      | nil => exact .nil
      | cons b r =>
        cases r with
        | nil => exact .cons b (.cons a .nil)
        | cons _ _ => exact .nil
/-- how the default binds -/
theorem dfl_binds {K : PySem.W.Frag} {x qual : Str} {st : Stmt} {doc pm cdv ct : Value} {an : Option Addr} {Dk : Addr} {kn : Str} {u : Value} {ps : List Str} {n : Nat}
    (hq : PySem.W.nsIn K Dk kn = some (some u)) (hn : n + 1 = ps.length)
    (h : ∀ us : List Value, us.length = n → KwChain Dk [(kn, u)] (bindArgs (PySem.W.fnOf x qual (defArgs st) (defBody st) (defScope st) .none (.ref Dk) doc pm an cdv ct) ⟨us, []⟩) (ps.zip (us ++ [u]))) :
    Binds K (PySem.W.fnOf x qual (defArgs st) (defBody st) (defScope st) .none (.ref Dk) doc pm an cdv ct) ps [u] := fun s us X hl => by
  have l2 : us.length = n := by rw [List.length_append, List.length_singleton] at hl; omega
  exact BindsTo.of_looks fun M => KwChain.looks X (fun q hm => by rw [List.mem_singleton.mp hm]; exact hq) (h us l2)
end Al

/-! AL10: further rules. -/
namespace Al
open PySem PySem.Spec PyProof.Rows L2 Cr
section
variable {X : Cx} {cf cg : Cf} {W : WX}
theorem XW.pin {M : Fx} {G : Hp} {σ : L2.St} {Xp : XP} {p : Addr} {o : HO} (w : XW cf W M G σ Xp) (mp : M.m p = none) : XW cf W (M.up p o) G σ Xp := fun x cls dx G' H' s1 s2 hm xr hx => w x cls dx G' H' s1 s2 (fun b u e => hm b u (by rw [Fx.up_ne (fun c => by rw [c, mp] at e; cases e)]; exact e)) xr hx
/-- x, y = (two new things of one's own) -/
def sParO (i j : Nat) (a b : AE) : AS := fun A ρ => a ρ (fun d ρ1 => b ρ1 (fun e ρ2 => A.nx ((ρ2.set i (some d)).set j (some e))) A.ex) A.ex
theorem s_parO {i j : Nat} {st : Stmt} {x y : Expr} {a b : AE} (hi : i ∈ cf.O) (hj : j ∈ cf.O) (ni : cf.np ≤ i) (nj : cf.np ≤ j) (hij : i ≠ j) (ha : Ef X cf W x a) (hb : Ef X cf W y b)
    (h : PE X x (γF cf W a) → PE X y (γF cf W b) → PS X st (tPar i j (tCons (γF cf W a) (tCons (γF cf W b) tNil)))) : Es X cf W st (sParO i j a b) := PS.imp (h ha hb) fun Dn σ H ⟨M, G, ρ, A, R, q, h⟩ => by
  refine ⟨M, G, ρ, _, A.ex, R, fun d ρ1 p1 o1 G1 H1 s1 m1 ho1 R1 r1 h1 => ?_, q.ex σ, h⟩
  refine ⟨M.up p1 o1, G1, ρ1, _, A.ex, R1, fun e ρ2 p2 o2 G2 H2 s2 m2 ho2 R2 r2 h2 => ?_, ((q.ex σ).up s1).pin m1, h1⟩
  have np : p1 ≠ p2 := fun c => by rw [← c, Fx.up_same] at m2; cases m2
  have e1 : H2 p1 = some o1 := (R2.mem p1 o1 (by rw [Fx.up_ne np]; exact Fx.up_same)).1
  have R3 := R2.setO m2 hj nj r2
  have r1' : RpO cf.K cf.cl G2 H2 p1 d := r1.up s2 (e1.trans ho1.symm)
  have R4 := R3.setO m1 hi ni r1'
  refine ⟨_, _, rfl, ?_⟩
  rw [List.set_comm _ _ hij.symm, List.set_comm _ _ hij.symm] at R4
  exact q.nx _ _ G2 H2 (s1.trans s2) R4 h2
end
end Al

/-! AL11: defs that hand back something new. -/
namespace Al
open PySem PySem.Spec PyProof.Rows L2 Cr
def LiftF (cf : Cf) (F : AF0) : Sp := fun vs H Q E => ∃ (m G : Hp) (ds : List D) (P : D → Prop) (X : XP), Rs cf (NoPi m) G H (vs.map some) (ds.map some) ∧ F ds P X ∧
  (∀ d p G' H', Same G G' → Same G' H' → (∀ b o, m b = some o → H' b = some o ∧ G' b = none) → m p = none → G' p = none → RpO cf.K cf.cl G' H' p d → P d → Q (.ref p) H') ∧
  ∀ x cls dx G' H', Same G G' → Same G' H' → (∀ b o, m b = some o → H' b = some o ∧ G' b = none) → XR cf.K cf.cl G' cls dx x → X x → E cls dx H'
theorem LiftF.len {cf : Cf} {F : AF0} {n : Nat} (h : ∀ ds P X, F ds P X → ds.length = n) (vs : List V) (H : Hp) (Q : VK) (E : XK) (l : LiftF cf F vs H Q E) : vs.length = n := by
  obtain ⟨m, G, ds, P, X, R, hF, _⟩ := l
  have := R.len
  rw [List.length_map, List.length_map] at this
  rw [this]
  exact h ds P X hF
theorem units66 {A : Around} {k : Nat} (hr : Room k A) : A.units + 66 < cLine := by have := hr.un; omega
section
variable {X : Cx} {cf cg : Cf} {W : WX}
/-- a body of one statement: return (something new) -/
theorem bodyF {E : XK} {H : Hp} {vs : List V} {Q : VK} {F : AF0} {N : List Str} {k n : Nat} {a : AE} (hlen : ∀ ds P X, F ds P X → ds.length = n) (hF : ∀ ds P X, F ds P X → sRet a (endP P NX) (ds.map some ++ List.replicate k none)) (hk : N.length - n = k)
    (h : LiftF cf F vs H Q E) : (fun (Dn : Ends) σ H => γF cf W a σ H Dn.rt) { nx := fun _ H' => Q .non H', rt := Q } (start N vs) H := by
  obtain ⟨m, G, ds, P, Xp, R, hf, q, qx⟩ := h
  have hd : ds.length = n := hlen ds _ _ hf
  have hl : vs.length = n := by
    have := R.len
    rw [List.length_map, List.length_map] at this
    rw [this]; exact hd
  have R2 := R.start (N := N) (k := k) (by rw [hl]; exact hk)
  refine ⟨NoPi m, G, _, fun d _ => P d, NX, R2, fun d ρ' p o G' H' s n ho R1 rd hP => ?_, fun x cls dx G' H' s1 s2 hm xr hx => hx.elim, hF ds _ _ hf⟩
  refine q d p G' H' s R1.same (fun b u e => ?_) n (R1.mem p o Fx.up_same).2 rd hP
  refine R1.mem b u ?_
  rw [Fx.up_ne (fun c => by rw [c] at e; exact absurd (e.symm.trans n) (by simp))]
  exact e
theorem lift0F {F : AF0} {M : Fx} {G H : Hp} {σ : L2.St} {ρ : Ev} {P : D → Ev → Prop} {Xp : XP} {Q : VK} {vs : List V} {ds : List D} {n : Nat} (hlen : ∀ ds P X, F ds P X → ds.length = n) (hp : ∀ i ∈ cg.O, n ≤ i) (hK : cg.K = cf.K) (hc : cg.cl = cf.cl)
    (R : Rs cf M G H σ ρ) (r : Rps cf.K cf.cl G vs ds) (q : QF cf M G σ P Q) (w : XW cf W M G σ Xp) (h : F ds (fun d => P d ρ) Xp) : LiftF cg F vs H Q (WE W σ) := by
  have hd := hlen ds _ _ h
  have hO : ∀ i d, i ∈ cg.O → sl (ds.map some) i = some d → False := fun i d hi e => by
    have := sl_lt e
    rw [List.length_map, hd] at this
    have := hp i hi
    omega
  refine ⟨outG G H noA, G, ds, fun d => P d ρ, Xp, ⟨R.same, fun b o (e : outG G H noA b = some o) => ⟨(outG_of e).1, (outG_of e).2.1⟩, by simp [r.len], fun i d hi e => ?_, fun i d hi e => (hO i d hi e).elim, fun i j d e a hi hj z1 => (hO i d hi z1).elim, fun i a e => nomatch e⟩, h, fun d p G' H' s1 s2 hm mp gp rd hP => ?_, w.call R (fun _ _ _ z => z) hK hc⟩
  · rw [hK, hc]; exact r.sl e
  · rw [hK, hc] at rd
    have R3 : Rs cf M G' H' σ ρ := R.after (no := noA) s1 s2 hm (fun _ _ _ z => z) (fun _ _ _ _ _ _ z => z)
    have out : ∀ b o, H b = some o → b ≠ p := fun b o e c => by
      subst c
      cases g : G b with
      | none => rw [outG_to e g (fun z => z)] at mp; cases mp
      | some u => rw [s1 _ _ g] at gp; cases gp
    have mpM : M.m p = none := by
      cases z : M.m p with
      | none => rfl
      | some o => exact absurd rfl (out p o (R.mem p o z).1)
    obtain ⟨o, ho⟩ := rd.there
    refine q d ρ p o G' H' s1 mpM ho ⟨R3.same, fun b u e => ?_, R3.len, R3.imm, fun i d hi e => ?_, R3.dis, R3.par⟩ rd hP
    · by_cases c : b = p
      · subst c
        rw [Fx.up_same] at e
        cases e
        exact ⟨ho, gp⟩
      · rw [Fx.up_ne c] at e
        exact R3.mem b u e
    · obtain ⟨b, w1, w2, w3, w4⟩ := R3.own i d hi e
      obtain ⟨b', v1, _, _, v4⟩ := R.own i d hi e
      rw [w1] at v1; cases v1
      obtain ⟨u, hu⟩ := v4.there
      exact ⟨b, w1, w2, by rw [Fx.up_ne (out b u hu)]; exact w3, w4⟩
theorem f_call {f : Addr} {x : Str} {e : Expr} {es : List Expr} {p pos : Pos} {F : AF0} {a : AA} {n : Nat} (Rn : RunR X f (LiftF cg F) W) (hlen : ∀ ds P X, F ds P X → ds.length = n) (hp : ∀ i ∈ cg.O, n ≤ i) (hg : Gl X x) (hm : X.mg x = some (.ref f)) (hk : PySem.W.keepIn X.K (.ref f) = true) (ha : Ea X cf W (e :: es) a)
    (hK : cg.K = cf.K := by rfl) (hc : cg.cl = cf.cl := by rfl) (hdb : (x == ("__debug__" : Str)) = false := by decide) (he : starEach (e :: es) X.env = (false, eval e X.env) :: starEach es X.env := by rfl) (hpl : (backTo pos (starEach es X.env)).any (·.1) = false := by rfl) :
    Ef X cf W (.Call (.Name x p) (e :: es) [] pos) (aCall F a) := PE.imp (pe_run Rn hg hm hk ha hdb he hpl) fun σ H Q ⟨M, G, ρ, P, Xp, R, q, w, h⟩ => by
  refine ⟨M, G, ρ, _, Xp, R, fun xs ρ1 vs G1 H1 s1 R1 ra h1 => ?_, w, h⟩
  obtain ⟨ds, e, h1⟩ := withV_of h1
  exact lift0F hlen hp hK hc R1 (vals_of ra e) (fun d ρ' p o G' H' s => q d ρ' p o G' H' (s1.trans s)) (w.up s1) h1
end
end Al

/-! AL12: the end of a law over the plain layer. -/
namespace Al
open PySem PySem.Spec PyProof.Rows L2 Cr
def spLaw (K : PySem.W.Frag) : Sp := fun vs H Q _ => ∃ (a : Addr) (ns : List Int), vs = [.ref a] ∧ SqL K H a (ns.map V.int) ∧ ns.length ≤ 63 ∧ ∀ H', Q (.bl true) H'
theorem lift_law {cf : Cf} {F : AF0} (hO : 0 ∉ cf.O) (hp : ∀ ns : List Int, ns.length ≤ 63 → F [.scr ns] (fun d => d = .bl true) NX) {vs : List V} {H : Hp} {Q : VK} {E : XK} (h : spLaw cf.K vs H Q E) : Lift cf (af0 F) vs H Q E := by
  obtain ⟨a, ns, rfl, hS, hl, q⟩ := h
  have hi : ∀ i d, sl ([D.scr ns].map some) i = some d → i = 0 ∧ d = .scr ns := fun i d e => by
    cases i with
    | zero => cases e; exact ⟨rfl, rfl⟩
    | succ i => cases e
  refine ⟨fun _ => none, H, [.scr ns], fun d _ => d = .bl true, NX, ⟨Same.refl _, fun b o e => (nomatch e), rfl, fun i d hn e => ?_, fun i d hn e => ?_, fun i j d e b hn hm z1 z2 _ _ => ?_, fun i b e => (nomatch e)⟩, hp ns hl, fun d ds' v G' H' s R r e => ?_, fun x cls dx G' H' s1 s2 hm xr hx => hx.elim⟩
  · obtain ⟨rfl, rfl⟩ := hi i d e
    exact ⟨_, rfl, .scr hS⟩
  · obtain ⟨rfl, rfl⟩ := hi i d e
    exact absurd hn hO
  · rw [(hi i d z1).1, (hi j e z2).1]
  · subst e
    cases r
    exact q H'
theorem FnG.weak {P : Program} {w : World} {K : PySem.W.Frag} {mg : Str → Option Value} {base : Heap} {CX : CXT} {k : Nat} {f : Addr} {fd : FuncData} {ps : List Str} {sp sp' : Sp} (F : FnG P w K mg base CX k f fd ps sp) (h : ∀ vs H Q E, sp' vs H Q E → sp vs H Q E) : FnG P w K mg base CX k f fd ps sp' :=
  ⟨fun vs H Q E q => F.len vs H Q E (h _ _ _ _ q), fun A outer s H args us vs Q E hr gd e b v q => F.run A outer s H args us vs Q E hr gd e b v (h _ _ _ _ q)⟩
end Al

namespace Cr
open PySem L2 Al
def topS (i : Nat) : Stmt := PySem.Challenge.pw_cellranks_k08_what_is_a_verb.main.body.getD i (.Pass ⟨0, 0, 0, 0⟩)
abbrev s_is_whole : Stmt := topS 3
abbrev N_is_whole : List Str := ["thing"]
theorem sc_is_whole : FnScope N_is_whole ["thing"] (defScope s_is_whole) := ⟨rfl, rfl, rfl, by decide +kernel, rfl, by decide +kernel, by decide +kernel⟩
abbrev s_is_from : Stmt := topS 4
abbrev N_is_from : List Str := ["thing", "least", "most"]
theorem sc_is_from : FnScope N_is_from ["thing", "least", "most"] (defScope s_is_from) := ⟨rfl, rfl, rfl, by decide +kernel, rfl, by decide +kernel, by decide +kernel⟩
abbrev s_whole_in : Stmt := topS 5
abbrev N_whole_in : List Str := ["word", "figures", "sign"]
theorem sc_whole_in : FnScope N_whole_in ["word"] (defScope s_whole_in) := ⟨rfl, rfl, rfl, by decide +kernel, rfl, by decide +kernel, by decide +kernel⟩
abbrev s_wholes_in : Stmt := topS 6
abbrev N_wholes_in : List Str := ["text", "found", "word"]
theorem sc_wholes_in : FnScope N_wholes_in ["text"] (defScope s_wholes_in) := ⟨rfl, rfl, rfl, by decide +kernel, rfl, by decide +kernel, by decide +kernel⟩
abbrev s_is_shape : Stmt := topS 10
abbrev N_is_shape : List Str := ["thing", "size"]
theorem sc_is_shape : FnScope N_is_shape ["thing"] (defScope s_is_shape) := ⟨rfl, rfl, rfl, by decide +kernel, rfl, by decide +kernel, by decide +kernel⟩
abbrev s_word_in : Stmt := topS 32
abbrev N_word_in : List Str := ["text"]
theorem sc_word_in : FnScope N_word_in ["text"] (defScope s_word_in) := ⟨rfl, rfl, rfl, by decide +kernel, rfl, by decide +kernel, by decide +kernel⟩
abbrev s_told_in : Stmt := topS 33
abbrev N_told_in : List Str := ["text"]
theorem sc_told_in : FnScope N_told_in ["text"] (defScope s_told_in) := ⟨rfl, rfl, rfl, by decide +kernel, rfl, by decide +kernel, by decide +kernel⟩
abbrev s_numbers_in : Stmt := topS 34
abbrev N_numbers_in : List Str := ["text"]
theorem sc_numbers_in : FnScope N_numbers_in ["text"] (defScope s_numbers_in) := ⟨rfl, rfl, rfl, by decide +kernel, rfl, by decide +kernel, by decide +kernel⟩
abbrev s_is_rank : Stmt := topS 35
abbrev N_is_rank : List Str := ["text", "of", "numbers", "number"]
theorem sc_is_rank : FnScope N_is_rank ["text", "of"] (defScope s_is_rank) := ⟨rfl, rfl, rfl, by decide +kernel, rfl, by decide +kernel, by decide +kernel⟩
abbrev s_is_with_numbers : Stmt := topS 36
abbrev N_is_with_numbers : List Str := ["text", "word", "numbers"]
theorem sc_is_with_numbers : FnScope N_is_with_numbers ["text"] (defScope s_is_with_numbers) := ⟨rfl, rfl, rfl, by decide +kernel, rfl, by decide +kernel, by decide +kernel⟩
abbrev s_is_word_of_one : Stmt := topS 37
abbrev N_is_word_of_one : List Str := ["text"]
theorem sc_is_word_of_one : FnScope N_is_word_of_one ["text"] (defScope s_is_word_of_one) := ⟨rfl, rfl, rfl, by decide +kernel, rfl, by decide +kernel, by decide +kernel⟩
abbrev s_is_word_of_two : Stmt := topS 38
abbrev N_is_word_of_two : List Str := ["text"]
theorem sc_is_word_of_two : FnScope N_is_word_of_two ["text"] (defScope s_is_word_of_two) := ⟨rfl, rfl, rfl, by decide +kernel, rfl, by decide +kernel, by decide +kernel⟩
abbrev s_is_word : Stmt := topS 39
abbrev N_is_word : List Str := ["text", "of"]
theorem sc_is_word : FnScope N_is_word ["text", "of"] (defScope s_is_word) := ⟨rfl, rfl, rfl, by decide +kernel, rfl, by decide +kernel, by decide +kernel⟩
abbrev s_is_verb : Stmt := topS 40
abbrev N_is_verb : List Str := ["thing", "of", "ranks", "word", "text"]
theorem sc_is_verb : FnScope N_is_verb ["thing", "of"] (defScope s_is_verb) := ⟨rfl, rfl, rfl, by decide +kernel, rfl, by decide +kernel, by decide +kernel⟩
abbrev s__law_feed : Stmt := topS 42
abbrev N__law_feed : List Str := ["_law_script"]
theorem sc__law_feed : FnScope N__law_feed ["_law_script"] (defScope s__law_feed) := ⟨rfl, rfl, rfl, by decide +kernel, rfl, by decide +kernel, by decide +kernel⟩
abbrev s__law_draw : Stmt := topS 43
abbrev N__law_draw : List Str := ["_law_feed_here", "_law_many", "_law_digit", "_law_at", "_law_cell", "_law_number", "_law_again"]
theorem sc__law_draw : FnScope N__law_draw ["_law_feed_here", "_law_many"] (defScope s__law_draw) := ⟨rfl, rfl, rfl, by decide +kernel, rfl, by decide +kernel, by decide +kernel⟩
abbrev s__law_of : Stmt := topS 44
abbrev N__law_of : List Str := ["_law_feed_here", "_law_some"]
theorem sc__law_of : FnScope N__law_of ["_law_feed_here", "_law_some"] (defScope s__law_of) := ⟨rfl, rfl, rfl, by decide +kernel, rfl, by decide +kernel, by decide +kernel⟩
abbrev s__law_frame : Stmt := topS 45
abbrev N__law_frame : List Str := ["_law_rank", "_law_shape"]
theorem sc__law_frame : FnScope N__law_frame ["_law_rank", "_law_shape"] (defScope s__law_frame) := ⟨rfl, rfl, rfl, by decide +kernel, rfl, by decide +kernel, by decide +kernel⟩
abbrev s__law_word_for : Stmt := topS 46
abbrev N__law_word_for : List Str := ["_law_feed_here", "_law_shape", "_law_size", "_law_asked", "_law_left", "_law_order", "_law_words", "_law_by", "_law_fold", "_law_axis", "_law_one"]
theorem sc__law_word_for : FnScope N__law_word_for ["_law_feed_here", "_law_shape"] (defScope s__law_word_for) := ⟨rfl, rfl, rfl, by decide +kernel, rfl, by decide +kernel, by decide +kernel⟩
abbrev s__law_verb_for : Stmt := topS 47
abbrev N__law_verb_for : List Str := ["_law_feed_here", "_law_shape", "_law_verb_here", "_law_k", "_law_rank"]
theorem sc__law_verb_for : FnScope N__law_verb_for ["_law_feed_here", "_law_shape"] (defScope s__law_verb_for) := ⟨rfl, rfl, rfl, by decide +kernel, rfl, by decide +kernel, by decide +kernel⟩
abbrev s__law_rank_two : Stmt := topS 49
abbrev N__law_rank_two : List Str := ["_law_feed_here"]
theorem sc__law_rank_two : FnScope N__law_rank_two ["_law_feed_here"] (defScope s__law_rank_two) := ⟨rfl, rfl, rfl, by decide +kernel, rfl, by decide +kernel, by decide +kernel⟩
abbrev s__law_verb_of_two : Stmt := topS 48
abbrev N__law_verb_of_two : List Str := ["_law_feed_here", "_law_cells", "_law_verb_here", "_law_word", "_law_k"]
theorem sc__law_verb_of_two : FnScope N__law_verb_of_two ["_law_feed_here"] (defScope s__law_verb_of_two) := ⟨rfl, rfl, rfl, by decide +kernel, rfl, by decide +kernel, by decide +kernel⟩
abbrev s__law_figures : Stmt := topS 50
abbrev N__law_figures : List Str := ["_law_word", "_law_figures_here", "_law_sign"]
theorem sc__law_figures : FnScope N__law_figures ["_law_word"] (defScope s__law_figures) := ⟨rfl, rfl, rfl, by decide +kernel, rfl, by decide +kernel, by decide +kernel⟩
abbrev s__law_numbers_in : Stmt := topS 51
abbrev N__law_numbers_in : List Str := ["_law_text", "_law_found", "_law_word"]
theorem sc__law_numbers_in : FnScope N__law_numbers_in ["_law_text"] (defScope s__law_numbers_in) := ⟨rfl, rfl, rfl, by decide +kernel, rfl, by decide +kernel, by decide +kernel⟩
abbrev s__law_is_one : Stmt := topS 52
abbrev N__law_is_one : List Str := ["_law_text", "_law_word", "_law_numbers", "_law_folded", "_law_kind", "_law_least", "_law_by", "_law_size"]
theorem sc__law_is_one : FnScope N__law_is_one ["_law_text"] (defScope s__law_is_one) := ⟨rfl, rfl, rfl, by decide +kernel, rfl, by decide +kernel, by decide +kernel⟩
abbrev s__law_is_two : Stmt := topS 53
abbrev N__law_is_two : List Str := ["_law_text", "_law_cells", "_law_word"]
theorem sc__law_is_two : FnScope N__law_is_two ["_law_text"] (defScope s__law_is_two) := ⟨rfl, rfl, rfl, by decide +kernel, rfl, by decide +kernel, by decide +kernel⟩
abbrev s__law_is_rank : Stmt := topS 54
abbrev N__law_is_rank : List Str := ["_law_text", "_law_many", "_law_numbers", "_law_number"]
theorem sc__law_is_rank : FnScope N__law_is_rank ["_law_text", "_law_many"] (defScope s__law_is_rank) := ⟨rfl, rfl, rfl, by decide +kernel, rfl, by decide +kernel, by decide +kernel⟩
abbrev s__law_due : Stmt := topS 55
abbrev N__law_due : List Str := ["_law_a_thing", "_law_many", "_law_text"]
theorem sc__law_due : FnScope N__law_due ["_law_a_thing", "_law_many"] (defScope s__law_due) := ⟨rfl, rfl, rfl, by decide +kernel, rfl, by decide +kernel, by decide +kernel⟩
abbrev s__law_any_text : Stmt := topS 56
abbrev N__law_any_text : List Str := ["_law_feed_here", "_law_some"]
theorem sc__law_any_text : FnScope N__law_any_text ["_law_feed_here"] (defScope s__law_any_text) := ⟨rfl, rfl, rfl, by decide +kernel, rfl, by decide +kernel, by decide +kernel⟩
abbrev s__law_verb : Stmt := topS 57
abbrev N__law_verb : List Str := ["_law_feed_here", "_law_rank", "_law_a_thing", "_law_at", "_law_other", "_law_some", "_law_k"]
theorem sc__law_verb : FnScope N__law_verb ["_law_feed_here"] (defScope s__law_verb) := ⟨rfl, rfl, rfl, by decide +kernel, rfl, by decide +kernel, by decide +kernel⟩
abbrev s_law : Stmt := topS 58
abbrev N_law : List Str := ["_law_script", "_law_feed_here", "_law_turn", "_law_a_thing", "_law_due_here"]
theorem sc_law : FnScope N_law ["_law_script"] (defScope s_law) := ⟨rfl, rfl, rfl, by decide +kernel, rfl, by decide +kernel, by decide +kernel⟩

structure Tx (w : World) (K : PySem.W.Frag) (mg : Str → Option Value) where
  t_FIGURES : Tok
  c_FIGURES : mg "FIGURES" = some (.str "0123456789" t_FIGURES)
  t_MOST_FIGURES : Tok
  c_MOST_FIGURES : mg "MOST_FIGURES" = some (.int 4000 t_MOST_FIGURES)
  t_MOST_AXES : Tok
  c_MOST_AXES : mg "MOST_AXES" = some (.int 6 t_MOST_AXES)
  t_MOST_SIZE : Tok
  c_MOST_SIZE : mg "MOST_SIZE" = some (.int 4000 t_MOST_SIZE)
  t_MOST_TEXTS : Tok
  c_MOST_TEXTS : mg "MOST_TEXTS" = some (.int 4 t_MOST_TEXTS)
  g_FOLDED : Al.TupG K mg "FOLDED" ["add", "mul", "least", "most"]
  g_PLAIN : Al.TupG K mg "PLAIN" ["flip", "lift", "flat"]
  g_CHOOSING : Al.TupG K mg "CHOOSING" ["first", "past", "row"]
  g_JOINING : Al.TupG K mg "JOINING" ["join", "pick"]
  g_ONES : Al.KdG w K mg "ONES" ["neg", "abs", "sign", "not"]
  g_TWOS : Al.KdG w K mg "TWOS" ["add", "sub", "mul", "div", "rest", "least", "most", "less", "same"]
  is_whole : FnAt K mg "is_whole" "is_whole" s_is_whole ["thing"]
  is_from : FnAt K mg "is_from" "is_from" s_is_from ["thing", "least", "most"]
  whole_in : FnAt K mg "whole_in" "whole_in" s_whole_in ["word"]
  wholes_in : FnAt K mg "wholes_in" "wholes_in" s_wholes_in ["text"]
  is_shape : FnAt K mg "is_shape" "is_shape" s_is_shape ["thing"]
  word_in : FnAt K mg "word_in" "word_in" s_word_in ["text"]
  told_in : FnAt K mg "told_in" "told_in" s_told_in ["text"]
  numbers_in : FnAt K mg "numbers_in" "numbers_in" s_numbers_in ["text"]
  is_rank : Al.FkAt K mg "is_rank" "is_rank" s_is_rank ["text", "of"] 1 "of" 1
  is_with_numbers : FnAt K mg "is_with_numbers" "is_with_numbers" s_is_with_numbers ["text"]
  is_word_of_one : FnAt K mg "is_word_of_one" "is_word_of_one" s_is_word_of_one ["text"]
  is_word_of_two : FnAt K mg "is_word_of_two" "is_word_of_two" s_is_word_of_two ["text"]
  is_word : Al.FkAt K mg "is_word" "is_word" s_is_word ["text", "of"] 1 "of" 1
  is_verb : Al.FkAt K mg "is_verb" "is_verb" s_is_verb ["thing", "of"] 1 "of" 1
  _law_feed : FnAt K mg "_law_feed" "_law_feed" s__law_feed ["_law_script"]
  _law_draw : FnAt K mg "_law_draw" "_law_draw" s__law_draw ["_law_feed_here", "_law_many"]
  _law_of : FnAt K mg "_law_of" "_law_of" s__law_of ["_law_feed_here", "_law_some"]
  _law_frame : FnAt K mg "_law_frame" "_law_frame" s__law_frame ["_law_rank", "_law_shape"]
  _law_word_for : FnAt K mg "_law_word_for" "_law_word_for" s__law_word_for ["_law_feed_here", "_law_shape"]
  _law_verb_for : FnAt K mg "_law_verb_for" "_law_verb_for" s__law_verb_for ["_law_feed_here", "_law_shape"]
  _law_rank_two : FnAt K mg "_law_rank_two" "_law_rank_two" s__law_rank_two ["_law_feed_here"]
  _law_verb_of_two : FnAt K mg "_law_verb_of_two" "_law_verb_of_two" s__law_verb_of_two ["_law_feed_here"]
  _law_figures : FnAt K mg "_law_figures" "_law_figures" s__law_figures ["_law_word"]
  _law_numbers_in : FnAt K mg "_law_numbers_in" "_law_numbers_in" s__law_numbers_in ["_law_text"]
  _law_is_one : FnAt K mg "_law_is_one" "_law_is_one" s__law_is_one ["_law_text"]
  _law_is_two : FnAt K mg "_law_is_two" "_law_is_two" s__law_is_two ["_law_text"]
  _law_is_rank : FnAt K mg "_law_is_rank" "_law_is_rank" s__law_is_rank ["_law_text", "_law_many"]
  _law_due : FnAt K mg "_law_due" "_law_due" s__law_due ["_law_a_thing", "_law_many"]
  _law_any_text : FnAt K mg "_law_any_text" "_law_any_text" s__law_any_text ["_law_feed_here"]
  _law_verb : FnAt K mg "_law_verb" "_law_verb" s__law_verb ["_law_feed_here"]
  b_len : mg "len" = none
  b_list : mg "list" = none
  b_range : mg "range" = none
  b_isinstance : mg "isinstance" = none
  b_int : mg "int" = none
  b_bool : mg "bool" = none
  b_str : mg "str" = none
  b_tuple : mg "tuple" = none
  b_dict : mg "dict" = none
  b_all : mg "all" = none
  b_abs : mg "abs" = none
  b_repr : mg "repr" = none
  b_max : mg "max" = none
  b_min : mg "min" = none
  b_enumerate : mg "enumerate" = none
  b_zip : mg "zip" = none
  b_reversed : mg "reversed" = none
  b_sorted : mg "sorted" = none
  b_sum : mg "sum" = none
  b_any : mg "any" = none
def nmX : Nat → List Str

  | _ => []
def Tx.tb {w : World} {K : PySem.W.Frag} {mg : Str → Option Value} (T : Tx w K mg) : Al.Tb := ⟨fun c => match c with

  | _ => 0, nmX⟩
abbrev cfx {w : World} {K : PySem.W.Frag} {mg : Str → Option Value} (T : Tx w K mg) (O : List Nat) (np : Nat) : Al.Cf := ⟨K, T.tb, O, np⟩
theorem nmNd (c : Nat) : (nmX c).Nodup := by
  unfold nmX
  split <;> decide +kernel
section
variable {P : Program} {w : World} {K : PySem.W.Frag} {mg : Str → Option Value} {base : Heap}
-- is_whole : 0:thing
def B_is_whole : AS := (sRet (aAnd (aIs (isT "int") (aV 0)) (aNot (aIs (isT "bool") (aV 0)))))
def F_is_whole : AF0 := fun ds P _ => match ds with
  | [a0] => B_is_whole  (endP P NX) [some a0]
  | _ => False
theorem F_is_whole_len : ∀ ds P X, F_is_whole ds P X → ds.length = 1 := fun ds P X h => by
  unfold F_is_whole at h
  split at h
  · rfl
  · exact h.elim
theorem ok_is_whole (T : Tx w K mg) : FnOk P w K mg base CX0 1 T.is_whole.f T.is_whole.fd ["thing"] (Lift (cfx T ([] : List Nat) 1) (af0 F_is_whole)) :=
  T.is_whole.F.ok (k := 0) sc_is_whole (Lift.len (cf := (cfx T ([] : List Nat) 1)) (F := af0 (F_is_whole)) (fun ds P X h => F_is_whole_len ds _ X h)) (fun cdv A outer s H vs Q E hr h => ⟨_, (show Eb _ (cfx T ([] : List Nat) 1) W0 _ B_is_whole from (b_one (s_ret (e_and (e_isi (by rfl) T.b_isinstance (e_var (pv 0) (by decide : ¬ (0 : Nat) ∈ ([] : List Nat))) (pe_bltn (v := V.ty "int") (by rfl) T.b_int (by decide +kernel) rfl) (.ty "int") is_int) (e_one (e_not (e_isi (by rfl) T.b_isinstance (e_var (pv 0) (by decide : ¬ (0 : Nat) ∈ ([] : List Nat))) (pe_bltn (v := V.ty "bool") (by rfl) T.b_bool (by decide +kernel) rfl) (.ty "bool") is_bool))))))), bodyN F_is_whole_len (fun ds P X h => by
      unfold F_is_whole at h
      split at h
      · exact h
      · exact h.elim) rfl (by decide : ∀ i ∈ ([] : List Nat), 1 ≤ i) h⟩)
-- is_from : 0:thing 1:least 2:most
def B_is_from : AS := (sRet (aAnd (aCall F_is_whole (aCons (aV 0) aNil)) (aAnd (aO oGe (aV 0) (aV 1)) (aOr (aO oIsN (aV 2) (aC .non)) (aO oLe (aV 0) (aV 2))))))
def F_is_from : AF0 := fun ds P _ => match ds with
  | [a0, a1, a2] => B_is_from  (endP P NX) [some a0, some a1, some a2]
  | _ => False
theorem F_is_from_len : ∀ ds P X, F_is_from ds P X → ds.length = 3 := fun ds P X h => by
  unfold F_is_from at h
  split at h
  · rfl
  · exact h.elim
theorem ok_is_from (T : Tx w K mg) : FnOk P w K mg base CX0 2 T.is_from.f T.is_from.fd ["thing", "least", "most"] (Lift (cfx T ([] : List Nat) 3) (af0 F_is_from)) :=
  T.is_from.F.ok (k := 1) sc_is_from (Lift.len (cf := (cfx T ([] : List Nat) 3)) (F := af0 (F_is_from)) (fun ds P X h => F_is_from_len ds _ X h)) (fun cdv A outer s H vs Q E hr h => ⟨_, (show Eb _ (cfx T ([] : List Nat) 3) W0 _ B_is_from from (b_one (s_ret (e_and (e_call (cg := (cfx T ([] : List Nat) 1)) (runOk (ok_is_whole T) (hr.mono (by decide)) T.is_whole.b (fun σ => at00 σ)) F_is_whole_len (by decide : ∀ i ∈ ([] : List Nat), 1 ≤ i) (by rfl) T.is_whole.mg T.is_whole.F.kp (a_cons (e_var (pv 0) (by decide : ¬ (0 : Nat) ∈ ([] : List Nat))) a_nil)) (e_and (e_cmp op_ge rl_ge (e_var (pv 0) (by decide : ¬ (0 : Nat) ∈ ([] : List Nat))) (e_var (pv 1) (by decide : ¬ (1 : Nat) ∈ ([] : List Nat)))) (e_one (e_or (e_cmp op_isN rl_isN (e_var (pv 2) (by decide : ¬ (2 : Nat) ∈ ([] : List Nat))) e_non) (e_one (e_cmp op_le rl_le (e_var (pv 0) (by decide : ¬ (0 : Nat) ∈ ([] : List Nat))) (e_var (pv 2) (by decide : ¬ (2 : Nat) ∈ ([] : List Nat)))))))))))), bodyN F_is_from_len (fun ds P X h => by
      unfold F_is_from at h
      split at h
      · exact h
      · exact h.elim) rfl (by decide : ∀ i ∈ ([] : List Nat), 3 ≤ i) h⟩)
-- whole_in : 0:word 1:figures 2:sign
def B_whole_in : AS := (sSeq (sSet 1 (aIf (aTr (aM1 mStarts (aV 0) (aC (.str "-")))) (aSl slA (aV 0) (pS (aC (.int 1))) pN) (aV 0)))
 (sSeq (sIf (aTOr (aTNot (aB (aCh oLe oLe (aC (.int 1)) (aF fLenA (aCons (aV 1) aNil)) (aC (.int 4000))))) (aTNot (aB (aF fAll (aCons (aLc (iS (aV 1)) (Tg.a (.nm 2)) tY (aO (oInA false) (aV 2) (aC (.str "0123456789"))) [2]) aNil)))))
 (sRet (aC .non))
 sNext)
 (sSeq (sIf (aTAnd (aB (aO oEqA (aO oIx (aV 1) (aC (.int 0))) (aC (.str "0")))) (aB (aO oNeA (aV 0) (aC (.str "0")))))
 (sRet (aC .non))
 sNext)
 (sRet (aF fIntA (aCons (aV 0) aNil))))))
def F_whole_in : AF0 := fun ds P _ => match ds with
  | [a0] => B_whole_in  (endP P NX) [some a0, none, none]
  | _ => False
theorem F_whole_in_len : ∀ ds P X, F_whole_in ds P X → ds.length = 1 := fun ds P X h => by
  unfold F_whole_in at h
  split at h
  · rfl
  · exact h.elim
theorem ok_whole_in (T : Tx w K mg) : FnOk P w K mg base CX0 1 T.whole_in.f T.whole_in.fd ["word"] (Lift (cfx T ([] : List Nat) 1) (af0 F_whole_in)) :=
  T.whole_in.F.ok (k := 0) sc_whole_in (Lift.len (cf := (cfx T ([] : List Nat) 1)) (F := af0 (F_whole_in)) (fun ds P X h => F_whole_in_len ds _ X h)) (fun cdv A outer s H vs Q E hr h => ⟨_, (show Eb _ (cfx T ([] : List Nat) 1) W0 _ B_whole_in from (b_cons (s_set (i := 1) sc_whole_in.nd rfl (Or.inl rfl) (by decide : ¬ (1 : Nat) ∈ ([] : List Nat)) (e_if (t_truth (e_starts (e_var (pv 0) (by decide : ¬ (0 : Nat) ∈ ([] : List Nat))) e_str)) (e_slice sl_all rl_slA (e_var (pv 0) (by decide : ¬ (0 : Nat) ∈ ([] : List Nat))) (o_some e_int) o_none) (e_var (pv 0) (by decide : ¬ (0 : Nat) ∈ ([] : List Nat)))))
 (b_cons (s_if (t_w (w_or (t_not (t_chain op_le op_le rl_le rl_le e_int (e_callB call_lenA rl_lenA (by rfl) T.b_len (by decide +kernel) (a_cons (e_var (pv 1) (by decide : ¬ (1 : Nat) ∈ ([] : List Nat))) a_nil)) (e_const (pe_glob (v := V.int 4000) (by rfl) T.c_MOST_FIGURES ⟨_, rfl⟩) fun _ => .int _))) (w_or1 (t_not (t_val (e_callB (cr_all rfl) rl_all (by rfl) T.b_all (by decide +kernel) (a_cons (e_new (f_lc (own := [("sign", 2)]) (t := (.nm 2)) rfl sc_whole_in.nd (i_str (e_var (pv 1) (by decide : ¬ (1 : Nat) ∈ ([] : List Nat)))) (blkOk_by (own := [("sign", 2)]) (N := N_whole_in) (sc := defScope s_whole_in) (by decide +kernel)) (fun _ _ _ _ _ => (pg_name (i := 2) sc_whole_in.nd rfl (Or.inl rfl))) (fun _ _ _ _ _ => ts_nil) (fun _ _ _ _ _ => (e_cmp op_inA rl_inA (e_var (pv 2) (by decide : ¬ (2 : Nat) ∈ ([] : List Nat))) (e_const (pe_glob (v := V.str "0123456789") (by rfl) T.c_FIGURES ⟨_, rfl⟩) fun _ => .str _))) (by decide : ∀ i ∈ ([2] : List Nat), ¬ i ∈ ([] : List Nat)) (by decide : ∀ i ∈ ([2] : List Nat), i ∈ ([2] : List Nat)))) a_nil)))))))
 (b_one (s_ret e_non))
 b_nil)
 (b_cons (s_if (t_w (w_and (t_cmp (op_eqA hr.units) rl_eqA (e_ix ix_seq rl_ix (e_var (pv 1) (by decide : ¬ (1 : Nat) ∈ ([] : List Nat))) e_int) e_str) (w_and1 (t_cmp (op_neA hr.units) rl_neA (e_var (pv 0) (by decide : ¬ (0 : Nat) ∈ ([] : List Nat))) e_str))))
 (b_one (s_ret e_non))
 b_nil)
 (b_one (s_ret (e_callTy call_intA rl_intA (by rfl) T.b_int (by decide +kernel) (a_cons (e_var (pv 0) (by decide : ¬ (0 : Nat) ∈ ([] : List Nat))) a_nil)))))))), bodyN F_whole_in_len (fun ds P X h => by
      unfold F_whole_in at h
      split at h
      · exact h
      · exact h.elim) rfl (by decide : ∀ i ∈ ([] : List Nat), 1 ≤ i) h⟩)
-- wholes_in : 0:text 1:found 2:word
def B_wholes_in : AS := (sSeq (sSet 1 (aLc (iL (aM1 mSplit (aV 0) (aC (.str ",")))) (Tg.a (.nm 2)) tY (aCall F_whole_in (aCons (aV 2) aNil)) [2]))
 (sRet (aIf (aB (aO (oInA false) (aC .non) (aV 1))) (aC .non) (aF fTuple (aCons (aV 1) aNil)))))
def F_wholes_in : AF0 := fun ds P _ => match ds with
  | [a0] => B_wholes_in  (endP P NX) [some a0, none, none]
  | _ => False
theorem F_wholes_in_len : ∀ ds P X, F_wholes_in ds P X → ds.length = 1 := fun ds P X h => by
  unfold F_wholes_in at h
  split at h
  · rfl
  · exact h.elim
theorem ok_wholes_in (T : Tx w K mg) : FnOk P w K mg base CX0 2 T.wholes_in.f T.wholes_in.fd ["text"] (Lift (cfx T ([] : List Nat) 1) (af0 F_wholes_in)) :=
  T.wholes_in.F.ok (k := 1) sc_wholes_in (Lift.len (cf := (cfx T ([] : List Nat) 1)) (F := af0 (F_wholes_in)) (fun ds P X h => F_wholes_in_len ds _ X h)) (fun cdv A outer s H vs Q E hr h => ⟨_, (show Eb _ (cfx T ([] : List Nat) 1) W0 _ B_wholes_in from (b_cons (s_setLc (j := 1) (own := [("word", 2)]) (t := (.nm 2)) rfl sc_wholes_in.nd rfl rfl (sw_true rfl rfl rfl (by decide +kernel)) (by decide : ¬ (1 : Nat) ∈ ([] : List Nat)) (i_list (e_split (e_var (pv 0) (by decide : ¬ (0 : Nat) ∈ ([] : List Nat))) e_str)) (blkOk_by (own := [("word", 2)]) (N := N_wholes_in) (sc := defScope s_wholes_in) (by decide +kernel)) (fun _ _ _ _ _ => (pg_name (i := 2) sc_wholes_in.nd rfl (Or.inl rfl))) (fun _ _ _ _ _ => ts_nil) (fun _ _ _ _ _ => (e_call (cg := (cfx T ([] : List Nat) 1)) (runOk (ok_whole_in T) (hr.mono (by decide)) T.whole_in.b (fun σ => at00 σ)) F_whole_in_len (by decide : ∀ i ∈ ([] : List Nat), 1 ≤ i) (by rfl) T.whole_in.mg T.whole_in.F.kp (a_cons (e_var (pv 2) (by decide : ¬ (2 : Nat) ∈ ([] : List Nat))) a_nil))) (by decide : ∀ i ∈ ([2] : List Nat), ¬ i ∈ ([] : List Nat)) (by decide : ∀ i ∈ ([2] : List Nat), i ∈ ([2] : List Nat)))
 (b_one (s_ret (e_if (t_cmp op_inA rl_inA e_non (e_var (pv 1) (by decide : ¬ (1 : Nat) ∈ ([] : List Nat)))) e_non (e_callTy call_tuple_of rl_tuple (by rfl) T.b_tuple (by decide +kernel) (a_cons (e_var (pv 1) (by decide : ¬ (1 : Nat) ∈ ([] : List Nat))) a_nil))))))), bodyN F_wholes_in_len (fun ds P X h => by
      unfold F_wholes_in at h
      split at h
      · exact h
      · exact h.elim) rfl (by decide : ∀ i ∈ ([] : List Nat), 1 ≤ i) h⟩)
-- is_shape : 0:thing 1:size
def B_is_shape : AS := (sSeq (sIf (aTOr (aTNot (aB (aIs (isT "tuple") (aV 0)))) (aB (aO oGt (aF fLenA (aCons (aV 0) aNil)) (aC (.int 6)))))
 (sRet (aC (.bl false)))
 sNext)
 (sRet (aF fAll (aCons (aLc (iT (aV 0)) (Tg.a (.nm 1)) tY (aCall F_is_from (aCons (aV 1) (aCons (aC (.int 0)) (aCons (aC (.int 4000)) aNil)))) [1]) aNil))))
def F_is_shape : AF0 := fun ds P _ => match ds with
  | [a0] => B_is_shape  (endP P NX) [some a0, none]
  | _ => False
theorem F_is_shape_len : ∀ ds P X, F_is_shape ds P X → ds.length = 1 := fun ds P X h => by
  unfold F_is_shape at h
  split at h
  · rfl
  · exact h.elim
theorem ok_is_shape (T : Tx w K mg) : FnOk P w K mg base CX0 3 T.is_shape.f T.is_shape.fd ["thing"] (Lift (cfx T ([] : List Nat) 1) (af0 F_is_shape)) :=
  T.is_shape.F.ok (k := 2) sc_is_shape (Lift.len (cf := (cfx T ([] : List Nat) 1)) (F := af0 (F_is_shape)) (fun ds P X h => F_is_shape_len ds _ X h)) (fun cdv A outer s H vs Q E hr h => ⟨_, (show Eb _ (cfx T ([] : List Nat) 1) W0 _ B_is_shape from (b_cons (s_if (t_w (w_or (t_not (t_val (e_isi (by rfl) T.b_isinstance (e_var (pv 0) (by decide : ¬ (0 : Nat) ∈ ([] : List Nat))) (pe_bltn (v := V.ty "tuple") (by rfl) T.b_tuple (by decide +kernel) rfl) (.ty "tuple") is_tuple))) (w_or1 (t_cmp op_gt rl_gt (e_callB call_lenA rl_lenA (by rfl) T.b_len (by decide +kernel) (a_cons (e_var (pv 0) (by decide : ¬ (0 : Nat) ∈ ([] : List Nat))) a_nil)) (e_const (pe_glob (v := V.int 6) (by rfl) T.c_MOST_AXES ⟨_, rfl⟩) fun _ => .int _)))))
 (b_one (s_ret e_bl))
 b_nil)
 (b_one (s_ret (e_callB (cr_all rfl) rl_all (by rfl) T.b_all (by decide +kernel) (a_cons (e_new (f_lc (own := [("size", 1)]) (t := (.nm 1)) rfl sc_is_shape.nd (i_tup (e_var (pv 0) (by decide : ¬ (0 : Nat) ∈ ([] : List Nat)))) (blkOk_by (own := [("size", 1)]) (N := N_is_shape) (sc := defScope s_is_shape) (by decide +kernel)) (fun _ _ _ _ _ => (pg_name (i := 1) sc_is_shape.nd rfl (Or.inl rfl))) (fun _ _ _ _ _ => ts_nil) (fun _ _ _ _ _ => (e_call (cg := (cfx T ([] : List Nat) 3)) (runOk (ok_is_from T) (hr.mono (by decide)) T.is_from.b (fun σ => at00 σ)) F_is_from_len (by decide : ∀ i ∈ ([] : List Nat), 3 ≤ i) (by rfl) T.is_from.mg T.is_from.F.kp (a_cons (e_var (pv 1) (by decide : ¬ (1 : Nat) ∈ ([] : List Nat))) (a_cons e_int (a_cons (e_const (pe_glob (v := V.int 4000) (by rfl) T.c_MOST_SIZE ⟨_, rfl⟩) fun _ => .int _) a_nil))))) (by decide : ∀ i ∈ ([1] : List Nat), ¬ i ∈ ([] : List Nat)) (by decide : ∀ i ∈ ([1] : List Nat), i ∈ ([1] : List Nat)))) a_nil)))))), bodyN F_is_shape_len (fun ds P X h => by
      unfold F_is_shape at h
      split at h
      · exact h
      · exact h.elim) rfl (by decide : ∀ i ∈ ([] : List Nat), 1 ≤ i) h⟩)
-- word_in : 0:text
def B_word_in : AS := (sRet (aO oIx (aM1 mPart (aV 0) (aC (.str ":"))) (aC (.int 0))))
def F_word_in : AF0 := fun ds P _ => match ds with
  | [a0] => B_word_in  (endP P NX) [some a0]
  | _ => False
theorem F_word_in_len : ∀ ds P X, F_word_in ds P X → ds.length = 1 := fun ds P X h => by
  unfold F_word_in at h
  split at h
  · rfl
  · exact h.elim
theorem ok_word_in (T : Tx w K mg) : FnOk P w K mg base CX0 1 T.word_in.f T.word_in.fd ["text"] (Lift (cfx T ([] : List Nat) 1) (af0 F_word_in)) :=
  T.word_in.F.ok (k := 0) sc_word_in (Lift.len (cf := (cfx T ([] : List Nat) 1)) (F := af0 (F_word_in)) (fun ds P X h => F_word_in_len ds _ X h)) (fun cdv A outer s H vs Q E hr h => ⟨_, (show Eb _ (cfx T ([] : List Nat) 1) W0 _ B_word_in from (b_one (s_ret (e_ix ix_seq rl_ix (e_part (e_var (pv 0) (by decide : ¬ (0 : Nat) ∈ ([] : List Nat))) e_str) e_int)))), bodyN F_word_in_len (fun ds P X h => by
      unfold F_word_in at h
      split at h
      · exact h
      · exact h.elim) rfl (by decide : ∀ i ∈ ([] : List Nat), 1 ≤ i) h⟩)
-- told_in : 0:text
def B_told_in : AS := (sRet (aO oIx (aM1 mPart (aV 0) (aC (.str ":"))) (aC (.int 2))))
def F_told_in : AF0 := fun ds P _ => match ds with
  | [a0] => B_told_in  (endP P NX) [some a0]
  | _ => False
theorem F_told_in_len : ∀ ds P X, F_told_in ds P X → ds.length = 1 := fun ds P X h => by
  unfold F_told_in at h
  split at h
  · rfl
  · exact h.elim
theorem ok_told_in (T : Tx w K mg) : FnOk P w K mg base CX0 1 T.told_in.f T.told_in.fd ["text"] (Lift (cfx T ([] : List Nat) 1) (af0 F_told_in)) :=
  T.told_in.F.ok (k := 0) sc_told_in (Lift.len (cf := (cfx T ([] : List Nat) 1)) (F := af0 (F_told_in)) (fun ds P X h => F_told_in_len ds _ X h)) (fun cdv A outer s H vs Q E hr h => ⟨_, (show Eb _ (cfx T ([] : List Nat) 1) W0 _ B_told_in from (b_one (s_ret (e_ix ix_seq rl_ix (e_part (e_var (pv 0) (by decide : ¬ (0 : Nat) ∈ ([] : List Nat))) e_str) e_int)))), bodyN F_told_in_len (fun ds P X h => by
      unfold F_told_in at h
      split at h
      · exact h
      · exact h.elim) rfl (by decide : ∀ i ∈ ([] : List Nat), 1 ≤ i) h⟩)
-- numbers_in : 0:text
def B_numbers_in : AS := (sRet (aCall F_wholes_in (aCons (aCall F_told_in (aCons (aV 0) aNil)) aNil)))
def F_numbers_in : AF0 := fun ds P _ => match ds with
  | [a0] => B_numbers_in  (endP P NX) [some a0]
  | _ => False
theorem F_numbers_in_len : ∀ ds P X, F_numbers_in ds P X → ds.length = 1 := fun ds P X h => by
  unfold F_numbers_in at h
  split at h
  · rfl
  · exact h.elim
theorem ok_numbers_in (T : Tx w K mg) : FnOk P w K mg base CX0 3 T.numbers_in.f T.numbers_in.fd ["text"] (Lift (cfx T ([] : List Nat) 1) (af0 F_numbers_in)) :=
  T.numbers_in.F.ok (k := 2) sc_numbers_in (Lift.len (cf := (cfx T ([] : List Nat) 1)) (F := af0 (F_numbers_in)) (fun ds P X h => F_numbers_in_len ds _ X h)) (fun cdv A outer s H vs Q E hr h => ⟨_, (show Eb _ (cfx T ([] : List Nat) 1) W0 _ B_numbers_in from (b_one (s_ret (e_call (cg := (cfx T ([] : List Nat) 1)) (runOk (ok_wholes_in T) (hr.mono (by decide)) T.wholes_in.b (fun σ => at00 σ)) F_wholes_in_len (by decide : ∀ i ∈ ([] : List Nat), 1 ≤ i) (by rfl) T.wholes_in.mg T.wholes_in.F.kp (a_cons (e_call (cg := (cfx T ([] : List Nat) 1)) (runOk (ok_told_in T) (hr.mono (by decide)) T.told_in.b (fun σ => at00 σ)) F_told_in_len (by decide : ∀ i ∈ ([] : List Nat), 1 ≤ i) (by rfl) T.told_in.mg T.told_in.F.kp (a_cons (e_var (pv 0) (by decide : ¬ (0 : Nat) ∈ ([] : List Nat))) a_nil)) a_nil))))), bodyN F_numbers_in_len (fun ds P X h => by
      unfold F_numbers_in at h
      split at h
      · exact h
      · exact h.elim) rfl (by decide : ∀ i ∈ ([] : List Nat), 1 ≤ i) h⟩)
-- is_rank : 0:text 1:of 2:numbers 3:number
def B_is_rank : AS := (sSeq (sSet 2 (aCall F_numbers_in (aCons (aV 0) aNil)))
 (sSeq (sIf (aTOr (aB (aO oNeA (aCall F_word_in (aCons (aV 0) aNil)) (aC (.str "rank")))) (aTOr (aB (aO oIsN (aV 2) (aC .non))) (aB (aO oNeA (aF fLenA (aCons (aV 2) aNil)) (aV 1)))))
 (sRet (aC (.bl false)))
 sNext)
 (sRet (aF fAll (aCons (aLc (iT (aV 2)) (Tg.a (.nm 3)) tY (aCall F_is_from (aCons (aV 3) (aCons (aU oNeg (aC (.int 6))) (aCons (aC (.int 6)) aNil)))) [3]) aNil)))))
def F_is_rank : AF0 := fun ds P _ => match ds with
  | [a0, a1] => B_is_rank  (endP P NX) [some a0, some a1, none, none]
  | _ => False
theorem F_is_rank_len : ∀ ds P X, F_is_rank ds P X → ds.length = 2 := fun ds P X h => by
  unfold F_is_rank at h
  split at h
  · rfl
  · exact h.elim
theorem ok_is_rank (T : Tx w K mg) : FnOk P w K mg base CX0 4 T.is_rank.f T.is_rank.fd ["text", "of"] (Lift (cfx T ([] : List Nat) 2) (af0 F_is_rank)) :=
  T.is_rank.F.ok (k := 3) sc_is_rank (Lift.len (cf := (cfx T ([] : List Nat) 2)) (F := af0 (F_is_rank)) (fun ds P X h => F_is_rank_len ds _ X h)) (fun cdv A outer s H vs Q E hr h => ⟨_, (show Eb _ (cfx T ([] : List Nat) 2) W0 _ B_is_rank from (b_cons (s_set (i := 2) sc_is_rank.nd rfl (Or.inl rfl) (by decide : ¬ (2 : Nat) ∈ ([] : List Nat)) (e_call (cg := (cfx T ([] : List Nat) 1)) (runOk (ok_numbers_in T) (hr.mono (by decide)) T.numbers_in.b (fun σ => at00 σ)) F_numbers_in_len (by decide : ∀ i ∈ ([] : List Nat), 1 ≤ i) (by rfl) T.numbers_in.mg T.numbers_in.F.kp (a_cons (e_var (pv 0) (by decide : ¬ (0 : Nat) ∈ ([] : List Nat))) a_nil)))
 (b_cons (s_if (t_w (w_or (t_cmp (op_neA hr.units) rl_neA (e_call (cg := (cfx T ([] : List Nat) 1)) (runOk (ok_word_in T) (hr.mono (by decide)) T.word_in.b (fun σ => at00 σ)) F_word_in_len (by decide : ∀ i ∈ ([] : List Nat), 1 ≤ i) (by rfl) T.word_in.mg T.word_in.F.kp (a_cons (e_var (pv 0) (by decide : ¬ (0 : Nat) ∈ ([] : List Nat))) a_nil)) e_str) (w_or (t_cmp op_isN rl_isN (e_var (pv 2) (by decide : ¬ (2 : Nat) ∈ ([] : List Nat))) e_non) (w_or1 (t_cmp (op_neA hr.units) rl_neA (e_callB call_lenA rl_lenA (by rfl) T.b_len (by decide +kernel) (a_cons (e_var (pv 2) (by decide : ¬ (2 : Nat) ∈ ([] : List Nat))) a_nil)) (e_var (pv 1) (by decide : ¬ (1 : Nat) ∈ ([] : List Nat))))))))
 (b_one (s_ret e_bl))
 b_nil)
 (b_one (s_ret (e_callB (cr_all rfl) rl_all (by rfl) T.b_all (by decide +kernel) (a_cons (e_new (f_lc (own := [("number", 3)]) (t := (.nm 3)) rfl sc_is_rank.nd (i_tup (e_var (pv 2) (by decide : ¬ (2 : Nat) ∈ ([] : List Nat)))) (blkOk_by (own := [("number", 3)]) (N := N_is_rank) (sc := defScope s_is_rank) (by decide +kernel)) (fun _ _ _ _ _ => (pg_name (i := 3) sc_is_rank.nd rfl (Or.inl rfl))) (fun _ _ _ _ _ => ts_nil) (fun _ _ _ _ _ => (e_call (cg := (cfx T ([] : List Nat) 3)) (runOk (ok_is_from T) (hr.mono (by decide)) T.is_from.b (fun σ => at00 σ)) F_is_from_len (by decide : ∀ i ∈ ([] : List Nat), 3 ≤ i) (by rfl) T.is_from.mg T.is_from.F.kp (a_cons (e_var (pv 3) (by decide : ¬ (3 : Nat) ∈ ([] : List Nat))) (a_cons (e_un un_neg rl_neg (e_const (pe_glob (v := V.int 6) (by rfl) T.c_MOST_AXES ⟨_, rfl⟩) fun _ => .int _)) (a_cons (e_const (pe_glob (v := V.int 6) (by rfl) T.c_MOST_AXES ⟨_, rfl⟩) fun _ => .int _) a_nil))))) (by decide : ∀ i ∈ ([3] : List Nat), ¬ i ∈ ([] : List Nat)) (by decide : ∀ i ∈ ([3] : List Nat), i ∈ ([3] : List Nat)))) a_nil))))))), bodyN F_is_rank_len (fun ds P X h => by
      unfold F_is_rank at h
      split at h
      · exact h
      · exact h.elim) rfl (by decide : ∀ i ∈ ([] : List Nat), 2 ≤ i) h⟩)
-- is_with_numbers : 0:text 1:word 2:numbers
def B_is_with_numbers : AS := (sSeq (sPar 1 2 (aCons (aCall F_word_in (aCons (aV 0) aNil)) (aCons (aCall F_numbers_in (aCons (aV 0) aNil)) aNil)))
 (sSeq (sIf (aB (aO oIsN (aV 2) (aC .non)))
 (sRet (aC (.bl false)))
 sNext)
 (sSeq (sIf (aB (aO oEqA (aV 1) (aC (.str "axes"))))
 (sRet (aAnd (aO oLe (aF fLenA (aCons (aV 2) aNil)) (aC (.int 6))) (aO oEqA (aF fSorted (aCons (aV 2) aNil)) (aLr (aCons (aF fLenA (aCons (aV 2) aNil)) aNil)))))
 sNext)
 (sSeq (sIf (aB (aO oEqA (aV 1) (aC (.str "deal"))))
 (sRet (aCall F_is_shape (aCons (aV 2) aNil)))
 sNext)
 (sSeq (sIf (aB (aO oEqA (aV 1) (aC (.str "turn"))))
 (sRet (aO oEqA (aF fLenA (aCons (aV 2) aNil)) (aC (.int 1))))
 sNext)
 (sRet (aAnd (aO (oInA false) (aV 1) (aC (.tup [.str "first", .str "past", .str "row"]))) (aAnd (aO oEqA (aF fLenA (aCons (aV 2) aNil)) (aC (.int 1))) (aO oGe (aO oIx (aV 2) (aC (.int 0))) (aC (.int 0)))))))))))
def F_is_with_numbers : AF0 := fun ds P _ => match ds with
  | [a0] => B_is_with_numbers  (endP P NX) [some a0, none, none]
  | _ => False
theorem F_is_with_numbers_len : ∀ ds P X, F_is_with_numbers ds P X → ds.length = 1 := fun ds P X h => by
  unfold F_is_with_numbers at h
  split at h
  · rfl
  · exact h.elim
theorem ok_is_with_numbers (T : Tx w K mg) : FnOk P w K mg base CX0 4 T.is_with_numbers.f T.is_with_numbers.fd ["text"] (Lift (cfx T ([] : List Nat) 1) (af0 F_is_with_numbers)) :=
  T.is_with_numbers.F.ok (k := 3) sc_is_with_numbers (Lift.len (cf := (cfx T ([] : List Nat) 1)) (F := af0 (F_is_with_numbers)) (fun ds P X h => F_is_with_numbers_len ds _ X h)) (fun cdv A outer s H vs Q E hr h => ⟨_, (show Eb _ (cfx T ([] : List Nat) 1) W0 _ B_is_with_numbers from (b_cons (s_par (i := 1) (j := 2) (by decide : ¬ (1 : Nat) ∈ ([] : List Nat)) (by decide : ¬ (2 : Nat) ∈ ([] : List Nat)) (a_cons (e_call (cg := (cfx T ([] : List Nat) 1)) (runOk (ok_word_in T) (hr.mono (by decide)) T.word_in.b (fun σ => at00 σ)) F_word_in_len (by decide : ∀ i ∈ ([] : List Nat), 1 ≤ i) (by rfl) T.word_in.mg T.word_in.F.kp (a_cons (e_var (pv 0) (by decide : ¬ (0 : Nat) ∈ ([] : List Nat))) a_nil)) (a_cons (e_call (cg := (cfx T ([] : List Nat) 1)) (runOk (ok_numbers_in T) (hr.mono (by decide)) T.numbers_in.b (fun σ => at00 σ)) F_numbers_in_len (by decide : ∀ i ∈ ([] : List Nat), 1 ≤ i) (by rfl) T.numbers_in.mg T.numbers_in.F.kp (a_cons (e_var (pv 0) (by decide : ¬ (0 : Nat) ∈ ([] : List Nat))) a_nil)) a_nil)) (fun h => ps_par (i := 1) (j := 2) (by rfl) sc_is_with_numbers.nd rfl rfl (by decide) rfl rfl h (by rfl)))
 (b_cons (s_if (t_cmp op_isN rl_isN (e_var (pv 2) (by decide : ¬ (2 : Nat) ∈ ([] : List Nat))) e_non)
 (b_one (s_ret e_bl))
 b_nil)
 (b_cons (s_if (t_cmp (op_eqA hr.units) rl_eqA (e_var (pv 1) (by decide : ¬ (1 : Nat) ∈ ([] : List Nat))) e_str)
 (b_one (s_ret (e_and (e_cmp op_le rl_le (e_callB call_lenA rl_lenA (by rfl) T.b_len (by decide +kernel) (a_cons (e_var (pv 2) (by decide : ¬ (2 : Nat) ∈ ([] : List Nat))) a_nil)) (e_const (pe_glob (v := V.int 6) (by rfl) T.c_MOST_AXES ⟨_, rfl⟩) fun _ => .int _)) (e_one (e_cmp (op_eqA hr.units) rl_eqA (e_callB cr_sortedA rl_sorted (by rfl) T.b_sorted (by decide +kernel) (a_cons (e_var (pv 2) (by decide : ¬ (2 : Nat) ∈ ([] : List Nat))) a_nil)) (e_new (f_listR (by rfl) T.b_list (by rfl) T.b_range rfl (e_callB call_lenA rl_lenA (by rfl) T.b_len (by decide +kernel) (a_cons (e_var (pv 2) (by decide : ¬ (2 : Nat) ∈ ([] : List Nat))) a_nil)))))))))
 b_nil)
 (b_cons (s_if (t_cmp (op_eqA hr.units) rl_eqA (e_var (pv 1) (by decide : ¬ (1 : Nat) ∈ ([] : List Nat))) e_str)
 (b_one (s_ret (e_call (cg := (cfx T ([] : List Nat) 1)) (runOk (ok_is_shape T) (hr.mono (by decide)) T.is_shape.b (fun σ => at00 σ)) F_is_shape_len (by decide : ∀ i ∈ ([] : List Nat), 1 ≤ i) (by rfl) T.is_shape.mg T.is_shape.F.kp (a_cons (e_var (pv 2) (by decide : ¬ (2 : Nat) ∈ ([] : List Nat))) a_nil))))
 b_nil)
 (b_cons (s_if (t_cmp (op_eqA hr.units) rl_eqA (e_var (pv 1) (by decide : ¬ (1 : Nat) ∈ ([] : List Nat))) e_str)
 (b_one (s_ret (e_cmp (op_eqA hr.units) rl_eqA (e_callB call_lenA rl_lenA (by rfl) T.b_len (by decide +kernel) (a_cons (e_var (pv 2) (by decide : ¬ (2 : Nat) ∈ ([] : List Nat))) a_nil)) e_int)))
 b_nil)
 (b_one (s_ret (e_and (e_cmp op_inA rl_inA (e_var (pv 1) (by decide : ¬ (1 : Nat) ∈ ([] : List Nat))) (e_const (pe_glob (v := V.ref T.g_CHOOSING.a) (by rfl) T.g_CHOOSING.mg rfl) fun _ => T.g_CHOOSING.rp)) (e_and (e_cmp (op_eqA hr.units) rl_eqA (e_callB call_lenA rl_lenA (by rfl) T.b_len (by decide +kernel) (a_cons (e_var (pv 2) (by decide : ¬ (2 : Nat) ∈ ([] : List Nat))) a_nil)) e_int) (e_one (e_cmp op_ge rl_ge (e_ix ix_seq rl_ix (e_var (pv 2) (by decide : ¬ (2 : Nat) ∈ ([] : List Nat))) e_int) e_int)))))))))))), bodyN F_is_with_numbers_len (fun ds P X h => by
      unfold F_is_with_numbers at h
      split at h
      · exact h
      · exact h.elim) rfl (by decide : ∀ i ∈ ([] : List Nat), 1 ≤ i) h⟩)
-- is_word_of_one : 0:text
def B_is_word_of_one : AS := (sSeq (sIf (aB (aO (oInA false) (aCall F_word_in (aCons (aV 0) aNil)) (aTup (aCons (aC (.str "fold")) (aCons (aC (.str "scan")) aNil)))))
 (sRet (aAnd (aO oEqA (aV 0) (aO oAddA (aO oAddA (aCall F_word_in (aCons (aV 0) aNil)) (aC (.str ":"))) (aCall F_told_in (aCons (aV 0) aNil)))) (aO (oInA false) (aCall F_told_in (aCons (aV 0) aNil)) (aC (.tup [.str "add", .str "mul", .str "least", .str "most"])))))
 sNext)
 (sRet (aOr (aU (oInK1 false ["neg", "abs", "sign", "not"]) (aV 0)) (aOr (aO (oInA false) (aV 0) (aC (.tup [.str "flip", .str "lift", .str "flat"]))) (aCall F_is_with_numbers (aCons (aV 0) aNil))))))
def F_is_word_of_one : AF0 := fun ds P _ => match ds with
  | [a0] => B_is_word_of_one  (endP P NX) [some a0]
  | _ => False
theorem F_is_word_of_one_len : ∀ ds P X, F_is_word_of_one ds P X → ds.length = 1 := fun ds P X h => by
  unfold F_is_word_of_one at h
  split at h
  · rfl
  · exact h.elim
theorem ok_is_word_of_one (T : Tx w K mg) : FnOk P w K mg base CX0 5 T.is_word_of_one.f T.is_word_of_one.fd ["text"] (Lift (cfx T ([] : List Nat) 1) (af0 F_is_word_of_one)) :=
  T.is_word_of_one.F.ok (k := 4) sc_is_word_of_one (Lift.len (cf := (cfx T ([] : List Nat) 1)) (F := af0 (F_is_word_of_one)) (fun ds P X h => F_is_word_of_one_len ds _ X h)) (fun cdv A outer s H vs Q E hr h => ⟨_, (show Eb _ (cfx T ([] : List Nat) 1) W0 _ B_is_word_of_one from (b_cons (s_if (t_cmp op_inA rl_inA (e_call (cg := (cfx T ([] : List Nat) 1)) (runOk (ok_word_in T) (hr.mono (by decide)) T.word_in.b (fun σ => at00 σ)) F_word_in_len (by decide : ∀ i ∈ ([] : List Nat), 1 ≤ i) (by rfl) T.word_in.mg T.word_in.F.kp (a_cons (e_var (pv 0) (by decide : ¬ (0 : Nat) ∈ ([] : List Nat))) a_nil)) (e_tup (a_cons e_str (a_cons e_str a_nil))))
 (b_one (s_ret (e_and (e_cmp (op_eqA hr.units) rl_eqA (e_var (pv 0) (by decide : ¬ (0 : Nat) ∈ ([] : List Nat))) (e_op op_addA rl_addA (e_op op_addA rl_addA (e_call (cg := (cfx T ([] : List Nat) 1)) (runOk (ok_word_in T) (hr.mono (by decide)) T.word_in.b (fun σ => at00 σ)) F_word_in_len (by decide : ∀ i ∈ ([] : List Nat), 1 ≤ i) (by rfl) T.word_in.mg T.word_in.F.kp (a_cons (e_var (pv 0) (by decide : ¬ (0 : Nat) ∈ ([] : List Nat))) a_nil)) e_str) (e_call (cg := (cfx T ([] : List Nat) 1)) (runOk (ok_told_in T) (hr.mono (by decide)) T.told_in.b (fun σ => at00 σ)) F_told_in_len (by decide : ∀ i ∈ ([] : List Nat), 1 ≤ i) (by rfl) T.told_in.mg T.told_in.F.kp (a_cons (e_var (pv 0) (by decide : ¬ (0 : Nat) ∈ ([] : List Nat))) a_nil)))) (e_one (e_cmp op_inA rl_inA (e_call (cg := (cfx T ([] : List Nat) 1)) (runOk (ok_told_in T) (hr.mono (by decide)) T.told_in.b (fun σ => at00 σ)) F_told_in_len (by decide : ∀ i ∈ ([] : List Nat), 1 ≤ i) (by rfl) T.told_in.mg T.told_in.F.kp (a_cons (e_var (pv 0) (by decide : ¬ (0 : Nat) ∈ ([] : List Nat))) a_nil)) (e_const (pe_glob (v := V.ref T.g_FOLDED.a) (by rfl) T.g_FOLDED.mg rfl) fun _ => T.g_FOLDED.rp))))))
 b_nil)
 (b_one (s_ret (e_or (e_inK T.g_ONES (e_var (pv 0) (by decide : ¬ (0 : Nat) ∈ ([] : List Nat))) (pe_glob (by rfl) T.g_ONES.mg rfl)) (e_or (e_cmp op_inA rl_inA (e_var (pv 0) (by decide : ¬ (0 : Nat) ∈ ([] : List Nat))) (e_const (pe_glob (v := V.ref T.g_PLAIN.a) (by rfl) T.g_PLAIN.mg rfl) fun _ => T.g_PLAIN.rp)) (e_one (e_call (cg := (cfx T ([] : List Nat) 1)) (runOk (ok_is_with_numbers T) (hr.mono (by decide)) T.is_with_numbers.b (fun σ => at00 σ)) F_is_with_numbers_len (by decide : ∀ i ∈ ([] : List Nat), 1 ≤ i) (by rfl) T.is_with_numbers.mg T.is_with_numbers.F.kp (a_cons (e_var (pv 0) (by decide : ¬ (0 : Nat) ∈ ([] : List Nat))) a_nil))))))))), bodyN F_is_word_of_one_len (fun ds P X h => by
      unfold F_is_word_of_one at h
      split at h
      · exact h
      · exact h.elim) rfl (by decide : ∀ i ∈ ([] : List Nat), 1 ≤ i) h⟩)
-- is_word_of_two : 0:text
def B_is_word_of_two : AS := (sSeq (sIf (aB (aO oEqA (aCall F_word_in (aCons (aV 0) aNil)) (aC (.str "table"))))
 (sRet (aU (oInK1 false ["add", "sub", "mul", "div", "rest", "least", "most", "less", "same"]) (aCall F_told_in (aCons (aV 0) aNil))))
 sNext)
 (sRet (aOr (aU (oInK1 false ["add", "sub", "mul", "div", "rest", "least", "most", "less", "same"]) (aV 0)) (aO (oInA false) (aV 0) (aC (.tup [.str "join", .str "pick"]))))))
def F_is_word_of_two : AF0 := fun ds P _ => match ds with
  | [a0] => B_is_word_of_two  (endP P NX) [some a0]
  | _ => False
theorem F_is_word_of_two_len : ∀ ds P X, F_is_word_of_two ds P X → ds.length = 1 := fun ds P X h => by
  unfold F_is_word_of_two at h
  split at h
  · rfl
  · exact h.elim
theorem ok_is_word_of_two (T : Tx w K mg) : FnOk P w K mg base CX0 2 T.is_word_of_two.f T.is_word_of_two.fd ["text"] (Lift (cfx T ([] : List Nat) 1) (af0 F_is_word_of_two)) :=
  T.is_word_of_two.F.ok (k := 1) sc_is_word_of_two (Lift.len (cf := (cfx T ([] : List Nat) 1)) (F := af0 (F_is_word_of_two)) (fun ds P X h => F_is_word_of_two_len ds _ X h)) (fun cdv A outer s H vs Q E hr h => ⟨_, (show Eb _ (cfx T ([] : List Nat) 1) W0 _ B_is_word_of_two from (b_cons (s_if (t_cmp (op_eqA hr.units) rl_eqA (e_call (cg := (cfx T ([] : List Nat) 1)) (runOk (ok_word_in T) (hr.mono (by decide)) T.word_in.b (fun σ => at00 σ)) F_word_in_len (by decide : ∀ i ∈ ([] : List Nat), 1 ≤ i) (by rfl) T.word_in.mg T.word_in.F.kp (a_cons (e_var (pv 0) (by decide : ¬ (0 : Nat) ∈ ([] : List Nat))) a_nil)) e_str)
 (b_one (s_ret (e_inK T.g_TWOS (e_call (cg := (cfx T ([] : List Nat) 1)) (runOk (ok_told_in T) (hr.mono (by decide)) T.told_in.b (fun σ => at00 σ)) F_told_in_len (by decide : ∀ i ∈ ([] : List Nat), 1 ≤ i) (by rfl) T.told_in.mg T.told_in.F.kp (a_cons (e_var (pv 0) (by decide : ¬ (0 : Nat) ∈ ([] : List Nat))) a_nil)) (pe_glob (by rfl) T.g_TWOS.mg rfl))))
 b_nil)
 (b_one (s_ret (e_or (e_inK T.g_TWOS (e_var (pv 0) (by decide : ¬ (0 : Nat) ∈ ([] : List Nat))) (pe_glob (by rfl) T.g_TWOS.mg rfl)) (e_one (e_cmp op_inA rl_inA (e_var (pv 0) (by decide : ¬ (0 : Nat) ∈ ([] : List Nat))) (e_const (pe_glob (v := V.ref T.g_JOINING.a) (by rfl) T.g_JOINING.mg rfl) fun _ => T.g_JOINING.rp)))))))), bodyN F_is_word_of_two_len (fun ds P X h => by
      unfold F_is_word_of_two at h
      split at h
      · exact h
      · exact h.elim) rfl (by decide : ∀ i ∈ ([] : List Nat), 1 ≤ i) h⟩)
-- is_word : 0:text 1:of
def B_is_word : AS := (sRet (aIf (aB (aO oEqA (aV 1) (aC (.int 1)))) (aCall F_is_word_of_one (aCons (aV 0) aNil)) (aCall F_is_word_of_two (aCons (aV 0) aNil))))
def F_is_word : AF0 := fun ds P _ => match ds with
  | [a0, a1] => B_is_word  (endP P NX) [some a0, some a1]
  | _ => False
theorem F_is_word_len : ∀ ds P X, F_is_word ds P X → ds.length = 2 := fun ds P X h => by
  unfold F_is_word at h
  split at h
  · rfl
  · exact h.elim
theorem ok_is_word (T : Tx w K mg) : FnOk P w K mg base CX0 6 T.is_word.f T.is_word.fd ["text", "of"] (Lift (cfx T ([] : List Nat) 2) (af0 F_is_word)) :=
  T.is_word.F.ok (k := 5) sc_is_word (Lift.len (cf := (cfx T ([] : List Nat) 2)) (F := af0 (F_is_word)) (fun ds P X h => F_is_word_len ds _ X h)) (fun cdv A outer s H vs Q E hr h => ⟨_, (show Eb _ (cfx T ([] : List Nat) 2) W0 _ B_is_word from (b_one (s_ret (e_if (t_cmp (op_eqA hr.units) rl_eqA (e_var (pv 1) (by decide : ¬ (1 : Nat) ∈ ([] : List Nat))) e_int) (e_call (cg := (cfx T ([] : List Nat) 1)) (runOk (ok_is_word_of_one T) (hr.mono (by decide)) T.is_word_of_one.b (fun σ => at00 σ)) F_is_word_of_one_len (by decide : ∀ i ∈ ([] : List Nat), 1 ≤ i) (by rfl) T.is_word_of_one.mg T.is_word_of_one.F.kp (a_cons (e_var (pv 0) (by decide : ¬ (0 : Nat) ∈ ([] : List Nat))) a_nil)) (e_call (cg := (cfx T ([] : List Nat) 1)) (runOk (ok_is_word_of_two T) (hr.mono (by decide)) T.is_word_of_two.b (fun σ => at00 σ)) F_is_word_of_two_len (by decide : ∀ i ∈ ([] : List Nat), 1 ≤ i) (by rfl) T.is_word_of_two.mg T.is_word_of_two.F.kp (a_cons (e_var (pv 0) (by decide : ¬ (0 : Nat) ∈ ([] : List Nat))) a_nil)))))), bodyN F_is_word_len (fun ds P X h => by
      unfold F_is_word at h
      split at h
      · exact h
      · exact h.elim) rfl (by decide : ∀ i ∈ ([] : List Nat), 2 ≤ i) h⟩)
-- is_verb : 0:thing 1:of 2:ranks 3:word 4:text
def B_is_verb : AS := (sSeq (sIf (aTOr (aTNot (aB (aIs (isT "tuple") (aV 0)))) (aTNot (aB (aCh oLe oLe (aC (.int 1)) (aF fLenA (aCons (aV 0) aNil)) (aC (.int 4))))))
 (sRet (aC (.bl false)))
 sNext)
 (sSeq (sIf (aTNot (aB (aF fAll (aCons (aLc (iT (aV 0)) (Tg.a (.nm 4)) tY (aIs (isT "str") (aV 4)) [4]) aNil))))
 (sRet (aC (.bl false)))
 sNext)
 (sSeq (sAsg (gStT 0 [2, 3]) (aV 0))
 (sRet (aAnd (aF fAll (aCons (aLc (iL (aV 2)) (Tg.a (.nm 4)) tY (aCallK 1 1 F_is_rank (fun ds es => ds ++ es) (aCons (aV 4) aNil) (aCons (aV 1) aNil)) [4]) aNil)) (aCallK 1 1 F_is_word (fun ds es => ds ++ es) (aCons (aV 3) aNil) (aCons (aV 1) aNil)))))))
def F_is_verb : AF0 := fun ds P _ => match ds with
  | [a0, a1] => B_is_verb  (endP P NX) [some a0, some a1, none, none, none]
  | _ => False
theorem F_is_verb_len : ∀ ds P X, F_is_verb ds P X → ds.length = 2 := fun ds P X h => by
  unfold F_is_verb at h
  split at h
  · rfl
  · exact h.elim
theorem ok_is_verb (T : Tx w K mg) : FnOk P w K mg base CX0 7 T.is_verb.f T.is_verb.fd ["thing", "of"] (Lift (cfx T ([] : List Nat) 2) (af0 F_is_verb)) :=
  T.is_verb.F.ok (k := 6) sc_is_verb (Lift.len (cf := (cfx T ([] : List Nat) 2)) (F := af0 (F_is_verb)) (fun ds P X h => F_is_verb_len ds _ X h)) (fun cdv A outer s H vs Q E hr h => ⟨_, (show Eb _ (cfx T ([] : List Nat) 2) W0 _ B_is_verb from (b_cons (s_if (t_w (w_or (t_not (t_val (e_isi (by rfl) T.b_isinstance (e_var (pv 0) (by decide : ¬ (0 : Nat) ∈ ([] : List Nat))) (pe_bltn (v := V.ty "tuple") (by rfl) T.b_tuple (by decide +kernel) rfl) (.ty "tuple") is_tuple))) (w_or1 (t_not (t_chain op_le op_le rl_le rl_le e_int (e_callB call_lenA rl_lenA (by rfl) T.b_len (by decide +kernel) (a_cons (e_var (pv 0) (by decide : ¬ (0 : Nat) ∈ ([] : List Nat))) a_nil)) (e_const (pe_glob (v := V.int 4) (by rfl) T.c_MOST_TEXTS ⟨_, rfl⟩) fun _ => .int _))))))
 (b_one (s_ret e_bl))
 b_nil)
 (b_cons (s_if (t_not (t_val (e_callB (cr_all rfl) rl_all (by rfl) T.b_all (by decide +kernel) (a_cons (e_new (f_lc (own := [("text", 4)]) (t := (.nm 4)) rfl sc_is_verb.nd (i_tup (e_var (pv 0) (by decide : ¬ (0 : Nat) ∈ ([] : List Nat)))) (blkOk_by (own := [("text", 4)]) (N := N_is_verb) (sc := defScope s_is_verb) (by decide +kernel)) (fun _ _ _ _ _ => (pg_name (i := 4) sc_is_verb.nd rfl (Or.inl rfl))) (fun _ _ _ _ _ => ts_nil) (fun _ _ _ _ _ => (e_isi (by rfl) T.b_isinstance (e_var (pv 4) (by decide : ¬ (4 : Nat) ∈ ([] : List Nat))) (pe_bltn (v := V.ty "str") (by rfl) T.b_str (by decide +kernel) rfl) (.ty "str") is_str)) (by decide : ∀ i ∈ ([4] : List Nat), ¬ i ∈ ([] : List Nat)) (by decide : ∀ i ∈ ([4] : List Nat), i ∈ ([4] : List Nat)))) a_nil))))
 (b_one (s_ret e_bl))
 b_nil)
 (b_cons (s_asg (e_var (pv 0) (by decide : ¬ (0 : Nat) ∈ ([] : List Nat))) (g_star (i := 0) (is := [2, 3]) (pg_star rfl (pgs_star (pg_name (i := 2) sc_is_verb.nd rfl (Or.inl rfl)) (pgs_cons (pg_name (i := 3) sc_is_verb.nd rfl (Or.inl rfl)) pgs_nil))) (by decide : ∀ j ∈ ([2, 3] : List Nat), ¬ j ∈ ([] : List Nat))) (fun h g => ps_asg h g))
 (b_one (s_ret (e_and (e_callB (cr_all rfl) rl_all (by rfl) T.b_all (by decide +kernel) (a_cons (e_new (f_lc (own := [("text", 4)]) (t := (.nm 4)) rfl sc_is_verb.nd (i_list (e_var (pv 2) (by decide : ¬ (2 : Nat) ∈ ([] : List Nat)))) (blkOk_by (own := [("text", 4)]) (N := N_is_verb) (sc := defScope s_is_verb) (by decide +kernel)) (fun _ _ _ _ _ => (pg_name (i := 4) sc_is_verb.nd rfl (Or.inl rfl))) (fun _ _ _ _ _ => ts_nil) (fun _ _ _ _ _ => (e_callK (cg := (cfx T ([] : List Nat) 2)) (runK (ok_is_rank T) (hr.mono (by decide)) T.is_rank.kb) (fun _ _ _ _ h => h) F_is_rank_len (by decide : ∀ i ∈ ([] : List Nat), 2 ≤ i) (by rfl) T.is_rank.mg T.is_rank.F.kp gok_app (a_cons (e_var (pv 4) (by decide : ¬ (4 : Nat) ∈ ([] : List Nat))) a_nil) (k_cons (e_var (pv 1) (by decide : ¬ (1 : Nat) ∈ ([] : List Nat))) k_nil))) (by decide : ∀ i ∈ ([4] : List Nat), ¬ i ∈ ([] : List Nat)) (by decide : ∀ i ∈ ([4] : List Nat), i ∈ ([4] : List Nat)))) a_nil)) (e_one (e_callK (cg := (cfx T ([] : List Nat) 2)) (runK (ok_is_word T) (hr.mono (by decide)) T.is_word.kb) (fun _ _ _ _ h => h) F_is_word_len (by decide : ∀ i ∈ ([] : List Nat), 2 ≤ i) (by rfl) T.is_word.mg T.is_word.F.kp gok_app (a_cons (e_var (pv 3) (by decide : ¬ (3 : Nat) ∈ ([] : List Nat))) a_nil) (k_cons (e_var (pv 1) (by decide : ¬ (1 : Nat) ∈ ([] : List Nat))) k_nil)))))))))), bodyN F_is_verb_len (fun ds P X h => by
      unfold F_is_verb at h
      split at h
      · exact h
      · exact h.elim) rfl (by decide : ∀ i ∈ ([] : List Nat), 2 ≤ i) h⟩)
-- _law_feed : 0:_law_script
def B__law_feed : AS := (sRet (aLst (aCons (aF fList (aCons (aSl slA (aV 0) pN (pS (aC (.int 63)))) aNil)) (aCons (aC (.int 0)) (aCons (aC (.int 0)) aNil)))))
def F__law_feed : AF0 := fun ds P _ => match ds with
  | [a0] => B__law_feed  (endP P NX) [some a0]
  | _ => False
theorem F__law_feed_len : ∀ ds P X, F__law_feed ds P X → ds.length = 1 := fun ds P X h => by
  unfold F__law_feed at h
  split at h
  · rfl
  · exact h.elim
theorem ok__law_feed (T : Tx w K mg) : FnOk P w K mg base CX0 1 T._law_feed.f T._law_feed.fd ["_law_script"] (LiftF (cfx T ([] : List Nat) 1) ( F__law_feed)) :=
  T._law_feed.F.ok (k := 0) sc__law_feed (LiftF.len (cf := (cfx T ([] : List Nat) 1)) (F := F__law_feed) (fun ds P X h => F__law_feed_len ds _ X h)) (fun cdv A outer s H vs Q E hr h => ⟨_, (pss_one (ps_ret (f_lst (a_cons (e_new (f_list (by rfl) T.b_list (by decide +kernel) (e_slice sl_all rl_slA (e_var (pv 0) (by decide : ¬ (0 : Nat) ∈ ([] : List Nat))) o_none (o_some e_int)))) (a_cons e_int (a_cons e_int a_nil)))))), bodyF (W := W0) F__law_feed_len (fun ds P X h => by
      unfold F__law_feed at h
      split at h
      · exact h
      · exact h.elim) rfl h⟩)
-- _law_draw : 0:_law_feed_here 1:_law_many 2:_law_digit 3:_law_at 4:_law_cell 5:_law_number 6:_law_again
def B__law_draw : AS := (sSeq (sIf (aB (aO oGt (aIxO 0 (aC (.int 2))) (aC (.int 0))))
 (sSeq (sSet 2 (aO oMod (aIxO 0 (aC (.int 2))) (aV 1)))
 (sSeq (sIxO 0 (aO oDivA (aIxO 0 (aC (.int 2))) (aV 1)) (aC (.int 2)))
 (sRet (aV 2))))
 sNext)
 (sSeq (sSet 3 (aIxO 0 (aC (.int 1))))
 (sSeq (sIxO 0 (aO oAddA (aV 3) (aC (.int 1))) (aC (.int 1)))
 (sSeq (sSet 4 (aO oAddA (aO oMulA (aV 3) (aV 3)) (aC (.int 5))))
 (sSeq (sIf (aB (aO oNeA (aIxO 0 (aC (.int 0))) (aLst aNil)))
 (sSet 4 (aO oIx (aIxO 0 (aC (.int 0))) (aO oMod (aV 3) (aF fLenA (aCons (aIxO 0 (aC (.int 0))) aNil)))))
 sNext)
 (sSeq (sIf (aTAnd (aB (aO oLt (aV 3) (aF fLenA (aCons (aIxO 0 (aC (.int 0))) aNil)))) (aB (aO oGe (aF fAbs (aCons (aV 4) aNil)) (aO oPow (aC (.int 10)) (aC (.int 18))))))
 (sSeq (sIxO 0 (aO oDivA (aF fAbs (aCons (aV 4) aNil)) (aV 1)) (aC (.int 2)))
 (sRet (aO oMod (aF fAbs (aCons (aV 4) aNil)) (aV 1))))
 sNext)
 (sSeq (sSet 5 (aO oMod (aO oMulA (aO oAddA (aO oAddA (aO oMod (aV 4) (aC (.int 4294967311))) (aO oMulA (aC (.int 65539)) (aV 3))) (aC (.int 17))) (aC (.int 48271))) (aC (.int 4294967311))))
 (sSeq (sFor (iR1 (aCons (aC (.int 3)) aNil)) (Tg.a (.nm 6))
 (sSeq (sSet 5 (aO oAddA (aO oAddA (aO oAddA (aO oMulA (aV 5) (aV 5)) (aO oMulA (aC (.int 69621)) (aV 5))) (aV 3)) (aV 6)))
 (sSet 5 (aO oMod (aV 5) (aC (.int 4294967311))))))
 (sRet (aO oMod (aO oDivA (aV 5) (aC (.int 32))) (aV 1)))))))))))
def F__law_draw : AFo := fun a0 ds P _ => match ds with
  | [a1] => B__law_draw  (endO P NX) [some a0, some a1, none, none, none, none, none]
  | _ => False
theorem F__law_draw_len : ∀ o ds P X, F__law_draw o ds P X → ds.length + 1 = 2 := fun o ds P X h => by
  unfold F__law_draw at h
  split at h
  · rfl
  · exact h.elim
theorem ok__law_draw (T : Tx w K mg) : FnOk P w K mg base CX0 1 T._law_draw.f T._law_draw.fd ["_law_feed_here", "_law_many"] (Lift (cfx T ([0] : List Nat) 2) (afo F__law_draw)) :=
  T._law_draw.F.ok (k := 0) sc__law_draw (Lift.len (cf := (cfx T ([0] : List Nat) 2)) (F := afo (F__law_draw)) (fun ds P X h => by
      cases ds with
      | nil => exact h.elim
      | cons o ds => exact F__law_draw_len o ds _ X h)) (fun cdv A outer s H vs Q E hr h => ⟨_, (show Eb _ (cfx T ([0] : List Nat) 2) W0 _ B__law_draw from (b_cons (s_if (t_cmp op_gt rl_gt (e_ixO (pv 0) (by decide : (0 : Nat) ∈ ([0] : List Nat)) e_int) e_int)
 (b_cons (s_set (i := 2) sc__law_draw.nd rfl (Or.inl rfl) (by decide : ¬ (2 : Nat) ∈ ([0] : List Nat)) (e_op op_modN rl_mod (e_ixO (pv 0) (by decide : (0 : Nat) ∈ ([0] : List Nat)) e_int) (e_var (pv 1) (by decide : ¬ (1 : Nat) ∈ ([0] : List Nat)))))
 (b_cons (s_ixO (pv 0) (by decide : (0 : Nat) ∈ ([0] : List Nat)) (e_op op_divA rl_divA (e_ixO (pv 0) (by decide : (0 : Nat) ∈ ([0] : List Nat)) e_int) (e_var (pv 1) (by decide : ¬ (1 : Nat) ∈ ([0] : List Nat)))) e_int (fun h g => ps_asg h g) (fun h g => pg_sub h g set_list))
 (b_one (s_ret (e_var (pv 2) (by decide : ¬ (2 : Nat) ∈ ([0] : List Nat)))))))
 b_nil)
 (b_cons (s_set (i := 3) sc__law_draw.nd rfl (Or.inl rfl) (by decide : ¬ (3 : Nat) ∈ ([0] : List Nat)) (e_ixO (pv 0) (by decide : (0 : Nat) ∈ ([0] : List Nat)) e_int))
 (b_cons (s_ixO (pv 0) (by decide : (0 : Nat) ∈ ([0] : List Nat)) (e_op op_addA rl_addA (e_var (pv 3) (by decide : ¬ (3 : Nat) ∈ ([0] : List Nat))) e_int) e_int (fun h g => ps_asg h g) (fun h g => pg_sub h g set_list))
 (b_cons (s_set (i := 4) sc__law_draw.nd rfl (Or.inl rfl) (by decide : ¬ (4 : Nat) ∈ ([0] : List Nat)) (e_op op_addA rl_addA (e_op op_mulA rl_mulA (e_var (pv 3) (by decide : ¬ (3 : Nat) ∈ ([0] : List Nat))) (e_var (pv 3) (by decide : ¬ (3 : Nat) ∈ ([0] : List Nat)))) e_int))
 (b_cons (s_if (t_cmp (op_neA hr.units) rl_neA (e_ixO (pv 0) (by decide : (0 : Nat) ∈ ([0] : List Nat)) e_int) (e_lst a_nil))
 (b_one (s_set (i := 4) sc__law_draw.nd rfl (Or.inl rfl) (by decide : ¬ (4 : Nat) ∈ ([0] : List Nat)) (e_ix ix_seq rl_ix (e_ixO (pv 0) (by decide : (0 : Nat) ∈ ([0] : List Nat)) e_int) (e_op op_modN rl_mod (e_var (pv 3) (by decide : ¬ (3 : Nat) ∈ ([0] : List Nat))) (e_callB call_lenA rl_lenA (by rfl) T.b_len (by decide +kernel) (a_cons (e_ixO (pv 0) (by decide : (0 : Nat) ∈ ([0] : List Nat)) e_int) a_nil))))))
 b_nil)
 (b_cons (s_if (t_w (w_and (t_cmp op_lt rl_lt (e_var (pv 3) (by decide : ¬ (3 : Nat) ∈ ([0] : List Nat))) (e_callB call_lenA rl_lenA (by rfl) T.b_len (by decide +kernel) (a_cons (e_ixO (pv 0) (by decide : (0 : Nat) ∈ ([0] : List Nat)) e_int) a_nil))) (w_and1 (t_cmp op_ge rl_ge (e_callB call_abs rl_abs (by rfl) T.b_abs (by decide +kernel) (a_cons (e_var (pv 4) (by decide : ¬ (4 : Nat) ∈ ([0] : List Nat))) a_nil)) (e_op op_pow rl_pow e_int e_int)))))
 (b_cons (s_ixO (pv 0) (by decide : (0 : Nat) ∈ ([0] : List Nat)) (e_op op_divA rl_divA (e_callB call_abs rl_abs (by rfl) T.b_abs (by decide +kernel) (a_cons (e_var (pv 4) (by decide : ¬ (4 : Nat) ∈ ([0] : List Nat))) a_nil)) (e_var (pv 1) (by decide : ¬ (1 : Nat) ∈ ([0] : List Nat)))) e_int (fun h g => ps_asg h g) (fun h g => pg_sub h g set_list))
 (b_one (s_ret (e_op op_modN rl_mod (e_callB call_abs rl_abs (by rfl) T.b_abs (by decide +kernel) (a_cons (e_var (pv 4) (by decide : ¬ (4 : Nat) ∈ ([0] : List Nat))) a_nil)) (e_var (pv 1) (by decide : ¬ (1 : Nat) ∈ ([0] : List Nat)))))))
 b_nil)
 (b_cons (s_set (i := 5) sc__law_draw.nd rfl (Or.inl rfl) (by decide : ¬ (5 : Nat) ∈ ([0] : List Nat)) (e_op op_modN rl_mod (e_op op_mulA rl_mulA (e_op op_addA rl_addA (e_op op_addA rl_addA (e_op op_modN rl_mod (e_var (pv 4) (by decide : ¬ (4 : Nat) ∈ ([0] : List Nat))) e_int) (e_op op_mulA rl_mulA e_int (e_var (pv 3) (by decide : ¬ (3 : Nat) ∈ ([0] : List Nat))))) e_int) e_int) e_int))
 (b_cons (s_for PassesOwn.never rfl (i_range1 (by rfl) T.b_range (a_cons e_int a_nil)) (g_tg (t := (.nm 6)) (pg_name (i := 6) sc__law_draw.nd rfl (Or.inl rfl)) (by decide : ∀ j ∈ ([6] : List Nat), ¬ j ∈ ([0] : List Nat)))
 (b_cons (s_set (i := 5) sc__law_draw.nd rfl (Or.inl rfl) (by decide : ¬ (5 : Nat) ∈ ([0] : List Nat)) (e_op op_addA rl_addA (e_op op_addA rl_addA (e_op op_addA rl_addA (e_op op_mulA rl_mulA (e_var (pv 5) (by decide : ¬ (5 : Nat) ∈ ([0] : List Nat))) (e_var (pv 5) (by decide : ¬ (5 : Nat) ∈ ([0] : List Nat)))) (e_op op_mulA rl_mulA e_int (e_var (pv 5) (by decide : ¬ (5 : Nat) ∈ ([0] : List Nat))))) (e_var (pv 3) (by decide : ¬ (3 : Nat) ∈ ([0] : List Nat)))) (e_var (pv 6) (by decide : ¬ (6 : Nat) ∈ ([0] : List Nat)))))
 (b_one (s_set (i := 5) sc__law_draw.nd rfl (Or.inl rfl) (by decide : ¬ (5 : Nat) ∈ ([0] : List Nat)) (e_op op_modN rl_mod (e_var (pv 5) (by decide : ¬ (5 : Nat) ∈ ([0] : List Nat))) e_int)))))
 (b_one (s_ret (e_op op_modN rl_mod (e_op op_divA rl_divA (e_var (pv 5) (by decide : ¬ (5 : Nat) ∈ ([0] : List Nat))) e_int) (e_var (pv 1) (by decide : ¬ (1 : Nat) ∈ ([0] : List Nat))))))))))))))), bodyON F__law_draw_len (fun o ds P X h => by
      unfold F__law_draw at h
      split at h
      · exact h
      · exact h.elim) rfl (by decide : 0 ∈ ([0] : List Nat)) (by decide : ∀ i ∈ ([0] : List Nat), i = 0 ∨ 2 ≤ i) (by decide : 0 < 2) h⟩)
-- _law_of : 0:_law_feed_here 1:_law_some
def B__law_of : AS := (sRet (aO oIx (aV 1) (aCallO 0 F__law_draw (aCons (aF fLenA (aCons (aV 1) aNil)) aNil))))
def F__law_of : AFo := fun a0 ds P _ => match ds with
  | [a1] => B__law_of  (endO P NX) [some a0, some a1]
  | _ => False
theorem F__law_of_len : ∀ o ds P X, F__law_of o ds P X → ds.length + 1 = 2 := fun o ds P X h => by
  unfold F__law_of at h
  split at h
  · rfl
  · exact h.elim
theorem ok__law_of (T : Tx w K mg) : FnOk P w K mg base CX0 2 T._law_of.f T._law_of.fd ["_law_feed_here", "_law_some"] (Lift (cfx T ([0] : List Nat) 2) (afo F__law_of)) :=
  T._law_of.F.ok (k := 1) sc__law_of (Lift.len (cf := (cfx T ([0] : List Nat) 2)) (F := afo (F__law_of)) (fun ds P X h => by
      cases ds with
      | nil => exact h.elim
      | cons o ds => exact F__law_of_len o ds _ X h)) (fun cdv A outer s H vs Q E hr h => ⟨_, (show Eb _ (cfx T ([0] : List Nat) 2) W0 _ B__law_of from (b_one (s_ret (e_ix ix_seq rl_ix (e_var (pv 1) (by decide : ¬ (1 : Nat) ∈ ([0] : List Nat))) (e_callO (cg := (cfx T ([0] : List Nat) 2)) (i := 0) (runOk (ok__law_draw T) (hr.mono (by decide)) T._law_draw.b (fun σ => at00 σ)) F__law_draw_len (by decide : 0 ∈ ([0] : List Nat)) (by decide : ∀ i ∈ ([0] : List Nat), i = 0 ∨ 2 ≤ i) (by rfl) T._law_draw.mg T._law_draw.F.kp (pv 0) (by decide : (0 : Nat) ∈ ([0] : List Nat)) (a_cons (e_callB call_lenA rl_lenA (by rfl) T.b_len (by decide +kernel) (a_cons (e_var (pv 1) (by decide : ¬ (1 : Nat) ∈ ([0] : List Nat))) a_nil)) a_nil)))))), bodyON F__law_of_len (fun o ds P X h => by
      unfold F__law_of at h
      split at h
      · exact h
      · exact h.elim) rfl (by decide : 0 ∈ ([0] : List Nat)) (by decide : ∀ i ∈ ([0] : List Nat), i = 0 ∨ 2 ≤ i) (by decide : 0 < 2) h⟩)
-- _law_frame : 0:_law_rank 1:_law_shape
def B__law_frame : AS := (sRet (aIf (aB (aO oGe (aV 0) (aC (.int 0)))) (aF fMax2 (aCons (aC (.int 0)) (aCons (aO oSub (aF fLenA (aCons (aV 1) aNil)) (aV 0)) aNil))) (aF fMin2 (aCons (aF fLenA (aCons (aV 1) aNil)) (aCons (aO oSub (aC (.int 0)) (aV 0)) aNil)))))
def F__law_frame : AF0 := fun ds P _ => match ds with
  | [a0, a1] => B__law_frame  (endP P NX) [some a0, some a1]
  | _ => False
theorem F__law_frame_len : ∀ ds P X, F__law_frame ds P X → ds.length = 2 := fun ds P X h => by
  unfold F__law_frame at h
  split at h
  · rfl
  · exact h.elim
theorem ok__law_frame (T : Tx w K mg) : FnOk P w K mg base CX0 1 T._law_frame.f T._law_frame.fd ["_law_rank", "_law_shape"] (Lift (cfx T ([] : List Nat) 2) (af0 F__law_frame)) :=
  T._law_frame.F.ok (k := 0) sc__law_frame (Lift.len (cf := (cfx T ([] : List Nat) 2)) (F := af0 (F__law_frame)) (fun ds P X h => F__law_frame_len ds _ X h)) (fun cdv A outer s H vs Q E hr h => ⟨_, (show Eb _ (cfx T ([] : List Nat) 2) W0 _ B__law_frame from (b_one (s_ret (e_if (t_cmp op_ge rl_ge (e_var (pv 0) (by decide : ¬ (0 : Nat) ∈ ([] : List Nat))) e_int) (e_callB (call_max2 rfl) rl_max2 (by rfl) T.b_max (by decide +kernel) (a_cons e_int (a_cons (e_op op_sub rl_sub (e_callB call_lenA rl_lenA (by rfl) T.b_len (by decide +kernel) (a_cons (e_var (pv 1) (by decide : ¬ (1 : Nat) ∈ ([] : List Nat))) a_nil)) (e_var (pv 0) (by decide : ¬ (0 : Nat) ∈ ([] : List Nat)))) a_nil))) (e_callB (call_min2 rfl) rl_min2 (by rfl) T.b_min (by decide +kernel) (a_cons (e_callB call_lenA rl_lenA (by rfl) T.b_len (by decide +kernel) (a_cons (e_var (pv 1) (by decide : ¬ (1 : Nat) ∈ ([] : List Nat))) a_nil)) (a_cons (e_op op_sub rl_sub e_int (e_var (pv 0) (by decide : ¬ (0 : Nat) ∈ ([] : List Nat)))) a_nil))))))), bodyN F__law_frame_len (fun ds P X h => by
      unfold F__law_frame at h
      split at h
      · exact h
      · exact h.elim) rfl (by decide : ∀ i ∈ ([] : List Nat), 2 ≤ i) h⟩)
-- _law_word_for : 0:_law_feed_here 1:_law_shape 2:_law_size 3:_law_asked 4:_law_left 5:_law_order 6:_law_words 7:_law_by 8:_law_fold 9:_law_axis 10:_law_one
def B__law_word_for : AS := (sSeq (sSet 2 (aO oIx (aO oAddA (aV 1) (aTup (aCons (aC (.int 0)) aNil))) (aC (.int 0))))
 (sSeq (sSet 3 (aF fStrA (aCons (aCallO 0 F__law_draw (aCons (aO oAddA (aO oAddA (aV 2) (aC (.int 1))) (aF fIntA (aCons (aO oEqA (aCallO 0 F__law_draw (aCons (aC (.int 15)) aNil)) (aC (.int 0))) aNil))) aNil)) aNil)))
 (sSeq (sParO 4 5 (aLc (iR1 (aCons (aF fLenA (aCons (aV 1) aNil)) aNil)) (Tg.a (.nm 9)) tY (aF fStrA (aCons (aV 9) aNil)) [9]) (aLst aNil))
 (sSeq (sWhile 3 (aB (aEmpO 4 true))
 (sExpr (aApp 5 (aPopAt 4 (aCallO 0 F__law_draw (aCons (aLenO 4) aNil))))))
 (sSeq (sSet 6 (aLst (aCons (aCallO 0 F__law_of (aCons (aLst (aCons (aC (.str "neg")) (aCons (aC (.str "abs")) (aCons (aC (.str "sign")) (aCons (aC (.str "not")) aNil))))) aNil)) (aCons (aC (.str "flip")) (aCons (aC (.str "lift")) (aCons (aC (.str "flat")) (aCons (aO oAddA (aC (.str "axes:")) (aM1 mJoin (aC (.str ",")) (aOrT (aM 5) (aLst (aCons (aC (.str "0")) aNil))))) aNil)))))))
 (sSeq (sSet 6 (aO oCatL (aM 6) (aLst (aCons (aO oAddA (aCallO 0 F__law_of (aCons (aLst (aCons (aC (.str "first:")) (aCons (aC (.str "past:")) (aCons (aC (.str "row:")) aNil)))) aNil)) (aV 3)) (aCons (aO oAddA (aC (.str "turn:")) (aF fStrA (aCons (aO oSub (aCallO 0 F__law_draw (aCons (aC (.int 11)) aNil)) (aC (.int 5))) aNil))) aNil)))))
 (sSeq (sExpr (aApp 6 (aO oAddA (aC (.str "deal:")) (aM1 mJoin (aC (.str ",")) (aLc (iT (aU oRevT (aOrT (aV 1) (aTup (aCons (aC (.int 1)) aNil))))) (Tg.a (.nm 10)) tY (aF fStrA (aCons (aV 10) aNil)) [10])))))
 (sSeq (sSet 7 (aO oAddA (aLst (aCons (aC (.str "add")) (aCons (aC (.str "least")) (aCons (aC (.str "most")) aNil)))) (aO oMulA (aLst (aCons (aC (.str "mul")) aNil)) (aF fIntA (aCons (aO oLt (aV 2) (aC (.int 9))) aNil)))))
 (sSeq (sSet 8 (aO oAddA (aCallO 0 F__law_of (aCons (aLst (aCons (aC (.str "fold:")) (aCons (aC (.str "fold:")) (aCons (aC (.str "scan:")) aNil)))) aNil)) (aCallO 0 F__law_of (aCons (aV 7) aNil))))
 (sRet (aCallO 0 F__law_of (aCons (aO oAddA (aM 6) (aLst (aCons (aV 8) (aCons (aV 8) aNil)))) aNil))))))))))))
def F__law_word_for : AFo := fun a0 ds P _ => match ds with
  | [a1] => B__law_word_for  (endO P NX) [some a0, some a1, none, none, none, none, none, none, none, none, none]
  | _ => False
theorem F__law_word_for_len : ∀ o ds P X, F__law_word_for o ds P X → ds.length + 1 = 2 := fun o ds P X h => by
  unfold F__law_word_for at h
  split at h
  · rfl
  · exact h.elim
theorem ok__law_word_for (T : Tx w K mg) : FnOk P w K mg base CX0 3 T._law_word_for.f T._law_word_for.fd ["_law_feed_here", "_law_shape"] (Lift (cfx T ([0, 4, 5, 6] : List Nat) 2) (afo F__law_word_for)) :=
  T._law_word_for.F.ok (k := 2) sc__law_word_for (Lift.len (cf := (cfx T ([0, 4, 5, 6] : List Nat) 2)) (F := afo (F__law_word_for)) (fun ds P X h => by
      cases ds with
      | nil => exact h.elim
      | cons o ds => exact F__law_word_for_len o ds _ X h)) (fun cdv A outer s H vs Q E hr h => ⟨_, (show Eb _ (cfx T ([0, 4, 5, 6] : List Nat) 2) W0 _ B__law_word_for from (b_cons (s_set (i := 2) sc__law_word_for.nd rfl (Or.inl rfl) (by decide : ¬ (2 : Nat) ∈ ([0, 4, 5, 6] : List Nat)) (e_ix ix_seq rl_ix (e_op op_addA rl_addA (e_var (pv 1) (by decide : ¬ (1 : Nat) ∈ ([0, 4, 5, 6] : List Nat))) (e_tup (a_cons e_int a_nil))) e_int))
 (b_cons (s_set (i := 3) sc__law_word_for.nd rfl (Or.inl rfl) (by decide : ¬ (3 : Nat) ∈ ([0, 4, 5, 6] : List Nat)) (e_callTy call_strA rl_strA (by rfl) T.b_str (by decide +kernel) (a_cons (e_callO (cg := (cfx T ([0] : List Nat) 2)) (i := 0) (runOk (ok__law_draw T) (hr.mono (by decide)) T._law_draw.b (fun σ => at00 σ)) F__law_draw_len (by decide : 0 ∈ ([0] : List Nat)) (by decide : ∀ i ∈ ([0] : List Nat), i = 0 ∨ 2 ≤ i) (by rfl) T._law_draw.mg T._law_draw.F.kp (pv 0) (by decide : (0 : Nat) ∈ ([0, 4, 5, 6] : List Nat)) (a_cons (e_op op_addA rl_addA (e_op op_addA rl_addA (e_var (pv 2) (by decide : ¬ (2 : Nat) ∈ ([0, 4, 5, 6] : List Nat))) e_int) (e_callTy call_intA rl_intA (by rfl) T.b_int (by decide +kernel) (a_cons (e_cmp (op_eqA hr.units) rl_eqA (e_callO (cg := (cfx T ([0] : List Nat) 2)) (i := 0) (runOk (ok__law_draw T) (hr.mono (by decide)) T._law_draw.b (fun σ => at00 σ)) F__law_draw_len (by decide : 0 ∈ ([0] : List Nat)) (by decide : ∀ i ∈ ([0] : List Nat), i = 0 ∨ 2 ≤ i) (by rfl) T._law_draw.mg T._law_draw.F.kp (pv 0) (by decide : (0 : Nat) ∈ ([0, 4, 5, 6] : List Nat)) (a_cons e_int a_nil)) e_int) a_nil))) a_nil)) a_nil)))
 (b_cons (s_parO (i := 4) (j := 5) (by decide : (4 : Nat) ∈ ([0, 4, 5, 6] : List Nat)) (by decide : (5 : Nat) ∈ ([0, 4, 5, 6] : List Nat)) (by decide : 2 ≤ 4) (by decide : 2 ≤ 5) (by decide) (f_lc (own := [("_law_axis", 9)]) (t := (.nm 9)) rfl sc__law_word_for.nd (i_range1 (by rfl) T.b_range (a_cons (e_callB call_lenA rl_lenA (by rfl) T.b_len (by decide +kernel) (a_cons (e_var (pv 1) (by decide : ¬ (1 : Nat) ∈ ([0, 4, 5, 6] : List Nat))) a_nil)) a_nil)) (blkOk_by (own := [("_law_axis", 9)]) (N := N__law_word_for) (sc := defScope s__law_word_for) (by decide +kernel)) (fun _ _ _ _ _ => (pg_name (i := 9) sc__law_word_for.nd rfl (Or.inl rfl))) (fun _ _ _ _ _ => ts_nil) (fun _ _ _ _ _ => (e_callTy call_strA rl_strA (by rfl) T.b_str (by decide +kernel) (a_cons (e_var (pv 9) (by decide : ¬ (9 : Nat) ∈ ([0, 4, 5, 6] : List Nat))) a_nil))) (by decide : ∀ i ∈ ([9] : List Nat), ¬ i ∈ ([0, 4, 5, 6] : List Nat)) (by decide : ∀ i ∈ ([9] : List Nat), i ∈ ([9] : List Nat))) (f_lst a_nil) (fun h1 h2 => ps_par (i := 4) (j := 5) (by rfl) sc__law_word_for.nd rfl rfl (by decide) rfl rfl (pa_cons h1 (pa_cons h2 pa_nil)) (by rfl)))
 (b_cons (s_while (n := 3) PassesOwn.never (t_empO (neg := true) (pt_cmpR (op_neE hr.units) (pv 4) (pe_lst pa_nil) (nomark _)) (by decide : (4 : Nat) ∈ ([0, 4, 5, 6] : List Nat)))
 (b_one (s_expr (e_app (pv 5) (by decide : (5 : Nat) ∈ ([0, 4, 5, 6] : List Nat)) (e_popAt (pv 4) (by decide : (4 : Nat) ∈ ([0, 4, 5, 6] : List Nat)) (e_callO (cg := (cfx T ([0] : List Nat) 2)) (i := 0) (runOk (ok__law_draw T) (hr.mono (by decide)) T._law_draw.b (fun σ => at00 σ)) F__law_draw_len (by decide : 0 ∈ ([0] : List Nat)) (by decide : ∀ i ∈ ([0] : List Nat), i = 0 ∨ 2 ≤ i) (by rfl) T._law_draw.mg T._law_draw.F.kp (pv 0) (by decide : (0 : Nat) ∈ ([0, 4, 5, 6] : List Nat)) (a_cons (e_lenO (lenO_of (pv 4) (by rfl) T.b_len) (by decide : (4 : Nat) ∈ ([0, 4, 5, 6] : List Nat))) a_nil)) (pe_bm PySem.F.plainAttrs_list PySem.F.slot_list_pop PySem.F.type_list_pop mt_popAt)) (pe_bm PySem.F.plainAttrs_list PySem.F.slot_list_append PySem.F.type_list_append mt_append)))))
 (b_cons (s_setO (i := 6) sc__law_word_for.nd rfl (Or.inl rfl) (by decide : (6 : Nat) ∈ ([0, 4, 5, 6] : List Nat)) (by decide : 2 ≤ 6) (f_lst (a_cons (e_callO (cg := (cfx T ([0] : List Nat) 2)) (i := 0) (runOk (ok__law_of T) (hr.mono (by decide)) T._law_of.b (fun σ => at00 σ)) F__law_of_len (by decide : 0 ∈ ([0] : List Nat)) (by decide : ∀ i ∈ ([0] : List Nat), i = 0 ∨ 2 ≤ i) (by rfl) T._law_of.mg T._law_of.F.kp (pv 0) (by decide : (0 : Nat) ∈ ([0, 4, 5, 6] : List Nat)) (a_cons (e_lst (a_cons e_str (a_cons e_str (a_cons e_str (a_cons e_str a_nil))))) a_nil)) (a_cons e_str (a_cons e_str (a_cons e_str (a_cons (e_op op_addA rl_addA e_str (e_join e_str (e_orT (e_move (pv 5) (by decide : (5 : Nat) ∈ ([0, 4, 5, 6] : List Nat))) (e_one (e_lst (a_cons e_str a_nil)))))) a_nil)))))))
 (b_cons (s_setO (i := 6) sc__law_word_for.nd rfl (Or.inl rfl) (by decide : (6 : Nat) ∈ ([0, 4, 5, 6] : List Nat)) (by decide : 2 ≤ 6) (f_cat (e_move (pv 6) (by decide : (6 : Nat) ∈ ([0, 4, 5, 6] : List Nat))) (e_lst (a_cons (e_op op_addA rl_addA (e_callO (cg := (cfx T ([0] : List Nat) 2)) (i := 0) (runOk (ok__law_of T) (hr.mono (by decide)) T._law_of.b (fun σ => at00 σ)) F__law_of_len (by decide : 0 ∈ ([0] : List Nat)) (by decide : ∀ i ∈ ([0] : List Nat), i = 0 ∨ 2 ≤ i) (by rfl) T._law_of.mg T._law_of.F.kp (pv 0) (by decide : (0 : Nat) ∈ ([0, 4, 5, 6] : List Nat)) (a_cons (e_lst (a_cons e_str (a_cons e_str (a_cons e_str a_nil)))) a_nil)) (e_var (pv 3) (by decide : ¬ (3 : Nat) ∈ ([0, 4, 5, 6] : List Nat)))) (a_cons (e_op op_addA rl_addA e_str (e_callTy call_strA rl_strA (by rfl) T.b_str (by decide +kernel) (a_cons (e_op op_sub rl_sub (e_callO (cg := (cfx T ([0] : List Nat) 2)) (i := 0) (runOk (ok__law_draw T) (hr.mono (by decide)) T._law_draw.b (fun σ => at00 σ)) F__law_draw_len (by decide : 0 ∈ ([0] : List Nat)) (by decide : ∀ i ∈ ([0] : List Nat), i = 0 ∨ 2 ≤ i) (by rfl) T._law_draw.mg T._law_draw.F.kp (pv 0) (by decide : (0 : Nat) ∈ ([0, 4, 5, 6] : List Nat)) (a_cons e_int a_nil)) e_int) a_nil))) a_nil)))))
 (b_cons (s_expr (e_app (pv 6) (by decide : (6 : Nat) ∈ ([0, 4, 5, 6] : List Nat)) (e_op op_addA rl_addA e_str (e_join e_str (e_new (f_lc (own := [("_law_one", 10)]) (t := (.nm 10)) rfl sc__law_word_for.nd (i_tup (e_revT (e_orT (e_var (pv 1) (by decide : ¬ (1 : Nat) ∈ ([0, 4, 5, 6] : List Nat))) (e_one (e_tup (a_cons e_int a_nil)))))) (blkOk_by (own := [("_law_one", 10)]) (N := N__law_word_for) (sc := defScope s__law_word_for) (by decide +kernel)) (fun _ _ _ _ _ => (pg_name (i := 10) sc__law_word_for.nd rfl (Or.inl rfl))) (fun _ _ _ _ _ => ts_nil) (fun _ _ _ _ _ => (e_callTy call_strA rl_strA (by rfl) T.b_str (by decide +kernel) (a_cons (e_var (pv 10) (by decide : ¬ (10 : Nat) ∈ ([0, 4, 5, 6] : List Nat))) a_nil))) (by decide : ∀ i ∈ ([10] : List Nat), ¬ i ∈ ([0, 4, 5, 6] : List Nat)) (by decide : ∀ i ∈ ([10] : List Nat), i ∈ ([10] : List Nat)))))) (pe_bm PySem.F.plainAttrs_list PySem.F.slot_list_append PySem.F.type_list_append mt_append)))
 (b_cons (s_set (i := 7) sc__law_word_for.nd rfl (Or.inl rfl) (by decide : ¬ (7 : Nat) ∈ ([0, 4, 5, 6] : List Nat)) (e_op op_addA rl_addA (e_lst (a_cons e_str (a_cons e_str (a_cons e_str a_nil)))) (e_op op_mulA rl_mulA (e_lst (a_cons e_str a_nil)) (e_callTy call_intA rl_intA (by rfl) T.b_int (by decide +kernel) (a_cons (e_cmp op_lt rl_lt (e_var (pv 2) (by decide : ¬ (2 : Nat) ∈ ([0, 4, 5, 6] : List Nat))) e_int) a_nil)))))
 (b_cons (s_set (i := 8) sc__law_word_for.nd rfl (Or.inl rfl) (by decide : ¬ (8 : Nat) ∈ ([0, 4, 5, 6] : List Nat)) (e_op op_addA rl_addA (e_callO (cg := (cfx T ([0] : List Nat) 2)) (i := 0) (runOk (ok__law_of T) (hr.mono (by decide)) T._law_of.b (fun σ => at00 σ)) F__law_of_len (by decide : 0 ∈ ([0] : List Nat)) (by decide : ∀ i ∈ ([0] : List Nat), i = 0 ∨ 2 ≤ i) (by rfl) T._law_of.mg T._law_of.F.kp (pv 0) (by decide : (0 : Nat) ∈ ([0, 4, 5, 6] : List Nat)) (a_cons (e_lst (a_cons e_str (a_cons e_str (a_cons e_str a_nil)))) a_nil)) (e_callO (cg := (cfx T ([0] : List Nat) 2)) (i := 0) (runOk (ok__law_of T) (hr.mono (by decide)) T._law_of.b (fun σ => at00 σ)) F__law_of_len (by decide : 0 ∈ ([0] : List Nat)) (by decide : ∀ i ∈ ([0] : List Nat), i = 0 ∨ 2 ≤ i) (by rfl) T._law_of.mg T._law_of.F.kp (pv 0) (by decide : (0 : Nat) ∈ ([0, 4, 5, 6] : List Nat)) (a_cons (e_var (pv 7) (by decide : ¬ (7 : Nat) ∈ ([0, 4, 5, 6] : List Nat))) a_nil))))
 (b_one (s_ret (e_callO (cg := (cfx T ([0] : List Nat) 2)) (i := 0) (runOk (ok__law_of T) (hr.mono (by decide)) T._law_of.b (fun σ => at00 σ)) F__law_of_len (by decide : 0 ∈ ([0] : List Nat)) (by decide : ∀ i ∈ ([0] : List Nat), i = 0 ∨ 2 ≤ i) (by rfl) T._law_of.mg T._law_of.F.kp (pv 0) (by decide : (0 : Nat) ∈ ([0, 4, 5, 6] : List Nat)) (a_cons (e_op op_addA rl_addA (e_move (pv 6) (by decide : (6 : Nat) ∈ ([0, 4, 5, 6] : List Nat))) (e_lst (a_cons (e_var (pv 8) (by decide : ¬ (8 : Nat) ∈ ([0, 4, 5, 6] : List Nat))) (a_cons (e_var (pv 8) (by decide : ¬ (8 : Nat) ∈ ([0, 4, 5, 6] : List Nat))) a_nil)))) a_nil)))))))))))))), bodyON F__law_word_for_len (fun o ds P X h => by
      unfold F__law_word_for at h
      split at h
      · exact h
      · exact h.elim) rfl (by decide : 0 ∈ ([0, 4, 5, 6] : List Nat)) (by decide : ∀ i ∈ ([0, 4, 5, 6] : List Nat), i = 0 ∨ 2 ≤ i) (by decide : 0 < 2) h⟩)
-- _law_verb_for : 0:_law_feed_here 1:_law_shape 2:_law_verb_here 3:_law_k 4:_law_rank
def B__law_verb_for : AS := (sSeq (sSet 2 (aTup aNil))
 (sSeq (sFor (iR1 (aCons (aCallO 0 F__law_of (aCons (aLst (aCons (aC (.int 0)) (aCons (aC (.int 0)) (aCons (aC (.int 0)) (aCons (aC (.int 1)) (aCons (aC (.int 1)) (aCons (aC (.int 2)) (aCons (aC (.int 3)) aNil)))))))) aNil)) aNil)) (Tg.a (.nm 3))
 (sSeq (sSet 4 (aO oSub (aCallO 0 F__law_draw (aCons (aC (.int 6)) aNil)) (aC (.int 2))))
 (sSeq (sSet 2 (aO oAddA (aV 2) (aTup (aCons (aO oAddA (aC (.str "rank:")) (aF fStrA (aCons (aV 4) aNil))) aNil))))
 (sSet 1 (aSl slA (aV 1) (pS (aCall F__law_frame (aCons (aV 4) (aCons (aV 1) aNil)))) pN)))))
 (sRet (aO oAddA (aV 2) (aTup (aCons (aCallO 0 F__law_word_for (aCons (aV 1) aNil)) aNil))))))
def F__law_verb_for : AFo := fun a0 ds P _ => match ds with
  | [a1] => B__law_verb_for  (endO P NX) [some a0, some a1, none, none, none]
  | _ => False
theorem F__law_verb_for_len : ∀ o ds P X, F__law_verb_for o ds P X → ds.length + 1 = 2 := fun o ds P X h => by
  unfold F__law_verb_for at h
  split at h
  · rfl
  · exact h.elim
theorem ok__law_verb_for (T : Tx w K mg) : FnOk P w K mg base CX0 4 T._law_verb_for.f T._law_verb_for.fd ["_law_feed_here", "_law_shape"] (Lift (cfx T ([0] : List Nat) 2) (afo F__law_verb_for)) :=
  T._law_verb_for.F.ok (k := 3) sc__law_verb_for (Lift.len (cf := (cfx T ([0] : List Nat) 2)) (F := afo (F__law_verb_for)) (fun ds P X h => by
      cases ds with
      | nil => exact h.elim
      | cons o ds => exact F__law_verb_for_len o ds _ X h)) (fun cdv A outer s H vs Q E hr h => ⟨_, (show Eb _ (cfx T ([0] : List Nat) 2) W0 _ B__law_verb_for from (b_cons (s_set (i := 2) sc__law_verb_for.nd rfl (Or.inl rfl) (by decide : ¬ (2 : Nat) ∈ ([0] : List Nat)) (e_tup a_nil))
 (b_cons (s_for PassesOwn.never rfl (i_range1 (by rfl) T.b_range (a_cons (e_callO (cg := (cfx T ([0] : List Nat) 2)) (i := 0) (runOk (ok__law_of T) (hr.mono (by decide)) T._law_of.b (fun σ => at00 σ)) F__law_of_len (by decide : 0 ∈ ([0] : List Nat)) (by decide : ∀ i ∈ ([0] : List Nat), i = 0 ∨ 2 ≤ i) (by rfl) T._law_of.mg T._law_of.F.kp (pv 0) (by decide : (0 : Nat) ∈ ([0] : List Nat)) (a_cons (e_lst (a_cons e_int (a_cons e_int (a_cons e_int (a_cons e_int (a_cons e_int (a_cons e_int (a_cons e_int a_nil)))))))) a_nil)) a_nil)) (g_tg (t := (.nm 3)) (pg_name (i := 3) sc__law_verb_for.nd rfl (Or.inl rfl)) (by decide : ∀ j ∈ ([3] : List Nat), ¬ j ∈ ([0] : List Nat)))
 (b_cons (s_set (i := 4) sc__law_verb_for.nd rfl (Or.inl rfl) (by decide : ¬ (4 : Nat) ∈ ([0] : List Nat)) (e_op op_sub rl_sub (e_callO (cg := (cfx T ([0] : List Nat) 2)) (i := 0) (runOk (ok__law_draw T) (hr.mono (by decide)) T._law_draw.b (fun σ => at00 σ)) F__law_draw_len (by decide : 0 ∈ ([0] : List Nat)) (by decide : ∀ i ∈ ([0] : List Nat), i = 0 ∨ 2 ≤ i) (by rfl) T._law_draw.mg T._law_draw.F.kp (pv 0) (by decide : (0 : Nat) ∈ ([0] : List Nat)) (a_cons e_int a_nil)) e_int))
 (b_cons (s_set (i := 2) sc__law_verb_for.nd rfl (Or.inl rfl) (by decide : ¬ (2 : Nat) ∈ ([0] : List Nat)) (e_op op_addA rl_addA (e_var (pv 2) (by decide : ¬ (2 : Nat) ∈ ([0] : List Nat))) (e_tup (a_cons (e_op op_addA rl_addA e_str (e_callTy call_strA rl_strA (by rfl) T.b_str (by decide +kernel) (a_cons (e_var (pv 4) (by decide : ¬ (4 : Nat) ∈ ([0] : List Nat))) a_nil))) a_nil))))
 (b_one (s_set (i := 1) sc__law_verb_for.nd rfl (Or.inl rfl) (by decide : ¬ (1 : Nat) ∈ ([0] : List Nat)) (e_slice sl_all rl_slA (e_var (pv 1) (by decide : ¬ (1 : Nat) ∈ ([0] : List Nat))) (o_some (e_call (cg := (cfx T ([] : List Nat) 2)) (runOk (ok__law_frame T) (hr.mono (by decide)) T._law_frame.b (fun σ => at00 σ)) F__law_frame_len (by decide : ∀ i ∈ ([] : List Nat), 2 ≤ i) (by rfl) T._law_frame.mg T._law_frame.F.kp (a_cons (e_var (pv 4) (by decide : ¬ (4 : Nat) ∈ ([0] : List Nat))) (a_cons (e_var (pv 1) (by decide : ¬ (1 : Nat) ∈ ([0] : List Nat))) a_nil)))) o_none))))))
 (b_one (s_ret (e_op op_addA rl_addA (e_var (pv 2) (by decide : ¬ (2 : Nat) ∈ ([0] : List Nat))) (e_tup (a_cons (e_callO (cg := (cfx T ([0, 4, 5, 6] : List Nat) 2)) (i := 0) (runOk (ok__law_word_for T) (hr.mono (by decide)) T._law_word_for.b (fun σ => at00 σ)) F__law_word_for_len (by decide : 0 ∈ ([0, 4, 5, 6] : List Nat)) (by decide : ∀ i ∈ ([0, 4, 5, 6] : List Nat), i = 0 ∨ 2 ≤ i) (by rfl) T._law_word_for.mg T._law_word_for.F.kp (pv 0) (by decide : (0 : Nat) ∈ ([0] : List Nat)) (a_cons (e_var (pv 1) (by decide : ¬ (1 : Nat) ∈ ([0] : List Nat))) a_nil)) a_nil)))))))), bodyON F__law_verb_for_len (fun o ds P X h => by
      unfold F__law_verb_for at h
      split at h
      · exact h
      · exact h.elim) rfl (by decide : 0 ∈ ([0] : List Nat)) (by decide : ∀ i ∈ ([0] : List Nat), i = 0 ∨ 2 ≤ i) (by decide : 0 < 2) h⟩)
-- _law_rank_two : 0:_law_feed_here
def B__law_rank_two : AS := (sRet (aO oAddA (aO oAddA (aO oAddA (aC (.str "rank:")) (aF fStrA (aCons (aO oSub (aCallO 0 F__law_draw (aCons (aC (.int 5)) aNil)) (aC (.int 1))) aNil))) (aC (.str ","))) (aF fStrA (aCons (aO oSub (aCallO 0 F__law_draw (aCons (aC (.int 5)) aNil)) (aC (.int 1))) aNil))))
def F__law_rank_two : AFo := fun a0 ds P _ => match ds with
  | [] => B__law_rank_two  (endO P NX) [some a0]
  | _ => False
theorem F__law_rank_two_len : ∀ o ds P X, F__law_rank_two o ds P X → ds.length + 1 = 1 := fun o ds P X h => by
  unfold F__law_rank_two at h
  split at h
  · rfl
  · exact h.elim
theorem ok__law_rank_two (T : Tx w K mg) : FnOk P w K mg base CX0 2 T._law_rank_two.f T._law_rank_two.fd ["_law_feed_here"] (Lift (cfx T ([0] : List Nat) 1) (afo F__law_rank_two)) :=
  T._law_rank_two.F.ok (k := 1) sc__law_rank_two (Lift.len (cf := (cfx T ([0] : List Nat) 1)) (F := afo (F__law_rank_two)) (fun ds P X h => by
      cases ds with
      | nil => exact h.elim
      | cons o ds => exact F__law_rank_two_len o ds _ X h)) (fun cdv A outer s H vs Q E hr h => ⟨_, (show Eb _ (cfx T ([0] : List Nat) 1) W0 _ B__law_rank_two from (b_one (s_ret (e_op op_addA rl_addA (e_op op_addA rl_addA (e_op op_addA rl_addA e_str (e_callTy call_strA rl_strA (by rfl) T.b_str (by decide +kernel) (a_cons (e_op op_sub rl_sub (e_callO (cg := (cfx T ([0] : List Nat) 2)) (i := 0) (runOk (ok__law_draw T) (hr.mono (by decide)) T._law_draw.b (fun σ => at00 σ)) F__law_draw_len (by decide : 0 ∈ ([0] : List Nat)) (by decide : ∀ i ∈ ([0] : List Nat), i = 0 ∨ 2 ≤ i) (by rfl) T._law_draw.mg T._law_draw.F.kp (pv 0) (by decide : (0 : Nat) ∈ ([0] : List Nat)) (a_cons e_int a_nil)) e_int) a_nil))) e_str) (e_callTy call_strA rl_strA (by rfl) T.b_str (by decide +kernel) (a_cons (e_op op_sub rl_sub (e_callO (cg := (cfx T ([0] : List Nat) 2)) (i := 0) (runOk (ok__law_draw T) (hr.mono (by decide)) T._law_draw.b (fun σ => at00 σ)) F__law_draw_len (by decide : 0 ∈ ([0] : List Nat)) (by decide : ∀ i ∈ ([0] : List Nat), i = 0 ∨ 2 ≤ i) (by rfl) T._law_draw.mg T._law_draw.F.kp (pv 0) (by decide : (0 : Nat) ∈ ([0] : List Nat)) (a_cons e_int a_nil)) e_int) a_nil)))))), bodyON F__law_rank_two_len (fun o ds P X h => by
      unfold F__law_rank_two at h
      split at h
      · exact h
      · exact h.elim) rfl (by decide : 0 ∈ ([0] : List Nat)) (by decide : ∀ i ∈ ([0] : List Nat), i = 0 ∨ 1 ≤ i) (by decide : 0 < 1) h⟩)
-- _law_verb_of_two : 0:_law_feed_here 1:_law_cells 2:_law_verb_here 3:_law_word 4:_law_k
def B__law_verb_of_two : AS := (sSeq (sSet 1 (aLst (aCons (aC (.str "add")) (aCons (aC (.str "sub")) (aCons (aC (.str "mul")) (aCons (aC (.str "div")) (aCons (aC (.str "rest")) (aCons (aC (.str "least")) (aCons (aC (.str "most")) (aCons (aC (.str "less")) (aCons (aC (.str "same")) aNil)))))))))))
 (sSeq (sSet 2 (aF fTuple (aCons (aLc (iR1 (aCons (aCallO 0 F__law_of (aCons (aLst (aCons (aC (.int 0)) (aCons (aC (.int 0)) (aCons (aC (.int 0)) (aCons (aC (.int 0)) (aCons (aC (.int 1)) (aCons (aC (.int 2)) aNil))))))) aNil)) aNil)) (Tg.a (.nm 4)) tY (aCallO 0 F__law_rank_two aNil) [4]) aNil)))
 (sSeq (sSet 3 (aCallO 0 F__law_of (aCons (aV 1) aNil)))
 (sRet (aO oAddA (aV 2) (aTup (aCons (aCallO 0 F__law_of (aCons (aLst (aCons (aV 3) (aCons (aV 3) (aCons (aV 3) (aCons (aC (.str "join")) (aCons (aC (.str "pick")) (aCons (aO oAddA (aC (.str "table:")) (aV 3)) aNil))))))) aNil)) aNil)))))))
def F__law_verb_of_two : AFo := fun a0 ds P _ => match ds with
  | [] => B__law_verb_of_two  (endO P NX) [some a0, none, none, none, none]
  | _ => False
theorem F__law_verb_of_two_len : ∀ o ds P X, F__law_verb_of_two o ds P X → ds.length + 1 = 1 := fun o ds P X h => by
  unfold F__law_verb_of_two at h
  split at h
  · rfl
  · exact h.elim
theorem ok__law_verb_of_two (T : Tx w K mg) : FnOk P w K mg base CX0 3 T._law_verb_of_two.f T._law_verb_of_two.fd ["_law_feed_here"] (Lift (cfx T ([0] : List Nat) 1) (afo F__law_verb_of_two)) :=
  T._law_verb_of_two.F.ok (k := 2) sc__law_verb_of_two (Lift.len (cf := (cfx T ([0] : List Nat) 1)) (F := afo (F__law_verb_of_two)) (fun ds P X h => by
      cases ds with
      | nil => exact h.elim
      | cons o ds => exact F__law_verb_of_two_len o ds _ X h)) (fun cdv A outer s H vs Q E hr h => ⟨_, (show Eb _ (cfx T ([0] : List Nat) 1) W0 _ B__law_verb_of_two from (b_cons (s_set (i := 1) sc__law_verb_of_two.nd rfl (Or.inl rfl) (by decide : ¬ (1 : Nat) ∈ ([0] : List Nat)) (e_lst (a_cons e_str (a_cons e_str (a_cons e_str (a_cons e_str (a_cons e_str (a_cons e_str (a_cons e_str (a_cons e_str (a_cons e_str a_nil)))))))))))
 (b_cons (s_set (i := 2) sc__law_verb_of_two.nd rfl (Or.inl rfl) (by decide : ¬ (2 : Nat) ∈ ([0] : List Nat)) (e_callTy call_tuple_of rl_tuple (by rfl) T.b_tuple (by decide +kernel) (a_cons (e_new (f_lc (own := [("_law_k", 4)]) (t := (.nm 4)) rfl sc__law_verb_of_two.nd (i_range1 (by rfl) T.b_range (a_cons (e_callO (cg := (cfx T ([0] : List Nat) 2)) (i := 0) (runOk (ok__law_of T) (hr.mono (by decide)) T._law_of.b (fun σ => at00 σ)) F__law_of_len (by decide : 0 ∈ ([0] : List Nat)) (by decide : ∀ i ∈ ([0] : List Nat), i = 0 ∨ 2 ≤ i) (by rfl) T._law_of.mg T._law_of.F.kp (pv 0) (by decide : (0 : Nat) ∈ ([0] : List Nat)) (a_cons (e_lst (a_cons e_int (a_cons e_int (a_cons e_int (a_cons e_int (a_cons e_int (a_cons e_int a_nil))))))) a_nil)) a_nil)) (blkOk_by (own := [("_law_k", 4)]) (N := N__law_verb_of_two) (sc := defScope s__law_verb_of_two) (by decide +kernel)) (fun _ _ _ _ _ => (pg_name (i := 4) sc__law_verb_of_two.nd rfl (Or.inl rfl))) (fun _ _ _ _ _ => ts_nil) (fun _ _ _ _ _ => (e_callO (cg := (cfx T ([0] : List Nat) 1)) (i := 0) (runOk (ok__law_rank_two T) (hr.mono (by decide)) T._law_rank_two.b (fun σ => at00 σ)) F__law_rank_two_len (by decide : 0 ∈ ([0] : List Nat)) (by decide : ∀ i ∈ ([0] : List Nat), i = 0 ∨ 1 ≤ i) (by rfl) T._law_rank_two.mg T._law_rank_two.F.kp (pv 0) (by decide : (0 : Nat) ∈ ([0] : List Nat)) a_nil)) (by decide : ∀ i ∈ ([4] : List Nat), ¬ i ∈ ([0] : List Nat)) (by decide : ∀ i ∈ ([4] : List Nat), i ∈ ([4] : List Nat)))) a_nil)))
 (b_cons (s_set (i := 3) sc__law_verb_of_two.nd rfl (Or.inl rfl) (by decide : ¬ (3 : Nat) ∈ ([0] : List Nat)) (e_callO (cg := (cfx T ([0] : List Nat) 2)) (i := 0) (runOk (ok__law_of T) (hr.mono (by decide)) T._law_of.b (fun σ => at00 σ)) F__law_of_len (by decide : 0 ∈ ([0] : List Nat)) (by decide : ∀ i ∈ ([0] : List Nat), i = 0 ∨ 2 ≤ i) (by rfl) T._law_of.mg T._law_of.F.kp (pv 0) (by decide : (0 : Nat) ∈ ([0] : List Nat)) (a_cons (e_var (pv 1) (by decide : ¬ (1 : Nat) ∈ ([0] : List Nat))) a_nil)))
 (b_one (s_ret (e_op op_addA rl_addA (e_var (pv 2) (by decide : ¬ (2 : Nat) ∈ ([0] : List Nat))) (e_tup (a_cons (e_callO (cg := (cfx T ([0] : List Nat) 2)) (i := 0) (runOk (ok__law_of T) (hr.mono (by decide)) T._law_of.b (fun σ => at00 σ)) F__law_of_len (by decide : 0 ∈ ([0] : List Nat)) (by decide : ∀ i ∈ ([0] : List Nat), i = 0 ∨ 2 ≤ i) (by rfl) T._law_of.mg T._law_of.F.kp (pv 0) (by decide : (0 : Nat) ∈ ([0] : List Nat)) (a_cons (e_lst (a_cons (e_var (pv 3) (by decide : ¬ (3 : Nat) ∈ ([0] : List Nat))) (a_cons (e_var (pv 3) (by decide : ¬ (3 : Nat) ∈ ([0] : List Nat))) (a_cons (e_var (pv 3) (by decide : ¬ (3 : Nat) ∈ ([0] : List Nat))) (a_cons e_str (a_cons e_str (a_cons (e_op op_addA rl_addA e_str (e_var (pv 3) (by decide : ¬ (3 : Nat) ∈ ([0] : List Nat)))) a_nil))))))) a_nil)) a_nil))))))))), bodyON F__law_verb_of_two_len (fun o ds P X h => by
      unfold F__law_verb_of_two at h
      split at h
      · exact h
      · exact h.elim) rfl (by decide : 0 ∈ ([0] : List Nat)) (by decide : ∀ i ∈ ([0] : List Nat), i = 0 ∨ 1 ≤ i) (by decide : 0 < 1) h⟩)
-- _law_figures : 0:_law_word 1:_law_figures_here 2:_law_sign
def B__law_figures : AS := (sSeq (sSet 1 (aIf (aB (aO oEqA (aSl slA (aV 0) pN (pS (aC (.int 1)))) (aC (.str "-")))) (aSl slA (aV 0) (pS (aC (.int 1))) pN) (aV 0)))
 (sSeq (sIf (aTOr (aTNot (aB (aCh oLe oLe (aC (.int 1)) (aF fLenA (aCons (aV 1) aNil)) (aC (.int 4000))))) (aB (aO oNeA (aLc (iS (aV 1)) (Tg.a (.nm 2)) (aB (aO (oInA true) (aV 2) (aC (.str "0123456789")))) (aV 2) [2]) (aLst aNil))))
 (sRet (aC .non))
 sNext)
 (sRet (aIf (aTAnd (aB (aO oEqA (aO oIx (aV 1) (aC (.int 0))) (aC (.str "0")))) (aB (aO oNeA (aV 0) (aC (.str "0"))))) (aC .non) (aF fIntA (aCons (aV 0) aNil))))))
def F__law_figures : AF0 := fun ds P _ => match ds with
  | [a0] => B__law_figures  (endP P NX) [some a0, none, none]
  | _ => False
theorem F__law_figures_len : ∀ ds P X, F__law_figures ds P X → ds.length = 1 := fun ds P X h => by
  unfold F__law_figures at h
  split at h
  · rfl
  · exact h.elim
theorem ok__law_figures (T : Tx w K mg) : FnOk P w K mg base CX0 1 T._law_figures.f T._law_figures.fd ["_law_word"] (Lift (cfx T ([] : List Nat) 1) (af0 F__law_figures)) :=
  T._law_figures.F.ok (k := 0) sc__law_figures (Lift.len (cf := (cfx T ([] : List Nat) 1)) (F := af0 (F__law_figures)) (fun ds P X h => F__law_figures_len ds _ X h)) (fun cdv A outer s H vs Q E hr h => ⟨_, (show Eb _ (cfx T ([] : List Nat) 1) W0 _ B__law_figures from (b_cons (s_set (i := 1) sc__law_figures.nd rfl (Or.inl rfl) (by decide : ¬ (1 : Nat) ∈ ([] : List Nat)) (e_if (t_cmp (op_eqA hr.units) rl_eqA (e_slice sl_all rl_slA (e_var (pv 0) (by decide : ¬ (0 : Nat) ∈ ([] : List Nat))) o_none (o_some e_int)) e_str) (e_slice sl_all rl_slA (e_var (pv 0) (by decide : ¬ (0 : Nat) ∈ ([] : List Nat))) (o_some e_int) o_none) (e_var (pv 0) (by decide : ¬ (0 : Nat) ∈ ([] : List Nat)))))
 (b_cons (s_if (t_w (w_or (t_not (t_chain op_le op_le rl_le rl_le e_int (e_callB call_lenA rl_lenA (by rfl) T.b_len (by decide +kernel) (a_cons (e_var (pv 1) (by decide : ¬ (1 : Nat) ∈ ([] : List Nat))) a_nil)) e_int)) (w_or1 (t_cmp (op_neA hr.units) rl_neA (e_new (f_lc (own := [("_law_sign", 2)]) (t := (.nm 2)) rfl sc__law_figures.nd (i_str (e_var (pv 1) (by decide : ¬ (1 : Nat) ∈ ([] : List Nat)))) (blkOk_by (own := [("_law_sign", 2)]) (N := N__law_figures) (sc := defScope s__law_figures) (by decide +kernel)) (fun _ _ _ _ _ => (pg_name (i := 2) sc__law_figures.nd rfl (Or.inl rfl))) (fun _ _ _ _ _ => (ts_one (t_cmp op_notInA rl_inA (e_var (pv 2) (by decide : ¬ (2 : Nat) ∈ ([] : List Nat))) e_str))) (fun _ _ _ _ _ => (e_var (pv 2) (by decide : ¬ (2 : Nat) ∈ ([] : List Nat)))) (by decide : ∀ i ∈ ([2] : List Nat), ¬ i ∈ ([] : List Nat)) (by decide : ∀ i ∈ ([2] : List Nat), i ∈ ([2] : List Nat)))) (e_lst a_nil)))))
 (b_one (s_ret e_non))
 b_nil)
 (b_one (s_ret (e_if (t_w (w_and (t_cmp (op_eqA hr.units) rl_eqA (e_ix ix_seq rl_ix (e_var (pv 1) (by decide : ¬ (1 : Nat) ∈ ([] : List Nat))) e_int) e_str) (w_and1 (t_cmp (op_neA hr.units) rl_neA (e_var (pv 0) (by decide : ¬ (0 : Nat) ∈ ([] : List Nat))) e_str)))) e_non (e_callTy call_intA rl_intA (by rfl) T.b_int (by decide +kernel) (a_cons (e_var (pv 0) (by decide : ¬ (0 : Nat) ∈ ([] : List Nat))) a_nil)))))))), bodyN F__law_figures_len (fun ds P X h => by
      unfold F__law_figures at h
      split at h
      · exact h
      · exact h.elim) rfl (by decide : ∀ i ∈ ([] : List Nat), 1 ≤ i) h⟩)
-- _law_numbers_in : 0:_law_text 1:_law_found 2:_law_word
def B__law_numbers_in : AS := (sSeq (sIf (aB (aO (oInA true) (aC (.str ":")) (aV 0)))
 (sRet (aC .non))
 sNext)
 (sSeq (sSet 1 (aLc (iL (aM1 mSplit (aM1 mJoin (aC (.str ":")) (aSl slA (aM1 mSplit (aV 0) (aC (.str ":"))) (pS (aC (.int 1))) pN)) (aC (.str ",")))) (Tg.a (.nm 2)) tY (aCall F__law_figures (aCons (aV 2) aNil)) [2]))
 (sRet (aIf (aB (aO (oInA false) (aC .non) (aV 1))) (aC .non) (aV 1)))))
def F__law_numbers_in : AF0 := fun ds P _ => match ds with
  | [a0] => B__law_numbers_in  (endP P NX) [some a0, none, none]
  | _ => False
theorem F__law_numbers_in_len : ∀ ds P X, F__law_numbers_in ds P X → ds.length = 1 := fun ds P X h => by
  unfold F__law_numbers_in at h
  split at h
  · rfl
  · exact h.elim
theorem ok__law_numbers_in (T : Tx w K mg) : FnOk P w K mg base CX0 2 T._law_numbers_in.f T._law_numbers_in.fd ["_law_text"] (Lift (cfx T ([] : List Nat) 1) (af0 F__law_numbers_in)) :=
  T._law_numbers_in.F.ok (k := 1) sc__law_numbers_in (Lift.len (cf := (cfx T ([] : List Nat) 1)) (F := af0 (F__law_numbers_in)) (fun ds P X h => F__law_numbers_in_len ds _ X h)) (fun cdv A outer s H vs Q E hr h => ⟨_, (show Eb _ (cfx T ([] : List Nat) 1) W0 _ B__law_numbers_in from (b_cons (s_if (t_cmp op_notInA rl_inA e_str (e_var (pv 0) (by decide : ¬ (0 : Nat) ∈ ([] : List Nat))))
 (b_one (s_ret e_non))
 b_nil)
 (b_cons (s_setLc (j := 1) (own := [("_law_word", 2)]) (t := (.nm 2)) rfl sc__law_numbers_in.nd rfl rfl (sw_true rfl rfl rfl (by decide +kernel)) (by decide : ¬ (1 : Nat) ∈ ([] : List Nat)) (i_list (e_split (e_join e_str (e_slice sl_all rl_slA (e_split (e_var (pv 0) (by decide : ¬ (0 : Nat) ∈ ([] : List Nat))) e_str) (o_some e_int) o_none)) e_str)) (blkOk_by (own := [("_law_word", 2)]) (N := N__law_numbers_in) (sc := defScope s__law_numbers_in) (by decide +kernel)) (fun _ _ _ _ _ => (pg_name (i := 2) sc__law_numbers_in.nd rfl (Or.inl rfl))) (fun _ _ _ _ _ => ts_nil) (fun _ _ _ _ _ => (e_call (cg := (cfx T ([] : List Nat) 1)) (runOk (ok__law_figures T) (hr.mono (by decide)) T._law_figures.b (fun σ => at00 σ)) F__law_figures_len (by decide : ∀ i ∈ ([] : List Nat), 1 ≤ i) (by rfl) T._law_figures.mg T._law_figures.F.kp (a_cons (e_var (pv 2) (by decide : ¬ (2 : Nat) ∈ ([] : List Nat))) a_nil))) (by decide : ∀ i ∈ ([2] : List Nat), ¬ i ∈ ([] : List Nat)) (by decide : ∀ i ∈ ([2] : List Nat), i ∈ ([2] : List Nat)))
 (b_one (s_ret (e_if (t_cmp op_inA rl_inA e_non (e_var (pv 1) (by decide : ¬ (1 : Nat) ∈ ([] : List Nat)))) e_non (e_var (pv 1) (by decide : ¬ (1 : Nat) ∈ ([] : List Nat))))))))), bodyN F__law_numbers_in_len (fun ds P X h => by
      unfold F__law_numbers_in at h
      split at h
      · exact h
      · exact h.elim) rfl (by decide : ∀ i ∈ ([] : List Nat), 1 ≤ i) h⟩)
-- _law_is_one : 0:_law_text 1:_law_word 2:_law_numbers 3:_law_folded 4:_law_kind 5:_law_least 6:_law_by 7:_law_size
def B__law_is_one : AS := (sSeq (sPar 1 2 (aCons (aO oIx (aM1 mSplit (aV 0) (aC (.str ":"))) (aC (.int 0))) (aCons (aCall F__law_numbers_in (aCons (aV 0) aNil)) aNil)))
 (sSeq (sIf (aB (aO (oInA false) (aV 0) (aTup (aCons (aC (.str "neg")) (aCons (aC (.str "abs")) (aCons (aC (.str "sign")) (aCons (aC (.str "not")) (aCons (aC (.str "flip")) (aCons (aC (.str "lift")) (aCons (aC (.str "flat")) aNil))))))))))
 (sRet (aC (.bl true)))
 sNext)
 (sSeq (sSet 3 (aLst aNil))
 (sSeq (sFor (iL (aLst (aCons (aC (.str "fold:")) (aCons (aC (.str "scan:")) aNil)))) (Tg.a (.nm 4))
 (sSet 3 (aO oAddA (aV 3) (aLc (iL (aLst (aCons (aC (.str "add")) (aCons (aC (.str "mul")) (aCons (aC (.str "least")) (aCons (aC (.str "most")) aNil)))))) (Tg.a (.nm 6)) tY (aO oAddA (aV 4) (aV 6)) [6]))))
 (sSeq (sIf (aB (aO (oInA false) (aV 0) (aV 3)))
 (sRet (aC (.bl true)))
 sNext)
 (sSeq (sIf (aB (aO oIsN (aV 2) (aC .non)))
 (sRet (aC (.bl false)))
 sNext)
 (sSeq (sIf (aB (aO oEqA (aV 1) (aC (.str "axes"))))
 (sRet (aAnd (aO oLe (aF fLenA (aCons (aV 2) aNil)) (aC (.int 6))) (aO oEqA (aF fSorted (aCons (aV 2) aNil)) (aLr (aCons (aF fLenA (aCons (aV 2) aNil)) aNil)))))
 sNext)
 (sSeq (sIf (aB (aO oEqA (aV 1) (aC (.str "deal"))))
 (sRet (aAnd (aO oLe (aF fLenA (aCons (aV 2) aNil)) (aC (.int 6))) (aO oEqA (aLc (iL (aV 2)) (Tg.a (.nm 7)) (aTNot (aB (aCh oLe oLe (aC (.int 0)) (aV 7) (aC (.int 4000))))) (aV 7) [7]) (aLst aNil))))
 sNext)
 (sSeq (sSet 5 (aDisp [(.inr "turn", (aC .non)), (.inr "first", (aC (.int 0))), (.inr "past", (aC (.int 0))), (.inr "row", (aC (.int 0)))]))
 (sRet (aAnd (aO (oInD false) (aV 1) (aV 5)) (aAnd (aO oEqA (aF fLenA (aCons (aV 2) aNil)) (aC (.int 1))) (aOr (aO oIsN (aO oDget (aV 5) (aV 1)) (aC .non)) (aO oGe (aO oIx (aV 2) (aC (.int 0))) (aC (.int 0))))))))))))))))
def F__law_is_one : AF0 := fun ds P _ => match ds with
  | [a0] => B__law_is_one  (endP P NX) [some a0, none, none, none, none, none, none, none]
  | _ => False
theorem F__law_is_one_len : ∀ ds P X, F__law_is_one ds P X → ds.length = 1 := fun ds P X h => by
  unfold F__law_is_one at h
  split at h
  · rfl
  · exact h.elim
theorem ok__law_is_one (T : Tx w K mg) : FnOk P w K mg base CX0 3 T._law_is_one.f T._law_is_one.fd ["_law_text"] (Lift (cfx T ([] : List Nat) 1) (af0 F__law_is_one)) :=
  T._law_is_one.F.ok (k := 2) sc__law_is_one (Lift.len (cf := (cfx T ([] : List Nat) 1)) (F := af0 (F__law_is_one)) (fun ds P X h => F__law_is_one_len ds _ X h)) (fun cdv A outer s H vs Q E hr h => ⟨_, (show Eb _ (cfx T ([] : List Nat) 1) W0 _ B__law_is_one from (b_cons (s_par (i := 1) (j := 2) (by decide : ¬ (1 : Nat) ∈ ([] : List Nat)) (by decide : ¬ (2 : Nat) ∈ ([] : List Nat)) (a_cons (e_ix ix_seq rl_ix (e_split (e_var (pv 0) (by decide : ¬ (0 : Nat) ∈ ([] : List Nat))) e_str) e_int) (a_cons (e_call (cg := (cfx T ([] : List Nat) 1)) (runOk (ok__law_numbers_in T) (hr.mono (by decide)) T._law_numbers_in.b (fun σ => at00 σ)) F__law_numbers_in_len (by decide : ∀ i ∈ ([] : List Nat), 1 ≤ i) (by rfl) T._law_numbers_in.mg T._law_numbers_in.F.kp (a_cons (e_var (pv 0) (by decide : ¬ (0 : Nat) ∈ ([] : List Nat))) a_nil)) a_nil)) (fun h => ps_par (i := 1) (j := 2) (by rfl) sc__law_is_one.nd rfl rfl (by decide) rfl rfl h (by rfl)))
 (b_cons (s_if (t_cmp op_inA rl_inA (e_var (pv 0) (by decide : ¬ (0 : Nat) ∈ ([] : List Nat))) (e_tup (a_cons e_str (a_cons e_str (a_cons e_str (a_cons e_str (a_cons e_str (a_cons e_str (a_cons e_str a_nil)))))))))
 (b_one (s_ret e_bl))
 b_nil)
 (b_cons (s_set (i := 3) sc__law_is_one.nd rfl (Or.inl rfl) (by decide : ¬ (3 : Nat) ∈ ([] : List Nat)) (e_lst a_nil))
 (b_cons (s_for PassesOwn.never rfl (i_list (e_lst (a_cons e_str (a_cons e_str a_nil)))) (g_tg (t := (.nm 4)) (pg_name (i := 4) sc__law_is_one.nd rfl (Or.inr rfl)) (by decide : ∀ j ∈ ([4] : List Nat), ¬ j ∈ ([] : List Nat)))
 (b_one (s_set (i := 3) sc__law_is_one.nd rfl (Or.inl rfl) (by decide : ¬ (3 : Nat) ∈ ([] : List Nat)) (e_op op_addA rl_addA (e_var (pv 3) (by decide : ¬ (3 : Nat) ∈ ([] : List Nat))) (e_new (f_lc (own := [("_law_by", 6)]) (t := (.nm 6)) rfl sc__law_is_one.nd (i_list (e_lst (a_cons e_str (a_cons e_str (a_cons e_str (a_cons e_str a_nil)))))) (blkOk_by (own := [("_law_by", 6)]) (N := N__law_is_one) (sc := defScope s__law_is_one) (by decide +kernel)) (fun _ _ _ _ _ => (pg_name (i := 6) sc__law_is_one.nd rfl (Or.inl rfl))) (fun _ _ _ _ _ => ts_nil) (fun _ _ _ _ _ => (e_op op_addA rl_addA (e_var (pv 4) (by decide : ¬ (4 : Nat) ∈ ([] : List Nat))) (e_var (pv 6) (by decide : ¬ (6 : Nat) ∈ ([] : List Nat))))) (by decide : ∀ i ∈ ([6] : List Nat), ¬ i ∈ ([] : List Nat)) (by decide : ∀ i ∈ ([6] : List Nat), i ∈ ([6] : List Nat))))))))
 (b_cons (s_if (t_cmp op_inA rl_inA (e_var (pv 0) (by decide : ¬ (0 : Nat) ∈ ([] : List Nat))) (e_var (pv 3) (by decide : ¬ (3 : Nat) ∈ ([] : List Nat))))
 (b_one (s_ret e_bl))
 b_nil)
 (b_cons (s_if (t_cmp op_isN rl_isN (e_var (pv 2) (by decide : ¬ (2 : Nat) ∈ ([] : List Nat))) e_non)
 (b_one (s_ret e_bl))
 b_nil)
 (b_cons (s_if (t_cmp (op_eqA hr.units) rl_eqA (e_var (pv 1) (by decide : ¬ (1 : Nat) ∈ ([] : List Nat))) e_str)
 (b_one (s_ret (e_and (e_cmp op_le rl_le (e_callB call_lenA rl_lenA (by rfl) T.b_len (by decide +kernel) (a_cons (e_var (pv 2) (by decide : ¬ (2 : Nat) ∈ ([] : List Nat))) a_nil)) e_int) (e_one (e_cmp (op_eqA hr.units) rl_eqA (e_callB cr_sortedA rl_sorted (by rfl) T.b_sorted (by decide +kernel) (a_cons (e_var (pv 2) (by decide : ¬ (2 : Nat) ∈ ([] : List Nat))) a_nil)) (e_new (f_listR (by rfl) T.b_list (by rfl) T.b_range rfl (e_callB call_lenA rl_lenA (by rfl) T.b_len (by decide +kernel) (a_cons (e_var (pv 2) (by decide : ¬ (2 : Nat) ∈ ([] : List Nat))) a_nil)))))))))
 b_nil)
 (b_cons (s_if (t_cmp (op_eqA hr.units) rl_eqA (e_var (pv 1) (by decide : ¬ (1 : Nat) ∈ ([] : List Nat))) e_str)
 (b_one (s_ret (e_and (e_cmp op_le rl_le (e_callB call_lenA rl_lenA (by rfl) T.b_len (by decide +kernel) (a_cons (e_var (pv 2) (by decide : ¬ (2 : Nat) ∈ ([] : List Nat))) a_nil)) e_int) (e_one (e_cmp (op_eqA hr.units) rl_eqA (e_new (f_lc (own := [("_law_size", 7)]) (t := (.nm 7)) rfl sc__law_is_one.nd (i_list (e_var (pv 2) (by decide : ¬ (2 : Nat) ∈ ([] : List Nat)))) (blkOk_by (own := [("_law_size", 7)]) (N := N__law_is_one) (sc := defScope s__law_is_one) (by decide +kernel)) (fun _ _ _ _ _ => (pg_name (i := 7) sc__law_is_one.nd rfl (Or.inl rfl))) (fun _ _ _ _ _ => (ts_one (t_not (t_chain op_le op_le rl_le rl_le e_int (e_var (pv 7) (by decide : ¬ (7 : Nat) ∈ ([] : List Nat))) e_int)))) (fun _ _ _ _ _ => (e_var (pv 7) (by decide : ¬ (7 : Nat) ∈ ([] : List Nat)))) (by decide : ∀ i ∈ ([7] : List Nat), ¬ i ∈ ([] : List Nat)) (by decide : ∀ i ∈ ([7] : List Nat), i ∈ ([7] : List Nat)))) (e_lst a_nil))))))
 b_nil)
 (b_cons (s_set (i := 5) sc__law_is_one.nd rfl (Or.inl rfl) (by decide : ¬ (5 : Nat) ∈ ([] : List Nat)) (e_new (f_disp (kas := [(.inr "turn", (aC .non)), (.inr "first", (aC (.int 0))), (.inr "past", (aC (.int 0))), (.inr "row", (aC (.int 0)))]) (pps_cons pe_str e_non (pps_cons pe_str e_int (pps_cons pe_str e_int (pps_cons pe_str e_int pps_nil)))) (by decide +kernel : ([.inr "turn", .inr "first", .inr "past", .inr "row"] : List Key).Nodup))))
 (b_one (s_ret (e_and (e_din (hu_of hr) (e_var (pv 1) (by decide : ¬ (1 : Nat) ∈ ([] : List Nat))) (e_var (pv 5) (by decide : ¬ (5 : Nat) ∈ ([] : List Nat)))) (e_and (e_cmp (op_eqA hr.units) rl_eqA (e_callB call_lenA rl_lenA (by rfl) T.b_len (by decide +kernel) (a_cons (e_var (pv 2) (by decide : ¬ (2 : Nat) ∈ ([] : List Nat))) a_nil)) e_int) (e_one (e_or (e_cmp op_isN rl_isN (e_dget (hu_of hr) (e_var (pv 5) (by decide : ¬ (5 : Nat) ∈ ([] : List Nat))) (e_var (pv 1) (by decide : ¬ (1 : Nat) ∈ ([] : List Nat)))) e_non) (e_one (e_cmp op_ge rl_ge (e_ix ix_seq rl_ix (e_var (pv 2) (by decide : ¬ (2 : Nat) ∈ ([] : List Nat))) e_int) e_int)))))))))))))))))), bodyN F__law_is_one_len (fun ds P X h => by
      unfold F__law_is_one at h
      split at h
      · exact h
      · exact h.elim) rfl (by decide : ∀ i ∈ ([] : List Nat), 1 ≤ i) h⟩)
-- _law_is_two : 0:_law_text 1:_law_cells 2:_law_word
def B__law_is_two : AS := (sSeq (sSet 1 (aLst (aCons (aC (.str "add")) (aCons (aC (.str "sub")) (aCons (aC (.str "mul")) (aCons (aC (.str "div")) (aCons (aC (.str "rest")) (aCons (aC (.str "least")) (aCons (aC (.str "most")) (aCons (aC (.str "less")) (aCons (aC (.str "same")) aNil)))))))))))
 (sRet (aOr (aO (oInA false) (aV 0) (aO oAddA (aV 1) (aLst (aCons (aC (.str "join")) (aCons (aC (.str "pick")) aNil))))) (aO (oInA false) (aV 0) (aLc (iL (aV 1)) (Tg.a (.nm 2)) tY (aO oAddA (aC (.str "table:")) (aV 2)) [2])))))
def F__law_is_two : AF0 := fun ds P _ => match ds with
  | [a0] => B__law_is_two  (endP P NX) [some a0, none, none]
  | _ => False
theorem F__law_is_two_len : ∀ ds P X, F__law_is_two ds P X → ds.length = 1 := fun ds P X h => by
  unfold F__law_is_two at h
  split at h
  · rfl
  · exact h.elim
theorem ok__law_is_two (T : Tx w K mg) : FnOk P w K mg base CX0 1 T._law_is_two.f T._law_is_two.fd ["_law_text"] (Lift (cfx T ([] : List Nat) 1) (af0 F__law_is_two)) :=
  T._law_is_two.F.ok (k := 0) sc__law_is_two (Lift.len (cf := (cfx T ([] : List Nat) 1)) (F := af0 (F__law_is_two)) (fun ds P X h => F__law_is_two_len ds _ X h)) (fun cdv A outer s H vs Q E hr h => ⟨_, (show Eb _ (cfx T ([] : List Nat) 1) W0 _ B__law_is_two from (b_cons (s_set (i := 1) sc__law_is_two.nd rfl (Or.inl rfl) (by decide : ¬ (1 : Nat) ∈ ([] : List Nat)) (e_lst (a_cons e_str (a_cons e_str (a_cons e_str (a_cons e_str (a_cons e_str (a_cons e_str (a_cons e_str (a_cons e_str (a_cons e_str a_nil)))))))))))
 (b_one (s_ret (e_or (e_cmp op_inA rl_inA (e_var (pv 0) (by decide : ¬ (0 : Nat) ∈ ([] : List Nat))) (e_op op_addA rl_addA (e_var (pv 1) (by decide : ¬ (1 : Nat) ∈ ([] : List Nat))) (e_lst (a_cons e_str (a_cons e_str a_nil))))) (e_one (e_cmp op_inA rl_inA (e_var (pv 0) (by decide : ¬ (0 : Nat) ∈ ([] : List Nat))) (e_new (f_lc (own := [("_law_word", 2)]) (t := (.nm 2)) rfl sc__law_is_two.nd (i_list (e_var (pv 1) (by decide : ¬ (1 : Nat) ∈ ([] : List Nat)))) (blkOk_by (own := [("_law_word", 2)]) (N := N__law_is_two) (sc := defScope s__law_is_two) (by decide +kernel)) (fun _ _ _ _ _ => (pg_name (i := 2) sc__law_is_two.nd rfl (Or.inl rfl))) (fun _ _ _ _ _ => ts_nil) (fun _ _ _ _ _ => (e_op op_addA rl_addA e_str (e_var (pv 2) (by decide : ¬ (2 : Nat) ∈ ([] : List Nat))))) (by decide : ∀ i ∈ ([2] : List Nat), ¬ i ∈ ([] : List Nat)) (by decide : ∀ i ∈ ([2] : List Nat), i ∈ ([2] : List Nat))))))))))), bodyN F__law_is_two_len (fun ds P X h => by
      unfold F__law_is_two at h
      split at h
      · exact h
      · exact h.elim) rfl (by decide : ∀ i ∈ ([] : List Nat), 1 ≤ i) h⟩)
-- _law_is_rank : 0:_law_text 1:_law_many 2:_law_numbers 3:_law_number
def B__law_is_rank : AS := (sSeq (sSet 2 (aCall F__law_numbers_in (aCons (aV 0) aNil)))
 (sSeq (sIf (aTOr (aB (aO oNeA (aO oIx (aM1 mSplit (aV 0) (aC (.str ":"))) (aC (.int 0))) (aC (.str "rank")))) (aTOr (aB (aO oIsN (aV 2) (aC .non))) (aB (aO oNeA (aF fLenA (aCons (aV 2) aNil)) (aV 1)))))
 (sRet (aC (.bl false)))
 sNext)
 (sRet (aO oEqA (aLc (iL (aV 2)) (Tg.a (.nm 3)) (aTNot (aB (aCh oLe oLe (aU oNeg (aC (.int 6))) (aV 3) (aC (.int 6))))) (aV 3) [3]) (aLst aNil)))))
def F__law_is_rank : AF0 := fun ds P _ => match ds with
  | [a0, a1] => B__law_is_rank  (endP P NX) [some a0, some a1, none, none]
  | _ => False
theorem F__law_is_rank_len : ∀ ds P X, F__law_is_rank ds P X → ds.length = 2 := fun ds P X h => by
  unfold F__law_is_rank at h
  split at h
  · rfl
  · exact h.elim
theorem ok__law_is_rank (T : Tx w K mg) : FnOk P w K mg base CX0 3 T._law_is_rank.f T._law_is_rank.fd ["_law_text", "_law_many"] (Lift (cfx T ([] : List Nat) 2) (af0 F__law_is_rank)) :=
  T._law_is_rank.F.ok (k := 2) sc__law_is_rank (Lift.len (cf := (cfx T ([] : List Nat) 2)) (F := af0 (F__law_is_rank)) (fun ds P X h => F__law_is_rank_len ds _ X h)) (fun cdv A outer s H vs Q E hr h => ⟨_, (show Eb _ (cfx T ([] : List Nat) 2) W0 _ B__law_is_rank from (b_cons (s_set (i := 2) sc__law_is_rank.nd rfl (Or.inl rfl) (by decide : ¬ (2 : Nat) ∈ ([] : List Nat)) (e_call (cg := (cfx T ([] : List Nat) 1)) (runOk (ok__law_numbers_in T) (hr.mono (by decide)) T._law_numbers_in.b (fun σ => at00 σ)) F__law_numbers_in_len (by decide : ∀ i ∈ ([] : List Nat), 1 ≤ i) (by rfl) T._law_numbers_in.mg T._law_numbers_in.F.kp (a_cons (e_var (pv 0) (by decide : ¬ (0 : Nat) ∈ ([] : List Nat))) a_nil)))
 (b_cons (s_if (t_w (w_or (t_cmp (op_neA hr.units) rl_neA (e_ix ix_seq rl_ix (e_split (e_var (pv 0) (by decide : ¬ (0 : Nat) ∈ ([] : List Nat))) e_str) e_int) e_str) (w_or (t_cmp op_isN rl_isN (e_var (pv 2) (by decide : ¬ (2 : Nat) ∈ ([] : List Nat))) e_non) (w_or1 (t_cmp (op_neA hr.units) rl_neA (e_callB call_lenA rl_lenA (by rfl) T.b_len (by decide +kernel) (a_cons (e_var (pv 2) (by decide : ¬ (2 : Nat) ∈ ([] : List Nat))) a_nil)) (e_var (pv 1) (by decide : ¬ (1 : Nat) ∈ ([] : List Nat))))))))
 (b_one (s_ret e_bl))
 b_nil)
 (b_one (s_ret (e_cmp (op_eqA hr.units) rl_eqA (e_new (f_lc (own := [("_law_number", 3)]) (t := (.nm 3)) rfl sc__law_is_rank.nd (i_list (e_var (pv 2) (by decide : ¬ (2 : Nat) ∈ ([] : List Nat)))) (blkOk_by (own := [("_law_number", 3)]) (N := N__law_is_rank) (sc := defScope s__law_is_rank) (by decide +kernel)) (fun _ _ _ _ _ => (pg_name (i := 3) sc__law_is_rank.nd rfl (Or.inl rfl))) (fun _ _ _ _ _ => (ts_one (t_not (t_chain op_le op_le rl_le rl_le (e_un un_neg rl_neg e_int) (e_var (pv 3) (by decide : ¬ (3 : Nat) ∈ ([] : List Nat))) e_int)))) (fun _ _ _ _ _ => (e_var (pv 3) (by decide : ¬ (3 : Nat) ∈ ([] : List Nat)))) (by decide : ∀ i ∈ ([3] : List Nat), ¬ i ∈ ([] : List Nat)) (by decide : ∀ i ∈ ([3] : List Nat), i ∈ ([3] : List Nat)))) (e_lst a_nil))))))), bodyN F__law_is_rank_len (fun ds P X h => by
      unfold F__law_is_rank at h
      split at h
      · exact h
      · exact h.elim) rfl (by decide : ∀ i ∈ ([] : List Nat), 2 ≤ i) h⟩)
-- _law_due : 0:_law_a_thing 1:_law_many 2:_law_text
def B__law_due : AS := (sSeq (sIf (aTOr (aTNot (aB (aIs (isT "tuple") (aV 0)))) (aTNot (aB (aCh oLe oLe (aC (.int 1)) (aF fLenA (aCons (aV 0) aNil)) (aC (.int 4))))))
 (sRet (aC (.bl false)))
 sNext)
 (sSeq (sIf (aB (aO oNeA (aLc (iT (aV 0)) (Tg.a (.nm 2)) (aTNot (aB (aIs (isT "str") (aV 2)))) (aV 2) [2]) (aLst aNil)))
 (sRet (aC (.bl false)))
 sNext)
 (sSeq (sIf (aB (aO oNeA (aLc (iT (aSl slA (aV 0) pN (pS (aU oNeg (aC (.int 1)))))) (Tg.a (.nm 2)) (aTNot (aB (aCall F__law_is_rank (aCons (aV 2) (aCons (aV 1) aNil))))) (aV 2) [2]) (aLst aNil)))
 (sRet (aC (.bl false)))
 sNext)
 (sRet (aIf (aB (aO oEqA (aV 1) (aC (.int 1)))) (aCall F__law_is_one (aCons (aO oIx (aV 0) (aU oNeg (aC (.int 1)))) aNil)) (aCall F__law_is_two (aCons (aO oIx (aV 0) (aU oNeg (aC (.int 1)))) aNil)))))))
def F__law_due : AF0 := fun ds P _ => match ds with
  | [a0, a1] => B__law_due  (endP P NX) [some a0, some a1, none]
  | _ => False
theorem F__law_due_len : ∀ ds P X, F__law_due ds P X → ds.length = 2 := fun ds P X h => by
  unfold F__law_due at h
  split at h
  · rfl
  · exact h.elim
theorem ok__law_due (T : Tx w K mg) : FnOk P w K mg base CX0 4 T._law_due.f T._law_due.fd ["_law_a_thing", "_law_many"] (Lift (cfx T ([] : List Nat) 2) (af0 F__law_due)) :=
  T._law_due.F.ok (k := 3) sc__law_due (Lift.len (cf := (cfx T ([] : List Nat) 2)) (F := af0 (F__law_due)) (fun ds P X h => F__law_due_len ds _ X h)) (fun cdv A outer s H vs Q E hr h => ⟨_, (show Eb _ (cfx T ([] : List Nat) 2) W0 _ B__law_due from (b_cons (s_if (t_w (w_or (t_not (t_val (e_isi (by rfl) T.b_isinstance (e_var (pv 0) (by decide : ¬ (0 : Nat) ∈ ([] : List Nat))) (pe_bltn (v := V.ty "tuple") (by rfl) T.b_tuple (by decide +kernel) rfl) (.ty "tuple") is_tuple))) (w_or1 (t_not (t_chain op_le op_le rl_le rl_le e_int (e_callB call_lenA rl_lenA (by rfl) T.b_len (by decide +kernel) (a_cons (e_var (pv 0) (by decide : ¬ (0 : Nat) ∈ ([] : List Nat))) a_nil)) e_int)))))
 (b_one (s_ret e_bl))
 b_nil)
 (b_cons (s_if (t_cmp (op_neA hr.units) rl_neA (e_new (f_lc (own := [("_law_text", 2)]) (t := (.nm 2)) rfl sc__law_due.nd (i_tup (e_var (pv 0) (by decide : ¬ (0 : Nat) ∈ ([] : List Nat)))) (blkOk_by (own := [("_law_text", 2)]) (N := N__law_due) (sc := defScope s__law_due) (by decide +kernel)) (fun _ _ _ _ _ => (pg_name (i := 2) sc__law_due.nd rfl (Or.inl rfl))) (fun _ _ _ _ _ => (ts_one (t_not (t_val (e_isi (by rfl) T.b_isinstance (e_var (pv 2) (by decide : ¬ (2 : Nat) ∈ ([] : List Nat))) (pe_bltn (v := V.ty "str") (by rfl) T.b_str (by decide +kernel) rfl) (.ty "str") is_str))))) (fun _ _ _ _ _ => (e_var (pv 2) (by decide : ¬ (2 : Nat) ∈ ([] : List Nat)))) (by decide : ∀ i ∈ ([2] : List Nat), ¬ i ∈ ([] : List Nat)) (by decide : ∀ i ∈ ([2] : List Nat), i ∈ ([2] : List Nat)))) (e_lst a_nil))
 (b_one (s_ret e_bl))
 b_nil)
 (b_cons (s_if (t_cmp (op_neA hr.units) rl_neA (e_new (f_lc (own := [("_law_text", 2)]) (t := (.nm 2)) rfl sc__law_due.nd (i_tup (e_slice sl_all rl_slA (e_var (pv 0) (by decide : ¬ (0 : Nat) ∈ ([] : List Nat))) o_none (o_some (e_un un_neg rl_neg e_int)))) (blkOk_by (own := [("_law_text", 2)]) (N := N__law_due) (sc := defScope s__law_due) (by decide +kernel)) (fun _ _ _ _ _ => (pg_name (i := 2) sc__law_due.nd rfl (Or.inl rfl))) (fun _ _ _ _ _ => (ts_one (t_not (t_val (e_call (cg := (cfx T ([] : List Nat) 2)) (runOk (ok__law_is_rank T) (hr.mono (by decide)) T._law_is_rank.b (fun σ => at00 σ)) F__law_is_rank_len (by decide : ∀ i ∈ ([] : List Nat), 2 ≤ i) (by rfl) T._law_is_rank.mg T._law_is_rank.F.kp (a_cons (e_var (pv 2) (by decide : ¬ (2 : Nat) ∈ ([] : List Nat))) (a_cons (e_var (pv 1) (by decide : ¬ (1 : Nat) ∈ ([] : List Nat))) a_nil))))))) (fun _ _ _ _ _ => (e_var (pv 2) (by decide : ¬ (2 : Nat) ∈ ([] : List Nat)))) (by decide : ∀ i ∈ ([2] : List Nat), ¬ i ∈ ([] : List Nat)) (by decide : ∀ i ∈ ([2] : List Nat), i ∈ ([2] : List Nat)))) (e_lst a_nil))
 (b_one (s_ret e_bl))
 b_nil)
 (b_one (s_ret (e_if (t_cmp (op_eqA hr.units) rl_eqA (e_var (pv 1) (by decide : ¬ (1 : Nat) ∈ ([] : List Nat))) e_int) (e_call (cg := (cfx T ([] : List Nat) 1)) (runOk (ok__law_is_one T) (hr.mono (by decide)) T._law_is_one.b (fun σ => at00 σ)) F__law_is_one_len (by decide : ∀ i ∈ ([] : List Nat), 1 ≤ i) (by rfl) T._law_is_one.mg T._law_is_one.F.kp (a_cons (e_ix ix_seq rl_ix (e_var (pv 0) (by decide : ¬ (0 : Nat) ∈ ([] : List Nat))) (e_un un_neg rl_neg e_int)) a_nil)) (e_call (cg := (cfx T ([] : List Nat) 1)) (runOk (ok__law_is_two T) (hr.mono (by decide)) T._law_is_two.b (fun σ => at00 σ)) F__law_is_two_len (by decide : ∀ i ∈ ([] : List Nat), 1 ≤ i) (by rfl) T._law_is_two.mg T._law_is_two.F.kp (a_cons (e_ix ix_seq rl_ix (e_var (pv 0) (by decide : ¬ (0 : Nat) ∈ ([] : List Nat))) (e_un un_neg rl_neg e_int)) a_nil))))))))), bodyN F__law_due_len (fun ds P X h => by
      unfold F__law_due at h
      split at h
      · exact h
      · exact h.elim) rfl (by decide : ∀ i ∈ ([] : List Nat), 2 ≤ i) h⟩)
-- _law_any_text : 0:_law_feed_here 1:_law_some
def B__law_any_text : AS := (sSeq (sSet 1 (aC (.str "neg abs sign not add sub mul div rest least most less same flip lift flat join pick fold scan")))
 (sSeq (sSet 1 (aO oAddA (aV 1) (aC (.str " table rank turn first past row axes deal upto turn:-7 turn:0 first:3 past:0 row:-1"))))
 (sSeq (sSet 1 (aO oAddA (aV 1) (aC (.str " first:-0 past:03 turn:1,2 first: axes:0 axes:1,0 axes:0,0 axes:1 axes:2,0,1 turn:+1"))))
 (sSeq (sSet 1 (aO oAddA (aV 1) (aC (.str " axes:0,1,2,3,4,5 axes:0,1,2,3,4,5,6 deal:2,3 deal:0 deal: deal:4001 deal:4000 deal:-1"))))
 (sSeq (sSet 1 (aO oAddA (aV 1) (aC (.str " deal:1,1,1,1,1,1,1 fold:add fold:sub fold:least fold:add: scan:most scan: scan:same"))))
 (sSeq (sSet 1 (aO oAddA (aV 1) (aC (.str " table:same table:div table:join table:neg table: rank:1 rank:-6 rank:7 rank:1,2 rank:-7,0"))))
 (sSeq (sSet 1 (aO oAddA (aV 1) (aC (.str " flip: rank:0,6 rank:1,2,3"))))
 (sRet (aCallO 0 F__law_of (aCons (aO oAddA (aM1 mSplit (aV 1) (aC (.str " "))) (aLst (aCons (aO oAddA (aC (.str "turn:")) (aO oMulA (aC (.str "9")) (aC (.int 30)))) (aCons (aC (.str "turn:1 ")) (aCons (aC (.str "")) (aCons (aC (.str "Flip")) (aCons (aO oAddA (aC (.str "turn:")) (aO oMulA (aC (.str "9")) (aC (.int 4400)))) aNil))))))) aNil))))))))))
def F__law_any_text : AFo := fun a0 ds P _ => match ds with
  | [] => B__law_any_text  (endO P NX) [some a0, none]
  | _ => False
theorem F__law_any_text_len : ∀ o ds P X, F__law_any_text o ds P X → ds.length + 1 = 1 := fun o ds P X h => by
  unfold F__law_any_text at h
  split at h
  · rfl
  · exact h.elim
theorem ok__law_any_text (T : Tx w K mg) : FnOk P w K mg base CX0 3 T._law_any_text.f T._law_any_text.fd ["_law_feed_here"] (Lift (cfx T ([0] : List Nat) 1) (afo F__law_any_text)) :=
  T._law_any_text.F.ok (k := 2) sc__law_any_text (Lift.len (cf := (cfx T ([0] : List Nat) 1)) (F := afo (F__law_any_text)) (fun ds P X h => by
      cases ds with
      | nil => exact h.elim
      | cons o ds => exact F__law_any_text_len o ds _ X h)) (fun cdv A outer s H vs Q E hr h => ⟨_, (show Eb _ (cfx T ([0] : List Nat) 1) W0 _ B__law_any_text from (b_cons (s_set (i := 1) sc__law_any_text.nd rfl (Or.inl rfl) (by decide : ¬ (1 : Nat) ∈ ([0] : List Nat)) e_str)
 (b_cons (s_set (i := 1) sc__law_any_text.nd rfl (Or.inl rfl) (by decide : ¬ (1 : Nat) ∈ ([0] : List Nat)) (e_op op_addA rl_addA (e_var (pv 1) (by decide : ¬ (1 : Nat) ∈ ([0] : List Nat))) e_str))
 (b_cons (s_set (i := 1) sc__law_any_text.nd rfl (Or.inl rfl) (by decide : ¬ (1 : Nat) ∈ ([0] : List Nat)) (e_op op_addA rl_addA (e_var (pv 1) (by decide : ¬ (1 : Nat) ∈ ([0] : List Nat))) e_str))
 (b_cons (s_set (i := 1) sc__law_any_text.nd rfl (Or.inl rfl) (by decide : ¬ (1 : Nat) ∈ ([0] : List Nat)) (e_op op_addA rl_addA (e_var (pv 1) (by decide : ¬ (1 : Nat) ∈ ([0] : List Nat))) e_str))
 (b_cons (s_set (i := 1) sc__law_any_text.nd rfl (Or.inl rfl) (by decide : ¬ (1 : Nat) ∈ ([0] : List Nat)) (e_op op_addA rl_addA (e_var (pv 1) (by decide : ¬ (1 : Nat) ∈ ([0] : List Nat))) e_str))
 (b_cons (s_set (i := 1) sc__law_any_text.nd rfl (Or.inl rfl) (by decide : ¬ (1 : Nat) ∈ ([0] : List Nat)) (e_op op_addA rl_addA (e_var (pv 1) (by decide : ¬ (1 : Nat) ∈ ([0] : List Nat))) e_str))
 (b_cons (s_set (i := 1) sc__law_any_text.nd rfl (Or.inl rfl) (by decide : ¬ (1 : Nat) ∈ ([0] : List Nat)) (e_op op_addA rl_addA (e_var (pv 1) (by decide : ¬ (1 : Nat) ∈ ([0] : List Nat))) e_str))
 (b_one (s_ret (e_callO (cg := (cfx T ([0] : List Nat) 2)) (i := 0) (runOk (ok__law_of T) (hr.mono (by decide)) T._law_of.b (fun σ => at00 σ)) F__law_of_len (by decide : 0 ∈ ([0] : List Nat)) (by decide : ∀ i ∈ ([0] : List Nat), i = 0 ∨ 2 ≤ i) (by rfl) T._law_of.mg T._law_of.F.kp (pv 0) (by decide : (0 : Nat) ∈ ([0] : List Nat)) (a_cons (e_op op_addA rl_addA (e_split (e_var (pv 1) (by decide : ¬ (1 : Nat) ∈ ([0] : List Nat))) e_str) (e_lst (a_cons (e_op op_addA rl_addA e_str (e_op op_mulA rl_mulA e_str e_int)) (a_cons e_str (a_cons e_str (a_cons e_str (a_cons (e_op op_addA rl_addA e_str (e_op op_mulA rl_mulA e_str e_int)) a_nil))))))) a_nil)))))))))))), bodyON F__law_any_text_len (fun o ds P X h => by
      unfold F__law_any_text at h
      split at h
      · exact h
      · exact h.elim) rfl (by decide : 0 ∈ ([0] : List Nat)) (by decide : ∀ i ∈ ([0] : List Nat), i = 0 ∨ 1 ≤ i) (by decide : 0 < 1) h⟩)
-- _law_verb : 0:_law_feed_here 1:_law_rank 2:_law_a_thing 3:_law_at 4:_law_other 5:_law_some 6:_law_k
def B__law_verb : AS := (sSeq (sSet 1 (aCallO 0 F__law_of (aCons (aLst (aCons (aCallO 0 F__law_rank_two aNil) (aCons (aO oAddA (aC (.str "rank:")) (aF fStrA (aCons (aO oSub (aCallO 0 F__law_draw (aCons (aC (.int 13)) aNil)) (aC (.int 6))) aNil))) aNil))) aNil)))
 (sSeq (sSet 2 (aO oAddA (aF fTuple (aCons (aLc (iR1 (aCons (aCallO 0 F__law_draw (aCons (aC (.int 5)) aNil)) aNil)) (Tg.a (.nm 6)) tY (aV 1) [6]) aNil)) (aTup (aCons (aCallO 0 F__law_any_text aNil) aNil))))
 (sSeq (sSet 3 (aCallO 0 F__law_draw (aCons (aF fLenA (aCons (aV 2) aNil)) aNil)))
 (sSeq (sSet 4 (aCallO 0 F__law_of (aCons (aLst (aCons (aCallO 0 F__law_any_text aNil) (aCons (aC .non) (aCons (aC (.int 3)) (aCons (aC (.bl true)) (aCons (aTup (aCons (aC (.str "flip")) aNil)) (aCons (aC (.str "")) (aCons (aV 1) aNil)))))))) aNil)))
 (sSeq (sSet 5 (aLst (aCons (aV 2) (aCons (aV 2) (aCons (aO oAddA (aO oAddA (aSl slA (aV 2) pN (pS (aV 3))) (aTup (aCons (aV 4) aNil))) (aSl slA (aV 2) (pS (aO oAddA (aV 3) (aC (.int 1)))) pN)) (aCons (aO oAddA (aSl slA (aV 2) pN (pS (aV 3))) (aSl slA (aV 2) (pS (aO oAddA (aV 3) (aC (.int 1)))) pN)) aNil))))))
 (sSeq (sSet 5 (aO oAddA (aV 5) (aLst (aCons (aF fList (aCons (aV 2) aNil)) (aCons (aO oIx (aV 2) (aU oNeg (aC (.int 1)))) aNil)))))
 (sRet (aCallO 0 F__law_of (aCons (aO oAddA (aV 5) (aLst (aCons (aU oRevT (aV 2)) (aCons (aC .non) (aCons (aC (.int 4)) (aCons (aC (.dic [])) (aCons (aTup aNil) (aCons (aTup (aCons (aC .non) aNil)) (aCons (aO oAddA (aV 2) (aSl slA (aV 2) (pS (aU oNeg (aC (.int 1)))) pN)) aNil))))))))) aNil)))))))))
def F__law_verb : AFo := fun a0 ds P _ => match ds with
  | [] => B__law_verb  (endO P NX) [some a0, none, none, none, none, none, none]
  | _ => False
theorem F__law_verb_len : ∀ o ds P X, F__law_verb o ds P X → ds.length + 1 = 1 := fun o ds P X h => by
  unfold F__law_verb at h
  split at h
  · rfl
  · exact h.elim
theorem ok__law_verb (T : Tx w K mg) : FnOk P w K mg base CX0 4 T._law_verb.f T._law_verb.fd ["_law_feed_here"] (Lift (cfx T ([0] : List Nat) 1) (afo F__law_verb)) :=
  T._law_verb.F.ok (k := 3) sc__law_verb (Lift.len (cf := (cfx T ([0] : List Nat) 1)) (F := afo (F__law_verb)) (fun ds P X h => by
      cases ds with
      | nil => exact h.elim
      | cons o ds => exact F__law_verb_len o ds _ X h)) (fun cdv A outer s H vs Q E hr h => ⟨_, (show Eb _ (cfx T ([0] : List Nat) 1) W0 _ B__law_verb from (b_cons (s_set (i := 1) sc__law_verb.nd rfl (Or.inr rfl) (by decide : ¬ (1 : Nat) ∈ ([0] : List Nat)) (e_callO (cg := (cfx T ([0] : List Nat) 2)) (i := 0) (runOk (ok__law_of T) (hr.mono (by decide)) T._law_of.b (fun σ => at00 σ)) F__law_of_len (by decide : 0 ∈ ([0] : List Nat)) (by decide : ∀ i ∈ ([0] : List Nat), i = 0 ∨ 2 ≤ i) (by rfl) T._law_of.mg T._law_of.F.kp (pv 0) (by decide : (0 : Nat) ∈ ([0] : List Nat)) (a_cons (e_lst (a_cons (e_callO (cg := (cfx T ([0] : List Nat) 1)) (i := 0) (runOk (ok__law_rank_two T) (hr.mono (by decide)) T._law_rank_two.b (fun σ => at00 σ)) F__law_rank_two_len (by decide : 0 ∈ ([0] : List Nat)) (by decide : ∀ i ∈ ([0] : List Nat), i = 0 ∨ 1 ≤ i) (by rfl) T._law_rank_two.mg T._law_rank_two.F.kp (pv 0) (by decide : (0 : Nat) ∈ ([0] : List Nat)) a_nil) (a_cons (e_op op_addA rl_addA e_str (e_callTy call_strA rl_strA (by rfl) T.b_str (by decide +kernel) (a_cons (e_op op_sub rl_sub (e_callO (cg := (cfx T ([0] : List Nat) 2)) (i := 0) (runOk (ok__law_draw T) (hr.mono (by decide)) T._law_draw.b (fun σ => at00 σ)) F__law_draw_len (by decide : 0 ∈ ([0] : List Nat)) (by decide : ∀ i ∈ ([0] : List Nat), i = 0 ∨ 2 ≤ i) (by rfl) T._law_draw.mg T._law_draw.F.kp (pv 0) (by decide : (0 : Nat) ∈ ([0] : List Nat)) (a_cons e_int a_nil)) e_int) a_nil))) a_nil))) a_nil)))
 (b_cons (s_set (i := 2) sc__law_verb.nd rfl (Or.inl rfl) (by decide : ¬ (2 : Nat) ∈ ([0] : List Nat)) (e_op op_addA rl_addA (e_callTy call_tuple_of rl_tuple (by rfl) T.b_tuple (by decide +kernel) (a_cons (e_new (f_lc (own := [("_law_k", 6)]) (t := (.nm 6)) rfl sc__law_verb.nd (i_range1 (by rfl) T.b_range (a_cons (e_callO (cg := (cfx T ([0] : List Nat) 2)) (i := 0) (runOk (ok__law_draw T) (hr.mono (by decide)) T._law_draw.b (fun σ => at00 σ)) F__law_draw_len (by decide : 0 ∈ ([0] : List Nat)) (by decide : ∀ i ∈ ([0] : List Nat), i = 0 ∨ 2 ≤ i) (by rfl) T._law_draw.mg T._law_draw.F.kp (pv 0) (by decide : (0 : Nat) ∈ ([0] : List Nat)) (a_cons e_int a_nil)) a_nil)) (blkOk_by (own := [("_law_k", 6)]) (N := N__law_verb) (sc := defScope s__law_verb) (by decide +kernel)) (fun _ _ _ _ _ => (pg_name (i := 6) sc__law_verb.nd rfl (Or.inl rfl))) (fun _ _ _ _ _ => ts_nil) (fun _ _ _ _ _ => (e_var (pv 1) (by decide : ¬ (1 : Nat) ∈ ([0] : List Nat)))) (by decide : ∀ i ∈ ([6] : List Nat), ¬ i ∈ ([0] : List Nat)) (by decide : ∀ i ∈ ([6] : List Nat), i ∈ ([6] : List Nat)))) a_nil)) (e_tup (a_cons (e_callO (cg := (cfx T ([0] : List Nat) 1)) (i := 0) (runOk (ok__law_any_text T) (hr.mono (by decide)) T._law_any_text.b (fun σ => at00 σ)) F__law_any_text_len (by decide : 0 ∈ ([0] : List Nat)) (by decide : ∀ i ∈ ([0] : List Nat), i = 0 ∨ 1 ≤ i) (by rfl) T._law_any_text.mg T._law_any_text.F.kp (pv 0) (by decide : (0 : Nat) ∈ ([0] : List Nat)) a_nil) a_nil))))
 (b_cons (s_set (i := 3) sc__law_verb.nd rfl (Or.inl rfl) (by decide : ¬ (3 : Nat) ∈ ([0] : List Nat)) (e_callO (cg := (cfx T ([0] : List Nat) 2)) (i := 0) (runOk (ok__law_draw T) (hr.mono (by decide)) T._law_draw.b (fun σ => at00 σ)) F__law_draw_len (by decide : 0 ∈ ([0] : List Nat)) (by decide : ∀ i ∈ ([0] : List Nat), i = 0 ∨ 2 ≤ i) (by rfl) T._law_draw.mg T._law_draw.F.kp (pv 0) (by decide : (0 : Nat) ∈ ([0] : List Nat)) (a_cons (e_callB call_lenA rl_lenA (by rfl) T.b_len (by decide +kernel) (a_cons (e_var (pv 2) (by decide : ¬ (2 : Nat) ∈ ([0] : List Nat))) a_nil)) a_nil)))
 (b_cons (s_set (i := 4) sc__law_verb.nd rfl (Or.inl rfl) (by decide : ¬ (4 : Nat) ∈ ([0] : List Nat)) (e_callO (cg := (cfx T ([0] : List Nat) 2)) (i := 0) (runOk (ok__law_of T) (hr.mono (by decide)) T._law_of.b (fun σ => at00 σ)) F__law_of_len (by decide : 0 ∈ ([0] : List Nat)) (by decide : ∀ i ∈ ([0] : List Nat), i = 0 ∨ 2 ≤ i) (by rfl) T._law_of.mg T._law_of.F.kp (pv 0) (by decide : (0 : Nat) ∈ ([0] : List Nat)) (a_cons (e_lst (a_cons (e_callO (cg := (cfx T ([0] : List Nat) 1)) (i := 0) (runOk (ok__law_any_text T) (hr.mono (by decide)) T._law_any_text.b (fun σ => at00 σ)) F__law_any_text_len (by decide : 0 ∈ ([0] : List Nat)) (by decide : ∀ i ∈ ([0] : List Nat), i = 0 ∨ 1 ≤ i) (by rfl) T._law_any_text.mg T._law_any_text.F.kp (pv 0) (by decide : (0 : Nat) ∈ ([0] : List Nat)) a_nil) (a_cons e_non (a_cons e_int (a_cons e_bl (a_cons (e_tup (a_cons e_str a_nil)) (a_cons e_str (a_cons (e_var (pv 1) (by decide : ¬ (1 : Nat) ∈ ([0] : List Nat))) a_nil)))))))) a_nil)))
 (b_cons (s_set (i := 5) sc__law_verb.nd rfl (Or.inl rfl) (by decide : ¬ (5 : Nat) ∈ ([0] : List Nat)) (e_lst (a_cons (e_var (pv 2) (by decide : ¬ (2 : Nat) ∈ ([0] : List Nat))) (a_cons (e_var (pv 2) (by decide : ¬ (2 : Nat) ∈ ([0] : List Nat))) (a_cons (e_op op_addA rl_addA (e_op op_addA rl_addA (e_slice sl_all rl_slA (e_var (pv 2) (by decide : ¬ (2 : Nat) ∈ ([0] : List Nat))) o_none (o_some (e_var (pv 3) (by decide : ¬ (3 : Nat) ∈ ([0] : List Nat))))) (e_tup (a_cons (e_var (pv 4) (by decide : ¬ (4 : Nat) ∈ ([0] : List Nat))) a_nil))) (e_slice sl_all rl_slA (e_var (pv 2) (by decide : ¬ (2 : Nat) ∈ ([0] : List Nat))) (o_some (e_op op_addA rl_addA (e_var (pv 3) (by decide : ¬ (3 : Nat) ∈ ([0] : List Nat))) e_int)) o_none)) (a_cons (e_op op_addA rl_addA (e_slice sl_all rl_slA (e_var (pv 2) (by decide : ¬ (2 : Nat) ∈ ([0] : List Nat))) o_none (o_some (e_var (pv 3) (by decide : ¬ (3 : Nat) ∈ ([0] : List Nat))))) (e_slice sl_all rl_slA (e_var (pv 2) (by decide : ¬ (2 : Nat) ∈ ([0] : List Nat))) (o_some (e_op op_addA rl_addA (e_var (pv 3) (by decide : ¬ (3 : Nat) ∈ ([0] : List Nat))) e_int)) o_none)) a_nil))))))
 (b_cons (s_set (i := 5) sc__law_verb.nd rfl (Or.inl rfl) (by decide : ¬ (5 : Nat) ∈ ([0] : List Nat)) (e_op op_addA rl_addA (e_var (pv 5) (by decide : ¬ (5 : Nat) ∈ ([0] : List Nat))) (e_lst (a_cons (e_new (f_list (by rfl) T.b_list (by decide +kernel) (e_var (pv 2) (by decide : ¬ (2 : Nat) ∈ ([0] : List Nat))))) (a_cons (e_ix ix_seq rl_ix (e_var (pv 2) (by decide : ¬ (2 : Nat) ∈ ([0] : List Nat))) (e_un un_neg rl_neg e_int)) a_nil)))))
 (b_one (s_ret (e_callO (cg := (cfx T ([0] : List Nat) 2)) (i := 0) (runOk (ok__law_of T) (hr.mono (by decide)) T._law_of.b (fun σ => at00 σ)) F__law_of_len (by decide : 0 ∈ ([0] : List Nat)) (by decide : ∀ i ∈ ([0] : List Nat), i = 0 ∨ 2 ≤ i) (by rfl) T._law_of.mg T._law_of.F.kp (pv 0) (by decide : (0 : Nat) ∈ ([0] : List Nat)) (a_cons (e_op op_addA rl_addA (e_var (pv 5) (by decide : ¬ (5 : Nat) ∈ ([0] : List Nat))) (e_lst (a_cons (e_revT (e_var (pv 2) (by decide : ¬ (2 : Nat) ∈ ([0] : List Nat)))) (a_cons e_non (a_cons e_int (a_cons (e_new (f_dict (pos := default) pe_dnewK)) (a_cons (e_tup a_nil) (a_cons (e_tup (a_cons e_non a_nil)) (a_cons (e_op op_addA rl_addA (e_var (pv 2) (by decide : ¬ (2 : Nat) ∈ ([0] : List Nat))) (e_slice sl_all rl_slA (e_var (pv 2) (by decide : ¬ (2 : Nat) ∈ ([0] : List Nat))) (o_some (e_un un_neg rl_neg e_int)) o_none)) a_nil))))))))) a_nil))))))))))), bodyON F__law_verb_len (fun o ds P X h => by
      unfold F__law_verb at h
      split at h
      · exact h
      · exact h.elim) rfl (by decide : 0 ∈ ([0] : List Nat)) (by decide : ∀ i ∈ ([0] : List Nat), i = 0 ∨ 1 ≤ i) (by decide : 0 < 1) h⟩)
-- law : 0:_law_script 1:_law_feed_here 2:_law_turn 3:_law_a_thing 4:_law_due_here
def B_law : AS := (sSeq (sSet 1 (aCall F__law_feed (aCons (aV 0) aNil)))
 (sSeq (sFor (iR1 (aCons (aF fMax2 (aCons (aC (.int 8)) (aCons (aF fMin2 (aCons (aC (.int 30)) (aCons (aO oMulA (aC (.int 2)) (aF fLenA (aCons (aV 0) aNil))) aNil))) aNil))) aNil)) (Tg.a (.nm 2))
 (sFor (iL (aLst (aCons (aCallO 1 F__law_verb aNil) (aCons (aTup (aCons (aCallO 1 F__law_any_text aNil) aNil)) (aCons (aCallO 1 F__law_verb_for (aCons (aTup (aCons (aC (.int 2)) (aCons (aC (.int 3)) aNil))) aNil)) (aCons (aCallO 1 F__law_verb_of_two aNil) aNil)))))) (Tg.a (.nm 3))
 (sSeq (sSet 4 (aLst (aCons (aCall F__law_due (aCons (aV 3) (aCons (aC (.int 1)) aNil))) (aCons (aCall F__law_due (aCons (aV 3) (aCons (aC (.int 1)) aNil))) (aCons (aCall F__law_due (aCons (aV 3) (aCons (aC (.int 2)) aNil))) aNil)))))
 (sIf (aB (aO oNeA (aF fRepr (aCons (aLst (aCons (aCallD [.int 1] F_is_verb (aCons (aV 3) aNil)) (aCons (aCallK 1 1 F_is_verb (fun ds es => ds ++ es) (aCons (aV 3) aNil) (aCons (aC (.int 1)) aNil)) (aCons (aCallK 0 2 F_is_verb swp aNil (aCons (aC (.int 2)) (aCons (aV 3) aNil))) aNil)))) aNil)) (aF fRepr (aCons (aV 4) aNil))))
 (sRet (aC (.bl false)))
 sNext))))
 (sRet (aC (.bl true)))))
def F_law : AF0 := fun ds P _ => match ds with
  | [a0] => B_law  (endP P NX) [some a0, none, none, none, none]
  | _ => False
theorem F_law_len : ∀ ds P X, F_law ds P X → ds.length = 1 := fun ds P X h => by
  unfold F_law at h
  split at h
  · rfl
  · exact h.elim
theorem ok_law (T : Tx w K mg) {f0 : Addr} {fd0 : FuncData} (F0 : Fun K "law" "law" s_law f0 fd0) : FnG P w K mg base CX0 8 f0 fd0 ["_law_script"] (Lift (cfx T ([1] : List Nat) 1) (af0 F_law)) :=
  okG F0 (k := 7) sc_law (Lift.len (cf := (cfx T ([1] : List Nat) 1)) (F := af0 (F_law)) (fun ds P X h => F_law_len ds _ X h)) (fun cdv A outer s H vs Q E hr gd h => have hg := And.intro gd (units66 hr)
    ⟨_, (show Eb _ (cfx T ([1] : List Nat) 1) W0 _ B_law from (b_cons (s_setO (i := 1) sc_law.nd rfl (Or.inl rfl) (by decide : (1 : Nat) ∈ ([1] : List Nat)) (by decide : 1 ≤ 1) (f_call (cg := (cfx T ([] : List Nat) 1)) (runOk (ok__law_feed T) (hr.mono (by decide)) T._law_feed.b (fun σ => at00 σ)) F__law_feed_len (by decide : ∀ i ∈ ([] : List Nat), 1 ≤ i) (by rfl) T._law_feed.mg T._law_feed.F.kp (a_cons (e_var (pv 0) (by decide : ¬ (0 : Nat) ∈ ([1] : List Nat))) a_nil)))
 (b_cons (s_for PassesOwn.never rfl (i_range1 (by rfl) T.b_range (a_cons (e_callB (call_max2 rfl) rl_max2 (by rfl) T.b_max (by decide +kernel) (a_cons e_int (a_cons (e_callB (call_min2 rfl) rl_min2 (by rfl) T.b_min (by decide +kernel) (a_cons e_int (a_cons (e_op op_mulA rl_mulA e_int (e_callB call_lenA rl_lenA (by rfl) T.b_len (by decide +kernel) (a_cons (e_var (pv 0) (by decide : ¬ (0 : Nat) ∈ ([1] : List Nat))) a_nil))) a_nil))) a_nil))) a_nil)) (g_tg (t := (.nm 2)) (pg_name (i := 2) sc_law.nd rfl (Or.inl rfl)) (by decide : ∀ j ∈ ([2] : List Nat), ¬ j ∈ ([1] : List Nat)))
 (b_one (s_for PassesOwn.never rfl (i_list (e_lst (a_cons (e_callO (cg := (cfx T ([0] : List Nat) 1)) (i := 1) (runOk (ok__law_verb T) (hr.mono (by decide)) T._law_verb.b (fun σ => at00 σ)) F__law_verb_len (by decide : 0 ∈ ([0] : List Nat)) (by decide : ∀ i ∈ ([0] : List Nat), i = 0 ∨ 1 ≤ i) (by rfl) T._law_verb.mg T._law_verb.F.kp (pv 1) (by decide : (1 : Nat) ∈ ([1] : List Nat)) a_nil) (a_cons (e_tup (a_cons (e_callO (cg := (cfx T ([0] : List Nat) 1)) (i := 1) (runOk (ok__law_any_text T) (hr.mono (by decide)) T._law_any_text.b (fun σ => at00 σ)) F__law_any_text_len (by decide : 0 ∈ ([0] : List Nat)) (by decide : ∀ i ∈ ([0] : List Nat), i = 0 ∨ 1 ≤ i) (by rfl) T._law_any_text.mg T._law_any_text.F.kp (pv 1) (by decide : (1 : Nat) ∈ ([1] : List Nat)) a_nil) a_nil)) (a_cons (e_callO (cg := (cfx T ([0] : List Nat) 2)) (i := 1) (runOk (ok__law_verb_for T) (hr.mono (by decide)) T._law_verb_for.b (fun σ => at00 σ)) F__law_verb_for_len (by decide : 0 ∈ ([0] : List Nat)) (by decide : ∀ i ∈ ([0] : List Nat), i = 0 ∨ 2 ≤ i) (by rfl) T._law_verb_for.mg T._law_verb_for.F.kp (pv 1) (by decide : (1 : Nat) ∈ ([1] : List Nat)) (a_cons (e_tup (a_cons e_int (a_cons e_int a_nil))) a_nil)) (a_cons (e_callO (cg := (cfx T ([0] : List Nat) 1)) (i := 1) (runOk (ok__law_verb_of_two T) (hr.mono (by decide)) T._law_verb_of_two.b (fun σ => at00 σ)) F__law_verb_of_two_len (by decide : 0 ∈ ([0] : List Nat)) (by decide : ∀ i ∈ ([0] : List Nat), i = 0 ∨ 1 ≤ i) (by rfl) T._law_verb_of_two.mg T._law_verb_of_two.F.kp (pv 1) (by decide : (1 : Nat) ∈ ([1] : List Nat)) a_nil) a_nil)))))) (g_tg (t := (.nm 3)) (pg_name (i := 3) sc_law.nd rfl (Or.inl rfl)) (by decide : ∀ j ∈ ([3] : List Nat), ¬ j ∈ ([1] : List Nat)))
 (b_cons (s_set (i := 4) sc_law.nd rfl (Or.inl rfl) (by decide : ¬ (4 : Nat) ∈ ([1] : List Nat)) (e_lst (a_cons (e_call (cg := (cfx T ([] : List Nat) 2)) (runOk (ok__law_due T) (hr.mono (by decide)) T._law_due.b (fun σ => at00 σ)) F__law_due_len (by decide : ∀ i ∈ ([] : List Nat), 2 ≤ i) (by rfl) T._law_due.mg T._law_due.F.kp (a_cons (e_var (pv 3) (by decide : ¬ (3 : Nat) ∈ ([1] : List Nat))) (a_cons e_int a_nil))) (a_cons (e_call (cg := (cfx T ([] : List Nat) 2)) (runOk (ok__law_due T) (hr.mono (by decide)) T._law_due.b (fun σ => at00 σ)) F__law_due_len (by decide : ∀ i ∈ ([] : List Nat), 2 ≤ i) (by rfl) T._law_due.mg T._law_due.F.kp (a_cons (e_var (pv 3) (by decide : ¬ (3 : Nat) ∈ ([1] : List Nat))) (a_cons e_int a_nil))) (a_cons (e_call (cg := (cfx T ([] : List Nat) 2)) (runOk (ok__law_due T) (hr.mono (by decide)) T._law_due.b (fun σ => at00 σ)) F__law_due_len (by decide : ∀ i ∈ ([] : List Nat), 2 ≤ i) (by rfl) T._law_due.mg T._law_due.F.kp (a_cons (e_var (pv 3) (by decide : ¬ (3 : Nat) ∈ ([1] : List Nat))) (a_cons e_int a_nil))) a_nil)))))
 (b_one (s_if (t_cmp (op_neA hr.units) rl_neA (e_callB (call_reprW hg) rl_repr (by rfl) T.b_repr (by decide +kernel) (a_cons (e_lst (a_cons (e_callD (dd := [.int 1]) (cg := (cfx T ([] : List Nat) 2)) (runD (ok_is_verb T) (hr.mono (by decide)) T.is_verb.db (.cons T.is_verb.dr .nil)) (fun _ _ _ _ h => h) F_is_verb_len (by decide : ∀ i ∈ ([] : List Nat), 2 ≤ i) (by rfl) T.is_verb.mg T.is_verb.F.kp (fun _ => .cons (.int _) .nil) (a_cons (e_var (pv 3) (by decide : ¬ (3 : Nat) ∈ ([1] : List Nat))) a_nil)) (a_cons (e_callK (cg := (cfx T ([] : List Nat) 2)) (runK (ok_is_verb T) (hr.mono (by decide)) T.is_verb.kb) (fun _ _ _ _ h => h) F_is_verb_len (by decide : ∀ i ∈ ([] : List Nat), 2 ≤ i) (by rfl) T.is_verb.mg T.is_verb.F.kp gok_app (a_cons (e_var (pv 3) (by decide : ¬ (3 : Nat) ∈ ([1] : List Nat))) a_nil) (k_cons e_int k_nil)) (a_cons (e_callK0 (cg := (cfx T ([] : List Nat) 2)) (runK (ok_is_verb T) (hr.mono (by decide)) (kbn_swp T.is_verb.F (fun _ _ _ _ _ _ _ _ => rfl))) (fun _ _ _ _ h => h) F_is_verb_len (by decide : ∀ i ∈ ([] : List Nat), 2 ≤ i) (by rfl) T.is_verb.mg T.is_verb.F.kp gok_swp (k_cons e_int (k_cons (e_var (pv 3) (by decide : ¬ (3 : Nat) ∈ ([1] : List Nat))) k_nil))) a_nil)))) a_nil)) (e_callB (call_reprW hg) rl_repr (by rfl) T.b_repr (by decide +kernel) (a_cons (e_var (pv 4) (by decide : ¬ (4 : Nat) ∈ ([1] : List Nat))) a_nil)))
 (b_one (s_ret e_bl))
 b_nil))))))
 (b_one (s_ret e_bl))))), bodyN F_law_len (fun ds P X h => by
      unfold F_law at h
      split at h
      · exact h
      · exact h.elim) rfl (by decide : ∀ i ∈ ([1] : List Nat), 1 ≤ i) h⟩)
end
end Cr

/-! AlP: plain laws: sequencing, comprehensions, loops, parts of texts. -/
namespace Al
open PySem PySem.Builtin PySem.Builtin.Str PyProof.Rows L2 Cr TL NumText
theorem seq_k {s t : AS} {A : AK} {ρ : Ev} (h : ∀ K, K = t A → s { A with nx := K } ρ) : sSeq s t A ρ := h _ rfl
/-! ### comprehensions -/
theorem back1 {i : Nat} : ∀ (k : Nat) (ρ ρ2 : Ev), (∀ j x, k + j = i → ρ2.set j x = ρ.set j x) → (i < k → ρ2 = ρ) → ρ2.length = ρ.length → backD [i] k ρ ρ2 = ρ
  | k, [], [], _, _, _ => rfl
  | k, a :: r, [], _, _, h => by cases h
  | k, [], b :: t, _, _, h => by cases h
  | k, a :: r, b :: t, h, h2, hl => by
    unfold backD
    have e1 : (([i] : List Nat).contains k) = decide (k = i) := by by_cases c : k = i <;> simp [c]
    rw [e1]
    by_cases c : k = i
    · subst c
      have := h 0 none rfl
      simp only [List.set_cons_zero, List.cons.injEq, true_and] at this
      subst this
      rw [back1 (k + 1) t t (fun _ _ _ => rfl) (fun _ => rfl) rfl]
      simp
    · by_cases c2 : i < k
      · cases h2 c2
        rw [back1 (k + 1) r r (fun _ _ _ => rfl) (fun _ => rfl) rfl]
        simp [c]
      · have hj := h (i - k) none (by omega)
        obtain ⟨m, hm⟩ : ∃ m, i - k = m + 1 := ⟨i - k - 1, by omega⟩
        rw [hm] at hj
        simp only [List.set_cons_succ, List.cons.injEq] at hj
        obtain ⟨rfl, _⟩ := hj
        rw [back1 (k + 1) r t (fun j x e => by
          have := h (j + 1) x (by omega)
          simpa using this) (fun z => by omega) (by simpa using hl)]
        simp [c]
theorem back0 {i : Nat} {ρ ρ2 : Ev} (h : ∀ x, ρ2.set i x = ρ.set i x) : backD [i] 0 ρ ρ2 = ρ := back1 0 ρ ρ2 (fun j x e => by simp at e; subst e; exact h x) (fun z => by omega) (by have := congrArg List.length (h none); simpa using this)
theorem lcGo_of {tt : AT} {te : AE} {i : Nat} (p : D → Bool) (f : D → D) {ρ0 : Ev} : ∀ (ds : List D) (ρ : Ev) (P : List D → Ev → Prop), (∀ x, ρ.set i x = ρ0.set i x) →
    (∀ d ∈ ds, ∀ Q : Bool → Ev → Prop, Q (p d) (ρ0.set i (some d)) → tt (ρ0.set i (some d)) Q NX) →
    (∀ d ∈ ds, p d = true → ∀ Q : D → Ev → Prop, Q (f d) (ρ0.set i (some d)) → te (ρ0.set i (some d)) Q NX) →
    (∀ ρ2, (∀ x, ρ2.set i x = ρ0.set i x) → P ((ds.filter p).map f) ρ2) → lcGo (Tg.a (.nm i)) tt te [i] ds ρ P
  | [], ρ, P, hρ, ht, he, h => h ρ hρ
  | d :: ds, ρ, P, hρ, ht, he, h => by
    unfold lcGo
    show tt ((wipeD ρ [i]).set i (some d)) _ NX
    have e1 : (wipeD ρ [i]).set i (some d) = ρ0.set i (some d) := by
      show (ρ.set i none).set i (some d) = _
      rw [List.set_set, hρ]
    have e2 : ∀ x, (ρ0.set i (some d)).set i x = ρ0.set i x := fun x => List.set_set ..
    rw [e1]
    refine ht d (by simp) _ ?_
    cases hp : p d with
    | false =>
      rw [if_neg (by simp)]
      refine lcGo_of p f ds _ P e2 (fun d' h' => ht d' (by simp [h'])) (fun d' h' => he d' (by simp [h'])) fun ρ2 h2 => ?_
      have := h ρ2 h2
      rwa [List.filter_cons_of_neg (by simp [hp])] at this
    | true =>
      rw [if_pos rfl]
      refine he d (by simp) hp _ ?_
      refine lcGo_of p f ds _ _ e2 (fun d' h' => ht d' (by simp [h'])) (fun d' h' => he d' (by simp [h'])) fun ρ2 h2 => ?_
      have := h ρ2 h2
      rwa [List.filter_cons_of_pos hp] at this
/-- a comprehension whose test and item are plain -/
theorem lc_of {tt : AT} {te : AE} {i : Nat} (p : D → Bool) (f : D → D) {ds : List D} {ρ : Ev} {P : D → Ev → Prop} (hl : ds.length < sizeLine)
    (ht : ∀ d ∈ ds, ∀ Q : Bool → Ev → Prop, Q (p d) (ρ.set i (some d)) → tt (ρ.set i (some d)) Q NX)
    (he : ∀ d ∈ ds, p d = true → ∀ Q : D → Ev → Prop, Q (f d) (ρ.set i (some d)) → te (ρ.set i (some d)) Q NX) (h : P (.lst ((ds.filter p).map f)) ρ) :
    ds.length < sizeLine ∧ lcGo (Tg.a (.nm i)) tt te [i] ds ρ fun es ρ2 => P (.lst es) (backD [i] 0 ρ ρ2) :=
  ⟨hl, lcGo_of p f ds ρ _ (fun _ => rfl) ht he fun ρ2 h2 => by rw [back0 h2]; exact h⟩
theorem lc_map {te : AE} {i : Nat} (f : D → D) {ds : List D} {ρ : Ev} {P : D → Ev → Prop} (hl : ds.length < sizeLine)
    (he : ∀ d ∈ ds, ∀ Q : D → Ev → Prop, Q (f d) (ρ.set i (some d)) → te (ρ.set i (some d)) Q NX) (h : P (.lst (ds.map f)) ρ) :
    ds.length < sizeLine ∧ lcGo (Tg.a (.nm i)) tY te [i] ds ρ fun es ρ2 => P (.lst es) (backD [i] 0 ρ ρ2) := by
  refine lc_of (fun _ => true) f hl (fun d _ Q q => q) (fun d hd _ => he d hd) ?_
  rwa [List.filter_eq_self.mpr (fun _ _ => rfl)]
theorem lc_fil {tt : AT} {te : AE} {i : Nat} (p : D → Bool) {ds : List D} {ρ : Ev} {P : D → Ev → Prop} (hl : ds.length < sizeLine)
    (ht : ∀ d ∈ ds, ∀ Q : Bool → Ev → Prop, Q (p d) (ρ.set i (some d)) → tt (ρ.set i (some d)) Q NX)
    (he : ∀ d ∈ ds, ∀ Q : D → Ev → Prop, Q d (ρ.set i (some d)) → te (ρ.set i (some d)) Q NX) (h : P (.lst (ds.filter p)) ρ) :
    ds.length < sizeLine ∧ lcGo (Tg.a (.nm i)) tt te [i] ds ρ fun es ρ2 => P (.lst es) (backD [i] 0 ρ ρ2) := by
  refine lc_of p id hl ht (fun d hd _ => he d hd) ?_
  rwa [List.map_id]
theorem aLc_of {I : AI} {tt : AT} {te : AE} {i : Nat} {X : XP} (ds : List D) (p : D → Bool) (f : D → D) {ρ : Ev} {P : D → Ev → Prop} (hi : ∀ Q : List D → Ev → Prop, Q ds ρ → I ρ Q X) (hl : ds.length < sizeLine)
    (ht : ∀ d ∈ ds, ∀ Q : Bool → Ev → Prop, Q (p d) (ρ.set i (some d)) → tt (ρ.set i (some d)) Q NX)
    (he : ∀ d ∈ ds, p d = true → ∀ Q : D → Ev → Prop, Q (f d) (ρ.set i (some d)) → te (ρ.set i (some d)) Q NX) (h : P (.lst ((ds.filter p).map f)) ρ) : aLc I (Tg.a (.nm i)) tt te [i] ρ P X := hi _ (lc_of p f hl ht he h)
theorem aLc_map {I : AI} {te : AE} {i : Nat} {X : XP} (ds : List D) (f : D → D) {ρ : Ev} {P : D → Ev → Prop} (hi : ∀ Q : List D → Ev → Prop, Q ds ρ → I ρ Q X) (hl : ds.length < sizeLine)
    (he : ∀ d ∈ ds, ∀ Q : D → Ev → Prop, Q (f d) (ρ.set i (some d)) → te (ρ.set i (some d)) Q NX) (h : P (.lst (ds.map f)) ρ) : aLc I (Tg.a (.nm i)) tY te [i] ρ P X := hi _ (lc_map f hl he h)
theorem aLc_fil {I : AI} {tt : AT} {te : AE} {i : Nat} {X : XP} (ds : List D) (p : D → Bool) {ρ : Ev} {P : D → Ev → Prop} (hi : ∀ Q : List D → Ev → Prop, Q ds ρ → I ρ Q X) (hl : ds.length < sizeLine)
    (ht : ∀ d ∈ ds, ∀ Q : Bool → Ev → Prop, Q (p d) (ρ.set i (some d)) → tt (ρ.set i (some d)) Q NX)
    (he : ∀ d ∈ ds, ∀ Q : D → Ev → Prop, Q d (ρ.set i (some d)) → te (ρ.set i (some d)) Q NX) (h : P (.lst (ds.filter p)) ρ) : aLc I (Tg.a (.nm i)) tt te [i] ρ P X := hi _ (lc_fil p hl ht he h)
/-- a comprehension with an invariant -/
theorem lc_inv {te : AE} {vs : List Nat} {g : AG} (I : List D → Ev → Prop) : ∀ (ds : List D) (pre : List D) (ρ : Ev) (P : List D → Ev → Prop), I pre ρ →
    (∀ d ∈ ds, ∀ es ρ, I es ρ → ∀ Q : D → Ev → Prop, (∀ e ρ3, I (es ++ [e]) ρ3 → Q e ρ3) → g d (wipeD ρ vs) fun ρ1 => te ρ1 Q NX) →
    (∀ es ρ, es.length = ds.length → I (pre ++ es) ρ → P es ρ) → lcGo g tY te vs ds ρ P
  | [], pre, ρ, P, hI, _, h => h [] ρ rfl (by rwa [List.append_nil])
  | d :: ds, pre, ρ, P, hI, st, h => by
    unfold lcGo
    refine st d (by simp) pre ρ hI _ fun e ρ3 h3 => ?_
    refine lc_inv I ds (pre ++ [e]) ρ3 _ h3 (fun d' h' => st d' (by simp [h'])) fun es ρ4 hl hI4 => ?_
    exact h (e :: es) ρ4 (by simp [hl]) (by rw [List.append_assoc] at hI4; exact hI4)
/-- a loop with an invariant -/
theorem for_inv {g : AG} {b : AS} {A : AK} (I : Nat → Ev → Prop) : ∀ (ds : List D) (n : Nat) (ρ : Ev), I n ρ →
    (∀ (d : D) (m : Nat) (ρ : Ev) (Kn : Ev → Prop), d ∈ ds → I m ρ → (∀ ρ', I (m + 1) ρ' → Kn ρ') → g d ρ fun ρ1 => b { A with nx := Kn, ct := Kn, bk := A.nx } ρ1) →
    (∀ ρ, I (n + ds.length) ρ → A.nx ρ) → forGo g b A ds ρ
  | [], n, ρ, hI, _, h => h ρ hI
  | d :: ds, n, ρ, hI, st, h => by
    unfold forGo
    refine st d n ρ _ (by simp) hI fun ρ' h' => ?_
    exact for_inv I ds (n + 1) ρ' h' (fun d' m ρ Kn hd => st d' m ρ Kn (by simp [hd])) fun ρ hI2 => h ρ (by rw [List.length_cons, ← Nat.add_assoc, Nat.add_right_comm]; exact hI2)
/-! ### signs -/
def sgn : D → Nat
  | .str ⟨⟨[c]⟩⟩ => c
  | _ => 0
theorem signs_map {α : Type} (h : Nat → α) (z : Str) : (signsD z).map (fun d => h (sgn d)) = (tl z).map h := by
  simp only [signsD, List.map_map]
  rfl
theorem bls_map {α : Type} (g : α → Bool) : ∀ l : List α, blsD (l.map fun d => D.bl (g d)) = some (l.map g)
  | [] => rfl
  | a :: l => by
    show (blsD (l.map fun d => D.bl (g d))).map (g a :: ·) = _
    rw [bls_map g l]; rfl
theorem ints_map : ∀ l : List Int, intsD (l.map D.int) = some l
  | [] => rfl
  | a :: l => by
    show (match intsD (l.map D.int) with | some ns => some (a :: ns) | none => none) = _
    rw [ints_map l]
theorem strs_map : ∀ l : List Str, strsD (l.map D.str) = some l
  | [] => rfl
  | a :: l => by
    show (match strsD (l.map D.str) with | some ns => some (a :: ns) | none => none) = _
    rw [strs_map l]
theorem atI0 {α : Type} (l : List α) : atI l 0 = l.head? := by
  cases l with
  | nil => rfl
  | cons a r =>
    unfold atI
    simp [ixN]
theorem signsD_len (z : Str) : (signsD z).length = z.length := by simp [signsD, Str.length]
theorem atI_in {α : Type} {l : List α} {i : Int} (h0 : 0 ≤ i) (h1 : i < l.length) : ∃ x, atI l i = some x ∧ x ∈ l := by
  unfold atI ixN
  rw [if_pos h0, if_pos h1]
  simp only [Option.bind_some]
  have : i.toNat < l.length := by omega
  exact ⟨l[i.toNat], List.getElem?_eq_getElem this, List.getElem_mem this⟩
theorem rng_mem {d : D} : ∀ {n : Nat} {lo : Int}, d ∈ rng lo n → ∃ i : Int, d = .int i ∧ lo ≤ i ∧ i < lo + n
  | 0, lo, h => by cases h
  | n + 1, lo, h => by
    rcases List.mem_cons.mp h with h | h
    · exact ⟨lo, h, by omega, by omega⟩
    · obtain ⟨i, e, h1, h2⟩ := rng_mem h
      exact ⟨i, e, by omega, by omega⟩
/-! ### slices -/
theorem cutD_tail (z : List D) (k : Nat) : cutD z (some (k : Int)) none = z.drop k := by
  unfold cutD
  rw [HT.sIx_nat, HT.sIx_none]
  by_cases h : k ≤ z.length
  · rw [Nat.min_eq_left h, List.take_of_length_le (by rw [List.length_drop]; omega)]
  · rw [Nat.min_eq_right (by omega), List.drop_length, List.drop_of_length_le (by omega)]; simp
theorem cutD_head (z : List D) (k : Nat) : cutD z none (some (k : Int)) = z.take k := by
  unfold cutD
  rw [HT.sIx_nat, HT.sIx_none, List.drop_zero, Nat.sub_zero]
  by_cases h : k ≤ z.length
  · rw [Nat.min_eq_left h]
  · rw [Nat.min_eq_right (by omega), List.take_length, List.take_of_length_le (by omega)]
theorem cutD_init (z : List D) : cutD z none (some (-1)) = z.dropLast := by
  unfold cutD
  rw [HT.sIx_none, List.drop_zero, Nat.sub_zero, List.dropLast_eq_take]
  congr 1
  unfold HT.sIx
  simp
  omega
theorem cutD_last (z : List D) : cutD z (some (-1)) none = z.drop (z.length - 1) := by
  unfold cutD
  rw [HT.sIx_none]
  have : HT.sIx z.length 0 (some (-1)) = z.length - 1 := by
    unfold HT.sIx
    simp
    omega
  rw [this, List.take_of_length_le (by rw [List.length_drop]; omega)]
/-! ### parts of texts -/
theorem at_one {x : Str} {c i : Nat} : StrLaws.At x ⟨#[c]⟩ x.length i ↔ x.cps.toList[i]? = some c := StrLaws.subAt_one x c i
theorem part_no {x : Str} {c : Nat} (h : c ∉ tl x) : Txt.partition x ⟨#[c]⟩ = (x, Str.empty, Str.empty) := by
  unfold Txt.partition
  rcases StrLaws.occ_head x ⟨#[c]⟩ 1 (Nat.le_refl 1) with ⟨h0, hn⟩ | ⟨i, r, h0, hi, hn⟩
  · rw [h0]
  · exact absurd (List.mem_of_getElem? (at_one.mp hi)) h
theorem part_yes {x : Str} {c : Nat} {a b : List Nat} (e : tl x = a ++ c :: b) (h : c ∉ a) : tl (Txt.partition x ⟨#[c]⟩).1 = a ∧ (Txt.partition x ⟨#[c]⟩).2.1 = ⟨#[c]⟩ ∧ tl (Txt.partition x ⟨#[c]⟩).2.2 = b := by
  have e' : x.cps.toList = a ++ c :: b := e
  unfold Txt.partition
  rcases StrLaws.occ_head x ⟨#[c]⟩ 1 (Nat.le_refl 1) with ⟨h0, hn⟩ | ⟨i, r, h0, hi, hn⟩
  · exact absurd (at_one.mpr (by rw [e']; simp)) (hn a.length)
  · have hi' := at_one.mp hi
    have ia : i = a.length := by
      rcases Nat.lt_trichotomy i a.length with l | l | l
      · rw [e', List.getElem?_append_left l] at hi'
        exact absurd (List.mem_of_getElem? hi') h
      · exact l
      · exact absurd (at_one.mpr (by rw [e']; simp)) (hn a.length l)
    subst ia
    rw [h0]
    have l1 : x.length = a.length + (b.length + 1) := by
      have := congrArg List.length e'
      simpa [Str.length] using this
    refine ⟨?_, rfl, ?_⟩
    · show (strSub x 0 a.length).cps.toList = a
      rw [StrLaws.strSub_toList, e']
      simp
    · show (strSub x (a.length + 1) x.length).cps.toList = b
      rw [StrLaws.strSub_toList, e', l1]
      have : a ++ c :: b = (a ++ [c]) ++ b := by simp
      rw [this, List.drop_append_of_le_length (by simp)]
      simp only [List.length_append, List.length_cons, List.length_nil, Nat.zero_add, Nat.le_refl, List.drop_of_length_le, List.nil_append]
      exact List.take_of_length_le (by omega)
end Al

/-! AlD: draws (shared by the laws over the plain layer). -/
namespace Cr
open PySem PySem.Builtin PySem.Builtin.Str PyProof.Rows L2 Al TL NumText
def FeedOk (k : Nat) (f : D) : Prop := ∃ (ns : List Int) (a l : Int), f = .lst [.lst (ns.map D.int), .int a, .int l] ∧ 0 ≤ a ∧ a ≤ k
theorem FeedOk.up {k j : Nat} {f : D} (h : FeedOk k f) (hj : k ≤ j) : FeedOk j f := by
  obtain ⟨ns, a, l, e, h1, h2⟩ := h
  exact ⟨ns, a, l, e, h1, by omega⟩
theorem at3_0 (x y z : D) : atI [x, y, z] 0 = some x := rfl
theorem at3_1 (x y z : D) : atI [x, y, z] 1 = some y := rfl
theorem at3_2 (x y z : D) : atI [x, y, z] 2 = some z := rfl
theorem ix3_1 (x y z : D) : ixN [x, y, z].length 1 = some 1 := by
  show ixN 3 1 = some 1
  decide
theorem ix3_2 (x y z : D) : ixN [x, y, z].length 2 = some 2 := by
  show ixN 3 2 = some 2
  decide
theorem abs_nn (i : Int) : ∃ j : Int, (if i < 0 then -i else i) = j := ⟨_, rfl⟩
theorem fmod_rng' (a : Int) {n : Int} (h : 0 < n) : 0 ≤ a.fmod n ∧ a.fmod n < n := ⟨Int.fmod_nonneg_of_pos a h, Int.fmod_lt_of_pos a h⟩
theorem mul_small {i j : Int} (h : -(2 ^ 64) < i ∧ i < 2 ^ 64) : MulOk i j := .inl (.inl h)
theorem mul_small' {i j : Int} (h : -(2 ^ 64) < j ∧ j < 2 ^ 64) : MulOk i j := .inl (.inr h)
theorem draw_ok {k : Nat} {f : D} {n : Int} {P : D → D → Prop} {X : XP} (hf : FeedOk k f) (n0 : 0 < n) (n1 : n < 1073741824) (kb : k < 1073741824) (q : ∀ d f', 0 ≤ d → d < n → FeedOk (k + 1) f' → P (.int d) f') : F__law_draw f [.int n] P X := by
  obtain ⟨ns, a, l, rfl, a0, ak⟩ := hf
  unfold F__law_draw B__law_draw
  have dv : ∀ i : Int, DivOk i n := fun i => .inl ⟨by omega, by omega⟩
  have ne : n ≠ 0 := by omega
  have fr : ∀ b : Int, 0 ≤ b → b ≤ k + 1 → ∀ l' : Int, ∀ i : Int, P (.int (i.fmod n)) (.lst [.lst (ns.map D.int), .int b, .int l']) := fun b b0 bk l' i => by
    obtain ⟨d0, d1⟩ := fmod_rng' i n0
    exact q _ _ d0 d1 ⟨ns, b, l', rfl, b0, by omega⟩
  refine seq_k fun K hK => ?_
  simp only [sSeq, sIf, sSet, sRet, sNext, sExpr, sAsg, sPar, aB, aO, aU, aV, aC, aF, aIf, aAnd, aOr, aNot, aTAnd, aTOr, aTNot, aTr, aCh, aIs, aCall, aTup, aLst, aCons, aNil, aM1, aSl, pN, pS, withV, vals, sl, List.set_cons_zero, List.set_cons_succ, List.set_nil, Option.map_some, endP, endO, at0s, if_true, if_false, Bool.false_eq_true, isT, tyS, fI, fIC, fLenA, Bool.not_true, Bool.not_false, iS, iL, iT, reduceCtorEq, aIxO, withL, sIxO, at3_2, ix3_2]
  split
  · refine ⟨ne, dv _, ?_⟩
    exact fr a a0 (by omega) _ _
  · rw [hK]
    clear hK
    refine seq_k fun K hK => ?_
    simp only [sSeq, sIf, sSet, sRet, sNext, sExpr, sAsg, sPar, aB, aO, aU, aV, aC, aF, aIf, aAnd, aOr, aNot, aTAnd, aTOr, aTNot, aTr, aCh, aIs, aCall, aTup, aLst, aCons, aNil, aM1, aSl, pN, pS, withV, vals, sl, List.set_cons_zero, List.set_cons_succ, List.set_nil, Option.map_some, endP, endO, at0s, if_true, if_false, Bool.false_eq_true, isT, tyS, fI, fIC, fLenA, Bool.not_true, Bool.not_false, iS, iL, iT, reduceCtorEq, aIxO, withL, sIxO, at3_1]
    rw [hK]; clear hK
    refine seq_k fun K hK => ?_
    simp only [sSeq, sIf, sSet, sRet, sNext, sExpr, sAsg, sPar, aB, aO, aU, aV, aC, aF, aIf, aAnd, aOr, aNot, aTAnd, aTOr, aTNot, aTr, aCh, aIs, aCall, aTup, aLst, aCons, aNil, aM1, aSl, pN, pS, withV, vals, sl, List.set_cons_zero, List.set_cons_succ, List.set_nil, Option.map_some, endP, endO, at0s, if_true, if_false, Bool.false_eq_true, isT, tyS, fI, fIC, fLenA, Bool.not_true, Bool.not_false, iS, iL, iT, reduceCtorEq, aIxO, withL, sIxO, oAddA, ix3_1]
    rw [hK]; clear hK
    refine seq_k fun K hK => ?_
    simp only [sSeq, sIf, sSet, sRet, sNext, sExpr, sAsg, sPar, aB, aO, aU, aV, aC, aF, aIf, aAnd, aOr, aNot, aTAnd, aTOr, aTNot, aTr, aCh, aIs, aCall, aTup, aLst, aCons, aNil, aM1, aSl, pN, pS, withV, vals, sl, List.set_cons_zero, List.set_cons_succ, List.set_nil, Option.map_some, endP, endO, at0s, if_true, if_false, Bool.false_eq_true, isT, tyS, fI, fIC, fLenA, Bool.not_true, Bool.not_false, iS, iL, iT, reduceCtorEq, oAddA, oMulA]
    refine ⟨mul_small ⟨by omega, by omega⟩, ?_⟩
    rw [hK]; clear hK
    refine seq_k fun K hK => ?_
    have key : ∀ cell : Int, K [some (.lst [.lst (ns.map D.int), .int (a + 1), .int l]), some (.int n), none, some (.int a), some (.int cell), none, none] := fun cell => by
      rw [hK]; clear hK
      refine seq_k fun K hK => ?_
      have k2 : K [some (.lst [.lst (ns.map D.int), .int (a + 1), .int l]), some (.int n), none, some (.int a), some (.int cell), none, none] := by
        rw [hK]; clear hK
        refine seq_k fun K hK => ?_
        simp only [sSeq, sIf, sSet, sRet, sNext, sExpr, sAsg, sPar, aB, aO, aU, aV, aC, aF, aIf, aAnd, aOr, aNot, aTAnd, aTOr, aTNot, aTr, aCh, aIs, aCall, aTup, aLst, aCons, aNil, aM1, aSl, pN, pS, withV, vals, sl, List.set_cons_zero, List.set_cons_succ, List.set_nil, Option.map_some, endP, endO, at0s, if_true, if_false, Bool.false_eq_true, isT, tyS, fI, fIC, fLenA, Bool.not_true, Bool.not_false, iS, iL, iT, reduceCtorEq, oAddA, oMulA]
        refine ⟨by decide, mul_small ⟨by decide, by decide⟩, mul_small' ⟨by decide, by decide⟩, by decide, ?_⟩
        rw [hK]; clear hK
        refine seq_k fun K hK => ?_
        simp only [sFor]
        simp only [sSeq, sIf, sSet, sRet, sNext, sExpr, sAsg, sPar, aB, aO, aU, aV, aC, aF, aIf, aAnd, aOr, aNot, aTAnd, aTOr, aTNot, aTr, aCh, aIs, aCall, aTup, aLst, aCons, aNil, aM1, aSl, pN, pS, withV, vals, sl, List.set_cons_zero, List.set_cons_succ, List.set_nil, Option.map_some, endP, endO, at0s, if_true, if_false, Bool.false_eq_true, isT, tyS, fI, fIC, fLenA, Bool.not_true, Bool.not_false, iS, iL, iT, reduceCtorEq, iR1, rng]
        refine ⟨⟨by decide, by decide⟩, ?_⟩
        refine for_inv (fun _ ρ => ∃ (v : Int) (w : Option D), ρ = [some (.lst [.lst (ns.map D.int), .int (a + 1), .int l]), some (.int n), none, some (.int a), some (.int cell), some (.int v), w] ∧ -(2 ^ 64) < v ∧ v < 2 ^ 64) _ 0 _ ⟨_, _, rfl, ?_, ?_⟩ ?_ ?_
        · have := (fmod_rng' ((cell.fmod 4294967311 + 65539 * a + 17) * 48271) (n := 4294967311) (by decide)).1; omega
        · have := (fmod_rng' ((cell.fmod 4294967311 + 65539 * a + 17) * 48271) (n := 4294967311) (by decide)).2; omega
        · rintro d m ρ Kn hd ⟨v, w, rfl, v0, v1⟩ hn
          obtain ⟨i, rfl, _, _⟩ := rng_mem hd
          simp only [Tg.a, gV]
          simp only [sSeq, sIf, sSet, sRet, sNext, sExpr, sAsg, sPar, aB, aO, aU, aV, aC, aF, aIf, aAnd, aOr, aNot, aTAnd, aTOr, aTNot, aTr, aCh, aIs, aCall, aTup, aLst, aCons, aNil, aM1, aSl, pN, pS, withV, vals, sl, List.set_cons_zero, List.set_cons_succ, List.set_nil, Option.map_some, endP, endO, at0s, if_true, if_false, Bool.false_eq_true, isT, tyS, fI, fIC, fLenA, Bool.not_true, Bool.not_false, iS, iL, iT, reduceCtorEq, oAddA, oMulA]
          refine ⟨mul_small ⟨by omega, by omega⟩, mul_small ⟨by decide, by decide⟩, by decide, hn _ ⟨_, _, rfl, ?_, ?_⟩⟩
          · refine Int.lt_of_lt_of_le ?_ (fmod_rng' _ (by decide)).1
            decide
          · refine Int.lt_of_lt_of_le (fmod_rng' _ (by decide)).2 ?_
            decide
        · rintro ρ ⟨v, w, rfl, _, _⟩
          show K _
          rw [hK]
          simp only [sSeq, sIf, sSet, sRet, sNext, sExpr, sAsg, sPar, aB, aO, aU, aV, aC, aF, aIf, aAnd, aOr, aNot, aTAnd, aTOr, aTNot, aTr, aCh, aIs, aCall, aTup, aLst, aCons, aNil, aM1, aSl, pN, pS, withV, vals, sl, List.set_cons_zero, List.set_cons_succ, List.set_nil, Option.map_some, endP, endO, at0s, if_true, if_false, Bool.false_eq_true, isT, tyS, fI, fIC, fLenA, Bool.not_true, Bool.not_false, iS, iL, iT, reduceCtorEq]
          refine ⟨.inl ⟨by decide, by decide⟩, ne, ?_⟩
          exact fr (a + 1) (by omega) (by omega) _ _
      simp only [sSeq, sIf, sSet, sRet, sNext, sExpr, sAsg, sPar, aB, aO, aU, aV, aC, aF, aIf, aAnd, aOr, aNot, aTAnd, aTOr, aTNot, aTr, aCh, aIs, aCall, aTup, aLst, aCons, aNil, aM1, aSl, pN, pS, withV, vals, sl, List.set_cons_zero, List.set_cons_succ, List.set_nil, Option.map_some, endP, endO, at0s, if_true, if_false, Bool.false_eq_true, isT, tyS, fI, fIC, fLenA, Bool.not_true, Bool.not_false, iS, iL, iT, reduceCtorEq, aIxO, withL, sIxO, at3_0, at3_1, ix3_2, fAbs, List.length_map]
      split
      · refine ⟨⟨by decide, by decide, by decide⟩, ?_⟩
        generalize (if cell < 0 then -cell else cell) = ac
        split
        · refine ⟨dv _, ne, ?_⟩
          exact fr (a + 1) (by omega) (by omega) _ _
        · exact k2
      · exact k2
    simp only [sSeq, sIf, sSet, sRet, sNext, sExpr, sAsg, sPar, aB, aO, aU, aV, aC, aF, aIf, aAnd, aOr, aNot, aTAnd, aTOr, aTNot, aTr, aCh, aIs, aCall, aTup, aLst, aCons, aNil, aM1, aSl, pN, pS, withV, vals, sl, List.set_cons_zero, List.set_cons_succ, List.set_nil, Option.map_some, endP, endO, at0s, if_true, if_false, Bool.false_eq_true, isT, tyS, fI, fIC, fLenA, Bool.not_true, Bool.not_false, iS, iL, iT, reduceCtorEq, aIxO, withL, sIxO, at3_0, oNeA, eqS, Nat.zero_le, true_and, List.length_nil]
    rw [List.length_map]
    split
    · next hn =>
      have hpos : 0 < ns.length := by
        cases ns with
        | nil => exact absurd hn (by decide)
        | cons _ _ => exact Nat.succ_pos _
      refine ⟨by omega, ?_⟩
      obtain ⟨j0, j1⟩ := fmod_rng' a (n := (ns.length : Int)) (by omega)
      obtain ⟨x, e, hx⟩ := atI_in (l := ns.map D.int) j0 (by rw [List.length_map]; exact j1)
      rw [List.mem_map] at hx
      obtain ⟨c, _, rfl⟩ := hx
      simp only [sSeq, sIf, sSet, sRet, sNext, sExpr, sAsg, sPar, aB, aO, aU, aV, aC, aF, aIf, aAnd, aOr, aNot, aTAnd, aTOr, aTNot, aTr, aCh, aIs, aCall, aTup, aLst, aCons, aNil, aM1, aSl, pN, pS, withV, vals, sl, List.set_cons_zero, List.set_cons_succ, List.set_nil, Option.map_some, endP, endO, at0s, if_true, if_false, Bool.false_eq_true, isT, tyS, fI, fIC, fLenA, Bool.not_true, Bool.not_false, iS, iL, iT, reduceCtorEq, oIx, oIxL, e]
      exact key c
    · exact key _
/-- one of several -/
theorem of_ok {k : Nat} {f : D} {ds : List D} {P : D → D → Prop} {X : XP} (hf : FeedOk k f) (n0 : 0 < ds.length) (n1 : ds.length < 1073741824) (kb : k < 1073741824) (q : ∀ d ∈ ds, ∀ f', FeedOk (k + 1) f' → P d f') : F__law_of f [.lst ds] P X := by
  unfold F__law_of B__law_of
  simp only [sSeq, sIf, sSet, sRet, sNext, sExpr, sAsg, sPar, aB, aO, aU, aV, aC, aF, aIf, aAnd, aOr, aNot, aTAnd, aTOr, aTNot, aTr, aCh, aIs, aCall, aTup, aLst, aCons, aNil, aM1, aSl, pN, pS, withV, vals, sl, List.set_cons_zero, List.set_cons_succ, List.set_nil, Option.map_some, endP, endO, at0s, if_true, if_false, Bool.false_eq_true, isT, tyS, fI, fIC, fLenA, Bool.not_true, Bool.not_false, iS, iL, iT, reduceCtorEq, aCallO]
  refine draw_ok hf (by omega) (by omega) kb fun d f' d0 d1 hf' => ?_
  obtain ⟨x, e, hx⟩ := atI_in d0 d1
  simp only [sSeq, sIf, sSet, sRet, sNext, sExpr, sAsg, sPar, aB, aO, aU, aV, aC, aF, aIf, aAnd, aOr, aNot, aTAnd, aTOr, aTNot, aTr, aCh, aIs, aCall, aTup, aLst, aCons, aNil, aM1, aSl, pN, pS, withV, vals, sl, List.set_cons_zero, List.set_cons_succ, List.set_nil, Option.map_some, endP, endO, at0s, if_true, if_false, Bool.false_eq_true, isT, tyS, fI, fIC, fLenA, Bool.not_true, Bool.not_false, iS, iL, iT, reduceCtorEq, oIx, oIxL, e]
  exact q x hx f' hf'
theorem of_okT {k : Nat} {f : D} {ds : List D} {P : D → D → Prop} {X : XP} (hf : FeedOk k f) (n0 : 0 < ds.length) (n1 : ds.length < 1073741824) (kb : k < 1073741824) (q : ∀ d ∈ ds, ∀ f', FeedOk (k + 1) f' → P d f') : F__law_of f [.tup ds] P X := by
  unfold F__law_of B__law_of
  simp only [sSeq, sIf, sSet, sRet, sNext, sExpr, sAsg, sPar, aB, aO, aU, aV, aC, aF, aIf, aAnd, aOr, aNot, aTAnd, aTOr, aTNot, aTr, aCh, aIs, aCall, aTup, aLst, aCons, aNil, aM1, aSl, pN, pS, withV, vals, sl, List.set_cons_zero, List.set_cons_succ, List.set_nil, Option.map_some, endP, endO, at0s, if_true, if_false, Bool.false_eq_true, isT, tyS, fI, fIC, fLenA, Bool.not_true, Bool.not_false, iS, iL, iT, reduceCtorEq, aCallO]
  refine draw_ok hf (by omega) (by omega) kb fun d f' d0 d1 hf' => ?_
  obtain ⟨x, e, hx⟩ := atI_in d0 d1
  simp only [sSeq, sIf, sSet, sRet, sNext, sExpr, sAsg, sPar, aB, aO, aU, aV, aC, aF, aIf, aAnd, aOr, aNot, aTAnd, aTOr, aTNot, aTr, aCh, aIs, aCall, aTup, aLst, aCons, aNil, aM1, aSl, pN, pS, withV, vals, sl, List.set_cons_zero, List.set_cons_succ, List.set_nil, Option.map_some, endP, endO, at0s, if_true, if_false, Bool.false_eq_true, isT, tyS, fI, fIC, fLenA, Bool.not_true, Bool.not_false, iS, iL, iT, reduceCtorEq, oIx, oIxT, e]
  exact q x hx f' hf'
theorem feed_ok {ns : List Int} {P : D → Prop} {X : XP} (q : ∀ f, FeedOk 0 f → P f) : F__law_feed [.scr ns] P X := by
  unfold F__law_feed B__law_feed
  simp only [sSeq, sIf, sSet, sRet, sNext, sExpr, sAsg, sPar, aB, aO, aU, aV, aC, aF, aIf, aAnd, aOr, aNot, aTAnd, aTOr, aTNot, aTr, aCh, aIs, aCall, aTup, aLst, aCons, aNil, aM1, aSl, pN, pS, withV, vals, sl, List.set_cons_zero, List.set_cons_succ, List.set_nil, Option.map_some, endP, endO, at0s, if_true, if_false, Bool.false_eq_true, isT, tyS, fI, fIC, fLenA, Bool.not_true, Bool.not_false, iS, iL, iT, reduceCtorEq, slA, slL, fList, List.length_cons, List.length_nil]
  refine ⟨by decide, q _ ⟨ns.take 63, 0, 0, ?_, by omega, by omega⟩⟩
  have := cutD_head (ns.map D.int) 63
  rw [show ((63 : Nat) : Int) = 63 from rfl] at this
  rw [this, List.map_take]
end Cr

namespace Cr
open PySem PySem.Builtin PySem.Builtin.Str PyProof.Rows L2 Al TL NumText
def optI : Option Int → D
  | some i => .int i
  | none => .non
def IntOk (w : Str) : Prop := w.length ≤ 640 ∨ (4001 < w.length ∧ w.length ≤ 100000)
def digc (c : Nat) : Bool := decide (48 ≤ c) && decide (c ≤ 57)
theorem zero_is : Str.ofString "0" = ⟨#[48]⟩ := by decide +kernel
theorem w_zero {w : Str} : (w = Str.ofString "0") ↔ tl w = [48] := by
  rw [zero_is]
  constructor
  · rintro rfl; rfl
  · intro h; exact str_ext h
theorem cps_tl {x y : Str} (h : tl x = tl y) : x = y := str_ext h
theorem whole_in_ok {w : Str} (h : IntOk w) {P : D → Prop} {X : XP} (p : P (optI (whL (tl w)))) : F_whole_in [.str w] P X := by
  unfold F_whole_in B_whole_in
  refine seq_k fun K hK => ?_
  simp only [sSeq, sIf, sSet, sRet, sNext, sExpr, sAsg, sPar, aB, aO, aU, aV, aC, aF, aIf, aAnd, aOr, aNot, aTAnd, aTOr, aTNot, aTr, aCh, aIs, aCall, aTup, aLst, aCons, aNil, aM1, aSl, pN, pS, withV, vals, sl, List.set_cons_zero, List.set_cons_succ, List.set_nil, Option.map_some, endP, endO, at0s, if_true, if_false, Bool.false_eq_true, isT, tyS, fI, fIC, fLenA, Bool.not_true, Bool.not_false, iS, iL, iT, reduceCtorEq]
  simp only [mStarts, starts1 w "-" 45 (by decide +kernel), truD]
  have hb : w.length ≤ 100000 := by rcases h with h | h <;> omega
  have sz : (100000 : Nat) < sizeLine := by decide
  have key : ∀ g : Str, tl g = bare (tl w) → K [some (.str w), some (.str g), none] := fun g hg => by
    have lg : g.length ≤ w.length := by
      rw [len_tl, len_tl, hg]; unfold bare; split <;> simp
    rw [hK]
    refine seq_k fun K2 hK2 => ?_
    simp only [sSeq, sIf, sSet, sRet, sNext, sExpr, sAsg, sPar, aB, aO, aU, aV, aC, aF, aIf, aAnd, aOr, aNot, aTAnd, aTOr, aTNot, aTr, aCh, aIs, aCall, aTup, aLst, aCons, aNil, aM1, aSl, pN, pS, withV, vals, sl, List.set_cons_zero, List.set_cons_succ, List.set_nil, Option.map_some, endP, endO, at0s, if_true, if_false, Bool.false_eq_true, isT, tyS, fI, fIC, fLenA, Bool.not_true, Bool.not_false, iS, iL, iT, reduceCtorEq]
    refine ⟨by omega, ?_⟩
    have lg' : (g.length : Int) = (bare (tl w)).length := by rw [len_tl, hg]
    by_cases c1 : (1 : Int) ≤ g.length
    case neg =>
      simp only [c1, decide_false, Bool.not_false, if_true]
      rw [whL, if_pos (by omega)] at p
      exact p
    by_cases c2 : (g.length : Int) ≤ 4000
    case neg =>
      simp only [c1, c2, decide_false, decide_true, Bool.not_false, if_true]
      rw [whL, if_pos (by omega)] at p
      exact p
    simp only [c1, c2, decide_true, Bool.not_true, if_false, Bool.false_eq_true]
    refine aLc_map (signsD g) (fun d => .bl (digc (sgn d))) (fun Q q => by simp only [sSeq, sIf, sSet, sRet, sNext, sExpr, sAsg, sPar, aB, aO, aU, aV, aC, aF, aIf, aAnd, aOr, aNot, aTAnd, aTOr, aTNot, aTr, aCh, aIs, aCall, aTup, aLst, aCons, aNil, aM1, aSl, pN, pS, withV, vals, sl, List.set_cons_zero, List.set_cons_succ, List.set_nil, Option.map_some, endP, endO, at0s, if_true, if_false, Bool.false_eq_true, isT, tyS, fI, fIC, fLenA, Bool.not_true, Bool.not_false, iS, iL, iT, reduceCtorEq]; exact q) (by rw [signsD_len]; omega) ?_ ?_
    · intro d hd Q q
      simp only [signsD, List.mem_map] at hd
      obtain ⟨c, hc, rfl⟩ := hd
      simp only [sSeq, sIf, sSet, sRet, sNext, sExpr, sAsg, sPar, aB, aO, aU, aV, aC, aF, aIf, aAnd, aOr, aNot, aTAnd, aTOr, aTNot, aTr, aCh, aIs, aCall, aTup, aLst, aCons, aNil, aM1, aSl, pN, pS, withV, vals, sl, List.set_cons_zero, List.set_cons_succ, List.set_nil, Option.map_some, endP, endO, at0s, if_true, if_false, Bool.false_eq_true, isT, tyS, fI, fIC, fLenA, Bool.not_true, Bool.not_false, iS, iL, iT, reduceCtorEq, oInA, oInS]
      rw [show (Str.ofString "0123456789").cps.toList = tl FIG from rfl, fig_has c]
      exact q
    · simp only [sSeq, sIf, sSet, sRet, sNext, sExpr, sAsg, sPar, aB, aO, aU, aV, aC, aF, aIf, aAnd, aOr, aNot, aTAnd, aTOr, aTNot, aTr, aCh, aIs, aCall, aTup, aLst, aCons, aNil, aM1, aSl, pN, pS, withV, vals, sl, List.set_cons_zero, List.set_cons_succ, List.set_nil, Option.map_some, endP, endO, at0s, if_true, if_false, Bool.false_eq_true, isT, tyS, fI, fIC, fLenA, Bool.not_true, Bool.not_false, iS, iL, iT, reduceCtorEq, fAll, bls_map]
      rw [signs_map digc, show ((tl g).map digc).all _root_.id = digs (bare (tl w)) by rw [hg, digs, List.all_map]; rfl]
      cases hd : digs (bare (tl w)) with
      | false =>
        simp only [Bool.not_false, if_true]
        rw [whL, if_pos (by right; right; exact hd)] at p
        exact p
      | true =>
        simp only [Bool.not_true, if_false, Bool.false_eq_true]
        rw [hK2]
        refine seq_k fun K3 hK3 => ?_
        simp only [sSeq, sIf, sSet, sRet, sNext, sExpr, sAsg, sPar, aB, aO, aU, aV, aC, aF, aIf, aAnd, aOr, aNot, aTAnd, aTOr, aTNot, aTr, aCh, aIs, aCall, aTup, aLst, aCons, aNil, aM1, aSl, pN, pS, withV, vals, sl, List.set_cons_zero, List.set_cons_succ, List.set_nil, Option.map_some, endP, endO, at0s, if_true, if_false, Bool.false_eq_true, isT, tyS, fI, fIC, fLenA, Bool.not_true, Bool.not_false, iS, iL, iT, reduceCtorEq, oIx, oIxS]
        refine ⟨by omega, ?_⟩
        rw [show g.cps.toList = bare (tl w) from hg, atI0]
        have c1' : bare (tl w) ≠ [] := fun z => by rw [z] at lg'; simp at lg'; omega
        rw [whL, if_neg (by rintro (z | z | z); omega; omega; rw [hd] at z; cases z)] at p
        cases hb : bare (tl w) with
        | nil => exact absurd hb c1'
        | cons c r =>
          have e1 : ((⟨#[c]⟩ : Str) = Str.ofString "0") ↔ c = 48 := by rw [zero_is]; simp
          have fin : P (.int (valL (tl w))) → K3 [some (.str w), some (.str g), none] := fun q => by
            rw [hK3]
            simp only [sSeq, sIf, sSet, sRet, sNext, sExpr, sAsg, sPar, aB, aO, aU, aV, aC, aF, aIf, aAnd, aOr, aNot, aTAnd, aTOr, aTNot, aTr, aCh, aIs, aCall, aTup, aLst, aCons, aNil, aM1, aSl, pN, pS, withV, vals, sl, List.set_cons_zero, List.set_cons_succ, List.set_nil, Option.map_some, endP, endO, at0s, if_true, if_false, Bool.false_eq_true, isT, tyS, fI, fIC, fLenA, Bool.not_true, Bool.not_false, iS, iL, iT, reduceCtorEq, fIntA, fIntS]
            have wl : w.length ≤ 4001 := by
              rw [len_tl] at *
              have : (tl w).length ≤ (bare (tl w)).length + 1 := by unfold bare; split <;> simp <;> omega
              omega
            rw [int_valL c1' hd (by omega)]
            exact ⟨by rcases h with h | h <;> omega, q⟩
          simp only [sSeq, sIf, sSet, sRet, sNext, sExpr, sAsg, sPar, aB, aO, aU, aV, aC, aF, aIf, aAnd, aOr, aNot, aTAnd, aTOr, aTNot, aTr, aCh, aIs, aCall, aTup, aLst, aCons, aNil, aM1, aSl, pN, pS, withV, vals, sl, List.set_cons_zero, List.set_cons_succ, List.set_nil, Option.map_some, endP, endO, at0s, if_true, if_false, Bool.false_eq_true, isT, tyS, fI, fIC, fLenA, Bool.not_true, Bool.not_false, iS, iL, iT, reduceCtorEq, oEqA, oNeA, eqS, List.head?_cons, decide_eq_true_eq, e1, w_zero]
          rw [hb] at p
          simp only [List.head?_cons, Option.some.injEq] at p
          by_cases k1 : c = 48
          · by_cases k2 : tl w = [48]
            · rw [if_neg (by simp [k2])] at p
              simp only [k1, k2, decide_true, Bool.not_true, if_true, if_false, Bool.false_eq_true]
              exact fin p
            · rw [if_pos ⟨k1, k2⟩] at p
              simp only [k1, k2, decide_false, Bool.not_false, if_true]
              exact p
          · rw [if_neg (by simp [k1])] at p
            simp only [k1, if_false]
            exact fin p
  split
  · next c =>
    simp only [slA, slS]
    refine ⟨by omega, key _ ?_⟩
    have := cut_tail w 1
    simp only [decide_eq_true_eq] at c
    rw [bare, if_pos c]
    exact this
  · next c =>
    refine key _ ?_
    simp only [decide_eq_true_eq] at c
    rw [bare, if_neg c]
end Cr

namespace Cr
open PySem PySem.Builtin PySem.Builtin.Str PyProof.Rows L2 Al TL NumText
def S (l : List Nat) : Str := ⟨l.toArray⟩
theorem tl_S (l : List Nat) : tl (S l) = l := by simp [S, tl]
theorem S_tl (x : Str) : S (tl x) = x := str_ext (by simp [S, tl])
theorem len_S (l : List Nat) : (S l).length = l.length := by rw [len_tl, tl_S]
theorem S_ext {x : Str} {l : List Nat} (h : tl x = l) : x = S l := by rw [← h, S_tl]
theorem figures_ok {w : Str} (h : IntOk w) {P : D → Prop} {X : XP} (p : P (optI (whL (tl w)))) : F__law_figures [.str w] P X := by
  unfold F__law_figures B__law_figures
  refine seq_k fun K hK => ?_
  simp only [sSeq, sIf, sSet, sRet, sNext, sExpr, sAsg, sPar, aB, aO, aU, aV, aC, aF, aIf, aAnd, aOr, aNot, aTAnd, aTOr, aTNot, aTr, aCh, aIs, aCall, aTup, aLst, aCons, aNil, aM1, aSl, pN, pS, withV, vals, sl, List.set_cons_zero, List.set_cons_succ, List.set_nil, Option.map_some, endP, endO, at0s, if_true, if_false, Bool.false_eq_true, isT, tyS, fI, fIC, fLenA, Bool.not_true, Bool.not_false, iS, iL, iT, reduceCtorEq, slA, slS, oEqA, eqS]
  have hb : w.length ≤ 100000 := by rcases h with h | h <;> omega
  have sz : (100000 : Nat) < sizeLine := by decide
  have e0 : (cutS w none (some 1) = Str.ofString "-") ↔ (tl w).head? = some 45 := by
    have := cut_head w 1
    have e : Str.ofString "-" = ⟨#[45]⟩ := by decide +kernel
    rw [e]
    constructor
    · intro z
      rw [show ((1 : Nat) : Int) = 1 from rfl] at this
      rw [z] at this
      cases hw : tl w with
      | nil => rw [hw] at this; cases this
      | cons a r => rw [hw] at this; simp [tl] at this; simp [← this]
    · intro z
      refine str_ext ?_
      cases hw : tl w with
      | nil => rw [hw] at z; cases z
      | cons a r => rw [hw] at z this; cases z; exact this
  have key : ∀ g : Str, tl g = bare (tl w) → K [some (.str w), some (.str g), none] := fun g hg => by
    have lg : g.length ≤ w.length := by
      rw [len_tl, len_tl, hg]; unfold bare; split <;> simp
    rw [hK]
    refine seq_k fun K2 hK2 => ?_
    simp only [sSeq, sIf, sSet, sRet, sNext, sExpr, sAsg, sPar, aB, aO, aU, aV, aC, aF, aIf, aAnd, aOr, aNot, aTAnd, aTOr, aTNot, aTr, aCh, aIs, aCall, aTup, aLst, aCons, aNil, aM1, aSl, pN, pS, withV, vals, sl, List.set_cons_zero, List.set_cons_succ, List.set_nil, Option.map_some, endP, endO, at0s, if_true, if_false, Bool.false_eq_true, isT, tyS, fI, fIC, fLenA, Bool.not_true, Bool.not_false, iS, iL, iT, reduceCtorEq]
    refine ⟨by omega, ?_⟩
    have lg' : (g.length : Int) = (bare (tl w)).length := by rw [len_tl, hg]
    by_cases c1 : (1 : Int) ≤ g.length
    case neg =>
      simp only [c1, decide_false, Bool.not_false, if_true]
      rw [whL, if_pos (by omega)] at p
      exact p
    by_cases c2 : (g.length : Int) ≤ 4000
    case neg =>
      simp only [c1, c2, decide_false, decide_true, Bool.not_false, if_true]
      rw [whL, if_pos (by omega)] at p
      exact p
    simp only [c1, c2, decide_true, Bool.not_true, if_false, Bool.false_eq_true]
    refine aLc_fil (signsD g) (fun d => !digc (sgn d)) (fun Q q => by simp only [sSeq, sIf, sSet, sRet, sNext, sExpr, sAsg, sPar, aB, aO, aU, aV, aC, aF, aIf, aAnd, aOr, aNot, aTAnd, aTOr, aTNot, aTr, aCh, aIs, aCall, aTup, aLst, aCons, aNil, aM1, aSl, pN, pS, withV, vals, sl, List.set_cons_zero, List.set_cons_succ, List.set_nil, Option.map_some, endP, endO, at0s, if_true, if_false, Bool.false_eq_true, isT, tyS, fI, fIC, fLenA, Bool.not_true, Bool.not_false, iS, iL, iT, reduceCtorEq]; exact q) (by rw [signsD_len]; omega) ?_ ?_ ?_
    · intro d hd Q q
      simp only [signsD, List.mem_map] at hd
      obtain ⟨c, hc, rfl⟩ := hd
      simp only [sSeq, sIf, sSet, sRet, sNext, sExpr, sAsg, sPar, aB, aO, aU, aV, aC, aF, aIf, aAnd, aOr, aNot, aTAnd, aTOr, aTNot, aTr, aCh, aIs, aCall, aTup, aLst, aCons, aNil, aM1, aSl, pN, pS, withV, vals, sl, List.set_cons_zero, List.set_cons_succ, List.set_nil, Option.map_some, endP, endO, at0s, if_true, if_false, Bool.false_eq_true, isT, tyS, fI, fIC, fLenA, Bool.not_true, Bool.not_false, iS, iL, iT, reduceCtorEq, oInA, oInS]
      rw [show (Str.ofString "0123456789").cps.toList = tl FIG from rfl, fig_has c]
      exact q
    · intro d hd Q q
      simp only [sSeq, sIf, sSet, sRet, sNext, sExpr, sAsg, sPar, aB, aO, aU, aV, aC, aF, aIf, aAnd, aOr, aNot, aTAnd, aTOr, aTNot, aTr, aCh, aIs, aCall, aTup, aLst, aCons, aNil, aM1, aSl, pN, pS, withV, vals, sl, List.set_cons_zero, List.set_cons_succ, List.set_nil, Option.map_some, endP, endO, at0s, if_true, if_false, Bool.false_eq_true, isT, tyS, fI, fIC, fLenA, Bool.not_true, Bool.not_false, iS, iL, iT, reduceCtorEq]
      exact q
    · have e2 : ((signsD g).filter (fun d => !digc (sgn d))).isEmpty = digs (bare (tl w)) := by
        rw [← hg, digs]
        have : digs (tl g) = ((signsD g).map (fun d => digc (sgn d))).all _root_.id := by rw [signs_map digc, digs, List.all_map]; rfl
        rw [← digs, this, List.all_map]
        generalize signsD g = l
        induction l with
        | nil => rfl
        | cons a l ih =>
          cases hc : digc (sgn a) with
          | true => rw [List.filter_cons_of_neg (by simp [hc])]; simp [hc, ih]
          | false => rw [List.filter_cons_of_pos (by simp [hc])]; simp [hc]
      simp only [sSeq, sIf, sSet, sRet, sNext, sExpr, sAsg, sPar, aB, aO, aU, aV, aC, aF, aIf, aAnd, aOr, aNot, aTAnd, aTOr, aTNot, aTr, aCh, aIs, aCall, aTup, aLst, aCons, aNil, aM1, aSl, pN, pS, withV, vals, sl, List.set_cons_zero, List.set_cons_succ, List.set_nil, Option.map_some, endP, endO, at0s, if_true, if_false, Bool.false_eq_true, isT, tyS, fI, fIC, fLenA, Bool.not_true, Bool.not_false, iS, iL, iT, reduceCtorEq, oNeA, eqS, e2, Nat.zero_le, List.length_nil, true_and]
      cases hd : digs (bare (tl w)) with
      | false =>
        simp only [Bool.not_false, if_true]
        rw [whL, if_pos (by right; right; exact hd)] at p
        exact p
      | true =>
        simp only [Bool.not_true, if_false, Bool.false_eq_true]
        rw [hK2]
        simp only [sSeq, sIf, sSet, sRet, sNext, sExpr, sAsg, sPar, aB, aO, aU, aV, aC, aF, aIf, aAnd, aOr, aNot, aTAnd, aTOr, aTNot, aTr, aCh, aIs, aCall, aTup, aLst, aCons, aNil, aM1, aSl, pN, pS, withV, vals, sl, List.set_cons_zero, List.set_cons_succ, List.set_nil, Option.map_some, endP, endO, at0s, if_true, if_false, Bool.false_eq_true, isT, tyS, fI, fIC, fLenA, Bool.not_true, Bool.not_false, iS, iL, iT, reduceCtorEq, oIx, oIxS]
        refine ⟨by omega, ?_⟩
        rw [show g.cps.toList = bare (tl w) from hg, atI0]
        have c1' : bare (tl w) ≠ [] := fun z => by rw [z] at lg'; simp at lg'; omega
        rw [whL, if_neg (by rintro (z | z | z); omega; omega; rw [hd] at z; cases z)] at p
        cases hb : bare (tl w) with
        | nil => exact absurd hb c1'
        | cons c r =>
          have e1 : ((⟨#[c]⟩ : Str) = Str.ofString "0") ↔ c = 48 := by rw [zero_is]; simp
          have fin : P (.int (valL (tl w))) → fIntA [.str w] P := fun q => by
            simp only [sSeq, sIf, sSet, sRet, sNext, sExpr, sAsg, sPar, aB, aO, aU, aV, aC, aF, aIf, aAnd, aOr, aNot, aTAnd, aTOr, aTNot, aTr, aCh, aIs, aCall, aTup, aLst, aCons, aNil, aM1, aSl, pN, pS, withV, vals, sl, List.set_cons_zero, List.set_cons_succ, List.set_nil, Option.map_some, endP, endO, at0s, if_true, if_false, Bool.false_eq_true, isT, tyS, fI, fIC, fLenA, Bool.not_true, Bool.not_false, iS, iL, iT, reduceCtorEq, fIntA, fIntS]
            have wl : w.length ≤ 4001 := by
              rw [len_tl] at *
              have : (tl w).length ≤ (bare (tl w)).length + 1 := by unfold bare; split <;> simp <;> omega
              omega
            rw [int_valL c1' hd (by omega)]
            exact ⟨by rcases h with h | h <;> omega, q⟩
          simp only [sSeq, sIf, sSet, sRet, sNext, sExpr, sAsg, sPar, aB, aO, aU, aV, aC, aF, aIf, aAnd, aOr, aNot, aTAnd, aTOr, aTNot, aTr, aCh, aIs, aCall, aTup, aLst, aCons, aNil, aM1, aSl, pN, pS, withV, vals, sl, List.set_cons_zero, List.set_cons_succ, List.set_nil, Option.map_some, endP, endO, at0s, if_true, if_false, Bool.false_eq_true, isT, tyS, fI, fIC, fLenA, Bool.not_true, Bool.not_false, iS, iL, iT, reduceCtorEq, oEqA, oNeA, eqS, List.head?_cons, decide_eq_true_eq, e1, w_zero]
          rw [hb] at p
          simp only [List.head?_cons, Option.some.injEq] at p
          by_cases k1 : c = 48
          · by_cases k2 : tl w = [48]
            · rw [if_neg (by simp [k2])] at p
              simp only [k1, k2, decide_true, Bool.not_true, if_true, if_false, Bool.false_eq_true]
              exact fin p
            · rw [if_pos ⟨k1, k2⟩] at p
              simp only [k1, k2, decide_false, Bool.not_false, if_true]
              exact p
          · rw [if_neg (by simp [k1])] at p
            simp only [k1, if_false]
            exact fin p
  refine ⟨by omega, ?_⟩
  simp only [e0, decide_eq_true_eq]
  split
  · next c =>
    refine ⟨by omega, key _ ?_⟩
    have := cut_tail w 1
    rw [bare, if_pos c]
    exact this
  · next c =>
    refine key _ ?_
    rw [bare, if_neg c]
/-! ### numbers behind a colon -/
def allS : List (Option Int) → Option (List Int)
  | [] => some []
  | none :: _ => none
  | some i :: r => (allS r).map (i :: ·)
def numsL (l : List Nat) : Option (List Int) := allS ((sp1 44 l).map whL)
def OkL (l : List Nat) : Prop := l.length ≤ 100000 ∧ ∀ w ∈ sp1 44 l, w.length ≤ 640 ∨ 4001 < w.length
theorem IntOk.ofL {l : List Nat} {w : Str} (h : OkL l) (hw : tl w ∈ sp1 44 l) : IntOk w := by
  have h1 := h.2 _ hw
  have h2 := (sp1_mem 44 l _ hw).2.len
  have := h.1
  unfold IntOk
  rw [len_tl]
  omega
def numT : Option (List Int) → D
  | some ns => .tup (ns.map .int)
  | none => .non
def numLs : Option (List Int) → D
  | some ns => .lst (ns.map .int)
  | none => .non
theorem in_non : ∀ os : List (Option Int), (∃ ns, allS os = some ns ∧ os.map optI = ns.map D.int ∧ inD .non (os.map optI) = false) ∨ (allS os = none ∧ inD .non (os.map optI) = true)
  | [] => .inl ⟨[], rfl, rfl, rfl⟩
  | none :: r => .inr ⟨rfl, rfl⟩
  | some i :: r => by
    rcases in_non r with ⟨ns, h1, h2, h3⟩ | ⟨h1, h2⟩
    · refine .inl ⟨i :: ns, by rw [allS, h1]; rfl, by rw [List.map_cons, h2]; rfl, ?_⟩
      rw [List.map_cons, inD, List.any_cons]
      rw [inD] at h3
      rw [h3]; rfl
    · refine .inr ⟨by rw [allS, h1]; rfl, ?_⟩
      rw [List.map_cons, inD, List.any_cons]
      rw [inD] at h2
      rw [h2]; simp
theorem flat_opt (os : List (Option Int)) : (os.map optI).all flatD = true := by
  rw [List.all_map, List.all_eq_true]
  intro o _
  cases o <;> rfl
theorem split44 (x : Str) : (Txt.split x (Str.ofString ",")).map tl = sp1 44 (tl x) := split_sp1 (by decide +kernel) (by decide +kernel)
theorem split58 (x : Str) : (Txt.split x (Str.ofString ":")).map tl = sp1 58 (tl x) := split_sp1 (by decide +kernel) (by decide +kernel)
def whD : D → D
  | .str w => optI (whL (tl w))
  | _ => .non
theorem split_nums (x : Str) : ((Txt.split x (Str.ofString ",")).map D.str).map whD = ((sp1 44 (tl x)).map whL).map optI := by
  rw [← split44, List.map_map, List.map_map, List.map_map]
  rfl
theorem wholes_in_ok {x : Str} (h : OkL (tl x)) {P : D → Prop} {X : XP} (p : P (numT (numsL (tl x)))) : F_wholes_in [.str x] P X := by
  unfold F_wholes_in B_wholes_in
  refine seq_k fun K hK => ?_
  simp only [sSeq, sIf, sSet, sRet, sNext, sExpr, sAsg, sPar, aB, aO, aU, aV, aC, aF, aIf, aAnd, aOr, aNot, aTAnd, aTOr, aTNot, aTr, aCh, aIs, aCall, aTup, aLst, aCons, aNil, aM1, aSl, pN, pS, withV, vals, sl, List.set_cons_zero, List.set_cons_succ, List.set_nil, Option.map_some, endP, endO, at0s, if_true, if_false, Bool.false_eq_true, isT, tyS, fI, fIC, fLenA, Bool.not_true, Bool.not_false, iS, iL, iT, reduceCtorEq]
  have sz : (100002 : Nat) < sizeLine := by decide
  have xl : x.length ≤ 100000 := by rw [len_tl]; exact h.1
  have sl1 : (Txt.split x (Str.ofString ",")).length ≤ x.length + 1 := by
    have := congrArg List.length (split44 x)
    rw [List.length_map, sp1_len] at this
    rw [this, len_tl]
    have := List.count_le_length (a := 44) (l := tl x)
    omega
  refine aLc_map ((Txt.split x (Str.ofString ",")).map D.str) whD (fun Q q => ?_) ?_ ?_ ?_
  · simp only [sSeq, sIf, sSet, sRet, sNext, sExpr, sAsg, sPar, aB, aO, aU, aV, aC, aF, aIf, aAnd, aOr, aNot, aTAnd, aTOr, aTNot, aTr, aCh, aIs, aCall, aTup, aLst, aCons, aNil, aM1, aSl, pN, pS, withV, vals, sl, List.set_cons_zero, List.set_cons_succ, List.set_nil, Option.map_some, endP, endO, at0s, if_true, if_false, Bool.false_eq_true, isT, tyS, fI, fIC, fLenA, Bool.not_true, Bool.not_false, iS, iL, iT, reduceCtorEq, mSplit]
    exact ⟨⟨by decide +kernel, by omega⟩, q⟩
  · rw [List.length_map]; omega
  · intro d hd Q q
    simp only [List.mem_map] at hd
    obtain ⟨w, hw, rfl⟩ := hd
    simp only [sSeq, sIf, sSet, sRet, sNext, sExpr, sAsg, sPar, aB, aO, aU, aV, aC, aF, aIf, aAnd, aOr, aNot, aTAnd, aTOr, aTNot, aTr, aCh, aIs, aCall, aTup, aLst, aCons, aNil, aM1, aSl, pN, pS, withV, vals, sl, List.set_cons_zero, List.set_cons_succ, List.set_nil, Option.map_some, endP, endO, at0s, if_true, if_false, Bool.false_eq_true, isT, tyS, fI, fIC, fLenA, Bool.not_true, Bool.not_false, iS, iL, iT, reduceCtorEq]
    exact whole_in_ok (IntOk.ofL h (by rw [← split44]; exact List.mem_map_of_mem hw)) q
  · rw [split_nums, hK]
    have fl := flat_opt ((sp1 44 (tl x)).map whL)
    simp only [sSeq, sIf, sSet, sRet, sNext, sExpr, sAsg, sPar, aB, aO, aU, aV, aC, aF, aIf, aAnd, aOr, aNot, aTAnd, aTOr, aTNot, aTr, aCh, aIs, aCall, aTup, aLst, aCons, aNil, aM1, aSl, pN, pS, withV, vals, sl, List.set_cons_zero, List.set_cons_succ, List.set_nil, Option.map_some, endP, endO, at0s, if_true, if_false, Bool.false_eq_true, isT, tyS, fI, fIC, fLenA, Bool.not_true, Bool.not_false, iS, iL, iT, reduceCtorEq, oInA, oIn, flatD, fl, true_and, fTuple]
    rcases in_non ((sp1 44 (tl x)).map whL) with ⟨ns, h1, h2, h3⟩ | ⟨h1, h2⟩
    · simp only [h3, Bool.false_eq_true, if_false, and_self, true_and]
      rw [h2]
      rw [numsL, h1] at p
      exact p
    · simp only [h2, if_true, and_self, true_and, if_false, Bool.false_eq_true]
      rw [numsL, h1] at p
      exact p
end Cr

namespace Cr
open PySem PySem.Builtin PySem.Builtin.Str PyProof.Rows L2 Al TL NumText
/-! ### ahead of the colon, and behind it -/
def wd (l : List Nat) : List Nat := l.takeWhile (· != 58)
def td (l : List Nat) : List Nat := (l.dropWhile (· != 58)).drop 1
theorem colon_no : ∀ {l : List Nat}, 58 ∉ l → wd l = l ∧ td l = []
  | [], _ => ⟨rfl, rfl⟩
  | a :: l, h => by
    have ha : a ≠ 58 := fun z => h (by simp [z])
    obtain ⟨h1, h2⟩ := colon_no (l := l) fun z => h (by simp [z])
    constructor
    · rw [wd, List.takeWhile_cons_of_pos (by simp [ha])]; exact congrArg (a :: ·) h1
    · rw [td, List.dropWhile_cons_of_pos (by simp [ha])]; exact h2
theorem colon_yes : ∀ {l : List Nat}, 58 ∈ l → l = wd l ++ 58 :: td l ∧ 58 ∉ wd l
  | [], h => by cases h
  | a :: l, h => by
    by_cases ha : a = 58
    · subst ha
      simp [wd, td]
    · have h' : 58 ∈ l := by
        rcases List.mem_cons.mp h with z | z
        · exact absurd z.symm ha
        · exact z
      obtain ⟨h1, h2⟩ := colon_yes h'
      have e1 : wd (a :: l) = a :: wd l := by rw [wd, List.takeWhile_cons_of_pos (by simp [ha])]; rfl
      have e2 : td (a :: l) = td l := by rw [td, List.dropWhile_cons_of_pos (by simp [ha])]; rfl
      rw [e1, e2]
      refine ⟨congrArg (a :: ·) h1, ?_⟩
      rw [List.mem_cons]
      rintro (z | z)
      · exact ha z.symm
      · exact h2 z
def wS (x : Str) : Str := S (wd (tl x))
def tS (x : Str) : Str := S (td (tl x))
theorem col_is : Str.ofString ":" = ⟨#[58]⟩ := by decide +kernel
theorem part_is (x : Str) : (Txt.partition x (Str.ofString ":")).1 = wS x ∧ (Txt.partition x (Str.ofString ":")).2.2 = tS x := by
  rw [col_is]
  by_cases h : 58 ∈ tl x
  · obtain ⟨h1, h2⟩ := colon_yes h
    obtain ⟨e1, _, e3⟩ := part_yes h1 h2
    exact ⟨S_ext e1, S_ext e3⟩
  · obtain ⟨h1, h2⟩ := colon_no h
    rw [part_no h]
    exact ⟨by rw [wS, h1, S_tl], by rw [tS, h2]; rfl⟩
theorem word_in_ok {x : Str} (h : x.length ≤ 100000) {P : D → Prop} {X : XP} (p : P (.str (wS x))) : F_word_in [.str x] P X := by
  unfold F_word_in B_word_in
  have sz : (100002 : Nat) < sizeLine := by decide
  simp only [sSeq, sIf, sSet, sRet, sNext, sExpr, sAsg, sPar, aB, aO, aU, aV, aC, aF, aIf, aAnd, aOr, aNot, aTAnd, aTOr, aTNot, aTr, aCh, aIs, aCall, aTup, aLst, aCons, aNil, aM1, aSl, pN, pS, withV, vals, sl, List.set_cons_zero, List.set_cons_succ, List.set_nil, Option.map_some, endP, endO, at0s, if_true, if_false, Bool.false_eq_true, isT, tyS, fI, fIC, fLenA, Bool.not_true, Bool.not_false, iS, iL, iT, reduceCtorEq, mPart, oIx, oIxT, atI0, List.head?_cons]
  refine ⟨⟨by decide +kernel, by omega⟩, ?_⟩
  rw [(part_is x).1]; exact p
theorem told_in_ok {x : Str} (h : x.length ≤ 100000) {P : D → Prop} {X : XP} (p : P (.str (tS x))) : F_told_in [.str x] P X := by
  unfold F_told_in B_told_in
  have sz : (100002 : Nat) < sizeLine := by decide
  simp only [sSeq, sIf, sSet, sRet, sNext, sExpr, sAsg, sPar, aB, aO, aU, aV, aC, aF, aIf, aAnd, aOr, aNot, aTAnd, aTOr, aTNot, aTr, aCh, aIs, aCall, aTup, aLst, aCons, aNil, aM1, aSl, pN, pS, withV, vals, sl, List.set_cons_zero, List.set_cons_succ, List.set_nil, Option.map_some, endP, endO, at0s, if_true, if_false, Bool.false_eq_true, isT, tyS, fI, fIC, fLenA, Bool.not_true, Bool.not_false, iS, iL, iT, reduceCtorEq, mPart, oIx, oIxT]
  refine ⟨⟨by decide +kernel, by omega⟩, ?_⟩
  rw [show ∀ a b c : D, atI [a, b, c] 2 = some c from fun a b c => rfl, (part_is x).2]; exact p
/-- a text whose numbers can be read -/
def TOk (x : Str) : Prop := x.length ≤ 100000 ∧ OkL (td (tl x))
def Nm (x : Str) : Option (List Int) := numsL (td (tl x))
theorem numbers_in_ok {x : Str} (h : TOk x) {P : D → Prop} {X : XP} (p : P (numT (Nm x))) : F_numbers_in [.str x] P X := by
  unfold F_numbers_in B_numbers_in
  simp only [sSeq, sIf, sSet, sRet, sNext, sExpr, sAsg, sPar, aB, aO, aU, aV, aC, aF, aIf, aAnd, aOr, aNot, aTAnd, aTOr, aTNot, aTr, aCh, aIs, aCall, aTup, aLst, aCons, aNil, aM1, aSl, pN, pS, withV, vals, sl, List.set_cons_zero, List.set_cons_succ, List.set_nil, Option.map_some, endP, endO, at0s, if_true, if_false, Bool.false_eq_true, isT, tyS, fI, fIC, fLenA, Bool.not_true, Bool.not_false, iS, iL, iT, reduceCtorEq]
  refine told_in_ok h.1 ?_
  refine wholes_in_ok (by rw [tS, tl_S]; exact h.2) ?_
  rw [tS, tl_S]; exact p
/-! ### the law's look -/
theorem sp1_no {c : Nat} : ∀ {l : List Nat}, c ∉ l → sp1 c l = [l]
  | [], _ => rfl
  | a :: l, h => by
    obtain ⟨p, q, e1, e2⟩ := sp1_miss (c := c) (d := a) l (fun z => h (by simp [z]))
    rw [sp1_no (l := l) fun z => h (by simp [z])] at e1
    cases e1
    exact e2
theorem sp1_cut {c : Nat} {b : List Nat} : ∀ {a : List Nat}, c ∉ a → sp1 c (a ++ c :: b) = a :: sp1 c b
  | [], _ => sp1_hit b
  | d :: a, h => by
    obtain ⟨p, q, e1, e2⟩ := sp1_miss (c := c) (d := d) (a ++ c :: b) (fun z => h (by simp [z]))
    rw [sp1_cut (a := a) fun z => h (by simp [z])] at e1
    cases e1
    exact e2
theorem joinL_cons {c : Nat} {p : List Nat} {q : List (List Nat)} (h : q ≠ []) : joinL [c] (p :: q) = p ++ c :: joinL [c] q := by
  cases q with
  | nil => exact absurd rfl h
  | cons x y => simp [joinL]
theorem join_sp1 (c : Nat) : ∀ l : List Nat, joinL [c] (sp1 c l) = l
  | [] => rfl
  | d :: l => by
    by_cases e : d = c
    · subst e
      rw [sp1_hit, joinL_cons (sp1_ne _ _), join_sp1 d l]; rfl
    · obtain ⟨p, q, e1, e2⟩ := sp1_miss (c := c) (d := d) l e
      have ih := join_sp1 c l
      rw [e1] at ih
      rw [e2]
      cases q with
      | nil => simp [joinL] at ih ⊢; exact ih
      | cons x y => rw [joinL_cons (by simp)] at ih ⊢; rw [← ih]; rfl
theorem split0 (x : Str) : ∃ r, Txt.split x (Str.ofString ":") = wS x :: r ∧ ((58 ∈ tl x → r.map tl = sp1 58 (td (tl x)))) := by
  have e := split58 x
  cases hs : Txt.split x (Str.ofString ":") with
  | nil => rw [hs] at e; exact absurd e.symm (sp1_ne _ _)
  | cons a r =>
    rw [hs, List.map_cons] at e
    refine ⟨r, ?_, fun h => ?_⟩
    · congr 1
      refine S_ext ?_
      by_cases h : 58 ∈ tl x
      · obtain ⟨h1, h2⟩ := colon_yes h
        rw [h1, sp1_cut h2] at e
        exact (List.cons.inj e).1
      · rw [sp1_no h] at e
        rw [(List.cons.inj e).1, (colon_no h).1]
    · obtain ⟨h1, h2⟩ := colon_yes h
      have e' := e
      rw [h1, sp1_cut h2] at e'
      exact (List.cons.inj e').2
theorem tl_Tjoin (g : Str) : ∀ ys : List Str, tl (Txt.join g ys) = joinL (tl g) (ys.map tl)
  | [] => rfl
  | x :: r => by
    show (Txt.join g (x :: r)).cps.toList = _
    rw [join_list]
    induction r generalizing x with
    | nil => simp [joinL, tl]
    | cons y r ih =>
      rw [List.map_cons, List.map_cons, List.flatten_cons, List.map_cons]
      show _ = tl x ++ (tl g ++ joinL (tl g) ((y :: r).map tl))
      rw [← ih y]
      simp [tl]
theorem sp1_sum (c : Nat) : ∀ l : List Nat, ((sp1 c l).map List.length).sum + (sp1 c l).length = l.length + 1
  | [] => rfl
  | d :: l => by
    have ih := sp1_sum c l
    by_cases e : d = c
    · subst e
      rw [sp1_hit]
      simp at ih ⊢; omega
    · obtain ⟨p, q, e1, e2⟩ := sp1_miss (c := c) (d := d) l e
      rw [e1] at ih
      rw [e2]
      simp at ih ⊢; omega
theorem law_numbers_in_ok {x : Str} (h : TOk x) {P : D → Prop} {X : XP} (p : P (numLs (Nm x))) : F__law_numbers_in [.str x] P X := by
  unfold F__law_numbers_in B__law_numbers_in
  refine seq_k fun K hK => ?_
  have sz : (200002 : Nat) < sizeLine := by decide
  have hx := h.1
  simp only [sSeq, sIf, sSet, sRet, sNext, sExpr, sAsg, sPar, aB, aO, aU, aV, aC, aF, aIf, aAnd, aOr, aNot, aTAnd, aTOr, aTNot, aTr, aCh, aIs, aCall, aTup, aLst, aCons, aNil, aM1, aSl, pN, pS, withV, vals, sl, List.set_cons_zero, List.set_cons_succ, List.set_nil, Option.map_some, endP, endO, at0s, if_true, if_false, Bool.false_eq_true, isT, tyS, fI, fIC, fLenA, Bool.not_true, Bool.not_false, iS, iL, iT, reduceCtorEq, oInA]
  rw [col_is]
  simp only [oInS, if_true]
  by_cases c : 58 ∈ x.cps.toList
  case neg =>
    simp only [c, decide_false, Bool.not_false, if_true]
    have e : Nm x = none := by
      rw [Nm, (colon_no c).2]; rfl
    rw [e] at p; exact p
  simp only [c, decide_true, Bool.not_true, if_false, Bool.false_eq_true]
  rw [hK]
  refine seq_k fun K2 hK2 => ?_
  obtain ⟨r, hr, hr2⟩ := split0 x
  have hr2 := hr2 c
  have ej : tl (Txt.join (Str.ofString ":") r) = td (tl x) := by
    rw [tl_Tjoin, hr2, col_is]; exact join_sp1 58 _
  have lj : (Txt.join (Str.ofString ":") r).length ≤ 100000 := by rw [len_tl, ej]; exact h.2.1
  have sl1 : (Txt.split (Txt.join (Str.ofString ":") r) (Str.ofString ",")).length ≤ 100001 := by
    have := congrArg List.length (split44 (Txt.join (Str.ofString ":") r))
    rw [List.length_map, sp1_len] at this
    rw [this]
    have := List.count_le_length (a := 44) (l := tl (Txt.join (Str.ofString ":") r))
    rw [← len_tl] at this
    omega
  have rl : (r.map (·.length)).sum + r.length * (Str.ofString ":").length ≤ 16777216 := by
    have e1 : r.map (·.length) = (r.map tl).map List.length := by rw [List.map_map]; exact List.map_congr_left fun y _ => len_tl y
    have e2 : r.length = (sp1 58 (td (tl x))).length := by rw [← hr2, List.length_map]
    rw [e1, hr2, e2, col_is, show (⟨#[58]⟩ : Str).length = 1 from rfl, Nat.mul_one, sp1_sum]
    have := h.2.1
    omega
  simp only [sSeq, sIf, sSet, sRet, sNext, sExpr, sAsg, sPar, aB, aO, aU, aV, aC, aF, aIf, aAnd, aOr, aNot, aTAnd, aTOr, aTNot, aTr, aCh, aIs, aCall, aTup, aLst, aCons, aNil, aM1, aSl, pN, pS, withV, vals, sl, List.set_cons_zero, List.set_cons_succ, List.set_nil, Option.map_some, endP, endO, at0s, if_true, if_false, Bool.false_eq_true, isT, tyS, fI, fIC, fLenA, Bool.not_true, Bool.not_false, iS, iL, iT, reduceCtorEq]
  refine aLc_map ((Txt.split (Txt.join (Str.ofString ":") r) (Str.ofString ",")).map D.str) whD (fun Q q => ?_) ?_ ?_ ?_
  · simp only [sSeq, sIf, sSet, sRet, sNext, sExpr, sAsg, sPar, aB, aO, aU, aV, aC, aF, aIf, aAnd, aOr, aNot, aTAnd, aTOr, aTNot, aTr, aCh, aIs, aCall, aTup, aLst, aCons, aNil, aM1, aSl, pN, pS, withV, vals, sl, List.set_cons_zero, List.set_cons_succ, List.set_nil, Option.map_some, endP, endO, at0s, if_true, if_false, Bool.false_eq_true, isT, tyS, fI, fIC, fLenA, Bool.not_true, Bool.not_false, iS, iL, iT, reduceCtorEq, mSplit, slA, slL, hr, List.map_cons]
    refine ⟨⟨by decide +kernel, by omega⟩, ?_⟩
    rw [show cutD (D.str (wS x) :: r.map D.str) (some 1) none = r.map D.str from ?_]
    · simp only [mJoin, Al.strs_map]
      exact ⟨rl, ⟨⟨by decide +kernel, by omega⟩, q⟩⟩
    · exact cutD_tail _ 1
  · rw [List.length_map]; omega
  · intro d hd Q q
    simp only [List.mem_map] at hd
    obtain ⟨w, hw, rfl⟩ := hd
    simp only [sSeq, sIf, sSet, sRet, sNext, sExpr, sAsg, sPar, aB, aO, aU, aV, aC, aF, aIf, aAnd, aOr, aNot, aTAnd, aTOr, aTNot, aTr, aCh, aIs, aCall, aTup, aLst, aCons, aNil, aM1, aSl, pN, pS, withV, vals, sl, List.set_cons_zero, List.set_cons_succ, List.set_nil, Option.map_some, endP, endO, at0s, if_true, if_false, Bool.false_eq_true, isT, tyS, fI, fIC, fLenA, Bool.not_true, Bool.not_false, iS, iL, iT, reduceCtorEq]
    exact figures_ok (IntOk.ofL h.2 (by rw [← ej, ← split44]; exact List.mem_map_of_mem hw)) q
  · rw [split_nums, ej, hK2]
    have fl := flat_opt ((sp1 44 (td (tl x))).map whL)
    simp only [sSeq, sIf, sSet, sRet, sNext, sExpr, sAsg, sPar, aB, aO, aU, aV, aC, aF, aIf, aAnd, aOr, aNot, aTAnd, aTOr, aTNot, aTr, aCh, aIs, aCall, aTup, aLst, aCons, aNil, aM1, aSl, pN, pS, withV, vals, sl, List.set_cons_zero, List.set_cons_succ, List.set_nil, Option.map_some, endP, endO, at0s, if_true, if_false, Bool.false_eq_true, isT, tyS, fI, fIC, fLenA, Bool.not_true, Bool.not_false, iS, iL, iT, reduceCtorEq, oInA, oIn, flatD, fl, true_and]
    rcases in_non ((sp1 44 (td (tl x))).map whL) with ⟨ns, h1, h2, h3⟩ | ⟨h1, h2⟩
    · simp only [h3, Bool.false_eq_true, if_false, and_self, true_and]
      rw [h2]
      rw [Nm, numsL, h1] at p
      exact p
    · simp only [h2, if_true, and_self, true_and, if_false, Bool.false_eq_true]
      rw [Nm, numsL, h1] at p
      exact p
end Cr

namespace Cr
open PySem PySem.Builtin PySem.Builtin.Str PyProof.Rows L2 Al TL NumText
theorem is_whole_ok {i : Int} {P : D → Prop} {X : XP} (p : P (.bl true)) : F_is_whole [.int i] P X := by
  unfold F_is_whole B_is_whole
  simp only [sSeq, sIf, sSet, sRet, sNext, sExpr, sAsg, sPar, aB, aO, aU, aV, aC, aF, aIf, aAnd, aOr, aNot, aTAnd, aTOr, aTNot, aTr, aCh, aIs, aCall, aTup, aLst, aCons, aNil, aM1, aSl, pN, pS, withV, vals, sl, List.set_cons_zero, List.set_cons_succ, List.set_nil, Option.map_some, endP, endO, at0s, if_true, if_false, Bool.false_eq_true, isT, tyS, fI, fIC, fLenA, Bool.not_true, Bool.not_false, iS, iL, iT, reduceCtorEq]
  exact p
theorem is_from_ok {i a b : Int} {P : D → Prop} {X : XP} (p : P (.bl (decide (a ≤ i) && decide (i ≤ b)))) : F_is_from [.int i, .int a, .int b] P X := by
  unfold F_is_from B_is_from
  simp only [sSeq, sIf, sSet, sRet, sNext, sExpr, sAsg, sPar, aB, aO, aU, aV, aC, aF, aIf, aAnd, aOr, aNot, aTAnd, aTOr, aTNot, aTr, aCh, aIs, aCall, aTup, aLst, aCons, aNil, aM1, aSl, pN, pS, withV, vals, sl, List.set_cons_zero, List.set_cons_succ, List.set_nil, Option.map_some, endP, endO, at0s, if_true, if_false, Bool.false_eq_true, isT, tyS, fI, fIC, fLenA, Bool.not_true, Bool.not_false, iS, iL, iT, reduceCtorEq]
  refine is_whole_ok ?_
  simp only [sSeq, sIf, sSet, sRet, sNext, sExpr, sAsg, sPar, aB, aO, aU, aV, aC, aF, aIf, aAnd, aOr, aNot, aTAnd, aTOr, aTNot, aTr, aCh, aIs, aCall, aTup, aLst, aCons, aNil, aM1, aSl, pN, pS, withV, vals, sl, List.set_cons_zero, List.set_cons_succ, List.set_nil, Option.map_some, endP, endO, at0s, if_true, if_false, Bool.false_eq_true, isT, tyS, fI, fIC, fLenA, Bool.not_true, Bool.not_false, iS, iL, iT, reduceCtorEq, oIsN]
  by_cases c : a ≤ i <;> simp only [c, decide_true, decide_false, if_true, if_false, Bool.false_eq_true, Bool.true_and, Bool.false_and] at p ⊢ <;> exact p
def rkB (x : Str) (m : Int) : Bool := decide (wS x = Str.ofString "rank") && (match Nm x with
  | none => false
  | some ns => decide ((ns.length : Int) = m) && ns.all fun n => decide (-6 ≤ n) && decide (n ≤ 6))
def numD : D → Int
  | .int i => i
  | _ => 0
theorem nums_map {α : Type} (g : Int → α) (ns : List Int) : (ns.map D.int).map (fun d => g (numD d)) = ns.map g := by
  rw [List.map_map]; rfl
theorem allS_len : ∀ {os : List (Option Int)} {ns : List Int}, allS os = some ns → ns.length = os.length
  | [], ns, h => by cases h; rfl
  | none :: r, ns, h => by cases h
  | some i :: r, ns, h => by
    rw [allS] at h
    cases e : allS r with
    | none => rw [e] at h; cases h
    | some ms => rw [e] at h; cases h; simp [allS_len e]
theorem Nm_len {x : Str} {ns : List Int} (h : TOk x) (e : Nm x = some ns) : ns.length ≤ 100001 ∧ ns ≠ [] := by
  have l1 := allS_len e
  rw [List.length_map] at l1
  have l2 := sp1_len 44 (td (tl x))
  have l3 := List.count_le_length (a := 44) (l := td (tl x))
  have l4 := h.2.1
  refine ⟨by omega, fun z => ?_⟩
  rw [z, List.length_nil] at l1
  omega
theorem is_rank_ok {x : Str} {m : Int} (h : TOk x) {P : D → Prop} {X : XP} (p : P (.bl (rkB x m))) : F_is_rank [.str x, .int m] P X := by
  unfold F_is_rank B_is_rank
  refine seq_k fun K hK => ?_
  simp only [sSeq, sIf, sSet, sRet, sNext, sExpr, sAsg, sPar, aB, aO, aU, aV, aC, aF, aIf, aAnd, aOr, aNot, aTAnd, aTOr, aTNot, aTr, aCh, aIs, aCall, aTup, aLst, aCons, aNil, aM1, aSl, pN, pS, withV, vals, sl, List.set_cons_zero, List.set_cons_succ, List.set_nil, Option.map_some, endP, endO, at0s, if_true, if_false, Bool.false_eq_true, isT, tyS, fI, fIC, fLenA, Bool.not_true, Bool.not_false, iS, iL, iT, reduceCtorEq]
  refine numbers_in_ok h ?_
  rw [hK]
  refine seq_k fun K2 hK2 => ?_
  simp only [sSeq, sIf, sSet, sRet, sNext, sExpr, sAsg, sPar, aB, aO, aU, aV, aC, aF, aIf, aAnd, aOr, aNot, aTAnd, aTOr, aTNot, aTr, aCh, aIs, aCall, aTup, aLst, aCons, aNil, aM1, aSl, pN, pS, withV, vals, sl, List.set_cons_zero, List.set_cons_succ, List.set_nil, Option.map_some, endP, endO, at0s, if_true, if_false, Bool.false_eq_true, isT, tyS, fI, fIC, fLenA, Bool.not_true, Bool.not_false, iS, iL, iT, reduceCtorEq]
  refine word_in_ok h.1 ?_
  simp only [sSeq, sIf, sSet, sRet, sNext, sExpr, sAsg, sPar, aB, aO, aU, aV, aC, aF, aIf, aAnd, aOr, aNot, aTAnd, aTOr, aTNot, aTr, aCh, aIs, aCall, aTup, aLst, aCons, aNil, aM1, aSl, pN, pS, withV, vals, sl, List.set_cons_zero, List.set_cons_succ, List.set_nil, Option.map_some, endP, endO, at0s, if_true, if_false, Bool.false_eq_true, isT, tyS, fI, fIC, fLenA, Bool.not_true, Bool.not_false, iS, iL, iT, reduceCtorEq, oNeA, eqS]
  rw [rkB] at p
  by_cases c : wS x = Str.ofString "rank"
  case neg =>
    simp only [c, decide_false, Bool.not_false, if_true, Bool.false_and] at p ⊢
    exact p
  simp only [c, decide_true, Bool.not_true, if_false, Bool.false_eq_true, Bool.true_and] at p ⊢
  cases e : Nm x with
  | none =>
    rw [e] at p
    simp only [numT, oIsN, if_true] at p ⊢
    exact p
  | some ns =>
    rw [e] at p
    obtain ⟨nl, nn⟩ := Nm_len h e
    simp only [sSeq, sIf, sSet, sRet, sNext, sExpr, sAsg, sPar, aB, aO, aU, aV, aC, aF, aIf, aAnd, aOr, aNot, aTAnd, aTOr, aTNot, aTr, aCh, aIs, aCall, aTup, aLst, aCons, aNil, aM1, aSl, pN, pS, withV, vals, sl, List.set_cons_zero, List.set_cons_succ, List.set_nil, Option.map_some, endP, endO, at0s, if_true, if_false, Bool.false_eq_true, isT, tyS, fI, fIC, fLenA, Bool.not_true, Bool.not_false, iS, iL, iT, reduceCtorEq, numT, oIsN, oNeA, eqS, List.length_map]
    by_cases c2 : (ns.length : Int) = m
    case neg =>
      simp only [c2, decide_false, Bool.not_false, if_true, Bool.false_and] at p ⊢
      exact p
    simp only [c2, decide_true, Bool.not_true, if_false, Bool.false_eq_true, Bool.true_and] at p ⊢
    rw [hK2]
    simp only [sSeq, sIf, sSet, sRet, sNext, sExpr, sAsg, sPar, aB, aO, aU, aV, aC, aF, aIf, aAnd, aOr, aNot, aTAnd, aTOr, aTNot, aTr, aCh, aIs, aCall, aTup, aLst, aCons, aNil, aM1, aSl, pN, pS, withV, vals, sl, List.set_cons_zero, List.set_cons_succ, List.set_nil, Option.map_some, endP, endO, at0s, if_true, if_false, Bool.false_eq_true, isT, tyS, fI, fIC, fLenA, Bool.not_true, Bool.not_false, iS, iL, iT, reduceCtorEq]
    have sz : (100002 : Nat) < sizeLine := by decide
    refine aLc_map (ns.map D.int) (fun d => .bl (decide (-6 ≤ numD d) && decide (numD d ≤ 6))) (fun Q q => by simp only [sSeq, sIf, sSet, sRet, sNext, sExpr, sAsg, sPar, aB, aO, aU, aV, aC, aF, aIf, aAnd, aOr, aNot, aTAnd, aTOr, aTNot, aTr, aCh, aIs, aCall, aTup, aLst, aCons, aNil, aM1, aSl, pN, pS, withV, vals, sl, List.set_cons_zero, List.set_cons_succ, List.set_nil, Option.map_some, endP, endO, at0s, if_true, if_false, Bool.false_eq_true, isT, tyS, fI, fIC, fLenA, Bool.not_true, Bool.not_false, iS, iL, iT, reduceCtorEq]; exact q) (by rw [List.length_map]; omega) ?_ ?_
    · intro d hd Q q
      simp only [List.mem_map] at hd
      obtain ⟨n, hn, rfl⟩ := hd
      simp only [sSeq, sIf, sSet, sRet, sNext, sExpr, sAsg, sPar, aB, aO, aU, aV, aC, aF, aIf, aAnd, aOr, aNot, aTAnd, aTOr, aTNot, aTr, aCh, aIs, aCall, aTup, aLst, aCons, aNil, aM1, aSl, pN, pS, withV, vals, sl, List.set_cons_zero, List.set_cons_succ, List.set_nil, Option.map_some, endP, endO, at0s, if_true, if_false, Bool.false_eq_true, isT, tyS, fI, fIC, fLenA, Bool.not_true, Bool.not_false, iS, iL, iT, reduceCtorEq, oNeg]
      exact is_from_ok q
    · simp only [sSeq, sIf, sSet, sRet, sNext, sExpr, sAsg, sPar, aB, aO, aU, aV, aC, aF, aIf, aAnd, aOr, aNot, aTAnd, aTOr, aTNot, aTr, aCh, aIs, aCall, aTup, aLst, aCons, aNil, aM1, aSl, pN, pS, withV, vals, sl, List.set_cons_zero, List.set_cons_succ, List.set_nil, Option.map_some, endP, endO, at0s, if_true, if_false, Bool.false_eq_true, isT, tyS, fI, fIC, fLenA, Bool.not_true, Bool.not_false, iS, iL, iT, reduceCtorEq, fAll, bls_map]
      rw [nums_map (fun n => decide (-6 ≤ n) && decide (n ≤ 6)), List.all_map]
      exact p
theorem law_is_rank_ok {x : Str} {m : Int} (h : TOk x) {P : D → Prop} {X : XP} (p : P (.bl (rkB x m))) : F__law_is_rank [.str x, .int m] P X := by
  unfold F__law_is_rank B__law_is_rank
  refine seq_k fun K hK => ?_
  simp only [sSeq, sIf, sSet, sRet, sNext, sExpr, sAsg, sPar, aB, aO, aU, aV, aC, aF, aIf, aAnd, aOr, aNot, aTAnd, aTOr, aTNot, aTr, aCh, aIs, aCall, aTup, aLst, aCons, aNil, aM1, aSl, pN, pS, withV, vals, sl, List.set_cons_zero, List.set_cons_succ, List.set_nil, Option.map_some, endP, endO, at0s, if_true, if_false, Bool.false_eq_true, isT, tyS, fI, fIC, fLenA, Bool.not_true, Bool.not_false, iS, iL, iT, reduceCtorEq]
  refine law_numbers_in_ok h ?_
  rw [hK]
  refine seq_k fun K2 hK2 => ?_
  obtain ⟨r, hr, _⟩ := split0 x
  have sz : (200002 : Nat) < sizeLine := by decide
  have hx := h.1
  simp only [sSeq, sIf, sSet, sRet, sNext, sExpr, sAsg, sPar, aB, aO, aU, aV, aC, aF, aIf, aAnd, aOr, aNot, aTAnd, aTOr, aTNot, aTr, aCh, aIs, aCall, aTup, aLst, aCons, aNil, aM1, aSl, pN, pS, withV, vals, sl, List.set_cons_zero, List.set_cons_succ, List.set_nil, Option.map_some, endP, endO, at0s, if_true, if_false, Bool.false_eq_true, isT, tyS, fI, fIC, fLenA, Bool.not_true, Bool.not_false, iS, iL, iT, reduceCtorEq, mSplit, hr, List.map_cons, oIx, oIxL, atI0, List.head?_cons, oNeA, eqS]
  refine ⟨⟨by decide +kernel, by omega⟩, ?_⟩
  rw [rkB] at p
  by_cases c : wS x = Str.ofString "rank"
  case neg =>
    simp only [c, decide_false, Bool.not_false, if_true, Bool.false_and] at p ⊢
    exact p
  simp only [c, decide_true, Bool.not_true, if_false, Bool.false_eq_true, Bool.true_and] at p ⊢
  cases e : Nm x with
  | none =>
    rw [e] at p
    simp only [numLs, oIsN, if_true] at p ⊢
    exact p
  | some ns =>
    rw [e] at p
    obtain ⟨nl, nn⟩ := Nm_len h e
    simp only [sSeq, sIf, sSet, sRet, sNext, sExpr, sAsg, sPar, aB, aO, aU, aV, aC, aF, aIf, aAnd, aOr, aNot, aTAnd, aTOr, aTNot, aTr, aCh, aIs, aCall, aTup, aLst, aCons, aNil, aM1, aSl, pN, pS, withV, vals, sl, List.set_cons_zero, List.set_cons_succ, List.set_nil, Option.map_some, endP, endO, at0s, if_true, if_false, Bool.false_eq_true, isT, tyS, fI, fIC, fLenA, Bool.not_true, Bool.not_false, iS, iL, iT, reduceCtorEq, numLs, oIsN, oNeA, eqS, List.length_map]
    by_cases c2 : (ns.length : Int) = m
    case neg =>
      simp only [c2, decide_false, Bool.not_false, if_true, Bool.false_and] at p ⊢
      exact p
    simp only [c2, decide_true, Bool.not_true, if_false, Bool.false_eq_true, Bool.true_and] at p ⊢
    rw [hK2]
    simp only [sSeq, sIf, sSet, sRet, sNext, sExpr, sAsg, sPar, aB, aO, aU, aV, aC, aF, aIf, aAnd, aOr, aNot, aTAnd, aTOr, aTNot, aTr, aCh, aIs, aCall, aTup, aLst, aCons, aNil, aM1, aSl, pN, pS, withV, vals, sl, List.set_cons_zero, List.set_cons_succ, List.set_nil, Option.map_some, endP, endO, at0s, if_true, if_false, Bool.false_eq_true, isT, tyS, fI, fIC, fLenA, Bool.not_true, Bool.not_false, iS, iL, iT, reduceCtorEq]
    refine aLc_fil (ns.map D.int) (fun d => !(decide (-6 ≤ numD d) && decide (numD d ≤ 6))) (fun Q q => by simp only [sSeq, sIf, sSet, sRet, sNext, sExpr, sAsg, sPar, aB, aO, aU, aV, aC, aF, aIf, aAnd, aOr, aNot, aTAnd, aTOr, aTNot, aTr, aCh, aIs, aCall, aTup, aLst, aCons, aNil, aM1, aSl, pN, pS, withV, vals, sl, List.set_cons_zero, List.set_cons_succ, List.set_nil, Option.map_some, endP, endO, at0s, if_true, if_false, Bool.false_eq_true, isT, tyS, fI, fIC, fLenA, Bool.not_true, Bool.not_false, iS, iL, iT, reduceCtorEq]; exact q) (by rw [List.length_map]; omega) ?_ ?_ ?_
    · intro d hd Q q
      simp only [List.mem_map] at hd
      obtain ⟨n, hn, rfl⟩ := hd
      simp only [sSeq, sIf, sSet, sRet, sNext, sExpr, sAsg, sPar, aB, aO, aU, aV, aC, aF, aIf, aAnd, aOr, aNot, aTAnd, aTOr, aTNot, aTr, aCh, aIs, aCall, aTup, aLst, aCons, aNil, aM1, aSl, pN, pS, withV, vals, sl, List.set_cons_zero, List.set_cons_succ, List.set_nil, Option.map_some, endP, endO, at0s, if_true, if_false, Bool.false_eq_true, isT, tyS, fI, fIC, fLenA, Bool.not_true, Bool.not_false, iS, iL, iT, reduceCtorEq, oNeg]
      simp only [numD] at q
      by_cases k1 : (-6 : Int) ≤ n <;> simp only [k1, decide_true, decide_false, Bool.true_and, Bool.false_and] at q ⊢ <;> exact q
    · intro d hd Q q
      simp only [sSeq, sIf, sSet, sRet, sNext, sExpr, sAsg, sPar, aB, aO, aU, aV, aC, aF, aIf, aAnd, aOr, aNot, aTAnd, aTOr, aTNot, aTr, aCh, aIs, aCall, aTup, aLst, aCons, aNil, aM1, aSl, pN, pS, withV, vals, sl, List.set_cons_zero, List.set_cons_succ, List.set_nil, Option.map_some, endP, endO, at0s, if_true, if_false, Bool.false_eq_true, isT, tyS, fI, fIC, fLenA, Bool.not_true, Bool.not_false, iS, iL, iT, reduceCtorEq]
      exact q
    · simp only [sSeq, sIf, sSet, sRet, sNext, sExpr, sAsg, sPar, aB, aO, aU, aV, aC, aF, aIf, aAnd, aOr, aNot, aTAnd, aTOr, aTNot, aTr, aCh, aIs, aCall, aTup, aLst, aCons, aNil, aM1, aSl, pN, pS, withV, vals, sl, List.set_cons_zero, List.set_cons_succ, List.set_nil, Option.map_some, endP, endO, at0s, if_true, if_false, Bool.false_eq_true, isT, tyS, fI, fIC, fLenA, Bool.not_true, Bool.not_false, iS, iL, iT, reduceCtorEq, oEqA, eqS, List.length_nil, Nat.zero_le, true_and]
      have e2 : ∀ (q : Int → Bool) (ms : List Int), ((ms.map D.int).filter fun d => !(q (numD d))).isEmpty = ms.all q := by
        intro q ms
        induction ms with
        | nil => rfl
        | cons a l ih =>
          cases hc : q a with
          | true => rw [List.map_cons, List.filter_cons_of_neg (by simp [numD, hc])]; simp [hc, ih]
          | false => rw [List.map_cons, List.filter_cons_of_pos (by simp [numD, hc])]; simp [hc]
      rw [e2 (fun n => decide (-6 ≤ n) && decide (n ≤ 6))]
      exact p
end Cr

namespace Cr
open PySem PySem.Builtin PySem.Builtin.Str PyProof.Rows L2 Al TL NumText
theorem is_shape_ok {ns : List Int} (hl : ns.length ≤ 100001) {P : D → Prop} {X : XP} (p : P (.bl (decide (ns.length ≤ 6) && ns.all fun n => decide (0 ≤ n) && decide (n ≤ 4000)))) : F_is_shape [.tup (ns.map .int)] P X := by
  unfold F_is_shape B_is_shape
  refine seq_k fun K hK => ?_
  simp only [sSeq, sIf, sSet, sRet, sNext, sExpr, sAsg, sPar, aB, aO, aU, aV, aC, aF, aIf, aAnd, aOr, aNot, aTAnd, aTOr, aTNot, aTr, aCh, aIs, aCall, aTup, aLst, aCons, aNil, aM1, aSl, pN, pS, withV, vals, sl, List.set_cons_zero, List.set_cons_succ, List.set_nil, Option.map_some, endP, endO, at0s, if_true, if_false, Bool.false_eq_true, isT, tyS, fI, fIC, fLenA, Bool.not_true, Bool.not_false, iS, iL, iT, reduceCtorEq, List.length_map]
  by_cases c : (6 : Int) < ns.length
  · simp only [c, decide_true, beq_self_eq_true, Bool.true_or, Bool.not_true, Bool.false_eq_true, if_false, if_true]
    rw [decide_eq_false (by omega)] at p
    exact p
  · simp only [c, decide_false, beq_self_eq_true, Bool.true_or, Bool.not_true, Bool.false_eq_true, if_false]
    rw [decide_eq_true (show ns.length ≤ 6 by omega)] at p
    rw [hK]
    have sz : (100002 : Nat) < sizeLine := by decide
    simp only [sSeq, sIf, sSet, sRet, sNext, sExpr, sAsg, sPar, aB, aO, aU, aV, aC, aF, aIf, aAnd, aOr, aNot, aTAnd, aTOr, aTNot, aTr, aCh, aIs, aCall, aTup, aLst, aCons, aNil, aM1, aSl, pN, pS, withV, vals, sl, List.set_cons_zero, List.set_cons_succ, List.set_nil, Option.map_some, endP, endO, at0s, if_true, if_false, Bool.false_eq_true, isT, tyS, fI, fIC, fLenA, Bool.not_true, Bool.not_false, iS, iL, iT, reduceCtorEq]
    refine aLc_map (ns.map D.int) (fun d => .bl (decide (0 ≤ numD d) && decide (numD d ≤ 4000))) (fun Q q => by simp only [sSeq, sIf, sSet, sRet, sNext, sExpr, sAsg, sPar, aB, aO, aU, aV, aC, aF, aIf, aAnd, aOr, aNot, aTAnd, aTOr, aTNot, aTr, aCh, aIs, aCall, aTup, aLst, aCons, aNil, aM1, aSl, pN, pS, withV, vals, sl, List.set_cons_zero, List.set_cons_succ, List.set_nil, Option.map_some, endP, endO, at0s, if_true, if_false, Bool.false_eq_true, isT, tyS, fI, fIC, fLenA, Bool.not_true, Bool.not_false, iS, iL, iT, reduceCtorEq]; exact q) (by rw [List.length_map]; omega) ?_ ?_
    · intro d hd Q q
      simp only [List.mem_map] at hd
      obtain ⟨n, hn, rfl⟩ := hd
      simp only [sSeq, sIf, sSet, sRet, sNext, sExpr, sAsg, sPar, aB, aO, aU, aV, aC, aF, aIf, aAnd, aOr, aNot, aTAnd, aTOr, aTNot, aTr, aCh, aIs, aCall, aTup, aLst, aCons, aNil, aM1, aSl, pN, pS, withV, vals, sl, List.set_cons_zero, List.set_cons_succ, List.set_nil, Option.map_some, endP, endO, at0s, if_true, if_false, Bool.false_eq_true, isT, tyS, fI, fIC, fLenA, Bool.not_true, Bool.not_false, iS, iL, iT, reduceCtorEq]
      exact is_from_ok q
    · simp only [sSeq, sIf, sSet, sRet, sNext, sExpr, sAsg, sPar, aB, aO, aU, aV, aC, aF, aIf, aAnd, aOr, aNot, aTAnd, aTOr, aTNot, aTr, aCh, aIs, aCall, aTup, aLst, aCons, aNil, aM1, aSl, pN, pS, withV, vals, sl, List.set_cons_zero, List.set_cons_succ, List.set_nil, Option.map_some, endP, endO, at0s, if_true, if_false, Bool.false_eq_true, isT, tyS, fI, fIC, fLenA, Bool.not_true, Bool.not_false, iS, iL, iT, reduceCtorEq, fAll, bls_map]
      rw [nums_map (fun n => decide (0 ≤ n) && decide (n ≤ 4000)), List.all_map]
      exact p
theorem pyDs_ints : ∀ ms : List Int, pyDs (ms.map D.int) = some (ms.map PyData.int)
  | [] => rfl
  | a :: r => by
    simp only [List.map_cons, pyDs, pyD, pyDs_ints r]
theorem sh_ints (ms : List Int) : shD (.lst (ms.map D.int)) = true := by
  unfold shD
  simp only [pyD, pyDs_ints, Option.map_some]
  exact shInts ms
theorem rng_ints : ∀ (n : Nat) (lo : Int), ∃ ms : List Int, rng lo n = ms.map D.int ∧ ms.length = n
  | 0, lo => ⟨[], rfl, rfl⟩
  | n + 1, lo => by
    obtain ⟨ms, h, l⟩ := rng_ints n (lo + 1)
    exact ⟨lo :: ms, by rw [rng, h]; rfl, by simp [l]⟩
def axB (ns : List Int) : Bool := eqvD (.lst ((srtI ns).map D.int)) (.lst (rng 0 ns.length))
theorem ax_eq {ns : List Int} (hn : ns ≠ []) {P : D → Prop} (p : P (.bl (axB ns))) : oEqA (.lst ((srtI ns).map D.int)) (.lst (rng 0 ns.length)) P := by
  obtain ⟨ms, e, l⟩ := rng_ints ns.length 0
  cases ms with
  | nil =>
    exact absurd (List.length_eq_zero_iff.mp l.symm) hn
  | cons m r =>
    unfold axB at p
    rw [e] at p ⊢
    exact ⟨⟨sh_ints _, sh_ints (m :: r)⟩, p⟩
theorem srt_ne {ns : List Int} : (srtI ns).length = ns.length := (List.mergeSort_perm ns _).length_eq
abbrev O := Str.ofString
/-- the numbers of a word of one -/
def wnB (x : Str) : Bool := match Nm x with
  | none => false
  | some ns => if wS x = O "axes" then decide (ns.length ≤ 6) && axB ns else if wS x = O "deal" then decide (ns.length ≤ 6) && ns.all (fun n => decide (0 ≤ n) && decide (n ≤ 4000))
    else if wS x = O "turn" then decide (ns.length = 1) else inD (.str (wS x)) [.str (O "first"), .str (O "past"), .str (O "row")] && (decide (ns.length = 1) && decide (0 ≤ ns.headD 0))
theorem with_numbers_ok {x : Str} (h : TOk x) {P : D → Prop} {X : XP} (p : P (.bl (wnB x))) : F_is_with_numbers [.str x] P X := by
  unfold F_is_with_numbers B_is_with_numbers
  refine seq_k fun K hK => ?_
  simp only [sSeq, sIf, sSet, sRet, sNext, sExpr, sAsg, sPar, aB, aO, aU, aV, aC, aF, aIf, aAnd, aOr, aNot, aTAnd, aTOr, aTNot, aTr, aCh, aIs, aCall, aTup, aLst, aCons, aNil, aM1, aSl, pN, pS, withV, vals, sl, List.set_cons_zero, List.set_cons_succ, List.set_nil, Option.map_some, endP, endO, at0s, if_true, if_false, Bool.false_eq_true, isT, tyS, fI, fIC, fLenA, Bool.not_true, Bool.not_false, iS, iL, iT, reduceCtorEq]
  refine word_in_ok h.1 ?_
  refine numbers_in_ok h ?_
  rw [hK]
  refine seq_k fun K2 hK2 => ?_
  rw [wnB] at p
  cases e : Nm x with
  | none =>
    rw [e] at p
    simp only [sSeq, sIf, sSet, sRet, sNext, sExpr, sAsg, sPar, aB, aO, aU, aV, aC, aF, aIf, aAnd, aOr, aNot, aTAnd, aTOr, aTNot, aTr, aCh, aIs, aCall, aTup, aLst, aCons, aNil, aM1, aSl, pN, pS, withV, vals, sl, List.set_cons_zero, List.set_cons_succ, List.set_nil, Option.map_some, endP, endO, at0s, if_true, if_false, Bool.false_eq_true, isT, tyS, fI, fIC, fLenA, Bool.not_true, Bool.not_false, iS, iL, iT, reduceCtorEq, numT, oIsN]
    exact p
  | some ns =>
    rw [e] at p
    obtain ⟨nl, nn⟩ := Nm_len h e
    simp only [sSeq, sIf, sSet, sRet, sNext, sExpr, sAsg, sPar, aB, aO, aU, aV, aC, aF, aIf, aAnd, aOr, aNot, aTAnd, aTOr, aTNot, aTr, aCh, aIs, aCall, aTup, aLst, aCons, aNil, aM1, aSl, pN, pS, withV, vals, sl, List.set_cons_zero, List.set_cons_succ, List.set_nil, Option.map_some, endP, endO, at0s, if_true, if_false, Bool.false_eq_true, isT, tyS, fI, fIC, fLenA, Bool.not_true, Bool.not_false, iS, iL, iT, reduceCtorEq, numT, oIsN]
    rw [hK2]
    refine seq_k fun K3 hK3 => ?_
    simp only [sSeq, sIf, sSet, sRet, sNext, sExpr, sAsg, sPar, aB, aO, aU, aV, aC, aF, aIf, aAnd, aOr, aNot, aTAnd, aTOr, aTNot, aTr, aCh, aIs, aCall, aTup, aLst, aCons, aNil, aM1, aSl, pN, pS, withV, vals, sl, List.set_cons_zero, List.set_cons_succ, List.set_nil, Option.map_some, endP, endO, at0s, if_true, if_false, Bool.false_eq_true, isT, tyS, fI, fIC, fLenA, Bool.not_true, Bool.not_false, iS, iL, iT, reduceCtorEq, oEqA, eqS, fSorted, Al.ints_map, List.length_map, aLr]
    simp only at p
    by_cases c1 : wS x = O "axes"
    · rw [if_pos c1] at p
      simp only [c1, decide_true, if_true]
      by_cases c2 : (ns.length : Int) ≤ 6
      · rw [decide_eq_true (show ns.length ≤ 6 by omega), Bool.true_and] at p
        simp only [c2, decide_true, if_true]
        refine ⟨by omega, ?_⟩
        exact ax_eq nn p
      · rw [decide_eq_false (show ¬ ns.length ≤ 6 by omega), Bool.false_and] at p
        simp only [c2, decide_false, if_false, Bool.false_eq_true]
        exact p
    rw [if_neg c1] at p
    simp only [c1, decide_false, if_false, Bool.false_eq_true]
    rw [hK3]
    refine seq_k fun K4 hK4 => ?_
    simp only [sSeq, sIf, sSet, sRet, sNext, sExpr, sAsg, sPar, aB, aO, aU, aV, aC, aF, aIf, aAnd, aOr, aNot, aTAnd, aTOr, aTNot, aTr, aCh, aIs, aCall, aTup, aLst, aCons, aNil, aM1, aSl, pN, pS, withV, vals, sl, List.set_cons_zero, List.set_cons_succ, List.set_nil, Option.map_some, endP, endO, at0s, if_true, if_false, Bool.false_eq_true, isT, tyS, fI, fIC, fLenA, Bool.not_true, Bool.not_false, iS, iL, iT, reduceCtorEq, oEqA, eqS]
    by_cases c2 : wS x = O "deal"
    · rw [if_pos c2] at p
      simp only [c2, decide_true, if_true]
      exact is_shape_ok nl p
    rw [if_neg c2] at p
    simp only [c2, decide_false, if_false, Bool.false_eq_true]
    rw [hK4]
    refine seq_k fun K5 hK5 => ?_
    simp only [sSeq, sIf, sSet, sRet, sNext, sExpr, sAsg, sPar, aB, aO, aU, aV, aC, aF, aIf, aAnd, aOr, aNot, aTAnd, aTOr, aTNot, aTr, aCh, aIs, aCall, aTup, aLst, aCons, aNil, aM1, aSl, pN, pS, withV, vals, sl, List.set_cons_zero, List.set_cons_succ, List.set_nil, Option.map_some, endP, endO, at0s, if_true, if_false, Bool.false_eq_true, isT, tyS, fI, fIC, fLenA, Bool.not_true, Bool.not_false, iS, iL, iT, reduceCtorEq, oEqA, eqS, List.length_map]
    by_cases c3 : wS x = O "turn"
    · rw [if_pos c3] at p
      simp only [c3, decide_true, if_true]
      rw [show decide ((ns.length : Int) = 1) = decide (ns.length = 1) from decide_eq_decide.mpr (by omega)]
      exact p
    rw [if_neg c3] at p
    simp only [c3, decide_false, if_false, Bool.false_eq_true]
    rw [hK5]
    simp only [sSeq, sIf, sSet, sRet, sNext, sExpr, sAsg, sPar, aB, aO, aU, aV, aC, aF, aIf, aAnd, aOr, aNot, aTAnd, aTOr, aTNot, aTr, aCh, aIs, aCall, aTup, aLst, aCons, aNil, aM1, aSl, pN, pS, withV, vals, sl, List.set_cons_zero, List.set_cons_succ, List.set_nil, Option.map_some, endP, endO, at0s, if_true, if_false, Bool.false_eq_true, isT, tyS, fI, fIC, fLenA, Bool.not_true, Bool.not_false, iS, iL, iT, reduceCtorEq, oInA, oIn, flatD, List.all_cons, List.all_nil, Bool.and_self, true_and, and_self, oEqA, eqS, List.length_map]
    cases hi : inD (.str (wS x)) [.str (O "first"), .str (O "past"), .str (O "row")] with
    | false =>
      rw [hi] at p
      simp only [if_false, Bool.false_eq_true]
      exact p
    | true =>
      rw [hi, Bool.true_and] at p
      simp only [if_true]
      rw [show decide ((ns.length : Int) = 1) = decide (ns.length = 1) from decide_eq_decide.mpr (by omega)]
      by_cases c4 : ns.length = 1
      · simp only [c4, decide_true, if_true, Bool.true_and] at p ⊢
        cases ns with
        | nil => exact absurd rfl nn
        | cons n r =>
          simp only [sSeq, sIf, sSet, sRet, sNext, sExpr, sAsg, sPar, aB, aO, aU, aV, aC, aF, aIf, aAnd, aOr, aNot, aTAnd, aTOr, aTNot, aTr, aCh, aIs, aCall, aTup, aLst, aCons, aNil, aM1, aSl, pN, pS, withV, vals, sl, List.set_cons_zero, List.set_cons_succ, List.set_nil, Option.map_some, endP, endO, at0s, if_true, if_false, Bool.false_eq_true, isT, tyS, fI, fIC, fLenA, Bool.not_true, Bool.not_false, iS, iL, iT, reduceCtorEq, oIx, oIxT, List.map_cons, atI0, List.head?_cons]
          exact p
      · simp only [c4, decide_false, if_false, Bool.false_eq_true, Bool.false_and] at p ⊢
        exact p
end Cr

namespace Cr
open PySem PySem.Builtin PySem.Builtin.Str PyProof.Rows L2 Al TL NumText
def isFS (x : Str) : Bool := inD (.str (wS x)) [.str (O "fold"), .str (O "scan")]
def inFo (x : Str) : Bool := inD (.str x) [.str (O "add"), .str (O "mul"), .str (O "least"), .str (O "most")]
def inPl (x : Str) : Bool := inD (.str x) [.str (O "flip"), .str (O "lift"), .str (O "flat")]
def onB (x : Str) : Bool := if isFS x then decide (x = wS x ++ O ":" ++ tS x) && inFo (tS x) else (([O "neg", O "abs", O "sign", O "not"] : List Str).contains x || (inPl x || wnB x))
theorem wS_len (x : Str) : (wS x).length ≤ x.length := by
  rw [wS, len_S, len_tl, wd]
  exact (List.takeWhile_prefix _).length_le
theorem tS_len (x : Str) : (tS x).length ≤ x.length := by
  rw [tS, len_S, len_tl, td, List.length_drop]
  have := (List.dropWhile_suffix (l := tl x) (· != 58)).length_le
  omega
theorem word_of_one_ok {x : Str} (h : TOk x) {P : D → Prop} {X : XP} (p : P (.bl (onB x))) : F_is_word_of_one [.str x] P X := by
  unfold F_is_word_of_one B_is_word_of_one
  have sz : (300003 : Nat) < sizeLine := by decide
  have hx := h.1
  have l1 := wS_len x
  have l2 := tS_len x
  refine seq_k fun K hK => ?_
  simp only [sSeq, sIf, sSet, sRet, sNext, sExpr, sAsg, sPar, aB, aO, aU, aV, aC, aF, aIf, aAnd, aOr, aNot, aTAnd, aTOr, aTNot, aTr, aCh, aIs, aCall, aTup, aLst, aCons, aNil, aM1, aSl, pN, pS, withV, vals, sl, List.set_cons_zero, List.set_cons_succ, List.set_nil, Option.map_some, endP, endO, at0s, if_true, if_false, Bool.false_eq_true, isT, tyS, fI, fIC, fLenA, Bool.not_true, Bool.not_false, iS, iL, iT, reduceCtorEq]
  refine word_in_ok h.1 ?_
  simp only [sSeq, sIf, sSet, sRet, sNext, sExpr, sAsg, sPar, aB, aO, aU, aV, aC, aF, aIf, aAnd, aOr, aNot, aTAnd, aTOr, aTNot, aTr, aCh, aIs, aCall, aTup, aLst, aCons, aNil, aM1, aSl, pN, pS, withV, vals, sl, List.set_cons_zero, List.set_cons_succ, List.set_nil, Option.map_some, endP, endO, at0s, if_true, if_false, Bool.false_eq_true, isT, tyS, fI, fIC, fLenA, Bool.not_true, Bool.not_false, iS, iL, iT, reduceCtorEq, oInA, oIn, flatD, List.all_cons, List.all_nil, Bool.and_self, true_and, and_self, List.length_cons, List.length_nil]
  refine ⟨by decide, ?_⟩
  rw [onB] at p
  cases c : isFS x with
  | true =>
    rw [c, if_pos rfl] at p
    unfold isFS at c
    rw [c]
    simp only [if_true]
    refine word_in_ok h.1 ?_
    have l3 : (Str.ofString ":").length = 1 := by decide +kernel
    simp only [sSeq, sIf, sSet, sRet, sNext, sExpr, sAsg, sPar, aB, aO, aU, aV, aC, aF, aIf, aAnd, aOr, aNot, aTAnd, aTOr, aTNot, aTr, aCh, aIs, aCall, aTup, aLst, aCons, aNil, aM1, aSl, pN, pS, withV, vals, sl, List.set_cons_zero, List.set_cons_succ, List.set_nil, Option.map_some, endP, endO, at0s, if_true, if_false, Bool.false_eq_true, isT, tyS, fI, fIC, fLenA, Bool.not_true, Bool.not_false, iS, iL, iT, reduceCtorEq, oAddA, oCatS]
    refine ⟨by omega, told_in_ok h.1 ⟨?_, ?_⟩⟩
    · have : (wS x ++ Str.ofString ":").length = (wS x).length + 1 := by rw [len_tl, tl_append, List.length_append, ← len_tl, ← len_tl, l3]
      omega
    simp only [sSeq, sIf, sSet, sRet, sNext, sExpr, sAsg, sPar, aB, aO, aU, aV, aC, aF, aIf, aAnd, aOr, aNot, aTAnd, aTOr, aTNot, aTr, aCh, aIs, aCall, aTup, aLst, aCons, aNil, aM1, aSl, pN, pS, withV, vals, sl, List.set_cons_zero, List.set_cons_succ, List.set_nil, Option.map_some, endP, endO, at0s, if_true, if_false, Bool.false_eq_true, isT, tyS, fI, fIC, fLenA, Bool.not_true, Bool.not_false, iS, iL, iT, reduceCtorEq, oEqA, eqS]
    by_cases c2 : x = wS x ++ O ":" ++ tS x
    · rw [decide_eq_true c2] at p ⊢
      simp only [if_true]
      refine told_in_ok h.1 ?_
      exact ⟨⟨rfl, trivial⟩, p⟩
    · rw [decide_eq_false c2] at p ⊢
      simp only [Bool.false_eq_true, if_false]
      exact p
  | false =>
    rw [c] at p
    unfold isFS at c
    rw [c]
    simp only [if_false, Bool.false_eq_true] at p ⊢
    rw [hK]
    simp only [sSeq, sIf, sSet, sRet, sNext, sExpr, sAsg, sPar, aB, aO, aU, aV, aC, aF, aIf, aAnd, aOr, aNot, aTAnd, aTOr, aTNot, aTr, aCh, aIs, aCall, aTup, aLst, aCons, aNil, aM1, aSl, pN, pS, withV, vals, sl, List.set_cons_zero, List.set_cons_succ, List.set_nil, Option.map_some, endP, endO, at0s, if_true, if_false, Bool.false_eq_true, isT, tyS, fI, fIC, fLenA, Bool.not_true, Bool.not_false, iS, iL, iT, reduceCtorEq, oInK1]
    cases c1 : ([O "neg", O "abs", O "sign", O "not"] : List Str).contains x with
    | true => rw [c1] at p; exact p
    | false =>
      rw [c1] at p
      simp only [Bool.false_eq_true, if_false, Bool.false_or] at p ⊢
      simp only [sSeq, sIf, sSet, sRet, sNext, sExpr, sAsg, sPar, aB, aO, aU, aV, aC, aF, aIf, aAnd, aOr, aNot, aTAnd, aTOr, aTNot, aTr, aCh, aIs, aCall, aTup, aLst, aCons, aNil, aM1, aSl, pN, pS, withV, vals, sl, List.set_cons_zero, List.set_cons_succ, List.set_nil, Option.map_some, endP, endO, at0s, if_true, if_false, Bool.false_eq_true, isT, tyS, fI, fIC, fLenA, Bool.not_true, Bool.not_false, iS, iL, iT, reduceCtorEq, oInA, oIn, flatD, List.all_cons, List.all_nil, Bool.and_self, true_and, and_self]
      cases c2 : inPl x with
      | true =>
        rw [c2] at p
        unfold inPl at c2
        rw [c2]
        exact p
      | false =>
        rw [c2] at p
        unfold inPl at c2
        rw [c2]
        simp only [Bool.false_eq_true, if_false, Bool.false_or] at p ⊢
        exact with_numbers_ok h p
def twB (x : Str) : Bool := ([O "add", O "sub", O "mul", O "div", O "rest", O "least", O "most", O "less", O "same"] : List Str).contains x
def t2B (x : Str) : Bool := if wS x = O "table" then twB (tS x) else (twB x || inD (.str x) [.str (O "join"), .str (O "pick")])
theorem word_of_two_ok {x : Str} (h : TOk x) {P : D → Prop} {X : XP} (p : P (.bl (t2B x))) : F_is_word_of_two [.str x] P X := by
  unfold F_is_word_of_two B_is_word_of_two
  refine seq_k fun K hK => ?_
  simp only [sSeq, sIf, sSet, sRet, sNext, sExpr, sAsg, sPar, aB, aO, aU, aV, aC, aF, aIf, aAnd, aOr, aNot, aTAnd, aTOr, aTNot, aTr, aCh, aIs, aCall, aTup, aLst, aCons, aNil, aM1, aSl, pN, pS, withV, vals, sl, List.set_cons_zero, List.set_cons_succ, List.set_nil, Option.map_some, endP, endO, at0s, if_true, if_false, Bool.false_eq_true, isT, tyS, fI, fIC, fLenA, Bool.not_true, Bool.not_false, iS, iL, iT, reduceCtorEq]
  refine word_in_ok h.1 ?_
  simp only [sSeq, sIf, sSet, sRet, sNext, sExpr, sAsg, sPar, aB, aO, aU, aV, aC, aF, aIf, aAnd, aOr, aNot, aTAnd, aTOr, aTNot, aTr, aCh, aIs, aCall, aTup, aLst, aCons, aNil, aM1, aSl, pN, pS, withV, vals, sl, List.set_cons_zero, List.set_cons_succ, List.set_nil, Option.map_some, endP, endO, at0s, if_true, if_false, Bool.false_eq_true, isT, tyS, fI, fIC, fLenA, Bool.not_true, Bool.not_false, iS, iL, iT, reduceCtorEq, oEqA, eqS]
  rw [t2B] at p
  by_cases c : wS x = O "table"
  · rw [if_pos c] at p
    simp only [c, decide_true, if_true]
    refine told_in_ok h.1 ?_
    simp only [sSeq, sIf, sSet, sRet, sNext, sExpr, sAsg, sPar, aB, aO, aU, aV, aC, aF, aIf, aAnd, aOr, aNot, aTAnd, aTOr, aTNot, aTr, aCh, aIs, aCall, aTup, aLst, aCons, aNil, aM1, aSl, pN, pS, withV, vals, sl, List.set_cons_zero, List.set_cons_succ, List.set_nil, Option.map_some, endP, endO, at0s, if_true, if_false, Bool.false_eq_true, isT, tyS, fI, fIC, fLenA, Bool.not_true, Bool.not_false, iS, iL, iT, reduceCtorEq, oInK1]
    exact p
  · rw [if_neg c] at p
    simp only [c, decide_false, if_false, Bool.false_eq_true]
    rw [hK]
    simp only [sSeq, sIf, sSet, sRet, sNext, sExpr, sAsg, sPar, aB, aO, aU, aV, aC, aF, aIf, aAnd, aOr, aNot, aTAnd, aTOr, aTNot, aTr, aCh, aIs, aCall, aTup, aLst, aCons, aNil, aM1, aSl, pN, pS, withV, vals, sl, List.set_cons_zero, List.set_cons_succ, List.set_nil, Option.map_some, endP, endO, at0s, if_true, if_false, Bool.false_eq_true, isT, tyS, fI, fIC, fLenA, Bool.not_true, Bool.not_false, iS, iL, iT, reduceCtorEq, oInK1]
    cases c1 : twB x with
    | true =>
      rw [c1] at p
      unfold twB at c1
      rw [c1]
      exact p
    | false =>
      rw [c1] at p
      unfold twB at c1
      rw [c1]
      simp only [Bool.false_eq_true, if_false, Bool.false_or] at p ⊢
      simp only [sSeq, sIf, sSet, sRet, sNext, sExpr, sAsg, sPar, aB, aO, aU, aV, aC, aF, aIf, aAnd, aOr, aNot, aTAnd, aTOr, aTNot, aTr, aCh, aIs, aCall, aTup, aLst, aCons, aNil, aM1, aSl, pN, pS, withV, vals, sl, List.set_cons_zero, List.set_cons_succ, List.set_nil, Option.map_some, endP, endO, at0s, if_true, if_false, Bool.false_eq_true, isT, tyS, fI, fIC, fLenA, Bool.not_true, Bool.not_false, iS, iL, iT, reduceCtorEq, oInA, oIn, flatD, List.all_cons, List.all_nil, Bool.and_self, true_and, and_self]
      exact p
def wdB (x : Str) (m : Int) : Bool := if m = 1 then onB x else t2B x
theorem is_word_ok {x : Str} {m : Int} (h : TOk x) {P : D → Prop} {X : XP} (p : P (.bl (wdB x m))) : F_is_word [.str x, .int m] P X := by
  unfold F_is_word B_is_word
  simp only [sSeq, sIf, sSet, sRet, sNext, sExpr, sAsg, sPar, aB, aO, aU, aV, aC, aF, aIf, aAnd, aOr, aNot, aTAnd, aTOr, aTNot, aTr, aCh, aIs, aCall, aTup, aLst, aCons, aNil, aM1, aSl, pN, pS, withV, vals, sl, List.set_cons_zero, List.set_cons_succ, List.set_nil, Option.map_some, endP, endO, at0s, if_true, if_false, Bool.false_eq_true, isT, tyS, fI, fIC, fLenA, Bool.not_true, Bool.not_false, iS, iL, iT, reduceCtorEq, oEqA, eqS]
  rw [wdB] at p
  by_cases c : m = 1
  · rw [if_pos c] at p
    simp only [c, decide_true, if_true]
    exact word_of_one_ok h p
  · rw [if_neg c] at p
    simp only [c, decide_false, if_false, Bool.false_eq_true]
    exact word_of_two_ok h p
/-- any thing that is drawn: no own thing, texts that can be read -/
inductive Th8 : D → Prop
  | non : Th8 .non
  | bl (b : Bool) : Th8 (.bl b)
  | int (i : Int) : Th8 (.int i)
  | str (x : Str) : TOk x → Th8 (.str x)
  | lst (ds : List D) : Th8 (.lst ds)
  | dic : Th8 (.dic [])
  | tup (ds : List D) : (∀ d ∈ ds, (∃ x, d = .str x ∧ TOk x) ∨ ((∃ n, tyS d = some n ∧ n ≠ "str"))) → ds.length ≤ 100 → Th8 (.tup ds)
def isS : D → Bool
  | .str _ => true
  | _ => false
def strOf : D → Str
  | .str x => x
  | _ => O ""
def vbB : D → Int → Bool
  | .tup ds, m => decide (1 ≤ ds.length) && (decide (ds.length ≤ 4) && (ds.all isS && (ds.dropLast.all (fun d => rkB (strOf d) m) && wdB (strOf (ds.getLastD .non)) m)))
  | _, _ => false
theorem drop_last {α : Type} : ∀ (l : List α) (h : l ≠ []), l.drop (l.length - 1) = [l.getLast h]
  | [a], _ => rfl
  | a :: b :: r, _ => by simpa using drop_last (b :: r) (by simp)
theorem isT_tup {d : D} {n : String} (h : tyS d = some n) : isT "tuple" d = some (n == "tuple") := by
  unfold isT
  rw [h]
  simp
theorem all_str {ds : List D} (h : ∀ d ∈ ds, (∃ x, d = .str x ∧ TOk x) ∨ ((∃ n, tyS d = some n ∧ n ≠ "str"))) : ∀ d ∈ ds, isT "str" d = some (isS d) := fun d hd => by
  rcases h d hd with ⟨x, rfl, _⟩ | ⟨n, e, hn⟩
  · rfl
  · have : isS d = false := by
      cases d <;> first | rfl | (simp [tyS] at e; exact absurd e.symm hn)
    rw [this]
    unfold isT
    rw [e]
    simp [hn]
theorem is_verb_ok {d : D} {m : Int} (h : Th8 d) {P : D → Prop} {X : XP} (p : P (.bl (vbB d m))) : F_is_verb [d, .int m] P X := by
  unfold F_is_verb B_is_verb
  refine seq_k fun K hK => ?_
  cases h with
  | non => simp only [sSeq, sIf, sSet, sRet, sNext, sExpr, sAsg, sPar, aB, aO, aU, aV, aC, aF, aIf, aAnd, aOr, aNot, aTAnd, aTOr, aTNot, aTr, aCh, aIs, aCall, aTup, aLst, aCons, aNil, aM1, aSl, pN, pS, withV, vals, sl, List.set_cons_zero, List.set_cons_succ, List.set_nil, Option.map_some, endP, endO, at0s, if_true, if_false, Bool.false_eq_true, isT, tyS, fI, fIC, fLenA, Bool.not_true, Bool.not_false, iS, iL, iT, reduceCtorEq]; exact p
  | bl b => simp only [sSeq, sIf, sSet, sRet, sNext, sExpr, sAsg, sPar, aB, aO, aU, aV, aC, aF, aIf, aAnd, aOr, aNot, aTAnd, aTOr, aTNot, aTr, aCh, aIs, aCall, aTup, aLst, aCons, aNil, aM1, aSl, pN, pS, withV, vals, sl, List.set_cons_zero, List.set_cons_succ, List.set_nil, Option.map_some, endP, endO, at0s, if_true, if_false, Bool.false_eq_true, isT, tyS, fI, fIC, fLenA, Bool.not_true, Bool.not_false, iS, iL, iT, reduceCtorEq]; exact p
  | int b => simp only [sSeq, sIf, sSet, sRet, sNext, sExpr, sAsg, sPar, aB, aO, aU, aV, aC, aF, aIf, aAnd, aOr, aNot, aTAnd, aTOr, aTNot, aTr, aCh, aIs, aCall, aTup, aLst, aCons, aNil, aM1, aSl, pN, pS, withV, vals, sl, List.set_cons_zero, List.set_cons_succ, List.set_nil, Option.map_some, endP, endO, at0s, if_true, if_false, Bool.false_eq_true, isT, tyS, fI, fIC, fLenA, Bool.not_true, Bool.not_false, iS, iL, iT, reduceCtorEq]; exact p
  | str x hx => simp only [sSeq, sIf, sSet, sRet, sNext, sExpr, sAsg, sPar, aB, aO, aU, aV, aC, aF, aIf, aAnd, aOr, aNot, aTAnd, aTOr, aTNot, aTr, aCh, aIs, aCall, aTup, aLst, aCons, aNil, aM1, aSl, pN, pS, withV, vals, sl, List.set_cons_zero, List.set_cons_succ, List.set_nil, Option.map_some, endP, endO, at0s, if_true, if_false, Bool.false_eq_true, isT, tyS, fI, fIC, fLenA, Bool.not_true, Bool.not_false, iS, iL, iT, reduceCtorEq]; exact p
  | lst ds => simp only [sSeq, sIf, sSet, sRet, sNext, sExpr, sAsg, sPar, aB, aO, aU, aV, aC, aF, aIf, aAnd, aOr, aNot, aTAnd, aTOr, aTNot, aTr, aCh, aIs, aCall, aTup, aLst, aCons, aNil, aM1, aSl, pN, pS, withV, vals, sl, List.set_cons_zero, List.set_cons_succ, List.set_nil, Option.map_some, endP, endO, at0s, if_true, if_false, Bool.false_eq_true, isT, tyS, fI, fIC, fLenA, Bool.not_true, Bool.not_false, iS, iL, iT, reduceCtorEq]; exact p
  | dic => simp only [sSeq, sIf, sSet, sRet, sNext, sExpr, sAsg, sPar, aB, aO, aU, aV, aC, aF, aIf, aAnd, aOr, aNot, aTAnd, aTOr, aTNot, aTr, aCh, aIs, aCall, aTup, aLst, aCons, aNil, aM1, aSl, pN, pS, withV, vals, sl, List.set_cons_zero, List.set_cons_succ, List.set_nil, Option.map_some, endP, endO, at0s, if_true, if_false, Bool.false_eq_true, isT, tyS, fI, fIC, fLenA, Bool.not_true, Bool.not_false, iS, iL, iT, reduceCtorEq]; exact p
  | tup ds hd hl =>
    have sz : (300003 : Nat) < sizeLine := by decide
    simp only [sSeq, sIf, sSet, sRet, sNext, sExpr, sAsg, sPar, aB, aO, aU, aV, aC, aF, aIf, aAnd, aOr, aNot, aTAnd, aTOr, aTNot, aTr, aCh, aIs, aCall, aTup, aLst, aCons, aNil, aM1, aSl, pN, pS, withV, vals, sl, List.set_cons_zero, List.set_cons_succ, List.set_nil, Option.map_some, endP, endO, at0s, if_true, if_false, Bool.false_eq_true, isT, tyS, fI, fIC, fLenA, Bool.not_true, Bool.not_false, iS, iL, iT, reduceCtorEq]
    simp only [vbB] at p
    by_cases c1 : (1 : Int) ≤ ds.length
    case neg =>
      rw [decide_eq_false (show ¬ 1 ≤ ds.length by omega)] at p
      simp only [c1, decide_false, beq_self_eq_true, Bool.true_or, Bool.not_true, Bool.false_eq_true, if_false, Bool.not_false, if_true]
      exact p
    rw [decide_eq_true (show 1 ≤ ds.length by omega), Bool.true_and] at p
    by_cases c2 : (ds.length : Int) ≤ 4
    case neg =>
      rw [decide_eq_false (show ¬ ds.length ≤ 4 by omega)] at p
      simp only [c1, c2, decide_true, decide_false, beq_self_eq_true, Bool.true_or, Bool.not_true, Bool.false_eq_true, if_false, Bool.not_false, if_true]
      exact p
    rw [decide_eq_true (show ds.length ≤ 4 by omega), Bool.true_and] at p
    simp only [c1, c2, decide_true, decide_false, beq_self_eq_true, Bool.true_or, Bool.not_true, Bool.false_eq_true, if_false, Bool.not_false, if_true]
    rw [hK]
    refine seq_k fun K2 hK2 => ?_
    simp only [sSeq, sIf, sSet, sRet, sNext, sExpr, sAsg, sPar, aB, aO, aU, aV, aC, aF, aIf, aAnd, aOr, aNot, aTAnd, aTOr, aTNot, aTr, aCh, aIs, aCall, aTup, aLst, aCons, aNil, aM1, aSl, pN, pS, withV, vals, sl, List.set_cons_zero, List.set_cons_succ, List.set_nil, Option.map_some, endP, endO, at0s, if_true, if_false, Bool.false_eq_true, isT, tyS, fI, fIC, fLenA, Bool.not_true, Bool.not_false, iS, iL, iT, reduceCtorEq]
    refine aLc_map ds (fun d => .bl (isS d)) (fun Q q => by simp only [sSeq, sIf, sSet, sRet, sNext, sExpr, sAsg, sPar, aB, aO, aU, aV, aC, aF, aIf, aAnd, aOr, aNot, aTAnd, aTOr, aTNot, aTr, aCh, aIs, aCall, aTup, aLst, aCons, aNil, aM1, aSl, pN, pS, withV, vals, sl, List.set_cons_zero, List.set_cons_succ, List.set_nil, Option.map_some, endP, endO, at0s, if_true, if_false, Bool.false_eq_true, isT, tyS, fI, fIC, fLenA, Bool.not_true, Bool.not_false, iS, iL, iT, reduceCtorEq]; exact q) (by omega) ?_ ?_
    · intro d hd' Q q
      have := all_str hd d hd'
      simp only [aIs, aV, sl, List.set_cons_succ, List.set_cons_zero, this]
      exact q
    · simp only [sSeq, sIf, sSet, sRet, sNext, sExpr, sAsg, sPar, aB, aO, aU, aV, aC, aF, aIf, aAnd, aOr, aNot, aTAnd, aTOr, aTNot, aTr, aCh, aIs, aCall, aTup, aLst, aCons, aNil, aM1, aSl, pN, pS, withV, vals, sl, List.set_cons_zero, List.set_cons_succ, List.set_nil, Option.map_some, endP, endO, at0s, if_true, if_false, Bool.false_eq_true, isT, tyS, fI, fIC, fLenA, Bool.not_true, Bool.not_false, iS, iL, iT, reduceCtorEq, fAll, bls_map]
      rw [show (ds.map isS).all _root_.id = ds.all isS by rw [List.all_map]; rfl]
      cases c3 : ds.all isS with
      | false =>
        rw [c3] at p
        simp only [Bool.not_false, if_true]
        exact p
      | true =>
        rw [c3, Bool.true_and] at p
        simp only [Bool.not_true, if_false, Bool.false_eq_true]
        rw [hK2]
        refine seq_k fun K3 hK3 => ?_
        have ed : starD 2 0 ds = [.lst ds.dropLast, ds.getLastD .non] := by
          have ne : ds ≠ [] := fun z => by rw [z] at c1; simp at c1
          unfold starD
          rw [List.take_zero, List.drop_zero, List.nil_append, show ds.length + 1 - 2 = ds.length - 1 by omega, drop_last ds ne, List.dropLast_eq_take, List.getLastD_eq_getLast?, List.getLast?_eq_some_getLast ne]
          rfl
        simp only [sSeq, sIf, sSet, sRet, sNext, sExpr, sAsg, sPar, aB, aO, aU, aV, aC, aF, aIf, aAnd, aOr, aNot, aTAnd, aTOr, aTNot, aTr, aCh, aIs, aCall, aTup, aLst, aCons, aNil, aM1, aSl, pN, pS, withV, vals, sl, List.set_cons_zero, List.set_cons_succ, List.set_nil, Option.map_some, endP, endO, at0s, if_true, if_false, Bool.false_eq_true, isT, tyS, fI, fIC, fLenA, Bool.not_true, Bool.not_false, iS, iL, iT, reduceCtorEq, gStT, gSt, List.length_cons, List.length_nil, ed, setAll]
        refine ⟨⟨by omega, by omega, by omega⟩, ?_⟩
        rw [hK3]
        have hstr : ∀ d ∈ ds, ∃ x, d = .str x ∧ TOk x := fun d hd' => by
          rcases hd d hd' with h | ⟨n, e, hn⟩
          · exact h
          · have := List.all_eq_true.mp c3 d hd'
            cases d with
            | str x => simp only [tyS, Option.some.injEq] at e; exact absurd e.symm hn
            | _ => cases this
        have ne : ds ≠ [] := fun z => by rw [z] at c1; simp at c1
        simp only [sSeq, sIf, sSet, sRet, sNext, sExpr, sAsg, sPar, aB, aO, aU, aV, aC, aF, aIf, aAnd, aOr, aNot, aTAnd, aTOr, aTNot, aTr, aCh, aIs, aCall, aTup, aLst, aCons, aNil, aM1, aSl, pN, pS, withV, vals, sl, List.set_cons_zero, List.set_cons_succ, List.set_nil, Option.map_some, endP, endO, at0s, if_true, if_false, Bool.false_eq_true, isT, tyS, fI, fIC, fLenA, Bool.not_true, Bool.not_false, iS, iL, iT, reduceCtorEq]
        refine aLc_map ds.dropLast (fun d => .bl (rkB (strOf d) m)) (fun Q q => by simp only [sSeq, sIf, sSet, sRet, sNext, sExpr, sAsg, sPar, aB, aO, aU, aV, aC, aF, aIf, aAnd, aOr, aNot, aTAnd, aTOr, aTNot, aTr, aCh, aIs, aCall, aTup, aLst, aCons, aNil, aM1, aSl, pN, pS, withV, vals, sl, List.set_cons_zero, List.set_cons_succ, List.set_nil, Option.map_some, endP, endO, at0s, if_true, if_false, Bool.false_eq_true, isT, tyS, fI, fIC, fLenA, Bool.not_true, Bool.not_false, iS, iL, iT, reduceCtorEq]; exact q) (by rw [List.length_dropLast]; omega) ?_ ?_
        · intro d hd' Q q
          obtain ⟨x, rfl, hx⟩ := hstr d (List.dropLast_subset ds hd')
          simp only [sSeq, sIf, sSet, sRet, sNext, sExpr, sAsg, sPar, aB, aO, aU, aV, aC, aF, aIf, aAnd, aOr, aNot, aTAnd, aTOr, aTNot, aTr, aCh, aIs, aCall, aTup, aLst, aCons, aNil, aM1, aSl, pN, pS, withV, vals, sl, List.set_cons_zero, List.set_cons_succ, List.set_nil, Option.map_some, endP, endO, at0s, if_true, if_false, Bool.false_eq_true, isT, tyS, fI, fIC, fLenA, Bool.not_true, Bool.not_false, iS, iL, iT, reduceCtorEq, aCallK]
          exact is_rank_ok hx q
        · simp only [sSeq, sIf, sSet, sRet, sNext, sExpr, sAsg, sPar, aB, aO, aU, aV, aC, aF, aIf, aAnd, aOr, aNot, aTAnd, aTOr, aTNot, aTr, aCh, aIs, aCall, aTup, aLst, aCons, aNil, aM1, aSl, pN, pS, withV, vals, sl, List.set_cons_zero, List.set_cons_succ, List.set_nil, Option.map_some, endP, endO, at0s, if_true, if_false, Bool.false_eq_true, isT, tyS, fI, fIC, fLenA, Bool.not_true, Bool.not_false, iS, iL, iT, reduceCtorEq, fAll, bls_map]
          rw [show (ds.dropLast.map fun d => rkB (strOf d) m).all _root_.id = ds.dropLast.all fun d => rkB (strOf d) m by rw [List.all_map]; rfl]
          cases c4 : ds.dropLast.all fun d => rkB (strOf d) m with
          | false =>
            rw [c4] at p
            simp only [Bool.false_eq_true, if_false]
            exact p
          | true =>
            rw [c4, Bool.true_and] at p
            simp only [if_true]
            have hm : ds.getLastD .non ∈ ds := by
              rw [List.getLastD_eq_getLast?, List.getLast?_eq_some_getLast ne]
              exact List.getLast_mem ne
            obtain ⟨x, ex, hx⟩ := hstr _ hm
            rw [ex] at p ⊢
            simp only [sSeq, sIf, sSet, sRet, sNext, sExpr, sAsg, sPar, aB, aO, aU, aV, aC, aF, aIf, aAnd, aOr, aNot, aTAnd, aTOr, aTNot, aTr, aCh, aIs, aCall, aTup, aLst, aCons, aNil, aM1, aSl, pN, pS, withV, vals, sl, List.set_cons_zero, List.set_cons_succ, List.set_nil, Option.map_some, endP, endO, at0s, if_true, if_false, Bool.false_eq_true, isT, tyS, fI, fIC, fLenA, Bool.not_true, Bool.not_false, iS, iL, iT, reduceCtorEq, aCallK]
            exact is_word_ok hx p
end Cr

namespace Cr
open PySem PySem.Builtin PySem.Builtin.Str PyProof.Rows L2 Al TL NumText
def seven (x : Str) : Bool := inD (.str x) [.str (O "neg"), .str (O "abs"), .str (O "sign"), .str (O "not"), .str (O "flip"), .str (O "lift"), .str (O "flat")]
def fold8 (x : Str) : Bool := inD (.str x) [.str (O "fold:add"), .str (O "fold:mul"), .str (O "fold:least"), .str (O "fold:most"), .str (O "scan:add"), .str (O "scan:mul"), .str (O "scan:least"), .str (O "scan:most")]
theorem in_str {x : Str} {ks : List Str} : inD (.str x) (ks.map D.str) = ks.contains x := by
  unfold inD
  rw [List.any_map]
  induction ks with
  | nil => rfl
  | cons a r ih =>
    rw [List.any_cons, ih, List.contains_cons]
    congr 1
    show (a == x) = (x == a)
    exact Bool.beq_comm
theorem in_iff {x : Str} {ks : List Str} {ds : List D} (e : ds = ks.map D.str) : inD (.str x) ds = true ↔ x ∈ ks := by
  rw [e, in_str, List.contains_iff_mem]
theorem seven_iff {x : Str} : seven x = true ↔ x ∈ [O "neg", O "abs", O "sign", O "not", O "flip", O "lift", O "flat"] := in_iff rfl
theorem fold8_iff {x : Str} : fold8 x = true ↔ x ∈ [O "fold:add", O "fold:mul", O "fold:least", O "fold:most", O "scan:add", O "scan:mul", O "scan:least", O "scan:most"] := in_iff rfl
theorem isFS_iff {x : Str} : isFS x = true ↔ wS x ∈ [O "fold", O "scan"] := in_iff rfl
theorem inFo_iff {x : Str} : inFo x = true ↔ x ∈ [O "add", O "mul", O "least", O "most"] := in_iff rfl
theorem inPl_iff {x : Str} : inPl x = true ↔ x ∈ [O "flip", O "lift", O "flat"] := in_iff rfl
theorem one_eq (x : Str) : onB x = (seven x || (fold8 x || wnB x)) := by
  cases h7 : seven x with
  | true =>
    rw [seven_iff] at h7
    simp only [List.mem_cons, List.not_mem_nil, or_false] at h7
    rcases h7 with rfl | rfl | rfl | rfl | rfl | rfl | rfl <;> decide +kernel
  | false =>
  cases h8 : fold8 x with
  | true =>
    rw [fold8_iff] at h8
    simp only [List.mem_cons, List.not_mem_nil, or_false] at h8
    rcases h8 with rfl | rfl | rfl | rfl | rfl | rfl | rfl | rfl <;> decide +kernel
  | false =>
  rw [Bool.false_or, Bool.false_or, onB]
  cases hf : isFS x with
  | true =>
    rw [if_pos rfl]
    rw [isFS_iff] at hf
    simp only [List.mem_cons, List.not_mem_nil, or_false] at hf
    have w0 : wnB x = false := by
      unfold wnB
      cases Nm x with
      | none => rfl
      | some ns =>
        rcases hf with e | e <;> (simp only [e]; rw [if_neg (by decide +kernel), if_neg (by decide +kernel), if_neg (by decide +kernel)]; rfl)
    rw [w0]
    by_cases c : x = wS x ++ O ":" ++ tS x
    case neg => rw [decide_eq_false c]; rfl
    rw [decide_eq_true c, Bool.true_and]
    cases hi : inFo (tS x) with
    | false => rfl
    | true =>
      rw [inFo_iff] at hi
      simp only [List.mem_cons, List.not_mem_nil, or_false] at hi
      rw [← h8, c, fold8]
      rcases hf with e | e <;> rw [e] <;> rcases hi with e2 | e2 | e2 | e2 <;> rw [e2] <;> decide +kernel
  | false =>
    simp only [Bool.false_eq_true, if_false]
    have a1 : ([O "neg", O "abs", O "sign", O "not"] : List Str).contains x = false := by
      cases h : ([O "neg", O "abs", O "sign", O "not"] : List Str).contains x with
      | false => rfl
      | true =>
        rw [← h7, eq_comm, seven_iff]
        rw [List.contains_iff_mem] at h
        simp only [List.mem_cons, List.not_mem_nil, or_false] at h ⊢
        rcases h with h | h | h | h <;> simp [h]
    have a2 : inPl x = false := by
      cases h : inPl x with
      | false => rfl
      | true =>
        rw [← h7, eq_comm, seven_iff]
        rw [inPl_iff] at h
        simp only [List.mem_cons, List.not_mem_nil, or_false] at h ⊢
        rcases h with h | h | h <;> simp [h]
    rw [a1, a2, Bool.false_or, Bool.false_or]
end Cr

namespace Cr
open PySem PySem.Builtin PySem.Builtin.Str PyProof.Rows L2 Al TL NumText
def addS (k : Str) : D → D
  | .str y => .str (k ++ y)
  | _ => .non
theorem law_is_one_ok {x : Str} (h : TOk x) {P : D → Prop} {X : XP} (p : P (.bl (onB x))) : F__law_is_one [.str x] P X := by
  unfold F__law_is_one B__law_is_one
  rw [one_eq] at p
  have sz : (300003 : Nat) < sizeLine := by decide
  have hx := h.1
  obtain ⟨r, hr, _⟩ := split0 x
  refine seq_k fun K hK => ?_
  simp only [sSeq, sIf, sSet, sRet, sNext, sExpr, sAsg, sPar, aB, aO, aU, aV, aC, aF, aIf, aAnd, aOr, aNot, aTAnd, aTOr, aTNot, aTr, aCh, aIs, aCall, aTup, aLst, aCons, aNil, aM1, aSl, pN, pS, withV, vals, sl, List.set_cons_zero, List.set_cons_succ, List.set_nil, Option.map_some, endP, endO, at0s, if_true, if_false, Bool.false_eq_true, isT, tyS, fI, fIC, fLenA, Bool.not_true, Bool.not_false, iS, iL, iT, reduceCtorEq, mSplit, hr, List.map_cons, oIx, oIxL, atI0, List.head?_cons]
  refine ⟨⟨by decide +kernel, by omega⟩, ?_⟩
  refine law_numbers_in_ok h ?_
  rw [hK]
  refine seq_k fun K2 hK2 => ?_
  simp only [sSeq, sIf, sSet, sRet, sNext, sExpr, sAsg, sPar, aB, aO, aU, aV, aC, aF, aIf, aAnd, aOr, aNot, aTAnd, aTOr, aTNot, aTr, aCh, aIs, aCall, aTup, aLst, aCons, aNil, aM1, aSl, pN, pS, withV, vals, sl, List.set_cons_zero, List.set_cons_succ, List.set_nil, Option.map_some, endP, endO, at0s, if_true, if_false, Bool.false_eq_true, isT, tyS, fI, fIC, fLenA, Bool.not_true, Bool.not_false, iS, iL, iT, reduceCtorEq, oInA, oIn, flatD, List.all_cons, List.all_nil, Bool.and_self, true_and, and_self, List.length_cons, List.length_nil]
  refine ⟨by decide, ?_⟩
  cases c7 : seven x with
  | true =>
    rw [c7] at p
    unfold seven at c7
    rw [c7]
    exact p
  | false =>
  rw [c7, Bool.false_or] at p
  unfold seven at c7
  rw [c7]
  simp only [Bool.false_eq_true, if_false]
  rw [hK2]
  refine seq_k fun K3 hK3 => ?_
  simp only [sSeq, sIf, sSet, sRet, sNext, sExpr, sAsg, sPar, aB, aO, aU, aV, aC, aF, aIf, aAnd, aOr, aNot, aTAnd, aTOr, aTNot, aTr, aCh, aIs, aCall, aTup, aLst, aCons, aNil, aM1, aSl, pN, pS, withV, vals, sl, List.set_cons_zero, List.set_cons_succ, List.set_nil, Option.map_some, endP, endO, at0s, if_true, if_false, Bool.false_eq_true, isT, tyS, fI, fIC, fLenA, Bool.not_true, Bool.not_false, iS, iL, iT, reduceCtorEq, List.length_nil, Nat.zero_le, true_and]
  rw [hK3]
  refine seq_k fun K4 hK4 => ?_
  have comp : ∀ (k : Str) (ρ : Ev) (Q : D → Ev → Prop), k.length ≤ 100 → sl ρ 4 = some (.str k) → ρ.length = 8 → Q (.lst [.str (k ++ O "add"), .str (k ++ O "mul"), .str (k ++ O "least"), .str (k ++ O "most")]) ρ →
      aLc (iL (aLst (aCons (aC (.str (O "add"))) (aCons (aC (.str (O "mul"))) (aCons (aC (.str (O "least"))) (aCons (aC (.str (O "most"))) aNil)))))) (Tg.a (.nm 6)) tY (aO oAddA (aV 4) (aV 6)) [6] ρ Q NX := by
    intro k ρ Q hk h4 hl q
    refine aLc_map [.str (O "add"), .str (O "mul"), .str (O "least"), .str (O "most")] (addS k) (fun Q q => by simp only [sSeq, sIf, sSet, sRet, sNext, sExpr, sAsg, sPar, aB, aO, aU, aV, aC, aF, aIf, aAnd, aOr, aNot, aTAnd, aTOr, aTNot, aTr, aCh, aIs, aCall, aTup, aLst, aCons, aNil, aM1, aSl, pN, pS, withV, vals, sl, List.set_cons_zero, List.set_cons_succ, List.set_nil, Option.map_some, endP, endO, at0s, if_true, if_false, Bool.false_eq_true, isT, tyS, fI, fIC, fLenA, Bool.not_true, Bool.not_false, iS, iL, iT, reduceCtorEq, List.length_cons, List.length_nil]; exact ⟨by decide, q⟩) (by decide) ?_ q
    intro d hd Q q
    have s1 : sl (ρ.set 6 (some d)) 4 = some (.str k) := by rw [sl_set_ne _ _ _ _ (by decide)]; exact h4
    have s2 : sl (ρ.set 6 (some d)) 6 = some d := sl_set _ _ _ (by omega)
    simp only [aO, aV, s1, s2]
    simp only [List.mem_cons, List.not_mem_nil, or_false] at hd
    have l1 : (O "add").length ≤ 10 ∧ (O "mul").length ≤ 10 ∧ (O "least").length ≤ 10 ∧ (O "most").length ≤ 10 := by decide +kernel
    rcases hd with rfl | rfl | rfl | rfl <;> (refine ⟨?_, q⟩; omega)
  have k1 : (O "fold:").length ≤ 100 := by decide +kernel
  have k2 : (O "scan:").length ≤ 100 := by decide +kernel
  simp only [sFor, iL, aLst, aCons, aNil, aC, withV, vals, Option.map_some, List.length_cons, List.length_nil]
  refine ⟨by decide, ?_⟩
  simp only [forGo, Tg.a, gV, List.set_cons_zero, List.set_cons_succ]
  simp only [sSet, aO, aV, sl]
  refine comp _ _ _ k1 rfl rfl ?_
  simp only [oAddA, oCatL, List.length_cons, List.length_nil, List.nil_append, List.set_cons_zero, List.set_cons_succ]
  refine ⟨by decide, ?_⟩
  simp only [sl]
  refine comp _ _ _ k2 rfl rfl ?_
  simp only [oAddA, oCatL, List.length_cons, List.length_nil, List.cons_append, List.nil_append, List.set_cons_zero, List.set_cons_succ]
  refine ⟨by decide, ?_⟩
  rw [hK4]
  refine seq_k fun K5 hK5 => ?_
  simp only [sSeq, sIf, sSet, sRet, sNext, sExpr, sAsg, sPar, aB, aO, aU, aV, aC, aF, aIf, aAnd, aOr, aNot, aTAnd, aTOr, aTNot, aTr, aCh, aIs, aCall, aTup, aLst, aCons, aNil, aM1, aSl, pN, pS, withV, vals, sl, List.set_cons_zero, List.set_cons_succ, List.set_nil, Option.map_some, endP, endO, at0s, if_true, if_false, Bool.false_eq_true, isT, tyS, fI, fIC, fLenA, Bool.not_true, Bool.not_false, iS, iL, iT, reduceCtorEq, oInA, oIn, flatD, List.all_cons, List.all_nil, Bool.and_self, true_and, and_self]
  rw [show inD (.str x) [.str (O "fold:" ++ O "add"), .str (O "fold:" ++ O "mul"), .str (O "fold:" ++ O "least"), .str (O "fold:" ++ O "most"), .str (O "scan:" ++ O "add"), .str (O "scan:" ++ O "mul"), .str (O "scan:" ++ O "least"), .str (O "scan:" ++ O "most")] = fold8 x by
    rw [show O "fold:" ++ O "add" = O "fold:add" by decide +kernel, show O "fold:" ++ O "mul" = O "fold:mul" by decide +kernel, show O "fold:" ++ O "least" = O "fold:least" by decide +kernel, show O "fold:" ++ O "most" = O "fold:most" by decide +kernel,
      show O "scan:" ++ O "add" = O "scan:add" by decide +kernel, show O "scan:" ++ O "mul" = O "scan:mul" by decide +kernel, show O "scan:" ++ O "least" = O "scan:least" by decide +kernel, show O "scan:" ++ O "most" = O "scan:most" by decide +kernel]
    rfl]
  cases c8 : fold8 x with
  | true =>
    rw [c8] at p
    exact p
  | false =>
  rw [c8, Bool.false_or] at p
  simp only [Bool.false_eq_true, if_false]
  rw [hK5]
  refine seq_k fun K6 hK6 => ?_
  rw [wnB] at p
  cases e : Nm x with
  | none =>
    rw [e] at p
    simp only [sSeq, sIf, sSet, sRet, sNext, sExpr, sAsg, sPar, aB, aO, aU, aV, aC, aF, aIf, aAnd, aOr, aNot, aTAnd, aTOr, aTNot, aTr, aCh, aIs, aCall, aTup, aLst, aCons, aNil, aM1, aSl, pN, pS, withV, vals, sl, List.set_cons_zero, List.set_cons_succ, List.set_nil, Option.map_some, endP, endO, at0s, if_true, if_false, Bool.false_eq_true, isT, tyS, fI, fIC, fLenA, Bool.not_true, Bool.not_false, iS, iL, iT, reduceCtorEq, numLs, oIsN]
    exact p
  | some ns =>
  rw [e] at p
  simp only at p
  obtain ⟨nl, nn⟩ := Nm_len h e
  simp only [sSeq, sIf, sSet, sRet, sNext, sExpr, sAsg, sPar, aB, aO, aU, aV, aC, aF, aIf, aAnd, aOr, aNot, aTAnd, aTOr, aTNot, aTr, aCh, aIs, aCall, aTup, aLst, aCons, aNil, aM1, aSl, pN, pS, withV, vals, sl, List.set_cons_zero, List.set_cons_succ, List.set_nil, Option.map_some, endP, endO, at0s, if_true, if_false, Bool.false_eq_true, isT, tyS, fI, fIC, fLenA, Bool.not_true, Bool.not_false, iS, iL, iT, reduceCtorEq, numLs, oIsN]
  rw [hK6]
  refine seq_k fun K7 hK7 => ?_
  simp only [sSeq, sIf, sSet, sRet, sNext, sExpr, sAsg, sPar, aB, aO, aU, aV, aC, aF, aIf, aAnd, aOr, aNot, aTAnd, aTOr, aTNot, aTr, aCh, aIs, aCall, aTup, aLst, aCons, aNil, aM1, aSl, pN, pS, withV, vals, sl, List.set_cons_zero, List.set_cons_succ, List.set_nil, Option.map_some, endP, endO, at0s, if_true, if_false, Bool.false_eq_true, isT, tyS, fI, fIC, fLenA, Bool.not_true, Bool.not_false, iS, iL, iT, reduceCtorEq, oEqA, eqS, fSorted, Al.ints_map, List.length_map, aLr]
  by_cases c1 : wS x = O "axes"
  · rw [if_pos c1] at p
    simp only [c1, decide_true, if_true]
    by_cases c2 : (ns.length : Int) ≤ 6
    · rw [decide_eq_true (show ns.length ≤ 6 by omega), Bool.true_and] at p
      simp only [c2, decide_true, if_true]
      refine ⟨by omega, ?_⟩
      exact ax_eq nn p
    · rw [decide_eq_false (show ¬ ns.length ≤ 6 by omega), Bool.false_and] at p
      simp only [c2, decide_false, if_false, Bool.false_eq_true]
      exact p
  rw [if_neg c1] at p
  simp only [c1, decide_false, if_false, Bool.false_eq_true]
  rw [hK7]
  refine seq_k fun K8 hK8 => ?_
  simp only [sSeq, sIf, sSet, sRet, sNext, sExpr, sAsg, sPar, aB, aO, aU, aV, aC, aF, aIf, aAnd, aOr, aNot, aTAnd, aTOr, aTNot, aTr, aCh, aIs, aCall, aTup, aLst, aCons, aNil, aM1, aSl, pN, pS, withV, vals, sl, List.set_cons_zero, List.set_cons_succ, List.set_nil, Option.map_some, endP, endO, at0s, if_true, if_false, Bool.false_eq_true, isT, tyS, fI, fIC, fLenA, Bool.not_true, Bool.not_false, iS, iL, iT, reduceCtorEq, oEqA, eqS, List.length_map]
  by_cases c2 : wS x = O "deal"
  · rw [if_pos c2] at p
    simp only [c2, decide_true, if_true]
    by_cases c2 : (ns.length : Int) ≤ 6
    · rw [decide_eq_true (show ns.length ≤ 6 by omega), Bool.true_and] at p
      simp only [c2, decide_true, if_true]
      refine aLc_fil (ns.map D.int) (fun d => !(decide (0 ≤ numD d) && decide (numD d ≤ 4000))) (fun Q q => by simp only [sSeq, sIf, sSet, sRet, sNext, sExpr, sAsg, sPar, aB, aO, aU, aV, aC, aF, aIf, aAnd, aOr, aNot, aTAnd, aTOr, aTNot, aTr, aCh, aIs, aCall, aTup, aLst, aCons, aNil, aM1, aSl, pN, pS, withV, vals, sl, List.set_cons_zero, List.set_cons_succ, List.set_nil, Option.map_some, endP, endO, at0s, if_true, if_false, Bool.false_eq_true, isT, tyS, fI, fIC, fLenA, Bool.not_true, Bool.not_false, iS, iL, iT, reduceCtorEq]; exact q) (by rw [List.length_map]; omega) ?_ ?_ ?_
      · intro d hd Q q
        simp only [List.mem_map] at hd
        obtain ⟨n, hn, rfl⟩ := hd
        simp only [sSeq, sIf, sSet, sRet, sNext, sExpr, sAsg, sPar, aB, aO, aU, aV, aC, aF, aIf, aAnd, aOr, aNot, aTAnd, aTOr, aTNot, aTr, aCh, aIs, aCall, aTup, aLst, aCons, aNil, aM1, aSl, pN, pS, withV, vals, sl, List.set_cons_zero, List.set_cons_succ, List.set_nil, Option.map_some, endP, endO, at0s, if_true, if_false, Bool.false_eq_true, isT, tyS, fI, fIC, fLenA, Bool.not_true, Bool.not_false, iS, iL, iT, reduceCtorEq]
        simp only [numD] at q
        by_cases k1 : (0 : Int) ≤ n <;> simp only [k1, decide_true, decide_false, Bool.true_and, Bool.false_and] at q ⊢ <;> exact q
      · intro d hd Q q
        simp only [sSeq, sIf, sSet, sRet, sNext, sExpr, sAsg, sPar, aB, aO, aU, aV, aC, aF, aIf, aAnd, aOr, aNot, aTAnd, aTOr, aTNot, aTr, aCh, aIs, aCall, aTup, aLst, aCons, aNil, aM1, aSl, pN, pS, withV, vals, sl, List.set_cons_zero, List.set_cons_succ, List.set_nil, Option.map_some, endP, endO, at0s, if_true, if_false, Bool.false_eq_true, isT, tyS, fI, fIC, fLenA, Bool.not_true, Bool.not_false, iS, iL, iT, reduceCtorEq]
        exact q
      · simp only [sSeq, sIf, sSet, sRet, sNext, sExpr, sAsg, sPar, aB, aO, aU, aV, aC, aF, aIf, aAnd, aOr, aNot, aTAnd, aTOr, aTNot, aTr, aCh, aIs, aCall, aTup, aLst, aCons, aNil, aM1, aSl, pN, pS, withV, vals, sl, List.set_cons_zero, List.set_cons_succ, List.set_nil, Option.map_some, endP, endO, at0s, if_true, if_false, Bool.false_eq_true, isT, tyS, fI, fIC, fLenA, Bool.not_true, Bool.not_false, iS, iL, iT, reduceCtorEq, List.length_nil, Nat.zero_le, true_and]
        have e2 : ∀ (q : Int → Bool) (ms : List Int), ((ms.map D.int).filter fun d => !(q (numD d))).isEmpty = ms.all q := by
          intro q ms
          induction ms with
          | nil => rfl
          | cons a l ih =>
            cases hc : q a with
            | true => rw [List.map_cons, List.filter_cons_of_neg (by simp [numD, hc])]; simp [hc, ih]
            | false => rw [List.map_cons, List.filter_cons_of_pos (by simp [numD, hc])]; simp [hc]
        rw [e2 (fun n => decide (0 ≤ n) && decide (n ≤ 4000))]
        exact p
    · rw [decide_eq_false (show ¬ ns.length ≤ 6 by omega), Bool.false_and] at p
      simp only [c2, decide_false, if_false, Bool.false_eq_true]
      exact p
  rw [if_neg c2] at p
  simp only [c2, decide_false, if_false, Bool.false_eq_true]
  rw [hK8]
  refine seq_k fun K9 hK9 => ?_
  simp only [sSeq, sIf, sSet, sRet, sNext, sExpr, sAsg, sPar, aB, aO, aU, aV, aC, aF, aIf, aAnd, aOr, aNot, aTAnd, aTOr, aTNot, aTr, aCh, aIs, aCall, aTup, aLst, aCons, aNil, aM1, aSl, pN, pS, withV, vals, sl, List.set_cons_zero, List.set_cons_succ, List.set_nil, Option.map_some, endP, endO, at0s, if_true, if_false, Bool.false_eq_true, isT, tyS, fI, fIC, fLenA, Bool.not_true, Bool.not_false, iS, iL, iT, reduceCtorEq, aDisp, dGo]
  rw [hK9]
  simp only [sSeq, sIf, sSet, sRet, sNext, sExpr, sAsg, sPar, aB, aO, aU, aV, aC, aF, aIf, aAnd, aOr, aNot, aTAnd, aTOr, aTNot, aTr, aCh, aIs, aCall, aTup, aLst, aCons, aNil, aM1, aSl, pN, pS, withV, vals, sl, List.set_cons_zero, List.set_cons_succ, List.set_nil, Option.map_some, endP, endO, at0s, if_true, if_false, Bool.false_eq_true, isT, tyS, fI, fIC, fLenA, Bool.not_true, Bool.not_false, iS, iL, iT, reduceCtorEq, oInD, keyD, valD, oDget, oEqA, eqS, List.length_map]
  simp only [Al.keyD, valD, Sum.inr.injEq]
  have e5 : decide ((ns.length : Int) = 1) = decide (ns.length = 1) := decide_eq_decide.mpr (by omega)
  rw [e5]
  have fin : ∀ b : Bool, (P (.bl (decide (ns.length = 1) && decide (0 ≤ ns.headD 0)))) → (if decide (ns.length = 1) = true then oIx (D.lst (ns.map D.int)) (D.int 0) fun d => oGe d (D.int 0) fun d => P d else P (.bl false)) := fun b q => by
    by_cases c4 : ns.length = 1
    · rw [decide_eq_true c4] at q ⊢
      rw [if_pos rfl]
      cases ns with
      | nil => exact absurd rfl nn
      | cons n r =>
        simp only [sSeq, sIf, sSet, sRet, sNext, sExpr, sAsg, sPar, aB, aO, aU, aV, aC, aF, aIf, aAnd, aOr, aNot, aTAnd, aTOr, aTNot, aTr, aCh, aIs, aCall, aTup, aLst, aCons, aNil, aM1, aSl, pN, pS, withV, vals, sl, List.set_cons_zero, List.set_cons_succ, List.set_nil, Option.map_some, endP, endO, at0s, if_true, if_false, Bool.false_eq_true, isT, tyS, fI, fIC, fLenA, Bool.not_true, Bool.not_false, iS, iL, iT, reduceCtorEq, oIx, oIxL, List.map_cons, atI0, List.head?_cons]
        exact q
    · rw [decide_eq_false c4] at q ⊢
      rw [if_neg (by simp)]
      exact q
  by_cases c3 : wS x = O "turn"
  · rw [if_pos c3] at p
    rw [if_pos c3.symm]
    simp only [Option.isSome_some, if_true, oIsN]
    by_cases c4 : ns.length = 1
    · rw [decide_eq_true c4] at p ⊢; exact p
    · rw [decide_eq_false c4] at p ⊢; exact p
  rw [if_neg c3] at p
  rw [if_neg (Ne.symm c3)]
  cases hi : inD (.str (wS x)) [.str (O "first"), .str (O "past"), .str (O "row")] with
  | true =>
    rw [hi, Bool.true_and] at p
    have hi := (in_iff (ks := [O "first", O "past", O "row"]) rfl).mp hi
    simp only [List.mem_cons, List.not_mem_nil, or_false] at hi
    have g := fin true p
    have q1 : ¬ (Str.ofString "first" = Str.ofString "past") := by decide +kernel
    have q2 : ¬ (Str.ofString "first" = Str.ofString "row") := by decide +kernel
    have q3 : ¬ (Str.ofString "past" = Str.ofString "row") := by decide +kernel
    rcases hi with e | e | e
    · simp only [e, if_true, Option.isSome_some, oIsN, Bool.false_eq_true, if_false]; exact g
    · simp only [e, q1, if_true, if_false, Option.isSome_some, oIsN, Bool.false_eq_true]; exact g
    · simp only [e, q2, q3, if_true, if_false, Option.isSome_some, oIsN, Bool.false_eq_true]; exact g
  | false =>
    rw [hi, Bool.false_and] at p
    have hn : ¬ (wS x ∈ [O "first", O "past", O "row"]) := fun z => by
      have hi2 : inD (.str (wS x)) [.str (O "first"), .str (O "past"), .str (O "row")] = true := (in_iff (ks := [O "first", O "past", O "row"]) rfl).mpr z
      rw [hi2] at hi
      cases hi
    simp only [List.mem_cons, List.not_mem_nil, or_false, not_or] at hn
    obtain ⟨n1, n2, n3⟩ := hn
    rw [if_neg (Ne.symm n1), if_neg (Ne.symm n2), if_neg (Ne.symm n3)]
    simp only [Option.isSome_none, Bool.false_eq_true, if_false]
    exact p
theorem two_eq (x : Str) : t2B x = (inD (.str x) [.str (O "add"), .str (O "sub"), .str (O "mul"), .str (O "div"), .str (O "rest"), .str (O "least"), .str (O "most"), .str (O "less"), .str (O "same"), .str (O "join"), .str (O "pick")] ||
    inD (.str x) [.str (O "table:add"), .str (O "table:sub"), .str (O "table:mul"), .str (O "table:div"), .str (O "table:rest"), .str (O "table:least"), .str (O "table:most"), .str (O "table:less"), .str (O "table:same")]) := by
  have i1 := in_iff (x := x) (ks := [O "add", O "sub", O "mul", O "div", O "rest", O "least", O "most", O "less", O "same", O "join", O "pick"]) rfl
  have i2 := in_iff (x := x) (ks := [O "table:add", O "table:sub", O "table:mul", O "table:div", O "table:rest", O "table:least", O "table:most", O "table:less", O "table:same"]) rfl
  simp only [List.map_cons, List.map_nil] at i1 i2
  generalize inD (.str x) [.str (O "add"), .str (O "sub"), .str (O "mul"), .str (O "div"), .str (O "rest"), .str (O "least"), .str (O "most"), .str (O "less"), .str (O "same"), .str (O "join"), .str (O "pick")] = b1 at i1 ⊢
  generalize inD (.str x) [.str (O "table:add"), .str (O "table:sub"), .str (O "table:mul"), .str (O "table:div"), .str (O "table:rest"), .str (O "table:least"), .str (O "table:most"), .str (O "table:less"), .str (O "table:same")] = b2 at i2 ⊢
  cases b1 with
  | true =>
    have := i1.mp rfl
    rw [Bool.true_or]
    simp only [List.mem_cons, List.not_mem_nil, or_false] at this
    rcases this with rfl | rfl | rfl | rfl | rfl | rfl | rfl | rfl | rfl | rfl | rfl <;> decide +kernel
  | false =>
  cases b2 with
  | true =>
    have := i2.mp rfl
    rw [Bool.false_or]
    simp only [List.mem_cons, List.not_mem_nil, or_false] at this
    rcases this with rfl | rfl | rfl | rfl | rfl | rfl | rfl | rfl | rfl <;> decide +kernel
  | false =>
    have n1 : ¬ x ∈ _ := fun z => absurd (i1.mpr z) (by simp)
    have n2 : ¬ x ∈ _ := fun z => absurd (i2.mpr z) (by simp)
    rw [t2B]
    by_cases c : wS x = O "table"
    · rw [if_pos c]
      cases ht : twB (tS x) with
      | false => rfl
      | true =>
        exfalso
        unfold twB at ht
        rw [List.contains_iff_mem] at ht
        have hc : 58 ∈ tl x := by
          by_cases hc : 58 ∈ tl x
          · exact hc
          · have e := (colon_no hc).2
            rw [tS, e] at ht
            exact absurd ht (by decide +kernel)
        have ex : x = wS x ++ O ":" ++ tS x := by
          apply ext_tl
          rw [tl_append, tl_append, wS, tS, tl_S, tl_S, show tl (O ":") = [58] by decide +kernel]
          have := (colon_yes hc).1
          rw [List.append_assoc]
          exact this
        rw [c] at ex
        apply n2
        rw [ex]
        simp only [List.mem_cons, List.not_mem_nil, or_false] at ht
        rcases ht with e | e | e | e | e | e | e | e | e <;> rw [e] <;> decide +kernel
    · rw [if_neg c]
      have a1 : twB x = false := by
        cases h : twB x with
        | false => rfl
        | true =>
          exfalso
          unfold twB at h
          rw [List.contains_iff_mem] at h
          apply n1
          simp only [List.mem_cons, List.not_mem_nil, or_false] at h ⊢
          rcases h with h | h | h | h | h | h | h | h | h <;> simp [h]
      have a2 : inD (.str x) [.str (O "join"), .str (O "pick")] = false := by
        cases h : inD (.str x) [.str (O "join"), .str (O "pick")] with
        | false => rfl
        | true =>
          exfalso
          have h := (in_iff (ks := [O "join", O "pick"]) rfl).mp h
          apply n1
          simp only [List.mem_cons, List.not_mem_nil, or_false] at h ⊢
          rcases h with h | h <;> simp [h]
      rw [a1, a2]
theorem law_is_two_ok {x : Str} (h : TOk x) {P : D → Prop} {X : XP} (p : P (.bl (t2B x))) : F__law_is_two [.str x] P X := by
  unfold F__law_is_two B__law_is_two
  rw [two_eq] at p
  refine seq_k fun K hK => ?_
  simp only [sSeq, sIf, sSet, sRet, sNext, sExpr, sAsg, sPar, aB, aO, aU, aV, aC, aF, aIf, aAnd, aOr, aNot, aTAnd, aTOr, aTNot, aTr, aCh, aIs, aCall, aTup, aLst, aCons, aNil, aM1, aSl, pN, pS, withV, vals, sl, List.set_cons_zero, List.set_cons_succ, List.set_nil, Option.map_some, endP, endO, at0s, if_true, if_false, Bool.false_eq_true, isT, tyS, fI, fIC, fLenA, Bool.not_true, Bool.not_false, iS, iL, iT, reduceCtorEq, List.length_cons, List.length_nil]
  refine ⟨by decide, ?_⟩
  rw [hK]
  simp only [sSeq, sIf, sSet, sRet, sNext, sExpr, sAsg, sPar, aB, aO, aU, aV, aC, aF, aIf, aAnd, aOr, aNot, aTAnd, aTOr, aTNot, aTr, aCh, aIs, aCall, aTup, aLst, aCons, aNil, aM1, aSl, pN, pS, withV, vals, sl, List.set_cons_zero, List.set_cons_succ, List.set_nil, Option.map_some, endP, endO, at0s, if_true, if_false, Bool.false_eq_true, isT, tyS, fI, fIC, fLenA, Bool.not_true, Bool.not_false, iS, iL, iT, reduceCtorEq, List.length_cons, List.length_nil, oAddA, oCatL, List.cons_append, List.nil_append, oInA, oIn, flatD, List.all_cons, List.all_nil, Bool.and_self, true_and, and_self]
  refine ⟨by decide, by decide, ?_⟩
  generalize hb : inD (.str x) [.str (O "add"), .str (O "sub"), .str (O "mul"), .str (O "div"), .str (O "rest"), .str (O "least"), .str (O "most"), .str (O "less"), .str (O "same"), .str (O "join"), .str (O "pick")] = b1 at p ⊢
  cases b1 with
  | true => exact p
  | false =>
    simp only [Bool.false_or, Bool.false_eq_true, if_false] at p ⊢
    refine aLc_map [.str (O "add"), .str (O "sub"), .str (O "mul"), .str (O "div"), .str (O "rest"), .str (O "least"), .str (O "most"), .str (O "less"), .str (O "same")] (addS (O "table:")) (fun Q q => by simp only [sSeq, sIf, sSet, sRet, sNext, sExpr, sAsg, sPar, aB, aO, aU, aV, aC, aF, aIf, aAnd, aOr, aNot, aTAnd, aTOr, aTNot, aTr, aCh, aIs, aCall, aTup, aLst, aCons, aNil, aM1, aSl, pN, pS, withV, vals, sl, List.set_cons_zero, List.set_cons_succ, List.set_nil, Option.map_some, endP, endO, at0s, if_true, if_false, Bool.false_eq_true, isT, tyS, fI, fIC, fLenA, Bool.not_true, Bool.not_false, iS, iL, iT, reduceCtorEq]; exact q) (by decide) ?_ ?_
    · intro d hd Q q
      simp only [sSeq, sIf, sSet, sRet, sNext, sExpr, sAsg, sPar, aB, aO, aU, aV, aC, aF, aIf, aAnd, aOr, aNot, aTAnd, aTOr, aTNot, aTr, aCh, aIs, aCall, aTup, aLst, aCons, aNil, aM1, aSl, pN, pS, withV, vals, sl, List.set_cons_zero, List.set_cons_succ, List.set_nil, Option.map_some, endP, endO, at0s, if_true, if_false, Bool.false_eq_true, isT, tyS, fI, fIC, fLenA, Bool.not_true, Bool.not_false, iS, iL, iT, reduceCtorEq, oAddA]
      simp only [List.mem_cons, List.not_mem_nil, or_false] at hd
      rcases hd with rfl | rfl | rfl | rfl | rfl | rfl | rfl | rfl | rfl <;> exact ⟨by decide +kernel, q⟩
    · simp only [List.map_cons, List.map_nil, addS]
      rw [show O "table:" ++ O "add" = O "table:add" by decide +kernel, show O "table:" ++ O "sub" = O "table:sub" by decide +kernel, show O "table:" ++ O "mul" = O "table:mul" by decide +kernel, show O "table:" ++ O "div" = O "table:div" by decide +kernel,
        show O "table:" ++ O "rest" = O "table:rest" by decide +kernel, show O "table:" ++ O "least" = O "table:least" by decide +kernel, show O "table:" ++ O "most" = O "table:most" by decide +kernel, show O "table:" ++ O "less" = O "table:less" by decide +kernel, show O "table:" ++ O "same" = O "table:same" by decide +kernel]
      exact ⟨rfl, p⟩
end Cr

namespace Cr
open PySem PySem.Builtin PySem.Builtin.Str PyProof.Rows L2 Al TL NumText
theorem fil_all {α : Type} (q : α → Bool) (l : List α) : (l.filter fun d => !(q d)).isEmpty = l.all q := by
  induction l with
  | nil => rfl
  | cons a l ih =>
    cases hc : q a with
    | true => rw [List.filter_cons_of_neg (by simp [hc])]; simp [hc, ih]
    | false => rw [List.filter_cons_of_pos (by simp [hc])]; simp [hc]
theorem atI_last {α : Type} (l : List α) : atI l (-1) = l.getLast? := by
  unfold atI ixN
  cases l with
  | nil => rfl
  | cons a r =>
    simp only [List.length_cons]
    rw [if_neg (by omega), if_pos (by omega)]
    simp only [Option.bind_some]
    rw [List.getLast?_eq_getElem?]
    congr 1
    simp
    omega
theorem law_due_ok {d : D} {m : Int} (h : Th8 d) {P : D → Prop} {X : XP} (p : P (.bl (vbB d m))) : F__law_due [d, .int m] P X := by
  unfold F__law_due B__law_due
  refine seq_k fun K hK => ?_
  cases h with
  | non => simp only [sSeq, sIf, sSet, sRet, sNext, sExpr, sAsg, sPar, aB, aO, aU, aV, aC, aF, aIf, aAnd, aOr, aNot, aTAnd, aTOr, aTNot, aTr, aCh, aIs, aCall, aTup, aLst, aCons, aNil, aM1, aSl, pN, pS, withV, vals, sl, List.set_cons_zero, List.set_cons_succ, List.set_nil, Option.map_some, endP, endO, at0s, if_true, if_false, Bool.false_eq_true, isT, tyS, fI, fIC, fLenA, Bool.not_true, Bool.not_false, iS, iL, iT, reduceCtorEq]; exact p
  | bl b => simp only [sSeq, sIf, sSet, sRet, sNext, sExpr, sAsg, sPar, aB, aO, aU, aV, aC, aF, aIf, aAnd, aOr, aNot, aTAnd, aTOr, aTNot, aTr, aCh, aIs, aCall, aTup, aLst, aCons, aNil, aM1, aSl, pN, pS, withV, vals, sl, List.set_cons_zero, List.set_cons_succ, List.set_nil, Option.map_some, endP, endO, at0s, if_true, if_false, Bool.false_eq_true, isT, tyS, fI, fIC, fLenA, Bool.not_true, Bool.not_false, iS, iL, iT, reduceCtorEq]; exact p
  | int b => simp only [sSeq, sIf, sSet, sRet, sNext, sExpr, sAsg, sPar, aB, aO, aU, aV, aC, aF, aIf, aAnd, aOr, aNot, aTAnd, aTOr, aTNot, aTr, aCh, aIs, aCall, aTup, aLst, aCons, aNil, aM1, aSl, pN, pS, withV, vals, sl, List.set_cons_zero, List.set_cons_succ, List.set_nil, Option.map_some, endP, endO, at0s, if_true, if_false, Bool.false_eq_true, isT, tyS, fI, fIC, fLenA, Bool.not_true, Bool.not_false, iS, iL, iT, reduceCtorEq]; exact p
  | str x hx => simp only [sSeq, sIf, sSet, sRet, sNext, sExpr, sAsg, sPar, aB, aO, aU, aV, aC, aF, aIf, aAnd, aOr, aNot, aTAnd, aTOr, aTNot, aTr, aCh, aIs, aCall, aTup, aLst, aCons, aNil, aM1, aSl, pN, pS, withV, vals, sl, List.set_cons_zero, List.set_cons_succ, List.set_nil, Option.map_some, endP, endO, at0s, if_true, if_false, Bool.false_eq_true, isT, tyS, fI, fIC, fLenA, Bool.not_true, Bool.not_false, iS, iL, iT, reduceCtorEq]; exact p
  | lst ds => simp only [sSeq, sIf, sSet, sRet, sNext, sExpr, sAsg, sPar, aB, aO, aU, aV, aC, aF, aIf, aAnd, aOr, aNot, aTAnd, aTOr, aTNot, aTr, aCh, aIs, aCall, aTup, aLst, aCons, aNil, aM1, aSl, pN, pS, withV, vals, sl, List.set_cons_zero, List.set_cons_succ, List.set_nil, Option.map_some, endP, endO, at0s, if_true, if_false, Bool.false_eq_true, isT, tyS, fI, fIC, fLenA, Bool.not_true, Bool.not_false, iS, iL, iT, reduceCtorEq]; exact p
  | dic => simp only [sSeq, sIf, sSet, sRet, sNext, sExpr, sAsg, sPar, aB, aO, aU, aV, aC, aF, aIf, aAnd, aOr, aNot, aTAnd, aTOr, aTNot, aTr, aCh, aIs, aCall, aTup, aLst, aCons, aNil, aM1, aSl, pN, pS, withV, vals, sl, List.set_cons_zero, List.set_cons_succ, List.set_nil, Option.map_some, endP, endO, at0s, if_true, if_false, Bool.false_eq_true, isT, tyS, fI, fIC, fLenA, Bool.not_true, Bool.not_false, iS, iL, iT, reduceCtorEq]; exact p
  | tup ds hd hl =>
    have sz : (300003 : Nat) < sizeLine := by decide
    simp only [sSeq, sIf, sSet, sRet, sNext, sExpr, sAsg, sPar, aB, aO, aU, aV, aC, aF, aIf, aAnd, aOr, aNot, aTAnd, aTOr, aTNot, aTr, aCh, aIs, aCall, aTup, aLst, aCons, aNil, aM1, aSl, pN, pS, withV, vals, sl, List.set_cons_zero, List.set_cons_succ, List.set_nil, Option.map_some, endP, endO, at0s, if_true, if_false, Bool.false_eq_true, isT, tyS, fI, fIC, fLenA, Bool.not_true, Bool.not_false, iS, iL, iT, reduceCtorEq]
    simp only [vbB] at p
    by_cases c1 : (1 : Int) ≤ ds.length
    case neg =>
      rw [decide_eq_false (show ¬ 1 ≤ ds.length by omega)] at p
      simp only [c1, decide_false, beq_self_eq_true, Bool.true_or, Bool.not_true, Bool.false_eq_true, if_false, Bool.not_false, if_true]
      exact p
    rw [decide_eq_true (show 1 ≤ ds.length by omega), Bool.true_and] at p
    by_cases c2 : (ds.length : Int) ≤ 4
    case neg =>
      rw [decide_eq_false (show ¬ ds.length ≤ 4 by omega)] at p
      simp only [c1, c2, decide_true, decide_false, beq_self_eq_true, Bool.true_or, Bool.not_true, Bool.false_eq_true, if_false, Bool.not_false, if_true]
      exact p
    rw [decide_eq_true (show ds.length ≤ 4 by omega), Bool.true_and] at p
    simp only [c1, c2, decide_true, decide_false, beq_self_eq_true, Bool.true_or, Bool.not_true, Bool.false_eq_true, if_false, Bool.not_false, if_true]
    rw [hK]
    refine seq_k fun K2 hK2 => ?_
    simp only [sSeq, sIf, sSet, sRet, sNext, sExpr, sAsg, sPar, aB, aO, aU, aV, aC, aF, aIf, aAnd, aOr, aNot, aTAnd, aTOr, aTNot, aTr, aCh, aIs, aCall, aTup, aLst, aCons, aNil, aM1, aSl, pN, pS, withV, vals, sl, List.set_cons_zero, List.set_cons_succ, List.set_nil, Option.map_some, endP, endO, at0s, if_true, if_false, Bool.false_eq_true, isT, tyS, fI, fIC, fLenA, Bool.not_true, Bool.not_false, iS, iL, iT, reduceCtorEq]
    refine aLc_fil ds (fun d => !(isS d)) (fun Q q => by simp only [sSeq, sIf, sSet, sRet, sNext, sExpr, sAsg, sPar, aB, aO, aU, aV, aC, aF, aIf, aAnd, aOr, aNot, aTAnd, aTOr, aTNot, aTr, aCh, aIs, aCall, aTup, aLst, aCons, aNil, aM1, aSl, pN, pS, withV, vals, sl, List.set_cons_zero, List.set_cons_succ, List.set_nil, Option.map_some, endP, endO, at0s, if_true, if_false, Bool.false_eq_true, isT, tyS, fI, fIC, fLenA, Bool.not_true, Bool.not_false, iS, iL, iT, reduceCtorEq]; exact q) (by omega) ?_ (fun d _ Q q => by simp only [sSeq, sIf, sSet, sRet, sNext, sExpr, sAsg, sPar, aB, aO, aU, aV, aC, aF, aIf, aAnd, aOr, aNot, aTAnd, aTOr, aTNot, aTr, aCh, aIs, aCall, aTup, aLst, aCons, aNil, aM1, aSl, pN, pS, withV, vals, sl, List.set_cons_zero, List.set_cons_succ, List.set_nil, Option.map_some, endP, endO, at0s, if_true, if_false, Bool.false_eq_true, isT, tyS, fI, fIC, fLenA, Bool.not_true, Bool.not_false, iS, iL, iT, reduceCtorEq]; exact q) ?_
    · intro d hd' Q q
      have := all_str hd d hd'
      simp only [aTNot, aB, aIs, aV, sl, List.set_cons_succ, List.set_cons_zero, this]
      exact q
    · simp only [sSeq, sIf, sSet, sRet, sNext, sExpr, sAsg, sPar, aB, aO, aU, aV, aC, aF, aIf, aAnd, aOr, aNot, aTAnd, aTOr, aTNot, aTr, aCh, aIs, aCall, aTup, aLst, aCons, aNil, aM1, aSl, pN, pS, withV, vals, sl, List.set_cons_zero, List.set_cons_succ, List.set_nil, Option.map_some, endP, endO, at0s, if_true, if_false, Bool.false_eq_true, isT, tyS, fI, fIC, fLenA, Bool.not_true, Bool.not_false, iS, iL, iT, reduceCtorEq, List.length_nil, Nat.zero_le, true_and, oNeA, eqS, fil_all]
      cases c3 : ds.all isS with
      | false =>
        rw [c3] at p
        simp only [Bool.not_false, if_true]
        exact p
      | true =>
        rw [c3, Bool.true_and] at p
        simp only [Bool.not_true, if_false, Bool.false_eq_true]
        rw [hK2]
        refine seq_k fun K3 hK3 => ?_
        have hstr : ∀ d ∈ ds, ∃ x, d = .str x ∧ TOk x := fun d hd' => by
          rcases hd d hd' with h | ⟨n, e, hn⟩
          · exact h
          · have := List.all_eq_true.mp c3 d hd'
            cases d with
            | str x => simp only [tyS, Option.some.injEq] at e; exact absurd e.symm hn
            | _ => cases this
        have ne : ds ≠ [] := fun z => by rw [z] at c1; simp at c1
        simp only [sSeq, sIf, sSet, sRet, sNext, sExpr, sAsg, sPar, aB, aO, aU, aV, aC, aF, aIf, aAnd, aOr, aNot, aTAnd, aTOr, aTNot, aTr, aCh, aIs, aCall, aTup, aLst, aCons, aNil, aM1, aSl, pN, pS, withV, vals, sl, List.set_cons_zero, List.set_cons_succ, List.set_nil, Option.map_some, endP, endO, at0s, if_true, if_false, Bool.false_eq_true, isT, tyS, fI, fIC, fLenA, Bool.not_true, Bool.not_false, iS, iL, iT, reduceCtorEq]
        refine aLc_fil ds.dropLast (fun d => !(rkB (strOf d) m)) (fun Q q => by simp only [sSeq, sIf, sSet, sRet, sNext, sExpr, sAsg, sPar, aB, aO, aU, aV, aC, aF, aIf, aAnd, aOr, aNot, aTAnd, aTOr, aTNot, aTr, aCh, aIs, aCall, aTup, aLst, aCons, aNil, aM1, aSl, pN, pS, withV, vals, sl, List.set_cons_zero, List.set_cons_succ, List.set_nil, Option.map_some, endP, endO, at0s, if_true, if_false, Bool.false_eq_true, isT, tyS, fI, fIC, fLenA, Bool.not_true, Bool.not_false, iS, iL, iT, reduceCtorEq, oNeg, slA, slT]; rw [cutD_init]; exact q) (by rw [List.length_dropLast]; omega) ?_ (fun d _ Q q => by simp only [sSeq, sIf, sSet, sRet, sNext, sExpr, sAsg, sPar, aB, aO, aU, aV, aC, aF, aIf, aAnd, aOr, aNot, aTAnd, aTOr, aTNot, aTr, aCh, aIs, aCall, aTup, aLst, aCons, aNil, aM1, aSl, pN, pS, withV, vals, sl, List.set_cons_zero, List.set_cons_succ, List.set_nil, Option.map_some, endP, endO, at0s, if_true, if_false, Bool.false_eq_true, isT, tyS, fI, fIC, fLenA, Bool.not_true, Bool.not_false, iS, iL, iT, reduceCtorEq]; exact q) ?_
        · intro d hd' Q q
          obtain ⟨x, rfl, hx⟩ := hstr d (List.dropLast_subset ds hd')
          simp only [sSeq, sIf, sSet, sRet, sNext, sExpr, sAsg, sPar, aB, aO, aU, aV, aC, aF, aIf, aAnd, aOr, aNot, aTAnd, aTOr, aTNot, aTr, aCh, aIs, aCall, aTup, aLst, aCons, aNil, aM1, aSl, pN, pS, withV, vals, sl, List.set_cons_zero, List.set_cons_succ, List.set_nil, Option.map_some, endP, endO, at0s, if_true, if_false, Bool.false_eq_true, isT, tyS, fI, fIC, fLenA, Bool.not_true, Bool.not_false, iS, iL, iT, reduceCtorEq]
          exact law_is_rank_ok hx q
        · simp only [sSeq, sIf, sSet, sRet, sNext, sExpr, sAsg, sPar, aB, aO, aU, aV, aC, aF, aIf, aAnd, aOr, aNot, aTAnd, aTOr, aTNot, aTr, aCh, aIs, aCall, aTup, aLst, aCons, aNil, aM1, aSl, pN, pS, withV, vals, sl, List.set_cons_zero, List.set_cons_succ, List.set_nil, Option.map_some, endP, endO, at0s, if_true, if_false, Bool.false_eq_true, isT, tyS, fI, fIC, fLenA, Bool.not_true, Bool.not_false, iS, iL, iT, reduceCtorEq, List.length_nil, Nat.zero_le, true_and, oNeA, eqS, fil_all]
          cases c4 : ds.dropLast.all fun d => rkB (strOf d) m with
          | false =>
            rw [c4] at p
            simp only [Bool.not_false, if_true]
            exact p
          | true =>
            rw [c4, Bool.true_and] at p
            simp only [Bool.not_true, if_false, Bool.false_eq_true]
            have hm : ds.getLastD .non ∈ ds := by
              rw [List.getLastD_eq_getLast?, List.getLast?_eq_some_getLast ne]
              exact List.getLast_mem ne
            obtain ⟨x, ex, hx⟩ := hstr _ hm
            rw [ex] at p
            have el : ds.getLast? = some (.str x) := by
              rw [List.getLastD_eq_getLast?, List.getLast?_eq_some_getLast ne] at ex
              rw [List.getLast?_eq_some_getLast ne]
              exact congrArg some ex
            rw [hK3]
            simp only [sSeq, sIf, sSet, sRet, sNext, sExpr, sAsg, sPar, aB, aO, aU, aV, aC, aF, aIf, aAnd, aOr, aNot, aTAnd, aTOr, aTNot, aTr, aCh, aIs, aCall, aTup, aLst, aCons, aNil, aM1, aSl, pN, pS, withV, vals, sl, List.set_cons_zero, List.set_cons_succ, List.set_nil, Option.map_some, endP, endO, at0s, if_true, if_false, Bool.false_eq_true, isT, tyS, fI, fIC, fLenA, Bool.not_true, Bool.not_false, iS, iL, iT, reduceCtorEq, oEqA, eqS, oIx, oIxT, oNeg, atI_last, el]
            rw [wdB] at p
            by_cases c5 : m = 1
            · rw [if_pos c5] at p
              simp only [c5, decide_true, if_true]
              exact law_is_one_ok hx p
            · rw [if_neg c5] at p
              simp only [c5, decide_false, if_false, Bool.false_eq_true]
              exact law_is_two_ok hx p
end Cr

namespace Cr
open PySem PySem.Builtin PySem.Builtin.Str PyProof.Rows L2 Al TL NumText
theorem td_len (l : List Nat) : (td l).length ≤ l.length := by
  rw [td, List.length_drop]
  have := (List.dropWhile_suffix (l := l) (· != 58)).length_le
  omega
theorem TOk.short {x : Str} (h : x.length ≤ 640) : TOk x := by
  have h1 := td_len (tl x)
  rw [len_tl] at h
  refine ⟨by rw [len_tl]; omega, by omega, fun w hw => .inl ?_⟩
  have := (sp1_mem 44 _ w hw).2.len
  omega
theorem repS_tl (x : Str) : ∀ n, tl (repS x n) = (List.replicate n (tl x)).flatten := fun n => by
  have key : ∀ (n : Nat) (a : Array Nat), ((List.replicate n x.cps).foldl (· ++ ·) a).toList = a.toList ++ (List.replicate n x.cps.toList).flatten := by
    intro n
    induction n with
    | zero => intro a; simp
    | succ n ih => intro a; rw [List.replicate_succ, List.foldl_cons, ih, List.replicate_succ, List.flatten_cons]; simp
  show ((List.replicate n x.cps).foldl (· ++ ·) #[]).toList = _
  rw [key]; rfl
theorem tl_nines (n : Nat) : tl (repS (O "9") n) = List.replicate n 57 := by
  rw [repS_tl, show tl (O "9") = [57] by decide +kernel]
  induction n with
  | zero => rfl
  | succ n ih => rw [List.replicate_succ, List.flatten_cons, ih]; rfl
theorem TOk.nines {n : Nat} (h1 : 4001 < n) (h2 : n ≤ 10000) : TOk (O "turn:" ++ repS (O "9") n) := by
  have et : tl (O "turn:" ++ repS (O "9") n) = [116, 117, 114, 110] ++ 58 :: List.replicate n 57 := by
    rw [tl_append, tl_nines, show tl (O "turn:") = [116, 117, 114, 110, 58] by decide +kernel]
    rfl
  have ed : td (tl (O "turn:" ++ repS (O "9") n)) = List.replicate n 57 := by
    rw [et]
    rfl
  refine ⟨by rw [len_tl, et]; simp only [List.length_append, List.length_cons, List.length_nil, List.length_replicate]; omega, ?_⟩
  rw [ed]
  refine ⟨by rw [List.length_replicate]; omega, fun w hw => ?_⟩
  have no : 44 ∉ List.replicate n 57 := fun z => by
    have := List.eq_of_mem_replicate z
    omega
  rw [sp1_no no] at hw
  rw [List.mem_singleton.mp hw, List.length_replicate]
  right
  exact h1
def IsT (d : D) : Prop := ∃ x, d = .str x ∧ TOk x
def IsSh (n : Nat) (d : D) : Prop := ∃ x : Str, d = .str x ∧ x.length ≤ n
theorem IsSh.t {n : Nat} {d : D} (h : IsSh n d) (hn : n ≤ 640) : IsT d := by
  obtain ⟨x, rfl, h⟩ := h
  exact ⟨x, rfl, TOk.short (by omega)⟩
theorem len_app (x y : Str) : (x ++ y).length = x.length + y.length := by rw [len_tl, tl_append, List.length_append, ← len_tl, ← len_tl]
theorem any_text_ok {k : Nat} {f : D} {P : D → D → Prop} {X : XP} (hf : FeedOk k f) (kb : k < 1073741824) (q : ∀ d f', IsT d → FeedOk (k + 1) f' → P d f') : F__law_any_text f [] P X := by
  unfold F__law_any_text B__law_any_text
  simp only [sSeq, sIf, sSet, sRet, sNext, sExpr, sAsg, sPar, aB, aO, aU, aV, aC, aF, aIf, aAnd, aOr, aNot, aTAnd, aTOr, aTNot, aTr, aCh, aIs, aCall, aTup, aLst, aCons, aNil, aM1, aSl, pN, pS, withV, vals, sl, List.set_cons_zero, List.set_cons_succ, List.set_nil, Option.map_some, endP, endO, at0s, if_true, if_false, Bool.false_eq_true, isT, tyS, fI, fIC, fLenA, Bool.not_true, Bool.not_false, iS, iL, iT, reduceCtorEq, oAddA, oCatS]
  have t0 : (Str.ofString "neg abs sign not add sub mul div rest least most less same flip lift flat join pick fold scan").length = 93 := by decide +kernel
  have t1 : (Str.ofString " table rank turn first past row axes deal upto turn:-7 turn:0 first:3 past:0 row:-1").length = 83 := by decide +kernel
  have t2 : (Str.ofString " first:-0 past:03 turn:1,2 first: axes:0 axes:1,0 axes:0,0 axes:1 axes:2,0,1 turn:+1").length = 84 := by decide +kernel
  have t3 : (Str.ofString " axes:0,1,2,3,4,5 axes:0,1,2,3,4,5,6 deal:2,3 deal:0 deal: deal:4001 deal:4000 deal:-1").length = 86 := by decide +kernel
  have t4 : (Str.ofString " deal:1,1,1,1,1,1,1 fold:add fold:sub fold:least fold:add: scan:most scan: scan:same").length = 84 := by decide +kernel
  have t5 : (Str.ofString " table:same table:div table:join table:neg table: rank:1 rank:-6 rank:7 rank:1,2 rank:-7,0").length = 90 := by decide +kernel
  have t6 : (Str.ofString " flip: rank:0,6 rank:1,2,3").length = 26 := by decide +kernel
  generalize Str.ofString "neg abs sign not add sub mul div rest least most less same flip lift flat join pick fold scan" = x0 at t0 ⊢
  generalize Str.ofString " table rank turn first past row axes deal upto turn:-7 turn:0 first:3 past:0 row:-1" = x1 at t1 ⊢
  generalize Str.ofString " first:-0 past:03 turn:1,2 first: axes:0 axes:1,0 axes:0,0 axes:1 axes:2,0,1 turn:+1" = x2 at t2 ⊢
  generalize Str.ofString " axes:0,1,2,3,4,5 axes:0,1,2,3,4,5,6 deal:2,3 deal:0 deal: deal:4001 deal:4000 deal:-1" = x3 at t3 ⊢
  generalize Str.ofString " deal:1,1,1,1,1,1,1 fold:add fold:sub fold:least fold:add: scan:most scan: scan:same" = x4 at t4 ⊢
  generalize Str.ofString " table:same table:div table:join table:neg table: rank:1 rank:-6 rank:7 rank:1,2 rank:-7,0" = x5 at t5 ⊢
  generalize Str.ofString " flip: rank:0,6 rank:1,2,3" = x6 at t6 ⊢
  have sz : (100000 : Nat) < sizeLine := by decide
  simp only [len_app]
  refine ⟨by omega, by omega, by omega, by omega, by omega, by omega, ?_⟩
  generalize hz : x0 ++ x1 ++ x2 ++ x3 ++ x4 ++ x5 ++ x6 = z
  have lz : z.length = 546 := by rw [← hz]; simp only [len_app]; omega
  clear hz
  have sl1 : (Txt.split z (Str.ofString " ")).length ≤ 547 := by
    have e := split_sp1 (x := z) (y := Str.ofString " ") (c := 32) (by decide +kernel) (by decide +kernel)
    have := congrArg List.length e
    rw [List.length_map, sp1_len] at this
    rw [this]
    have := List.count_le_length (a := 32) (l := tl z)
    rw [← len_tl] at this
    omega
  have mem : ∀ w ∈ Txt.split z (Str.ofString " "), w.length ≤ 546 := fun w hw => by
    have e := split_sp1 (x := z) (y := Str.ofString " ") (c := 32) (by decide +kernel) (by decide +kernel)
    have hm : tl w ∈ sp1 32 (tl z) := by rw [← e]; exact List.mem_map_of_mem hw
    have := (sp1_mem 32 _ _ hm).2.len
    rw [len_tl, ← lz, len_tl]; exact this
  simp only [sSeq, sIf, sSet, sRet, sNext, sExpr, sAsg, sPar, aB, aO, aU, aV, aC, aF, aIf, aAnd, aOr, aNot, aTAnd, aTOr, aTNot, aTr, aCh, aIs, aCall, aTup, aLst, aCons, aNil, aM1, aSl, pN, pS, withV, vals, sl, List.set_cons_zero, List.set_cons_succ, List.set_nil, Option.map_some, endP, endO, at0s, if_true, if_false, Bool.false_eq_true, isT, tyS, fI, fIC, fLenA, Bool.not_true, Bool.not_false, iS, iL, iT, reduceCtorEq, aCallO, mSplit, oMulA, oCatL, oCatS, oAddA, List.length_map, List.length_cons, List.length_nil]
  have l9 : (Str.ofString "9").length = 1 := by decide +kernel
  have lt : (Str.ofString "turn:").length = 5 := by decide +kernel
  rw [repS_len, repS_len, l9, lt]
  refine ⟨⟨by decide +kernel, by rw [lz]; decide⟩, ⟨by decide, by decide, by decide, by decide⟩, by decide, ⟨by decide, by decide, by decide, by decide⟩, by decide, by decide, ?_, ?_⟩
  · have : (547 + 5 : Nat) ≤ sizeLine := by decide
    omega
  · refine of_ok hf (by rw [List.length_append]; simp only [List.length_cons]; omega) (by rw [List.length_append, List.length_map]; simp only [List.length_cons, List.length_nil]; omega) kb fun d hd f' hf' => q d f' ?_ hf'
    rw [List.mem_append] at hd
    rcases hd with hd | hd
    · rw [List.mem_map] at hd
      obtain ⟨w, hw, rfl⟩ := hd
      exact ⟨w, rfl, TOk.short (by have := mem w hw; omega)⟩
    · simp only [List.mem_cons, List.not_mem_nil, or_false] at hd
      rcases hd with rfl | rfl | rfl | rfl | rfl
      · refine ⟨_, rfl, TOk.short ?_⟩
        rw [len_tl, tl_append, List.length_append, ← len_tl, ← len_tl, repS_len, l9, lt]
        decide
      · exact ⟨_, rfl, TOk.short (by decide +kernel)⟩
      · exact ⟨_, rfl, TOk.short (by decide +kernel)⟩
      · exact ⟨_, rfl, TOk.short (by decide +kernel)⟩
      · exact ⟨_, rfl, TOk.nines (n := 4400) (by decide) (by decide)⟩
end Cr

namespace Cr
open PySem PySem.Builtin PySem.Builtin.Str PyProof.Rows L2 Al TL NumText
theorem sm_fin : ∀ n : Fin 100, (toString (((n.val : Nat) : Int) - 10) : Str).length ≤ 4 ∧ (((n.val : Nat) : Int) - 10).natAbs.log2 < 1920 := by decide +kernel
theorem sm {i : Int} (h1 : -10 ≤ i) (h2 : i < 90) : (toString i : Str).length ≤ 4 ∧ i.natAbs.log2 < 1920 := by
  have := sm_fin ⟨(i + 10).toNat, by omega⟩
  have e : (((i + 10).toNat : Nat) : Int) - 10 = i := by omega
  simp only [e] at this
  exact this
theorem l_rank : (Str.ofString "rank:").length = 5 := by decide +kernel
theorem l_com : (Str.ofString ",").length = 1 := by decide +kernel
theorem rank_two_ok {k : Nat} {f : D} {P : D → D → Prop} {X : XP} (hf : FeedOk k f) (kb : k < 1073741800) (q : ∀ d f', IsSh 20 d → FeedOk (k + 2) f' → P d f') : F__law_rank_two f [] P X := by
  unfold F__law_rank_two B__law_rank_two
  have sz : (100000 : Nat) < sizeLine := by decide
  simp only [sSeq, sIf, sSet, sRet, sNext, sExpr, sAsg, sPar, aB, aO, aU, aV, aC, aF, aIf, aAnd, aOr, aNot, aTAnd, aTOr, aTNot, aTr, aCh, aIs, aCall, aTup, aLst, aCons, aNil, aM1, aSl, pN, pS, withV, vals, sl, List.set_cons_zero, List.set_cons_succ, List.set_nil, Option.map_some, endP, endO, at0s, if_true, if_false, Bool.false_eq_true, isT, tyS, fI, fIC, fLenA, Bool.not_true, Bool.not_false, iS, iL, iT, reduceCtorEq, aCallO]
  refine draw_ok hf (by decide) (by decide) (by omega) fun d1 f1 a1 b1 hf1 => ?_
  obtain ⟨s1, s2⟩ := sm (i := d1 - 1) (by omega) (by omega)
  simp only [sSeq, sIf, sSet, sRet, sNext, sExpr, sAsg, sPar, aB, aO, aU, aV, aC, aF, aIf, aAnd, aOr, aNot, aTAnd, aTOr, aTNot, aTr, aCh, aIs, aCall, aTup, aLst, aCons, aNil, aM1, aSl, pN, pS, withV, vals, sl, List.set_cons_zero, List.set_cons_succ, List.set_nil, Option.map_some, endP, endO, at0s, if_true, if_false, Bool.false_eq_true, isT, tyS, fI, fIC, fLenA, Bool.not_true, Bool.not_false, iS, iL, iT, reduceCtorEq, fStrA, oAddA, oCatS, len_app, l_rank, l_com]
  refine ⟨s2, by omega, by omega, ?_⟩
  refine draw_ok hf1 (by decide) (by decide) (by omega) fun d2 f2 a2 b2 hf2 => ?_
  obtain ⟨s3, s4⟩ := sm (i := d2 - 1) (by omega) (by omega)
  simp only [sSeq, sIf, sSet, sRet, sNext, sExpr, sAsg, sPar, aB, aO, aU, aV, aC, aF, aIf, aAnd, aOr, aNot, aTAnd, aTOr, aTNot, aTr, aCh, aIs, aCall, aTup, aLst, aCons, aNil, aM1, aSl, pN, pS, withV, vals, sl, List.set_cons_zero, List.set_cons_succ, List.set_nil, Option.map_some, endP, endO, at0s, if_true, if_false, Bool.false_eq_true, isT, tyS, fI, fIC, fLenA, Bool.not_true, Bool.not_false, iS, iL, iT, reduceCtorEq, fStrA, oAddA, oCatS, len_app, l_rank, l_com]
  refine ⟨s4, by omega, q _ _ ⟨_, rfl, ?_⟩ hf2⟩
  rw [len_app, len_app, len_app, l_rank, l_com]
  omega
theorem map_erase {α β : Type} (f : α → β) : ∀ (l : List α) (i : Nat), (l.map f).eraseIdx i = (l.eraseIdx i).map f
  | [], _ => rfl
  | _ :: _, 0 => rfl
  | a :: l, i + 1 => by simp only [List.map_cons, List.eraseIdx_cons_succ, map_erase f l i]
theorem wh_inv {c : AT} {b : AS} {A : AK} (I : Nat → Ev → Prop) : ∀ (n m : Nat) (ρ : Ev), m < n → I m ρ →
    (∀ (m : Nat) (ρ : Ev) (Kn : Ev → Prop), I m ρ → (∀ m' ρ', m = m' + 1 → I m' ρ' → Kn ρ') → c ρ (fun k ρ1 => if k = true then b { A with nx := Kn, ct := Kn, bk := A.nx } ρ1 else A.nx ρ1) A.ex) → whGo c b A n ρ
  | 0, m, ρ, h, _, _ => by omega
  | n + 1, m, ρ, h, hI, st => by
    unfold whGo
    exact st m ρ _ hI fun m' ρ' e hI' => wh_inv I n m' ρ' (by omega) hI' st
def ShL (n : Nat) (ys : List Str) : Prop := ∀ y ∈ ys, y.length ≤ n
theorem joinL_len (g : Nat) : ∀ ys : List (List Nat), (joinL [g] ys).length ≤ (ys.map List.length).sum + ys.length
  | [] => by simp [joinL]
  | p :: q => by
    by_cases h : q = []
    · subst h; simp [joinL]
    · rw [joinL_cons h]
      have := joinL_len g q
      simp at this ⊢
      omega
theorem sum_le {n : Nat} : ∀ {ys : List Str}, ShL n ys → (ys.map (·.length)).sum ≤ ys.length * n
  | [], _ => by simp
  | a :: r, h => by
    have h1 := h a (by simp)
    have h2 := sum_le (ys := r) fun y hy => h y (by simp [hy])
    simp only [List.map_cons, List.sum_cons, List.length_cons]
    rw [Nat.add_mul]
    omega
theorem join_sh {ys : List Str} {n m : Nat} (h : ShL n ys) (hm : ys.length ≤ m) (b : m * n + m ≤ 10000) : (ys.map (·.length)).sum + ys.length * (Str.ofString ",").length ≤ 16777216 ∧ (Txt.join (Str.ofString ",") ys).length ≤ m * n + m := by
  have h1 := sum_le h
  have h2 : ys.length * n ≤ m * n := Nat.mul_le_mul_right _ hm
  rw [l_com]
  refine ⟨by omega, ?_⟩
  rw [len_tl, tl_Tjoin, show tl (Str.ofString ",") = [44] by decide +kernel]
  have h3 := joinL_len 44 (ys.map tl)
  rw [List.length_map, List.map_map, show (List.length ∘ tl) = fun y : Str => y.length from funext fun y => (len_tl y).symm] at h3
  omega
def intL (ms : List Int) : D := .tup (ms.map D.int)
def ShpOk (ms : List Int) : Prop := ms.length ≤ 2 ∧ ∀ m ∈ ms, 0 ≤ m ∧ m ≤ 10
theorem word_for_ok {k : Nat} {f : D} {ms : List Int} {P : D → D → Prop} {X : XP} (hs : ShpOk ms) (hf : FeedOk k f) (kb : k < 1073741800) (q : ∀ d f', IsSh 200 d → FeedOk (k + 12) f' → P d f') : F__law_word_for f [intL ms] P X := by
  unfold F__law_word_for B__law_word_for intL
  have sz : (100000 : Nat) < sizeLine := by decide
  refine seq_k fun K hK => ?_
  obtain ⟨hl, hm⟩ := hs
  have hd : ∃ z : Int, (ms ++ [0]).head? = some z ∧ 0 ≤ z ∧ z ≤ 10 := by
    cases ms with
    | nil => exact ⟨0, rfl, by omega, by omega⟩
    | cons a r => exact ⟨a, rfl, hm a (by simp)⟩
  obtain ⟨z, ez, z0, z1⟩ := hd
  have ez' : atI (ms.map D.int ++ [D.int 0]) 0 = some (.int z) := by
    rw [atI0, show ms.map D.int ++ [D.int 0] = (ms ++ [0]).map D.int by simp, List.head?_map, ez]; rfl
  simp only [sSeq, sIf, sSet, sRet, sNext, sExpr, sAsg, sPar, aB, aO, aU, aV, aC, aF, aIf, aAnd, aOr, aNot, aTAnd, aTOr, aTNot, aTr, aCh, aIs, aCall, aTup, aLst, aCons, aNil, aM1, aSl, pN, pS, withV, vals, sl, List.set_cons_zero, List.set_cons_succ, List.set_nil, Option.map_some, endP, endO, at0s, if_true, if_false, Bool.false_eq_true, isT, tyS, fI, fIC, fLenA, Bool.not_true, Bool.not_false, iS, iL, iT, reduceCtorEq, oAddA, oCatT, List.length_map, List.length_cons, List.length_nil, oIx, oIxT, ez']
  refine ⟨by decide, by omega, ?_⟩
  rw [hK]; clear hK
  refine seq_k fun K hK => ?_
  simp only [sSeq, sIf, sSet, sRet, sNext, sExpr, sAsg, sPar, aB, aO, aU, aV, aC, aF, aIf, aAnd, aOr, aNot, aTAnd, aTOr, aTNot, aTr, aCh, aIs, aCall, aTup, aLst, aCons, aNil, aM1, aSl, pN, pS, withV, vals, sl, List.set_cons_zero, List.set_cons_succ, List.set_nil, Option.map_some, endP, endO, at0s, if_true, if_false, Bool.false_eq_true, isT, tyS, fI, fIC, fLenA, Bool.not_true, Bool.not_false, iS, iL, iT, reduceCtorEq, aCallO, oAddA]
  refine draw_ok hf (by decide) (by decide) (by omega) fun d1 f1 a1 b1 hf1 => ?_
  simp only [sSeq, sIf, sSet, sRet, sNext, sExpr, sAsg, sPar, aB, aO, aU, aV, aC, aF, aIf, aAnd, aOr, aNot, aTAnd, aTOr, aTNot, aTr, aCh, aIs, aCall, aTup, aLst, aCons, aNil, aM1, aSl, pN, pS, withV, vals, sl, List.set_cons_zero, List.set_cons_succ, List.set_nil, Option.map_some, endP, endO, at0s, if_true, if_false, Bool.false_eq_true, isT, tyS, fI, fIC, fLenA, Bool.not_true, Bool.not_false, iS, iL, iT, reduceCtorEq, oEqA, eqS, fIntA, oAddA]
  refine draw_ok hf1 (by split <;> omega) (by split <;> omega) (by omega) fun d2 f2 a2 b2 hf2 => ?_
  have b2' : d2 < 90 := by
    split at b2 <;> omega
  obtain ⟨s1, s2⟩ := sm (i := d2) (by omega) b2'
  simp only [sSeq, sIf, sSet, sRet, sNext, sExpr, sAsg, sPar, aB, aO, aU, aV, aC, aF, aIf, aAnd, aOr, aNot, aTAnd, aTOr, aTNot, aTr, aCh, aIs, aCall, aTup, aLst, aCons, aNil, aM1, aSl, pN, pS, withV, vals, sl, List.set_cons_zero, List.set_cons_succ, List.set_nil, Option.map_some, endP, endO, at0s, if_true, if_false, Bool.false_eq_true, isT, tyS, fI, fIC, fLenA, Bool.not_true, Bool.not_false, iS, iL, iT, reduceCtorEq, fStrA]
  refine ⟨s2, ?_⟩
  generalize (toString d2 : Str) = asked at s1 ⊢
  clear s2 ez ez'
  rw [hK]; clear hK
  refine seq_k fun K hK => ?_
  simp only [sParO]
  refine aLc_map (rng 0 ms.length) (fun d => .str (toString (numD d))) (fun Q q => ?_) (by rw [rng_len]; omega) ?_ ?_
  · simp only [sSeq, sIf, sSet, sRet, sNext, sExpr, sAsg, sPar, aB, aO, aU, aV, aC, aF, aIf, aAnd, aOr, aNot, aTAnd, aTOr, aTNot, aTr, aCh, aIs, aCall, aTup, aLst, aCons, aNil, aM1, aSl, pN, pS, withV, vals, sl, List.set_cons_zero, List.set_cons_succ, List.set_nil, Option.map_some, endP, endO, at0s, if_true, if_false, Bool.false_eq_true, isT, tyS, fI, fIC, fLenA, Bool.not_true, Bool.not_false, iS, iL, iT, reduceCtorEq, iR1, List.length_map]
    refine ⟨⟨by omega, by omega⟩, ?_⟩
    exact q
  · intro d hd Q q
    obtain ⟨i, rfl, i0, i1⟩ := rng_mem hd
    obtain ⟨s3, s4⟩ := sm (i := i) (by omega) (by omega)
    simp only [sSeq, sIf, sSet, sRet, sNext, sExpr, sAsg, sPar, aB, aO, aU, aV, aC, aF, aIf, aAnd, aOr, aNot, aTAnd, aTOr, aTNot, aTr, aCh, aIs, aCall, aTup, aLst, aCons, aNil, aM1, aSl, pN, pS, withV, vals, sl, List.set_cons_zero, List.set_cons_succ, List.set_nil, Option.map_some, endP, endO, at0s, if_true, if_false, Bool.false_eq_true, isT, tyS, fI, fIC, fLenA, Bool.not_true, Bool.not_false, iS, iL, iT, reduceCtorEq, fStrA]
    exact ⟨s4, q⟩
  simp only [sSeq, sIf, sSet, sRet, sNext, sExpr, sAsg, sPar, aB, aO, aU, aV, aC, aF, aIf, aAnd, aOr, aNot, aTAnd, aTOr, aTNot, aTr, aCh, aIs, aCall, aTup, aLst, aCons, aNil, aM1, aSl, pN, pS, withV, vals, sl, List.set_cons_zero, List.set_cons_succ, List.set_nil, Option.map_some, endP, endO, at0s, if_true, if_false, Bool.false_eq_true, isT, tyS, fI, fIC, fLenA, Bool.not_true, Bool.not_false, iS, iL, iT, reduceCtorEq, List.length_nil, Nat.zero_le, true_and]
  have hleft : ∃ ys : List Str, (rng 0 ms.length).map (fun d => D.str (toString (numD d))) = ys.map D.str ∧ ys.length = ms.length ∧ ShL 4 ys := by
    refine ⟨(rng 0 ms.length).map (fun d => toString (numD d)), by rw [List.map_map]; rfl, by rw [List.length_map, rng_len], fun y hy => ?_⟩
    rw [List.mem_map] at hy
    obtain ⟨d, hd, rfl⟩ := hy
    obtain ⟨i, rfl, i0, i1⟩ := rng_mem hd
    exact (sm (i := i) (by omega) (by omega)).1
  obtain ⟨ys, ey, ly, hy⟩ := hleft
  rw [ey, hK]; clear hK
  refine seq_k fun K hK => ?_
  simp only [sWhile]
  refine wh_inv (fun m ρ => ∃ (ls os : List Str) (g : D), ρ = [some g, some (.tup (ms.map D.int)), some (.int z), some (.str asked), some (.lst (ls.map D.str)), some (.lst (os.map D.str)), none, none, none, none, none] ∧ ls.length = m ∧ ls.length + os.length = ms.length ∧ ShL 4 ls ∧ ShL 4 os ∧ FeedOk (k + 2 + os.length) g) 3 ms.length _ (by omega) ⟨ys, [], f2, rfl, ly, by simp [ly], hy, (fun y h => absurd h (by simp)), by simpa using hf2⟩ ?_
  rintro m ρ Kn ⟨ls, os, g, rfl, el, es, h4, h5, hg⟩ hn
  simp only [aB, aEmpO, withL, sl, if_true]
  cases ls with
  | cons y0 lr =>
    have hlen : (y0 :: lr).length = m := el
    rw [if_pos (show (!(List.map D.str (y0 :: lr)).isEmpty) = true from rfl)]
    simp only [sExpr, aApp, aPopAt, aCallO, aLenO, withL, sl, aCons, aNil, withV, vals, Option.map_some, List.length_map]
    have l2 : (y0 :: lr).length ≤ 2 := by omega
    refine draw_ok hg (by simp only [List.length_cons]; omega) (by omega) (by omega) fun d3 f3 a3 b3 hf3 => ?_
    have lt : d3.toNat < (y0 :: lr).length := by omega
    have e6 : seqIndex? d3 (y0 :: lr).length = some d3.toNat := by
      have n0 : ¬ d3 < 0 := by omega
      simp only [seqIndex?, n0, if_false]
      rw [if_pos (by simp only [Bool.and_eq_true, decide_eq_true_eq]; omega)]
    simp only [withL, sl, List.set_cons_zero, List.set_cons_succ, List.length_map, e6, List.getElem?_map, List.getElem?_eq_getElem lt, Option.map_some]
    refine ⟨⟨by omega, by omega⟩, by omega, hn (m - 1) _ (by simp only [List.length_cons] at hlen; omega) ?_⟩
    refine ⟨(y0 :: lr).eraseIdx d3.toNat, os ++ [(y0 :: lr)[d3.toNat]], f3, ?_, ?_, ?_, ?_, ?_, ?_⟩
    · rw [map_erase, List.map_append]
      rfl
    · rw [List.length_eraseIdx_of_lt lt]; omega
    · rw [List.length_eraseIdx_of_lt lt, List.length_append]; simp only [List.length_cons, List.length_nil] at es ⊢; omega
    · exact fun y hy => h4 y (List.mem_of_mem_eraseIdx hy)
    · intro y hy
      rw [List.mem_append] at hy
      rcases hy with hy | hy
      · exact h5 y hy
      · rw [List.mem_singleton.mp hy]
        exact h4 _ (List.getElem_mem lt)
    · exact hf3.up (by simp only [List.length_append, List.length_cons, List.length_nil]; omega)
  | nil =>
    rw [if_neg (by simp)]
    simp only [List.length_nil] at el es
    clear hn
    rw [hK]; clear hK
    have lo : os.length ≤ 2 := by omega
    have hg4 : FeedOk (k + 4) g := hg.up (by omega)
    refine seq_k fun K hK => ?_
    simp only [sSeq, sIf, sSet, sRet, sNext, sExpr, sAsg, sPar, aB, aO, aU, aV, aC, aF, aIf, aAnd, aOr, aNot, aTAnd, aTOr, aTNot, aTr, aCh, aIs, aCall, aTup, aLst, aCons, aNil, aM1, aSl, pN, pS, withV, vals, sl, List.set_cons_zero, List.set_cons_succ, List.set_nil, Option.map_some, endP, endO, at0s, if_true, if_false, Bool.false_eq_true, isT, tyS, fI, fIC, fLenA, Bool.not_true, Bool.not_false, iS, iL, iT, reduceCtorEq, aCallO, List.length_cons, List.length_nil]
    refine ⟨by decide, ?_⟩
    refine of_ok hg4 (Nat.succ_pos _) (by simp only [List.length_cons, List.length_nil]; omega) (by omega) fun w1 hw1 f4 hf4 => ?_
    have axs : ∃ js : List Str, ShL 4 js ∧ js.length ≤ 2 ∧ ∀ Q : D → Ev → Prop, Q (.lst (js.map D.str)) [some f4, some (.tup (ms.map D.int)), some (.int z), some (.str asked), some (.lst []), none, none, none, none, none, none] → aOrT (aM 5) (aLst (aCons (aC (D.str (Str.ofString "0"))) aNil)) [some f4, some (.tup (ms.map D.int)), some (.int z), some (.str asked), some (.lst []), some (.lst (os.map D.str)), none, none, none, none, none] Q NX := by
      cases os with
      | nil =>
        refine ⟨[Str.ofString "0"], fun y hy => ?_, by decide, fun Q q => ?_⟩
        · rw [List.mem_singleton.mp hy]; decide +kernel
        · simp only [sSeq, sIf, sSet, sRet, sNext, sExpr, sAsg, sPar, aB, aO, aU, aV, aC, aF, aIf, aAnd, aOr, aNot, aTAnd, aTOr, aTNot, aTr, aCh, aIs, aCall, aTup, aLst, aCons, aNil, aM1, aSl, pN, pS, withV, vals, sl, List.set_cons_zero, List.set_cons_succ, List.set_nil, Option.map_some, endP, endO, at0s, if_true, if_false, Bool.false_eq_true, isT, tyS, fI, fIC, fLenA, Bool.not_true, Bool.not_false, iS, iL, iT, reduceCtorEq, aOrT, aM, truD, List.length_cons, List.length_nil]
          exact ⟨by decide, q⟩
      | cons y r =>
        refine ⟨y :: r, h5, lo, fun Q q => ?_⟩
        simp only [sSeq, sIf, sSet, sRet, sNext, sExpr, sAsg, sPar, aB, aO, aU, aV, aC, aF, aIf, aAnd, aOr, aNot, aTAnd, aTOr, aTNot, aTr, aCh, aIs, aCall, aTup, aLst, aCons, aNil, aM1, aSl, pN, pS, withV, vals, sl, List.set_cons_zero, List.set_cons_succ, List.set_nil, Option.map_some, endP, endO, at0s, if_true, if_false, Bool.false_eq_true, isT, tyS, fI, fIC, fLenA, Bool.not_true, Bool.not_false, iS, iL, iT, reduceCtorEq, aOrT, aM, truD]
        exact q
    obtain ⟨js, hj, lj, ax⟩ := axs
    have hj2 := join_sh hj lj (by decide)
    have hw1' : IsSh 200 w1 := by
      simp only [List.mem_cons, List.not_mem_nil, or_false] at hw1
      rcases hw1 with rfl | rfl | rfl | rfl <;> exact ⟨_, rfl, by decide +kernel⟩
    have hax : IsSh 200 (.str (Str.ofString "axes:" ++ Txt.join (Str.ofString ",") js)) := ⟨_, rfl, by
      rw [len_app, show (Str.ofString "axes:").length = 5 by decide +kernel]
      have := hj2.2
      omega⟩
    refine ax _ ?_
    simp only [mJoin, Al.strs_map]
    refine ⟨hj2.1, ?_⟩
    have lax : (Str.ofString "axes:").length + (Txt.join (Str.ofString ",") js).length ≤ sizeLine := by
      rw [show (Str.ofString "axes:").length = 5 by decide +kernel]
      have := hj2.2
      omega
    simp only [oAddA, oCatS, List.set_cons_zero, List.set_cons_succ]
    refine ⟨lax, by decide, ?_⟩
    generalize hW : [w1, D.str (Str.ofString "flip"), D.str (Str.ofString "lift"), D.str (Str.ofString "flat"), D.str (Str.ofString "axes:" ++ Txt.join (Str.ofString ",") js)] = W
    have lW : W.length = 5 := by rw [← hW]; rfl
    have aW : ∀ d ∈ W, IsSh 200 d := by
      rw [← hW]
      intro d hd
      simp only [List.mem_cons, List.not_mem_nil, or_false] at hd
      rcases hd with rfl | rfl | rfl | rfl | rfl
      · exact hw1'
      · exact ⟨_, rfl, by decide +kernel⟩
      · exact ⟨_, rfl, by decide +kernel⟩
      · exact ⟨_, rfl, by decide +kernel⟩
      · exact hax
    clear hW hw1 hw1' hax ax lax hj2 hj lj
    rw [hK]; clear hK
    refine seq_k fun K hK => ?_
    simp only [sSet, aO, aM, aLst, aCons, aNil, aCallO, withV, vals, sl, Option.map_some, aC, aV, List.set_cons_zero, List.set_cons_succ, aF, List.length_cons, List.length_nil]
    refine ⟨by decide, ?_⟩
    refine of_ok hf4 (Nat.succ_pos _) (by simp only [List.length_cons, List.length_nil]; omega) (by omega) fun w2 hw2 f5 hf5 => ?_
    have hw2' : ∃ x : Str, w2 = .str x ∧ x.length ≤ 10 := by
      simp only [List.mem_cons, List.not_mem_nil, or_false] at hw2
      rcases hw2 with rfl | rfl | rfl <;> exact ⟨_, rfl, by decide +kernel⟩
    obtain ⟨x2, rfl, lx2⟩ := hw2'
    simp only [oAddA, oCatS, sl, aO, aCallO, aCons, aNil, aC, withV, vals, Option.map_some, List.set_cons_zero, List.set_cons_succ]
    refine ⟨by omega, ?_⟩
    refine draw_ok hf5 (by decide) (by decide) (by omega) fun d4 f6 a4 b4 hf6 => ?_
    obtain ⟨s5, s6⟩ := sm (i := d4 - 5) (by omega) (by omega)
    simp only [fI, fStrA]
    refine ⟨s6, ?_⟩
    generalize (toString (d4 - 5) : Str) = tt at s5 ⊢
    have lt5 : (Str.ofString "turn:").length = 5 := by decide +kernel
    simp only [lt5]
    refine ⟨by omega, by decide, ?_⟩
    simp only [oCatL, lW, List.length_cons, List.length_nil]
    refine ⟨by decide, ?_⟩
    generalize hW2 : W ++ [D.str (x2 ++ asked), D.str (Str.ofString "turn:" ++ tt)] = W2
    have lW2 : W2.length = 7 := by rw [← hW2, List.length_append, lW]; rfl
    have aW2 : ∀ d ∈ W2, IsSh 200 d := by
      rw [← hW2]
      intro d hd
      rw [List.mem_append] at hd
      rcases hd with hd | hd
      · exact aW d hd
      · simp only [List.mem_cons, List.not_mem_nil, or_false] at hd
        rcases hd with rfl | rfl
        · exact ⟨_, rfl, by rw [len_app]; omega⟩
        · exact ⟨_, rfl, by rw [len_app, lt5]; omega⟩
    clear hW2 aW lW W
    rw [hK]; clear hK
    refine seq_k fun K hK => ?_
    simp only [sExpr, aApp, withL, sl, aO, aC, aM1]
    have hrev : ∃ rs : List Int, rs.length ≤ 2 ∧ (∀ r ∈ rs, 0 ≤ r ∧ r ≤ 10) ∧ ∀ (ρ : Ev) (Q : D → Ev → Prop), sl ρ 1 = some (.tup (ms.map D.int)) → Q (.tup (rs.map D.int)) ρ → aU oRevT (aOrT (aV 1) (aTup (aCons (aC (D.int 1)) aNil))) ρ Q NX := by
      cases ms with
      | nil =>
        refine ⟨[1], by decide, by intro r hr; rw [List.mem_singleton.mp hr]; decide, fun ρ Q h1 q => ?_⟩
        simp only [aU, aOrT, aV, h1, truD, List.map_nil, List.isEmpty_nil, Bool.not_true, aTup, aCons, aNil, aC, withV, vals, Option.map_some, List.length_cons, List.length_nil, oRevT]
        exact ⟨by decide, q⟩
      | cons a r =>
        refine ⟨(a :: r).reverse, by rw [List.length_reverse]; exact hl, fun x hx => hm x (List.mem_reverse.mp hx), fun ρ Q h1 q => ?_⟩
        simp only [aU, aOrT, aV, h1, truD, List.map_cons, List.isEmpty_cons, Bool.not_false, oRevT]
        rw [List.map_reverse] at q
        exact q
    obtain ⟨rs, lr, hr, rev⟩ := hrev
    refine aLc_map (rs.map D.int) (fun d => .str (toString (numD d))) (fun Q q => ?_) (by rw [List.length_map]; omega) ?_ ?_
    · simp only [iT]
      exact rev _ _ rfl q
    · intro d hd Q q
      rw [List.mem_map] at hd
      obtain ⟨n, hn, rfl⟩ := hd
      obtain ⟨s7, s8⟩ := sm (i := n) (by have := hr n hn; omega) (by have := hr n hn; omega)
      simp only [aF, aCons, aNil, aV, sl, List.set_cons_succ, List.set_cons_zero, withV, vals, Option.map_some, fStrA]
      exact ⟨s8, q⟩
    have hrs : ∃ zs : List Str, (rs.map D.int).map (fun d => D.str (toString (numD d))) = zs.map D.str ∧ zs.length ≤ 2 ∧ ShL 4 zs := by
      refine ⟨rs.map fun n => toString n, by rw [List.map_map, List.map_map]; rfl, by rw [List.length_map]; exact lr, fun y hy => ?_⟩
      rw [List.mem_map] at hy
      obtain ⟨n, hn, rfl⟩ := hy
      exact (sm (i := n) (by have := hr n hn; omega) (by have := hr n hn; omega)).1
    obtain ⟨zs, ez, lz, hz⟩ := hrs
    rw [ez]
    have hj3 := join_sh hz lz (by decide)
    simp only [mJoin, Al.strs_map]
    refine ⟨hj3.1, ?_⟩
    have ld : (Str.ofString "deal:").length = 5 := by decide +kernel
    simp only [oAddA, oCatS, ld, withL, sl, lW2, List.set_cons_succ, List.set_cons_zero]
    have := hj3.2
    refine ⟨by omega, by decide, ?_⟩
    generalize hW3 : W2 ++ [D.str (Str.ofString "deal:" ++ Txt.join (Str.ofString ",") zs)] = W3
    have lW3 : W3.length = 8 := by rw [← hW3, List.length_append, lW2]; rfl
    have aW3 : ∀ d ∈ W3, IsSh 200 d := by
      rw [← hW3]
      intro d hd
      rw [List.mem_append] at hd
      rcases hd with hd | hd
      · exact aW2 d hd
      · rw [List.mem_singleton.mp hd]
        exact ⟨_, rfl, by rw [len_app, ld]; omega⟩
    clear hW3 aW2 lW2 W2
    rw [hK]; clear hK
    refine seq_k fun K hK => ?_
    simp only [sSet, aO, aLst, aCons, aNil, withV, vals, Option.map_some, aC, aV, sl, aF, fI, fIntA, oMulA, oAddA, oCatL, List.length_cons, List.length_nil, List.set_cons_zero, List.set_cons_succ]
    have hby : ∃ bs : List D, bs = [D.str (Str.ofString "add"), D.str (Str.ofString "least"), D.str (Str.ofString "most")] ++ (List.replicate (Int.toNat (if decide (z < 9) = true then 1 else 0)) [D.str (Str.ofString "mul")]).flatten ∧ 0 < bs.length ∧ bs.length ≤ 4 ∧ ∀ d ∈ bs, ∃ x : Str, d = .str x ∧ x.length ≤ 10 := by
      refine ⟨_, rfl, by simp only [List.cons_append, List.length_cons]; omega, ?_, ?_⟩
      · split <;> decide
      · intro d hd
        have : d ∈ [D.str (Str.ofString "add"), D.str (Str.ofString "least"), D.str (Str.ofString "most"), D.str (Str.ofString "mul")] := by
          split at hd
          · simpa using hd
          · simp at hd ⊢
            rcases hd with h | h | h <;> simp [h]
        simp only [List.mem_cons, List.not_mem_nil, or_false] at this
        rcases this with rfl | rfl | rfl | rfl <;> exact ⟨_, rfl, by decide +kernel⟩
    obtain ⟨bs, eb, b0, b4', hb⟩ := hby
    refine ⟨by decide, by decide, ⟨by split <;> decide, by split <;> decide, by split <;> decide⟩, by split <;> decide, ?_⟩
    rw [← eb]
    clear eb
    rw [hK]; clear hK
    refine seq_k fun K hK => ?_
    simp only [sSet, aO, aCallO, aLst, aCons, aNil, withV, vals, Option.map_some, aC, sl, List.length_cons, List.length_nil]
    refine ⟨by decide, ?_⟩
    refine of_ok hf6 (Nat.succ_pos _) (by simp only [List.length_cons, List.length_nil]; omega) (by omega) fun w3 hw3 f7 hf7 => ?_
    have hw3' : ∃ x : Str, w3 = .str x ∧ x.length ≤ 10 := by
      simp only [List.mem_cons, List.not_mem_nil, or_false] at hw3
      rcases hw3 with rfl | rfl | rfl <;> exact ⟨_, rfl, by decide +kernel⟩
    obtain ⟨x3, rfl, lx3⟩ := hw3'
    simp only [aCallO, aCons, aNil, aV, withV, vals, Option.map_some, sl, List.set_cons_zero, List.set_cons_succ]
    refine of_ok hf7 b0 (by omega) (by omega) fun w4 hw4 f8 hf8 => ?_
    obtain ⟨x4, rfl, lx4⟩ := hb w4 hw4
    simp only [oAddA, oCatS]
    refine ⟨by omega, ?_⟩
    rw [hK]; clear hK
    simp only [sRet, aO, aCallO, aM, aLst, aCons, aNil, withV, vals, Option.map_some, aV, sl, List.set_cons_zero, List.set_cons_succ, oAddA, oCatL, lW3, List.length_cons, List.length_nil]
    refine ⟨by decide, by decide, ?_⟩
    refine of_ok hf8 (by rw [List.length_append, lW3]; omega) (by rw [List.length_append, lW3]; simp only [List.length_cons, List.length_nil]; omega) (by omega) fun w5 hw5 f9 hf9 => ?_
    have : IsSh 200 w5 := by
      rw [List.mem_append] at hw5
      rcases hw5 with h | h
      · exact aW3 _ h
      · simp only [List.mem_cons, List.not_mem_nil, or_false, or_self] at h
        subst h
        exact ⟨_, rfl, by rw [len_app]; omega⟩
    exact q _ _ this (hf9.up (by omega))
end Cr

namespace Cr
open PySem PySem.Builtin PySem.Builtin.Str PyProof.Rows L2 Al TL NumText
theorem for_invB {g : AG} {b : AS} {A : AK} (I : Nat → Ev → Prop) : ∀ (ds : List D) (n : Nat) (ρ : Ev), I n ρ →
    (∀ (d : D) (m : Nat) (ρ : Ev) (Kn : Ev → Prop), d ∈ ds → m < n + ds.length → I m ρ → (∀ ρ', I (m + 1) ρ' → Kn ρ') → g d ρ fun ρ1 => b { A with nx := Kn, ct := Kn, bk := A.nx } ρ1) →
    (∀ ρ, I (n + ds.length) ρ → A.nx ρ) → forGo g b A ds ρ
  | [], n, ρ, hI, _, h => h ρ hI
  | d :: ds, n, ρ, hI, st, h => by
    unfold forGo
    refine st d n ρ _ (by simp) (by simp) hI fun ρ' h' => ?_
    exact for_invB I ds (n + 1) ρ' h' (fun d' m ρ Kn hd hm => st d' m ρ Kn (by simp [hd]) (by simp only [List.length_cons]; omega)) fun ρ hI2 => h ρ (by rw [List.length_cons, ← Nat.add_assoc, Nat.add_right_comm]; exact hI2)
theorem lc_invB {te : AE} {vs : List Nat} {g : AG} (I : List D → Ev → Prop) : ∀ (ds : List D) (pre : List D) (ρ : Ev) (P : List D → Ev → Prop), I pre ρ →
    (∀ d ∈ ds, ∀ es ρ, es.length < pre.length + ds.length → I es ρ → ∀ Q : D → Ev → Prop, (∀ e ρ3, I (es ++ [e]) ρ3 → Q e ρ3) → g d (wipeD ρ vs) fun ρ1 => te ρ1 Q NX) →
    (∀ es ρ, es.length = ds.length → I (pre ++ es) ρ → P es ρ) → lcGo g tY te vs ds ρ P
  | [], pre, ρ, P, hI, _, h => h [] ρ rfl (by rwa [List.append_nil])
  | d :: ds, pre, ρ, P, hI, st, h => by
    unfold lcGo
    refine st d (by simp) pre ρ (by simp) hI _ fun e ρ3 h3 => ?_
    refine lc_invB I ds (pre ++ [e]) ρ3 _ h3 (fun d' h' es ρ hl => st d' (by simp [h']) es ρ (by simp only [List.length_append, List.length_cons, List.length_nil] at hl ⊢; omega)) fun es ρ4 hl hI4 => ?_
    exact h (e :: es) ρ4 (by simp [hl]) (by rw [List.append_assoc] at hI4; exact hI4)
theorem frame_ok {r : Int} {ds : List D} {P : D → Prop} {X : XP} (q : ∀ j : Nat, P (.int j)) : F__law_frame [.int r, .tup ds] P X := by
  unfold F__law_frame B__law_frame
  have q' : ∀ i : Int, 0 ≤ i → P (.int i) := fun i h => by
    have := q i.toNat
    rwa [Int.toNat_of_nonneg h] at this
  simp only [sSeq, sIf, sSet, sRet, sNext, sExpr, sAsg, sPar, aB, aO, aU, aV, aC, aF, aIf, aAnd, aOr, aNot, aTAnd, aTOr, aTNot, aTr, aCh, aIs, aCall, aTup, aLst, aCons, aNil, aM1, aSl, pN, pS, withV, vals, sl, List.set_cons_zero, List.set_cons_succ, List.set_nil, Option.map_some, endP, endO, at0s, if_true, if_false, Bool.false_eq_true, isT, tyS, fI, fIC, fLenA, Bool.not_true, Bool.not_false, iS, iL, iT, reduceCtorEq, fMax2, fMin2]
  split
  · refine q' _ ?_
    split <;> omega
  · next c =>
    simp only [decide_eq_true_eq] at c
    refine q' _ ?_
    split <;> omega
theorem th_tup {ds : List D} (h : ∀ d ∈ ds, IsT d) (hl : ds.length ≤ 100) : Th8 (.tup ds) := .tup ds (fun d hd => .inl (h d hd)) hl
theorem verb_for_ok {k : Nat} {f : D} {P : D → D → Prop} {X : XP} (hf : FeedOk k f) (kb : k < 1073741700) (q : ∀ d f', Th8 d → FeedOk (k + 20) f' → P d f') : F__law_verb_for f [intL [2, 3]] P X := by
  unfold F__law_verb_for B__law_verb_for
  have sz : (100000 : Nat) < sizeLine := by decide
  refine seq_k fun K hK => ?_
  simp only [sSet, aTup, aNil, withV, vals, List.length_nil, List.set_cons_zero, List.set_cons_succ]
  refine ⟨by decide, ?_⟩
  rw [hK]; clear hK
  refine seq_k fun K hK => ?_
  simp only [sFor, iR1, aCons, aNil, aCallO, aLst, aC, withV, vals, Option.map_some, sl, List.length_cons, List.length_nil]
  refine ⟨by decide, ?_⟩
  refine of_ok hf (Nat.succ_pos _) (by simp only [List.length_cons, List.length_nil]; omega) (by omega) fun w hw f1 hf1 => ?_
  have hw' : ∃ i : Int, w = .int i ∧ 0 ≤ i ∧ i ≤ 3 := by
    simp only [List.mem_cons, List.not_mem_nil, or_false] at hw
    rcases hw with rfl | rfl | rfl | rfl | rfl | rfl | rfl <;> exact ⟨_, rfl, by omega, by omega⟩
  obtain ⟨i, rfl, i0, i1⟩ := hw'
  simp only [List.set_cons_zero, List.set_cons_succ]
  refine ⟨⟨by omega, by omega⟩, ?_⟩
  refine for_invB (fun m ρ => ∃ (g : D) (vs : List D) (ms : List Int) (w3 w4 : Option D), ρ = [some g, some (.tup (ms.map D.int)), some (.tup vs), w3, w4] ∧ ShpOk ms ∧ vs.length = m ∧ (∀ d ∈ vs, IsSh 20 d) ∧ FeedOk (k + 1 + m) g) _ 0 _ ⟨f1, [], [2, 3], none, none, rfl, ⟨by decide, by intro m hm; simp at hm; omega⟩, rfl, (fun d h => absurd h (by simp)), hf1.up (by omega)⟩ ?_ ?_
  · rintro d m ρ Kn hd hlt ⟨g, vs, ms, w3, w4, rfl, hs, lv, hv, hg⟩ hn
    have hm3 : m + 1 ≤ 100 := by
      rw [rng_len] at hlt; omega
    simp only [Tg.a, gV, List.set_cons_zero, List.set_cons_succ]
    simp only [sSeq, sSet, aO, aCallO, aCons, aNil, aC, withV, vals, Option.map_some, sl]
    refine draw_ok hg (by decide) (by decide) (by omega) fun d1 f2 a1 b1 hf2 => ?_
    obtain ⟨s1, s2⟩ := sm (i := d1 - 2) (by omega) (by omega)
    simp only [fI, List.set_cons_zero, List.set_cons_succ, aV, sl, aTup, aCons, aNil, aO, aF, withV, vals, Option.map_some, fStrA, aC]
    refine ⟨s2, ?_⟩
    generalize (toString (d1 - 2) : Str) = tt at s1 ⊢
    simp only [oAddA, oCatS, oCatT, l_rank, List.length_cons, List.length_nil]
    refine ⟨by omega, by decide, by omega, ?_⟩
    simp only [aSl, pS, pN, aCall, aCons, aNil, aV, sl, withV, vals, Option.map_some, List.set_cons_zero, List.set_cons_succ]
    refine frame_ok fun j => ?_
    simp only [slA, slT]
    rw [cutD_tail, ← List.map_drop]
    refine hn _ ⟨f2, _, _, _, _, rfl, ⟨?_, ?_⟩, ?_, ?_, hf2.up (by omega)⟩
    · rw [List.length_drop]; have := hs.1; omega
    · exact fun x hx => hs.2 x (List.mem_of_mem_drop hx)
    · rw [List.length_append, lv]; rfl
    · intro d hd
      rw [List.mem_append] at hd
      rcases hd with h | h
      · exact hv d h
      · rw [List.mem_singleton.mp h]
        exact ⟨_, rfl, by rw [len_app, l_rank]; omega⟩
  · rintro ρ ⟨g, vs, ms, w3, w4, rfl, hs, lv, hv, hg⟩
    have lv' : vs.length ≤ 3 := by
      rw [lv, rng_len]; omega
    show K _
    rw [hK]; clear hK
    simp only [sRet, aO, aV, aTup, aCons, aNil, aCallO, withV, vals, Option.map_some, sl]
    refine word_for_ok hs (hg.up (show k + 1 + (0 + (rng 0 i.toNat).length) ≤ k + 4 by rw [rng_len]; omega)) (by omega) fun w f2 hw2 hf2 => ?_
    simp only [oAddA, oCatT, List.length_cons, List.length_nil]
    refine ⟨by decide, by omega, ?_⟩
    refine q _ _ (th_tup (fun d hd => ?_) ?_) (hf2.up (by omega))
    · rw [List.mem_append] at hd
      rcases hd with h | h
      · exact (hv d h).t (by decide)
      · rw [List.mem_singleton.mp h]; exact hw2.t (by decide)
    · rw [List.length_append]; simp only [List.length_cons, List.length_nil]; omega
theorem verb_of_two_ok {k : Nat} {f : D} {P : D → D → Prop} {X : XP} (hf : FeedOk k f) (kb : k < 1073741700) (q : ∀ d f', Th8 d → FeedOk (k + 20) f' → P d f') : F__law_verb_of_two f [] P X := by
  unfold F__law_verb_of_two B__law_verb_of_two
  have sz : (100000 : Nat) < sizeLine := by decide
  refine seq_k fun K hK => ?_
  simp only [sSet, aLst, aCons, aNil, aC, withV, vals, Option.map_some, List.length_cons, List.length_nil, List.set_cons_zero, List.set_cons_succ]
  refine ⟨by decide, ?_⟩
  generalize hC : [D.str (Str.ofString "add"), D.str (Str.ofString "sub"), D.str (Str.ofString "mul"), D.str (Str.ofString "div"), D.str (Str.ofString "rest"), D.str (Str.ofString "least"), D.str (Str.ofString "most"), D.str (Str.ofString "less"), D.str (Str.ofString "same")] = C
  have lC : C.length = 9 := by rw [← hC]; rfl
  have aC' : ∀ d ∈ C, ∃ x : Str, d = .str x ∧ x.length ≤ 10 := by
    rw [← hC]
    intro d hd
    simp only [List.mem_cons, List.not_mem_nil, or_false] at hd
    rcases hd with rfl | rfl | rfl | rfl | rfl | rfl | rfl | rfl | rfl <;> exact ⟨_, rfl, by decide +kernel⟩
  clear hC
  rw [hK]; clear hK
  refine seq_k fun K hK => ?_
  simp only [sSet, aF, aCons, aNil]
  simp only [aLc, iR1, aCons, aNil, aCallO, aLst, aC, withV, vals, Option.map_some, sl, List.length_cons, List.length_nil]
  refine ⟨by decide, ?_⟩
  refine of_ok hf (Nat.succ_pos _) (by simp only [List.length_cons, List.length_nil]; omega) (by omega) fun w hw f1 hf1 => ?_
  have hw' : ∃ i : Int, w = .int i ∧ 0 ≤ i ∧ i ≤ 2 := by
    simp only [List.mem_cons, List.not_mem_nil, or_false] at hw
    rcases hw with rfl | rfl | rfl | rfl | rfl | rfl <;> exact ⟨_, rfl, by omega, by omega⟩
  obtain ⟨i, rfl, i0, i1⟩ := hw'
  simp only [List.set_cons_zero, List.set_cons_succ]
  refine ⟨⟨by omega, by omega⟩, by rw [rng_len]; omega, ?_⟩
  refine lc_invB (fun es ρ => ∃ (g : D) (w4 : Option D), ρ = [some g, some (.lst C), none, none, w4] ∧ es.length ≤ 100 ∧ (∀ d ∈ es, IsSh 20 d) ∧ FeedOk (k + 1 + 2 * es.length) g) _ [] _ _ ⟨f1, none, rfl, by decide, (fun d h => absurd h (by simp)), hf1.up (by omega)⟩ ?_ ?_
  · rintro d hd es ρ hlt ⟨g, w4, rfl, l1, ha, hg⟩ Q hq
    rw [rng_len, List.length_nil] at hlt
    simp only [wipeD, Tg.a, gV, List.set_cons_zero, List.set_cons_succ, aCallO, aNil, sl, withV, vals]
    refine rank_two_ok hg (by omega) fun e f3 he hf3 => hq e _ ⟨f3, _, rfl, ?_, ?_, hf3.up ?_⟩
    · rw [List.length_append]; simp only [List.length_cons, List.length_nil]; omega
    · intro x hx
      rw [List.mem_append] at hx
      rcases hx with h | h
      · exact ha x h
      · rw [List.mem_singleton.mp h]; exact he
    · rw [List.length_append]; simp only [List.length_cons, List.length_nil]; omega
  · rintro es ρ le ⟨g, w4, rfl, l1, ha, hg⟩
    rw [rng_len] at le
    simp only [List.nil_append] at l1 ha hg
    simp only [fTuple, backD, List.contains_cons, List.contains_nil, Bool.or_false, List.set_cons_zero, List.set_cons_succ]
    show K [some g, some (.lst C), some (.tup es), none, none]
    rw [hK]; clear hK
    refine seq_k fun K hK => ?_
    have hg5 : FeedOk (k + 5) g := hg.up (by omega)
    simp only [sSet, aCallO, aCons, aNil, aV, withV, vals, Option.map_some, sl]
    refine of_ok hg5 (by omega) (by omega) (by omega) fun w2 hw2 f2 hf2 => ?_
    obtain ⟨x, rfl, lx⟩ := aC' w2 hw2
    simp only [List.set_cons_zero, List.set_cons_succ]
    rw [hK]; clear hK
    have ltb : (Str.ofString "table:").length = 6 := by decide +kernel
    simp only [sRet, aO, aV, aTup, aCallO, aLst, aCons, aNil, aC, withV, vals, Option.map_some, sl, oAddA, oCatS, ltb, List.length_cons, List.length_nil]
    refine ⟨by omega, by decide, ?_⟩
    refine of_ok hf2 (Nat.succ_pos _) (by simp only [List.length_cons, List.length_nil]; omega) (by omega) fun w3 hw3 f3 hf3 => ?_
    have hw3' : IsSh 20 w3 := by
      simp only [List.mem_cons, List.not_mem_nil, or_false] at hw3
      rcases hw3 with rfl | rfl | rfl | rfl | rfl | rfl
      · exact ⟨_, rfl, by omega⟩
      · exact ⟨_, rfl, by omega⟩
      · exact ⟨_, rfl, by omega⟩
      · exact ⟨_, rfl, by decide +kernel⟩
      · exact ⟨_, rfl, by decide +kernel⟩
      · exact ⟨_, rfl, by rw [len_app, ltb]; omega⟩
    simp only [oCatT, List.length_cons, List.length_nil]
    refine ⟨by decide, by omega, ?_⟩
    refine q _ _ (th_tup (fun d hd => ?_) ?_) (hf3.up (by omega))
    · rw [List.mem_append] at hd
      rcases hd with h | h
      · exact (ha d h).t (by decide)
      · rw [List.mem_singleton.mp h]; exact hw3'.t (by decide)
    · rw [List.length_append]; simp only [List.length_cons, List.length_nil]; omega
end Cr

namespace Cr
open PySem PySem.Builtin PySem.Builtin.Str PyProof.Rows L2 Al TL NumText
def It8 (d : D) : Prop := (∃ x, d = .str x ∧ TOk x) ∨ ((∃ n, tyS d = some n ∧ n ≠ "str"))
theorem IsT.it {d : D} (h : IsT d) : It8 d := .inl h
theorem IsT.th {d : D} (h : IsT d) : Th8 d := by
  obtain ⟨x, rfl, hx⟩ := h
  exact .str x hx
theorem verb_ok {k : Nat} {f : D} {P : D → D → Prop} {X : XP} (hf : FeedOk k f) (kb : k < 1073741700) (q : ∀ d f', Th8 d → FeedOk (k + 20) f' → P d f') : F__law_verb f [] P X := by
  unfold F__law_verb B__law_verb
  have sz : (100000 : Nat) < sizeLine := by decide
  refine seq_k fun K hK => ?_
  simp only [sSet, aCallO, aCons, aNil, aLst, withV, vals, sl, aO, aF, aC]
  refine rank_two_ok hf (by omega) fun r1 f1 hr1 hf1 => ?_
  simp only [aCallO, aCons, aNil, withV, vals, sl, aO, aF, aC, Option.map_some, List.set_cons_zero]
  refine draw_ok hf1 (by decide) (by decide) (by omega) fun d1 f2 a1 b1 hf2 => ?_
  obtain ⟨s1, s2⟩ := sm (i := d1 - 6) (by omega) (by omega)
  simp only [fI, fStrA]
  refine ⟨s2, ?_⟩
  generalize (toString (d1 - 6) : Str) = tt at s1 ⊢
  simp only [oAddA, oCatS, l_rank, List.length_cons, List.length_nil, List.set_cons_zero, sl]
  refine ⟨by omega, by decide, ?_⟩
  refine of_ok hf2 (Nat.succ_pos _) (by simp only [List.length_cons, List.length_nil]; omega) (by omega) fun rk hrk f3 hf3 => ?_
  have hrk' : IsSh 20 rk := by
    simp only [List.mem_cons, List.not_mem_nil, or_false] at hrk
    rcases hrk with rfl | rfl
    · exact hr1
    · exact ⟨_, rfl, by rw [len_app, l_rank]; omega⟩
  clear hrk hr1
  simp only [List.set_cons_zero, List.set_cons_succ]
  rw [hK]; clear hK
  refine seq_k fun K hK => ?_
  simp only [sSet, aO, aF, aCons, aNil]
  simp only [aLc, iR1, aCons, aNil, aCallO, aC, withV, vals, Option.map_some, sl]
  refine draw_ok hf3 (by decide) (by decide) (by omega) fun d2 f4 a2 b2 hf4 => ?_
  simp only [List.set_cons_zero]
  refine ⟨⟨by omega, by omega⟩, ?_⟩
  refine lc_map (P := fun d ρ1 => fTuple [d] fun d_1 => aTup (aCons (aCallO 0 F__law_any_text aNil) aNil) ρ1 (fun y ρ2 => oAddA d_1 y fun d => K (List.set ρ2 2 (some d))) NX) (fun _ => rk) (by rw [rng_len]; omega) (fun d _ Q q => q) ?_
  have hlen : ((rng 0 d2.toNat).map fun _ => rk).length ≤ 4 := by rw [List.length_map, rng_len]; omega
  have hall : ∀ d ∈ (rng 0 d2.toNat).map (fun _ => rk), IsT d := fun d hd => by
    rw [List.mem_map] at hd
    obtain ⟨_, _, rfl⟩ := hd
    exact hrk'.t (by decide)
  generalize (rng 0 d2.toNat).map (fun _ => rk) = rs at hlen hall
  simp only [fTuple, aTup, aCons, aNil, aCallO, withV, vals, Option.map_some, sl]
  refine any_text_ok (hf4.up (show _ ≤ k + 5 by omega)) (by omega) fun w f5 hw hf5 => ?_
  simp only [List.set_cons_zero, List.set_cons_succ, oAddA, oCatT, List.length_cons, List.length_nil]
  refine ⟨by decide, by omega, ?_⟩
  have la : (rs ++ [w]).length ≤ 5 := by rw [List.length_append]; simp only [List.length_cons, List.length_nil]; omega
  have lb : 0 < (rs ++ [w]).length := by rw [List.length_append]; simp only [List.length_cons, List.length_nil]; omega
  have ha : ∀ d ∈ rs ++ [w], IsT d := fun d hd => by
    rw [List.mem_append] at hd
    rcases hd with h | h
    · exact hall d h
    · rw [List.mem_singleton.mp h]; exact hw
  generalize rs ++ [w] = as at la lb ha
  clear hall hlen rs hw w
  rw [hK]; clear hK
  refine seq_k fun K hK => ?_
  simp only [sSet, aCallO, aCons, aNil, aF, aV, withV, vals, Option.map_some, sl, fLenA]
  refine draw_ok hf5 (by omega) (by omega) (by omega) fun d3 f6 a3 b3 hf6 => ?_
  simp only [List.set_cons_zero, List.set_cons_succ]
  rw [hK]; clear hK
  refine seq_k fun K hK => ?_
  simp only [sSet, aCallO, aCons, aNil, aLst, aTup, aC, aV, withV, vals, Option.map_some, sl]
  refine any_text_ok hf6 (by omega) fun w f7 hw hf7 => ?_
  simp only [List.set_cons_zero, sl, withV, vals, Option.map_some, List.length_cons, List.length_nil]
  refine ⟨by decide, by decide, ?_⟩
  refine of_ok hf7 (Nat.succ_pos _) (by simp only [List.length_cons, List.length_nil]; omega) (by omega) fun ot hot f8 hf8 => ?_
  have hot' : It8 ot := by
    simp only [List.mem_cons, List.not_mem_nil, or_false] at hot
    rcases hot with rfl | rfl | rfl | rfl | rfl | rfl | rfl
    · exact hw.it
    · exact .inr ⟨_, rfl, by decide⟩
    · exact .inr ⟨_, rfl, by decide⟩
    · exact .inr ⟨_, rfl, by decide⟩
    · exact .inr ⟨_, rfl, by decide⟩
    · exact .inl ⟨_, rfl, TOk.short (by decide +kernel)⟩
    · exact (hrk'.t (by decide)).it
  clear hot hw w
  simp only [List.set_cons_zero, List.set_cons_succ]
  rw [hK]; clear hK
  refine seq_k fun K hK => ?_
  have e1 := cutD_head as d3.toNat
  have e2 := cutD_tail as (d3.toNat + 1)
  rw [Int.toNat_of_nonneg a3] at e1
  rw [show (((d3.toNat + 1 : Nat)) : Int) = d3 + 1 by omega] at e2
  have l1 : (as.take d3.toNat).length ≤ 5 := by rw [List.length_take]; omega
  have l2 : (as.drop (d3.toNat + 1)).length ≤ 5 := by rw [List.length_drop]; omega
  simp only [sSet, aLst, aCons, aNil, aO, aSl, pN, pS, aTup, aV, aC, withV, vals, Option.map_some, sl, slA, slT, oAddA, oCatT, fI, e1, e2, List.length_cons, List.length_nil, List.length_append]
  refine ⟨by decide, by omega, by omega, by omega, by decide, ?_⟩
  have m1 : ∀ d ∈ as.take d3.toNat, IsT d := fun d hd => ha d (List.mem_of_mem_take hd)
  have m2 : ∀ d ∈ as.drop (d3.toNat + 1), IsT d := fun d hd => ha d (List.mem_of_mem_drop hd)
  have t1 : Th8 (.tup (as.take d3.toNat ++ [ot] ++ as.drop (d3.toNat + 1))) := .tup _ (fun d hd => by
    rw [List.mem_append, List.mem_append] at hd
    rcases hd with (h | h) | h
    · exact (m1 d h).it
    · rw [List.mem_singleton.mp h]; exact hot'
    · exact (m2 d h).it) (by simp only [List.length_append, List.length_cons, List.length_nil]; omega)
  have t2 : Th8 (.tup (as.take d3.toNat ++ as.drop (d3.toNat + 1))) := th_tup (fun d hd => by
    rw [List.mem_append] at hd
    rcases hd with h | h
    · exact m1 d h
    · exact m2 d h) (by simp only [List.length_append]; omega)
  generalize as.take d3.toNat ++ [ot] ++ as.drop (d3.toNat + 1) = u1 at t1 ⊢
  generalize as.take d3.toNat ++ as.drop (d3.toNat + 1) = u2 at t2 ⊢
  clear e1 e2 m1 m2 l1 l2
  simp only [List.set_cons_zero, List.set_cons_succ]
  rw [hK]; clear hK
  refine seq_k fun K hK => ?_
  have ne : as ≠ [] := fun z => by rw [z] at lb; simp at lb
  have el := List.getLast?_eq_some_getLast ne
  have hlast : IsT (as.getLast ne) := ha _ (List.getLast_mem ne)
  simp only [sSet, aLst, aCons, aNil, aO, aF, aU, aV, aC, withV, vals, Option.map_some, sl, fList, oNeg, oIx, oIxT, atI_last, el, oAddA, oCatL, List.length_cons, List.length_nil, List.cons_append, List.nil_append, List.set_cons_zero, List.set_cons_succ]
  refine ⟨by decide, by decide, ?_⟩
  rw [hK]; clear hK
  have el2 := cutD_last as
  rw [drop_last as ne] at el2
  simp only [sRet, aCallO, aLst, aTup, aCons, aNil, aO, aF, aU, aV, aC, aSl, pN, pS, withV, vals, Option.map_some, sl, oRevT, oNeg, slA, slT, el2, oAddA, oCatT, oCatL, List.length_cons, List.length_nil, List.cons_append, List.nil_append]
  refine ⟨by decide, by decide, by omega, by decide, by decide, ?_⟩
  refine of_ok hf8 (Nat.succ_pos _) (by simp only [List.length_cons, List.length_nil]; omega) (by omega) fun d hd f9 hf9 => q d f9 ?_ (hf9.up (by omega))
  have ta : Th8 (.tup as) := th_tup ha (by omega)
  simp only [List.mem_cons, List.not_mem_nil, or_false] at hd
  rcases hd with rfl | rfl | rfl | rfl | rfl | rfl | rfl | rfl | rfl | rfl | rfl | rfl | rfl
  · exact ta
  · exact ta
  · exact t1
  · exact t2
  · exact .lst _
  · exact hlast.th
  · exact th_tup (fun d hd => ha d (List.mem_reverse.mp hd)) (by rw [List.length_reverse]; omega)
  · exact .non
  · exact .int _
  · exact .dic
  · exact .tup [] (fun d h => absurd h (by simp)) (by decide)
  · exact .tup [.non] (fun d h => by rw [List.mem_singleton.mp h]; exact .inr ⟨_, rfl, by decide⟩) (by decide)
  · refine th_tup (fun d hd => ?_) (by rw [List.length_append]; simp only [List.length_cons, List.length_nil]; omega)
    rw [List.mem_append] at hd
    rcases hd with h | h
    · exact ha d h
    · rw [List.mem_singleton.mp h]; exact hlast
end Cr

namespace Cr
open PySem PySem.Builtin PySem.Builtin.Str PyProof.Rows L2 Al TL NumText
theorem repr_bl (a b : Bool) {P : D → Prop} (p : ∀ z : Str, (∀ Q : D → Prop, Q (.str z) → fRepr [.lst [.bl a, .bl a, .bl b]] Q) → P (.str z)) : fRepr [.lst [.bl a, .bl a, .bl b]] P := by
  have h : ∃ z : Str, ∀ Q : D → Prop, Q (.str z) → fRepr [.lst [.bl a, .bl a, .bl b]] Q := by
    cases a <;> cases b <;> exact ⟨_, fun Q q => ⟨⟨by decide +kernel, by decide +kernel, by decide +kernel⟩, q⟩⟩
  obtain ⟨z, hz⟩ := h
  exact hz P (p z hz)
theorem law_plain (ns : List Int) (h : ns.length ≤ 63) : F_law [.scr ns] (fun d => d = .bl true) NX := by
  unfold F_law B_law
  have sz : (100000 : Nat) < sizeLine := by decide
  refine seq_k fun K hK => ?_
  simp only [sSet, aCall, aCons, aNil, aV, sl, withV, vals, Option.map_some]
  refine feed_ok fun f hf => ?_
  simp only [List.set_cons_zero, List.set_cons_succ]
  rw [hK]; clear hK
  refine seq_k fun K hK => ?_
  simp only [sFor, iR1, aF, aO, aCons, aNil, aV, aC, sl, withV, vals, Option.map_some, fLenA, oMulA, fMin2, fMax2]
  refine ⟨mul_small ⟨by decide, by decide⟩, ?_⟩
  generalize hn : (if (if 2 * (ns.length : Int) < 30 then 2 * (ns.length : Int) else 30) > 8 then (if 2 * (ns.length : Int) < 30 then 2 * (ns.length : Int) else 30) else 8) = n
  have n0 : 0 ≤ n ∧ n ≤ 30 := by
    subst hn
    split <;> (try split) <;> omega
  refine ⟨⟨by omega, by omega⟩, ?_⟩
  refine for_invB (fun m ρ => ∃ (g : D) (w2 w3 w4 : Option D), ρ = [some (.scr ns), some g, w2, w3, w4] ∧ FeedOk (100 * m) g) _ 0 _ ⟨f, _, _, _, rfl, hf.up (by omega)⟩ ?_ ?_
  · rintro d m ρ Kn hd hlt ⟨g, w2, w3, w4, rfl, hg⟩ hn
    rw [rng_len] at hlt
    simp only [sFor, Tg.a, gV, List.set_cons_zero, List.set_cons_succ, iL, aLst, aTup, aCons, aNil, aCallO, aC, sl, withV, vals]
    refine verb_ok hg (by omega) fun t1 f1 ht1 hf1 => ?_
    try simp only [List.set_cons_zero, List.set_cons_succ, sl, withV, vals]
    refine any_text_ok hf1 (by omega) fun x2 f2 hx2 hf2 => ?_
    try simp only [List.set_cons_zero, List.set_cons_succ, sl, withV, vals, Option.map_some, List.length_cons, List.length_nil]
    refine ⟨by decide, by decide, ?_⟩
    refine verb_for_ok hf2 (by omega) fun t3 f3 ht3 hf3 => ?_
    try simp only [List.set_cons_zero, List.set_cons_succ, sl, withV, vals, Option.map_some]
    refine verb_of_two_ok hf3 (by omega) fun t4 f4 ht4 hf4 => ?_
    try simp only [List.set_cons_zero, List.set_cons_succ, sl, withV, vals, Option.map_some, List.length_cons, List.length_nil]
    refine ⟨by decide, ?_⟩
    have t2 : Th8 (.tup [x2]) := th_tup (fun d hd => by rw [List.mem_singleton.mp hd]; exact hx2) (by simp)
    have hall : ∀ d ∈ [t1, .tup [x2], t3, t4], Th8 d := fun d hd => by
      simp only [List.mem_cons, List.not_mem_nil, or_false] at hd
      rcases hd with rfl | rfl | rfl | rfl
      · exact ht1
      · exact t2
      · exact ht3
      · exact ht4
    generalize [t1, .tup [x2], t3, t4] = ts at hall ⊢
    refine for_invB (fun _ ρ => ∃ (w2 w3 w4 : Option D), ρ = [some (.scr ns), some f4, w2, w3, w4]) _ 0 _ ⟨_, _, _, rfl⟩ ?_ ?_
    · rintro d m2 ρ Kn2 hd _ ⟨w2, w3, w4, rfl⟩ hn2
      have td := hall d hd
      simp only [gV, List.set_cons_zero, List.set_cons_succ]
      refine seq_k fun K2 hK2 => ?_
      simp only [sSet, aLst, aCons, aNil, aCall, aV, aC, sl, withV, vals, Option.map_some]
      refine law_due_ok td (law_due_ok td (law_due_ok td ?_))
      simp only [List.length_cons, List.length_nil, List.set_cons_zero, List.set_cons_succ]
      refine ⟨by decide, ?_⟩
      rw [hK2]; clear hK2
      simp only [sIf, aB, aO, aF, aCons, aNil, aLst, aCallD, aCallK, aV, aC, sl, withV, vals, Option.map_some, List.cons_append, List.nil_append]
      refine is_verb_ok td (is_verb_ok td (is_verb_ok td ?_))
      simp only [List.length_cons, List.length_nil]
      refine ⟨by decide, ?_⟩
      refine repr_bl _ _ fun z hz => ?_
      refine hz _ ?_
      simp only [oNeA, eqS, decide_true, Bool.not_true, Bool.false_eq_true, if_false, sNext]
      exact hn2 _ ⟨_, _, _, rfl⟩
    · rintro ρ ⟨w2, w3, w4, rfl⟩
      exact hn _ ⟨_, _, _, _, rfl, hf4.up (by omega)⟩
  · rintro ρ ⟨g, w2, w3, w4, rfl, hg⟩
    show K _
    rw [hK]
    rfl
end Cr

namespace Cr
open PySem L2 Al
theorem kit_yes {K : PySem.W.Frag} {C : Addr} (h1 : PySem.W.isClsIn K C = true) (h2 : PySem.W.typeIn K (.ref C) = some (.type "type")) : ((PySem.W.clsIn K C).isSome && PySem.W.typeIn K (.ref C) == some (.type "type")) = true := by
  unfold PySem.W.isClsIn at h1
  rw [h1, h2]
  rfl
theorem all_mk {l : PySem.W.OpenLaw} {w : World} {K : PySem.W.Frag} {h : Heap} {mg : Str → Option Value} {fa : Addr} (X : K.In h) (G : h.Ns mainGlobals mg) (hfa : mg "law" = some (.ref fa))
    {f0 : Addr} {od0 an0 : Option Addr} {sl0 : Array (Option Value)} {oc0 kV0 dc0 pm0 cd0 ct0 : Value}
    {f1 : Addr} {od1 an1 : Option Addr} {sl1 : Array (Option Value)} {oc1 kV1 dc1 pm1 cd1 ct1 : Value}
    {f2 : Addr} {od2 an2 : Option Addr} {sl2 : Array (Option Value)} {oc2 kV2 dc2 pm2 cd2 ct2 : Value}
    {f3 : Addr} {od3 an3 : Option Addr} {sl3 : Array (Option Value)} {oc3 kV3 dc3 pm3 cd3 ct3 : Value}
    {f4 : Addr} {od4 an4 : Option Addr} {sl4 : Array (Option Value)} {oc4 kV4 dc4 pm4 cd4 ct4 : Value}
    {f5 : Addr} {od5 an5 : Option Addr} {sl5 : Array (Option Value)} {oc5 kV5 dc5 pm5 cd5 ct5 : Value}
    {f6 : Addr} {od6 an6 : Option Addr} {sl6 : Array (Option Value)} {oc6 kV6 dc6 pm6 cd6 ct6 : Value}
    {f7 : Addr} {od7 an7 : Option Addr} {sl7 : Array (Option Value)} {oc7 kV7 dc7 pm7 cd7 ct7 : Value}
    {Dk8 : Addr} {tk8 : Tok}
    {f8 : Addr} {od8 an8 : Option Addr} {sl8 : Array (Option Value)} {oc8 dc8 pm8 cd8 ct8 : Value}
    {f9 : Addr} {od9 an9 : Option Addr} {sl9 : Array (Option Value)} {oc9 kV9 dc9 pm9 cd9 ct9 : Value}
    {f10 : Addr} {od10 an10 : Option Addr} {sl10 : Array (Option Value)} {oc10 kV10 dc10 pm10 cd10 ct10 : Value}
    {f11 : Addr} {od11 an11 : Option Addr} {sl11 : Array (Option Value)} {oc11 kV11 dc11 pm11 cd11 ct11 : Value}
    {Dk12 : Addr} {tk12 : Tok}
    {f12 : Addr} {od12 an12 : Option Addr} {sl12 : Array (Option Value)} {oc12 dc12 pm12 cd12 ct12 : Value}
    {Dk13 : Addr} {tk13 : Tok}
    {f13 : Addr} {od13 an13 : Option Addr} {sl13 : Array (Option Value)} {oc13 dc13 pm13 cd13 ct13 : Value}
    {f14 : Addr} {od14 an14 : Option Addr} {sl14 : Array (Option Value)} {oc14 kV14 dc14 pm14 cd14 ct14 : Value}
    {f15 : Addr} {od15 an15 : Option Addr} {sl15 : Array (Option Value)} {oc15 kV15 dc15 pm15 cd15 ct15 : Value}
    {f16 : Addr} {od16 an16 : Option Addr} {sl16 : Array (Option Value)} {oc16 kV16 dc16 pm16 cd16 ct16 : Value}
    {f17 : Addr} {od17 an17 : Option Addr} {sl17 : Array (Option Value)} {oc17 kV17 dc17 pm17 cd17 ct17 : Value}
    {f18 : Addr} {od18 an18 : Option Addr} {sl18 : Array (Option Value)} {oc18 kV18 dc18 pm18 cd18 ct18 : Value}
    {f19 : Addr} {od19 an19 : Option Addr} {sl19 : Array (Option Value)} {oc19 kV19 dc19 pm19 cd19 ct19 : Value}
    {f20 : Addr} {od20 an20 : Option Addr} {sl20 : Array (Option Value)} {oc20 kV20 dc20 pm20 cd20 ct20 : Value}
    {f21 : Addr} {od21 an21 : Option Addr} {sl21 : Array (Option Value)} {oc21 kV21 dc21 pm21 cd21 ct21 : Value}
    {f22 : Addr} {od22 an22 : Option Addr} {sl22 : Array (Option Value)} {oc22 kV22 dc22 pm22 cd22 ct22 : Value}
    {f23 : Addr} {od23 an23 : Option Addr} {sl23 : Array (Option Value)} {oc23 kV23 dc23 pm23 cd23 ct23 : Value}
    {f24 : Addr} {od24 an24 : Option Addr} {sl24 : Array (Option Value)} {oc24 kV24 dc24 pm24 cd24 ct24 : Value}
    {f25 : Addr} {od25 an25 : Option Addr} {sl25 : Array (Option Value)} {oc25 kV25 dc25 pm25 cd25 ct25 : Value}
    {f26 : Addr} {od26 an26 : Option Addr} {sl26 : Array (Option Value)} {oc26 kV26 dc26 pm26 cd26 ct26 : Value}
    {f27 : Addr} {od27 an27 : Option Addr} {sl27 : Array (Option Value)} {oc27 kV27 dc27 pm27 cd27 ct27 : Value}
    {f28 : Addr} {od28 an28 : Option Addr} {sl28 : Array (Option Value)} {oc28 kV28 dc28 pm28 cd28 ct28 : Value}
    {f29 : Addr} {od29 an29 : Option Addr} {sl29 : Array (Option Value)} {oc29 kV29 dc29 pm29 cd29 ct29 : Value}
    {f30 : Addr} {od30 an30 : Option Addr} {sl30 : Array (Option Value)} {oc30 kV30 dc30 pm30 cd30 ct30 : Value}
    {t_FIGURES : Tok}
    {t_MOST_FIGURES : Tok}
    {t_MOST_AXES : Tok}
    {t_MOST_SIZE : Tok}
    {t_MOST_TEXTS : Tok}
    {A_FOLDED : Addr} {its_FOLDED : Array Value} {tn_FOLDED : Nat} {td_FOLDED : Option Addr} {ts_FOLDED : Array (Option Value)}
    {A_PLAIN : Addr} {its_PLAIN : Array Value} {tn_PLAIN : Nat} {td_PLAIN : Option Addr} {ts_PLAIN : Array (Option Value)}
    {A_CHOOSING : Addr} {its_CHOOSING : Array Value} {tn_CHOOSING : Nat} {td_CHOOSING : Option Addr} {ts_CHOOSING : Array (Option Value)}
    {A_JOINING : Addr} {its_JOINING : Array Value} {tn_JOINING : Nat} {td_JOINING : Option Addr} {ts_JOINING : Array (Option Value)}
    {A_ONES : Addr} {es_ONES : Array DictEntry} {en_ONES : Nat}
    {A_TWOS : Addr} {es_TWOS : Array DictEntry} {en_TWOS : Nat}
    (a0 : PySem.W.nsIn K mainGlobals "is_whole" = some (some (.ref f0)))
    (l0 : K.lookup f0 = some ⟨oc0, od0, .func (PySem.W.fnOf "is_whole" "is_whole" (defArgs s_is_whole) (defBody s_is_whole) (defScope s_is_whole) .none kV0 dc0 pm0 an0 cd0 ct0), sl0⟩)
    (c0 : PySem.W.codeIn K cd0 "is_whole" = true)
    (k0 : PySem.W.keepIn K (.ref f0) = true)
    (a1 : PySem.W.nsIn K mainGlobals "is_from" = some (some (.ref f1)))
    (l1 : K.lookup f1 = some ⟨oc1, od1, .func (PySem.W.fnOf "is_from" "is_from" (defArgs s_is_from) (defBody s_is_from) (defScope s_is_from) .none kV1 dc1 pm1 an1 cd1 ct1), sl1⟩)
    (c1 : PySem.W.codeIn K cd1 "is_from" = true)
    (k1 : PySem.W.keepIn K (.ref f1) = true)
    (a2 : PySem.W.nsIn K mainGlobals "whole_in" = some (some (.ref f2)))
    (l2 : K.lookup f2 = some ⟨oc2, od2, .func (PySem.W.fnOf "whole_in" "whole_in" (defArgs s_whole_in) (defBody s_whole_in) (defScope s_whole_in) .none kV2 dc2 pm2 an2 cd2 ct2), sl2⟩)
    (c2 : PySem.W.codeIn K cd2 "whole_in" = true)
    (k2 : PySem.W.keepIn K (.ref f2) = true)
    (a3 : PySem.W.nsIn K mainGlobals "wholes_in" = some (some (.ref f3)))
    (l3 : K.lookup f3 = some ⟨oc3, od3, .func (PySem.W.fnOf "wholes_in" "wholes_in" (defArgs s_wholes_in) (defBody s_wholes_in) (defScope s_wholes_in) .none kV3 dc3 pm3 an3 cd3 ct3), sl3⟩)
    (c3 : PySem.W.codeIn K cd3 "wholes_in" = true)
    (k3 : PySem.W.keepIn K (.ref f3) = true)
    (a4 : PySem.W.nsIn K mainGlobals "is_shape" = some (some (.ref f4)))
    (l4 : K.lookup f4 = some ⟨oc4, od4, .func (PySem.W.fnOf "is_shape" "is_shape" (defArgs s_is_shape) (defBody s_is_shape) (defScope s_is_shape) .none kV4 dc4 pm4 an4 cd4 ct4), sl4⟩)
    (c4 : PySem.W.codeIn K cd4 "is_shape" = true)
    (k4 : PySem.W.keepIn K (.ref f4) = true)
    (a5 : PySem.W.nsIn K mainGlobals "word_in" = some (some (.ref f5)))
    (l5 : K.lookup f5 = some ⟨oc5, od5, .func (PySem.W.fnOf "word_in" "word_in" (defArgs s_word_in) (defBody s_word_in) (defScope s_word_in) .none kV5 dc5 pm5 an5 cd5 ct5), sl5⟩)
    (c5 : PySem.W.codeIn K cd5 "word_in" = true)
    (k5 : PySem.W.keepIn K (.ref f5) = true)
    (a6 : PySem.W.nsIn K mainGlobals "told_in" = some (some (.ref f6)))
    (l6 : K.lookup f6 = some ⟨oc6, od6, .func (PySem.W.fnOf "told_in" "told_in" (defArgs s_told_in) (defBody s_told_in) (defScope s_told_in) .none kV6 dc6 pm6 an6 cd6 ct6), sl6⟩)
    (c6 : PySem.W.codeIn K cd6 "told_in" = true)
    (k6 : PySem.W.keepIn K (.ref f6) = true)
    (a7 : PySem.W.nsIn K mainGlobals "numbers_in" = some (some (.ref f7)))
    (l7 : K.lookup f7 = some ⟨oc7, od7, .func (PySem.W.fnOf "numbers_in" "numbers_in" (defArgs s_numbers_in) (defBody s_numbers_in) (defScope s_numbers_in) .none kV7 dc7 pm7 an7 cd7 ct7), sl7⟩)
    (c7 : PySem.W.codeIn K cd7 "numbers_in" = true)
    (k7 : PySem.W.keepIn K (.ref f7) = true)
    (a8 : PySem.W.nsIn K mainGlobals "is_rank" = some (some (.ref f8)))
    (l8 : K.lookup f8 = some ⟨oc8, od8, .func (PySem.W.fnOf "is_rank" "is_rank" (defArgs s_is_rank) (defBody s_is_rank) (defScope s_is_rank) .none (.ref Dk8) dc8 pm8 an8 cd8 ct8), sl8⟩)
    (nk8 : PySem.W.nsIn K Dk8 "of" = some (some (.int 1 tk8)))
    (c8 : PySem.W.codeIn K cd8 "is_rank" = true)
    (k8 : PySem.W.keepIn K (.ref f8) = true)
    (a9 : PySem.W.nsIn K mainGlobals "is_with_numbers" = some (some (.ref f9)))
    (l9 : K.lookup f9 = some ⟨oc9, od9, .func (PySem.W.fnOf "is_with_numbers" "is_with_numbers" (defArgs s_is_with_numbers) (defBody s_is_with_numbers) (defScope s_is_with_numbers) .none kV9 dc9 pm9 an9 cd9 ct9), sl9⟩)
    (c9 : PySem.W.codeIn K cd9 "is_with_numbers" = true)
    (k9 : PySem.W.keepIn K (.ref f9) = true)
    (a10 : PySem.W.nsIn K mainGlobals "is_word_of_one" = some (some (.ref f10)))
    (l10 : K.lookup f10 = some ⟨oc10, od10, .func (PySem.W.fnOf "is_word_of_one" "is_word_of_one" (defArgs s_is_word_of_one) (defBody s_is_word_of_one) (defScope s_is_word_of_one) .none kV10 dc10 pm10 an10 cd10 ct10), sl10⟩)
    (c10 : PySem.W.codeIn K cd10 "is_word_of_one" = true)
    (k10 : PySem.W.keepIn K (.ref f10) = true)
    (a11 : PySem.W.nsIn K mainGlobals "is_word_of_two" = some (some (.ref f11)))
    (l11 : K.lookup f11 = some ⟨oc11, od11, .func (PySem.W.fnOf "is_word_of_two" "is_word_of_two" (defArgs s_is_word_of_two) (defBody s_is_word_of_two) (defScope s_is_word_of_two) .none kV11 dc11 pm11 an11 cd11 ct11), sl11⟩)
    (c11 : PySem.W.codeIn K cd11 "is_word_of_two" = true)
    (k11 : PySem.W.keepIn K (.ref f11) = true)
    (a12 : PySem.W.nsIn K mainGlobals "is_word" = some (some (.ref f12)))
    (l12 : K.lookup f12 = some ⟨oc12, od12, .func (PySem.W.fnOf "is_word" "is_word" (defArgs s_is_word) (defBody s_is_word) (defScope s_is_word) .none (.ref Dk12) dc12 pm12 an12 cd12 ct12), sl12⟩)
    (nk12 : PySem.W.nsIn K Dk12 "of" = some (some (.int 1 tk12)))
    (c12 : PySem.W.codeIn K cd12 "is_word" = true)
    (k12 : PySem.W.keepIn K (.ref f12) = true)
    (a13 : PySem.W.nsIn K mainGlobals "is_verb" = some (some (.ref f13)))
    (l13 : K.lookup f13 = some ⟨oc13, od13, .func (PySem.W.fnOf "is_verb" "is_verb" (defArgs s_is_verb) (defBody s_is_verb) (defScope s_is_verb) .none (.ref Dk13) dc13 pm13 an13 cd13 ct13), sl13⟩)
    (nk13 : PySem.W.nsIn K Dk13 "of" = some (some (.int 1 tk13)))
    (c13 : PySem.W.codeIn K cd13 "is_verb" = true)
    (k13 : PySem.W.keepIn K (.ref f13) = true)
    (a14 : PySem.W.nsIn K mainGlobals "_law_feed" = some (some (.ref f14)))
    (l14 : K.lookup f14 = some ⟨oc14, od14, .func (PySem.W.fnOf "_law_feed" "_law_feed" (defArgs s__law_feed) (defBody s__law_feed) (defScope s__law_feed) .none kV14 dc14 pm14 an14 cd14 ct14), sl14⟩)
    (c14 : PySem.W.codeIn K cd14 "_law_feed" = true)
    (k14 : PySem.W.keepIn K (.ref f14) = true)
    (a15 : PySem.W.nsIn K mainGlobals "_law_draw" = some (some (.ref f15)))
    (l15 : K.lookup f15 = some ⟨oc15, od15, .func (PySem.W.fnOf "_law_draw" "_law_draw" (defArgs s__law_draw) (defBody s__law_draw) (defScope s__law_draw) .none kV15 dc15 pm15 an15 cd15 ct15), sl15⟩)
    (c15 : PySem.W.codeIn K cd15 "_law_draw" = true)
    (k15 : PySem.W.keepIn K (.ref f15) = true)
    (a16 : PySem.W.nsIn K mainGlobals "_law_of" = some (some (.ref f16)))
    (l16 : K.lookup f16 = some ⟨oc16, od16, .func (PySem.W.fnOf "_law_of" "_law_of" (defArgs s__law_of) (defBody s__law_of) (defScope s__law_of) .none kV16 dc16 pm16 an16 cd16 ct16), sl16⟩)
    (c16 : PySem.W.codeIn K cd16 "_law_of" = true)
    (k16 : PySem.W.keepIn K (.ref f16) = true)
    (a17 : PySem.W.nsIn K mainGlobals "_law_frame" = some (some (.ref f17)))
    (l17 : K.lookup f17 = some ⟨oc17, od17, .func (PySem.W.fnOf "_law_frame" "_law_frame" (defArgs s__law_frame) (defBody s__law_frame) (defScope s__law_frame) .none kV17 dc17 pm17 an17 cd17 ct17), sl17⟩)
    (c17 : PySem.W.codeIn K cd17 "_law_frame" = true)
    (k17 : PySem.W.keepIn K (.ref f17) = true)
    (a18 : PySem.W.nsIn K mainGlobals "_law_word_for" = some (some (.ref f18)))
    (l18 : K.lookup f18 = some ⟨oc18, od18, .func (PySem.W.fnOf "_law_word_for" "_law_word_for" (defArgs s__law_word_for) (defBody s__law_word_for) (defScope s__law_word_for) .none kV18 dc18 pm18 an18 cd18 ct18), sl18⟩)
    (c18 : PySem.W.codeIn K cd18 "_law_word_for" = true)
    (k18 : PySem.W.keepIn K (.ref f18) = true)
    (a19 : PySem.W.nsIn K mainGlobals "_law_verb_for" = some (some (.ref f19)))
    (l19 : K.lookup f19 = some ⟨oc19, od19, .func (PySem.W.fnOf "_law_verb_for" "_law_verb_for" (defArgs s__law_verb_for) (defBody s__law_verb_for) (defScope s__law_verb_for) .none kV19 dc19 pm19 an19 cd19 ct19), sl19⟩)
    (c19 : PySem.W.codeIn K cd19 "_law_verb_for" = true)
    (k19 : PySem.W.keepIn K (.ref f19) = true)
    (a20 : PySem.W.nsIn K mainGlobals "_law_rank_two" = some (some (.ref f20)))
    (l20 : K.lookup f20 = some ⟨oc20, od20, .func (PySem.W.fnOf "_law_rank_two" "_law_rank_two" (defArgs s__law_rank_two) (defBody s__law_rank_two) (defScope s__law_rank_two) .none kV20 dc20 pm20 an20 cd20 ct20), sl20⟩)
    (c20 : PySem.W.codeIn K cd20 "_law_rank_two" = true)
    (k20 : PySem.W.keepIn K (.ref f20) = true)
    (a21 : PySem.W.nsIn K mainGlobals "_law_verb_of_two" = some (some (.ref f21)))
    (l21 : K.lookup f21 = some ⟨oc21, od21, .func (PySem.W.fnOf "_law_verb_of_two" "_law_verb_of_two" (defArgs s__law_verb_of_two) (defBody s__law_verb_of_two) (defScope s__law_verb_of_two) .none kV21 dc21 pm21 an21 cd21 ct21), sl21⟩)
    (c21 : PySem.W.codeIn K cd21 "_law_verb_of_two" = true)
    (k21 : PySem.W.keepIn K (.ref f21) = true)
    (a22 : PySem.W.nsIn K mainGlobals "_law_figures" = some (some (.ref f22)))
    (l22 : K.lookup f22 = some ⟨oc22, od22, .func (PySem.W.fnOf "_law_figures" "_law_figures" (defArgs s__law_figures) (defBody s__law_figures) (defScope s__law_figures) .none kV22 dc22 pm22 an22 cd22 ct22), sl22⟩)
    (c22 : PySem.W.codeIn K cd22 "_law_figures" = true)
    (k22 : PySem.W.keepIn K (.ref f22) = true)
    (a23 : PySem.W.nsIn K mainGlobals "_law_numbers_in" = some (some (.ref f23)))
    (l23 : K.lookup f23 = some ⟨oc23, od23, .func (PySem.W.fnOf "_law_numbers_in" "_law_numbers_in" (defArgs s__law_numbers_in) (defBody s__law_numbers_in) (defScope s__law_numbers_in) .none kV23 dc23 pm23 an23 cd23 ct23), sl23⟩)
    (c23 : PySem.W.codeIn K cd23 "_law_numbers_in" = true)
    (k23 : PySem.W.keepIn K (.ref f23) = true)
    (a24 : PySem.W.nsIn K mainGlobals "_law_is_one" = some (some (.ref f24)))
    (l24 : K.lookup f24 = some ⟨oc24, od24, .func (PySem.W.fnOf "_law_is_one" "_law_is_one" (defArgs s__law_is_one) (defBody s__law_is_one) (defScope s__law_is_one) .none kV24 dc24 pm24 an24 cd24 ct24), sl24⟩)
    (c24 : PySem.W.codeIn K cd24 "_law_is_one" = true)
    (k24 : PySem.W.keepIn K (.ref f24) = true)
    (a25 : PySem.W.nsIn K mainGlobals "_law_is_two" = some (some (.ref f25)))
    (l25 : K.lookup f25 = some ⟨oc25, od25, .func (PySem.W.fnOf "_law_is_two" "_law_is_two" (defArgs s__law_is_two) (defBody s__law_is_two) (defScope s__law_is_two) .none kV25 dc25 pm25 an25 cd25 ct25), sl25⟩)
    (c25 : PySem.W.codeIn K cd25 "_law_is_two" = true)
    (k25 : PySem.W.keepIn K (.ref f25) = true)
    (a26 : PySem.W.nsIn K mainGlobals "_law_is_rank" = some (some (.ref f26)))
    (l26 : K.lookup f26 = some ⟨oc26, od26, .func (PySem.W.fnOf "_law_is_rank" "_law_is_rank" (defArgs s__law_is_rank) (defBody s__law_is_rank) (defScope s__law_is_rank) .none kV26 dc26 pm26 an26 cd26 ct26), sl26⟩)
    (c26 : PySem.W.codeIn K cd26 "_law_is_rank" = true)
    (k26 : PySem.W.keepIn K (.ref f26) = true)
    (a27 : PySem.W.nsIn K mainGlobals "_law_due" = some (some (.ref f27)))
    (l27 : K.lookup f27 = some ⟨oc27, od27, .func (PySem.W.fnOf "_law_due" "_law_due" (defArgs s__law_due) (defBody s__law_due) (defScope s__law_due) .none kV27 dc27 pm27 an27 cd27 ct27), sl27⟩)
    (c27 : PySem.W.codeIn K cd27 "_law_due" = true)
    (k27 : PySem.W.keepIn K (.ref f27) = true)
    (a28 : PySem.W.nsIn K mainGlobals "_law_any_text" = some (some (.ref f28)))
    (l28 : K.lookup f28 = some ⟨oc28, od28, .func (PySem.W.fnOf "_law_any_text" "_law_any_text" (defArgs s__law_any_text) (defBody s__law_any_text) (defScope s__law_any_text) .none kV28 dc28 pm28 an28 cd28 ct28), sl28⟩)
    (c28 : PySem.W.codeIn K cd28 "_law_any_text" = true)
    (k28 : PySem.W.keepIn K (.ref f28) = true)
    (a29 : PySem.W.nsIn K mainGlobals "_law_verb" = some (some (.ref f29)))
    (l29 : K.lookup f29 = some ⟨oc29, od29, .func (PySem.W.fnOf "_law_verb" "_law_verb" (defArgs s__law_verb) (defBody s__law_verb) (defScope s__law_verb) .none kV29 dc29 pm29 an29 cd29 ct29), sl29⟩)
    (c29 : PySem.W.codeIn K cd29 "_law_verb" = true)
    (k29 : PySem.W.keepIn K (.ref f29) = true)
    (a30 : PySem.W.nsIn K mainGlobals "law" = some (some (.ref f30)))
    (l30 : K.lookup f30 = some ⟨oc30, od30, .func (PySem.W.fnOf "law" "law" (defArgs s_law) (defBody s_law) (defScope s_law) .none kV30 dc30 pm30 an30 cd30 ct30), sl30⟩)
    (c30 : PySem.W.codeIn K cd30 "law" = true)
    (k30 : PySem.W.keepIn K (.ref f30) = true)
    (z_len : PySem.W.nsIn K mainGlobals "len" = some none)
    (z_list : PySem.W.nsIn K mainGlobals "list" = some none)
    (z_range : PySem.W.nsIn K mainGlobals "range" = some none)
    (z_isinstance : PySem.W.nsIn K mainGlobals "isinstance" = some none)
    (z_int : PySem.W.nsIn K mainGlobals "int" = some none)
    (z_bool : PySem.W.nsIn K mainGlobals "bool" = some none)
    (z_str : PySem.W.nsIn K mainGlobals "str" = some none)
    (z_tuple : PySem.W.nsIn K mainGlobals "tuple" = some none)
    (z_dict : PySem.W.nsIn K mainGlobals "dict" = some none)
    (z_all : PySem.W.nsIn K mainGlobals "all" = some none)
    (z_abs : PySem.W.nsIn K mainGlobals "abs" = some none)
    (z_repr : PySem.W.nsIn K mainGlobals "repr" = some none)
    (z_max : PySem.W.nsIn K mainGlobals "max" = some none)
    (z_min : PySem.W.nsIn K mainGlobals "min" = some none)
    (z_enumerate : PySem.W.nsIn K mainGlobals "enumerate" = some none)
    (z_zip : PySem.W.nsIn K mainGlobals "zip" = some none)
    (z_reversed : PySem.W.nsIn K mainGlobals "reversed" = some none)
    (z_sorted : PySem.W.nsIn K mainGlobals "sorted" = some none)
    (z_sum : PySem.W.nsIn K mainGlobals "sum" = some none)
    (z_any : PySem.W.nsIn K mainGlobals "any" = some none)
    (g_FIGURES : PySem.W.nsIn K mainGlobals "FIGURES" = some (some (.str "0123456789" t_FIGURES)))
    (g_MOST_FIGURES : PySem.W.nsIn K mainGlobals "MOST_FIGURES" = some (some (.int 4000 t_MOST_FIGURES)))
    (g_MOST_AXES : PySem.W.nsIn K mainGlobals "MOST_AXES" = some (some (.int 6 t_MOST_AXES)))
    (g_MOST_SIZE : PySem.W.nsIn K mainGlobals "MOST_SIZE" = some (some (.int 4000 t_MOST_SIZE)))
    (g_MOST_TEXTS : PySem.W.nsIn K mainGlobals "MOST_TEXTS" = some (some (.int 4 t_MOST_TEXTS)))
    (g_FOLDED : PySem.W.nsIn K mainGlobals "FOLDED" = some (some (.ref A_FOLDED)))
    (tl_FOLDED : K.lookup A_FOLDED = some ⟨.type "tuple", td_FOLDED, .seq its_FOLDED tn_FOLDED, ts_FOLDED⟩)
    (tv_FOLDED : Vals ((["add", "mul", "least", "most"] : List Str).map V.str) its_FOLDED.toList)
    (g_PLAIN : PySem.W.nsIn K mainGlobals "PLAIN" = some (some (.ref A_PLAIN)))
    (tl_PLAIN : K.lookup A_PLAIN = some ⟨.type "tuple", td_PLAIN, .seq its_PLAIN tn_PLAIN, ts_PLAIN⟩)
    (tv_PLAIN : Vals ((["flip", "lift", "flat"] : List Str).map V.str) its_PLAIN.toList)
    (g_CHOOSING : PySem.W.nsIn K mainGlobals "CHOOSING" = some (some (.ref A_CHOOSING)))
    (tl_CHOOSING : K.lookup A_CHOOSING = some ⟨.type "tuple", td_CHOOSING, .seq its_CHOOSING tn_CHOOSING, ts_CHOOSING⟩)
    (tv_CHOOSING : Vals ((["first", "past", "row"] : List Str).map V.str) its_CHOOSING.toList)
    (g_JOINING : PySem.W.nsIn K mainGlobals "JOINING" = some (some (.ref A_JOINING)))
    (tl_JOINING : K.lookup A_JOINING = some ⟨.type "tuple", td_JOINING, .seq its_JOINING tn_JOINING, ts_JOINING⟩)
    (tv_JOINING : Vals ((["join", "pick"] : List Str).map V.str) its_JOINING.toList)
    (g_ONES : PySem.W.nsIn K mainGlobals "ONES" = some (some (.ref A_ONES)))
    (dl_ONES : K.lookup A_ONES = some ⟨.type "dict", none, .dict es_ONES en_ONES, #[]⟩)
    (dk_ONES : PySem.W.KeysLit w.params es_ONES.toList)
    (dw_ONES : (A_ONES == sysModules) = false)
    (dz_ONES : Al.KeysAre es_ONES.toList ["neg", "abs", "sign", "not"])
    (g_TWOS : PySem.W.nsIn K mainGlobals "TWOS" = some (some (.ref A_TWOS)))
    (dl_TWOS : K.lookup A_TWOS = some ⟨.type "dict", none, .dict es_TWOS en_TWOS, #[]⟩)
    (dk_TWOS : PySem.W.KeysLit w.params es_TWOS.toList)
    (dw_TWOS : (A_TWOS == sysModules) = false)
    (dz_TWOS : Al.KeysAre es_TWOS.toList ["add", "sub", "mul", "div", "rest", "least", "most", "less", "same"]) :
    ∃ fd : FuncData, (∀ (s : Shared) (v : Value), BindsTo s fd ⟨[v], []⟩ [("_law_script", v)]) ∧ ∀ base : Heap, K.In base → base.Ns mainGlobals mg → FnG l.prog w K mg base CX0 8 fa fd ["_law_script"] (Al.spLaw K) := by
  have e := hfa.symm.trans (PySem.W.mg_of X G a30)
  cases e

  have T : Tx w K mg := {
    t_FIGURES := t_FIGURES
    c_FIGURES := PySem.W.mg_of X G g_FIGURES
    t_MOST_FIGURES := t_MOST_FIGURES
    c_MOST_FIGURES := PySem.W.mg_of X G g_MOST_FIGURES
    t_MOST_AXES := t_MOST_AXES
    c_MOST_AXES := PySem.W.mg_of X G g_MOST_AXES
    t_MOST_SIZE := t_MOST_SIZE
    c_MOST_SIZE := PySem.W.mg_of X G g_MOST_SIZE
    t_MOST_TEXTS := t_MOST_TEXTS
    c_MOST_TEXTS := PySem.W.mg_of X G g_MOST_TEXTS
    g_FOLDED := ⟨A_FOLDED, PySem.W.mg_of X G g_FOLDED, Al.sqT_mk tl_FOLDED rfl rfl tv_FOLDED (by decide)⟩
    g_PLAIN := ⟨A_PLAIN, PySem.W.mg_of X G g_PLAIN, Al.sqT_mk tl_PLAIN rfl rfl tv_PLAIN (by decide)⟩
    g_CHOOSING := ⟨A_CHOOSING, PySem.W.mg_of X G g_CHOOSING, Al.sqT_mk tl_CHOOSING rfl rfl tv_CHOOSING (by decide)⟩
    g_JOINING := ⟨A_JOINING, PySem.W.mg_of X G g_JOINING, Al.sqT_mk tl_JOINING rfl rfl tv_JOINING (by decide)⟩
    g_ONES := ⟨A_ONES, es_ONES, en_ONES, ⟨dl_ONES, dk_ONES, dw_ONES⟩, PySem.W.mg_of X G g_ONES, dz_ONES⟩
    g_TWOS := ⟨A_TWOS, es_TWOS, en_TWOS, ⟨dl_TWOS, dk_TWOS, dw_TWOS⟩, PySem.W.mg_of X G g_TWOS, dz_TWOS⟩
    is_whole := ⟨f0, _, (fun_mk (st := s_is_whole) l0 c0 k0), (fun_mk (st := s_is_whole) l0 c0 k0).binds (ps := ["thing"]) fun _ _ _ _ _ _ us hl => match us, hl with | [_], _ => rfl, PySem.W.mg_of X G a0⟩
    is_from := ⟨f1, _, (fun_mk (st := s_is_from) l1 c1 k1), (fun_mk (st := s_is_from) l1 c1 k1).binds (ps := ["thing", "least", "most"]) fun _ _ _ _ _ _ us hl => match us, hl with | [_, _, _], _ => rfl, PySem.W.mg_of X G a1⟩
    whole_in := ⟨f2, _, (fun_mk (st := s_whole_in) l2 c2 k2), (fun_mk (st := s_whole_in) l2 c2 k2).binds (ps := ["word"]) fun _ _ _ _ _ _ us hl => match us, hl with | [_], _ => rfl, PySem.W.mg_of X G a2⟩
    wholes_in := ⟨f3, _, (fun_mk (st := s_wholes_in) l3 c3 k3), (fun_mk (st := s_wholes_in) l3 c3 k3).binds (ps := ["text"]) fun _ _ _ _ _ _ us hl => match us, hl with | [_], _ => rfl, PySem.W.mg_of X G a3⟩
    is_shape := ⟨f4, _, (fun_mk (st := s_is_shape) l4 c4 k4), (fun_mk (st := s_is_shape) l4 c4 k4).binds (ps := ["thing"]) fun _ _ _ _ _ _ us hl => match us, hl with | [_], _ => rfl, PySem.W.mg_of X G a4⟩
    word_in := ⟨f5, _, (fun_mk (st := s_word_in) l5 c5 k5), (fun_mk (st := s_word_in) l5 c5 k5).binds (ps := ["text"]) fun _ _ _ _ _ _ us hl => match us, hl with | [_], _ => rfl, PySem.W.mg_of X G a5⟩
    told_in := ⟨f6, _, (fun_mk (st := s_told_in) l6 c6 k6), (fun_mk (st := s_told_in) l6 c6 k6).binds (ps := ["text"]) fun _ _ _ _ _ _ us hl => match us, hl with | [_], _ => rfl, PySem.W.mg_of X G a6⟩
    numbers_in := ⟨f7, _, (fun_mk (st := s_numbers_in) l7 c7 k7), (fun_mk (st := s_numbers_in) l7 c7 k7).binds (ps := ["text"]) fun _ _ _ _ _ _ us hl => match us, hl with | [_], _ => rfl, PySem.W.mg_of X G a7⟩
    is_rank := ⟨f8, _, (fun_mk (st := s_is_rank) l8 c8 k8), PySem.W.mg_of X G a8, kbn_all (fun_mk (st := s_is_rank) l8 c8 k8) (fun _ _ _ _ _ _ us ws h1 h2 => match us, ws, h1, h2 with | [_], [_], _, _ => rfl), .int 1 tk8, ⟨_, rfl⟩, Al.dfl_binds nk8 rfl (fun us h => match us, h with | [_], _ => ⟨_, _, _, _, _, _, rfl, rfl, rfl⟩)⟩
    is_with_numbers := ⟨f9, _, (fun_mk (st := s_is_with_numbers) l9 c9 k9), (fun_mk (st := s_is_with_numbers) l9 c9 k9).binds (ps := ["text"]) fun _ _ _ _ _ _ us hl => match us, hl with | [_], _ => rfl, PySem.W.mg_of X G a9⟩
    is_word_of_one := ⟨f10, _, (fun_mk (st := s_is_word_of_one) l10 c10 k10), (fun_mk (st := s_is_word_of_one) l10 c10 k10).binds (ps := ["text"]) fun _ _ _ _ _ _ us hl => match us, hl with | [_], _ => rfl, PySem.W.mg_of X G a10⟩
    is_word_of_two := ⟨f11, _, (fun_mk (st := s_is_word_of_two) l11 c11 k11), (fun_mk (st := s_is_word_of_two) l11 c11 k11).binds (ps := ["text"]) fun _ _ _ _ _ _ us hl => match us, hl with | [_], _ => rfl, PySem.W.mg_of X G a11⟩
    is_word := ⟨f12, _, (fun_mk (st := s_is_word) l12 c12 k12), PySem.W.mg_of X G a12, kbn_all (fun_mk (st := s_is_word) l12 c12 k12) (fun _ _ _ _ _ _ us ws h1 h2 => match us, ws, h1, h2 with | [_], [_], _, _ => rfl), .int 1 tk12, ⟨_, rfl⟩, Al.dfl_binds nk12 rfl (fun us h => match us, h with | [_], _ => ⟨_, _, _, _, _, _, rfl, rfl, rfl⟩)⟩
    is_verb := ⟨f13, _, (fun_mk (st := s_is_verb) l13 c13 k13), PySem.W.mg_of X G a13, kbn_all (fun_mk (st := s_is_verb) l13 c13 k13) (fun _ _ _ _ _ _ us ws h1 h2 => match us, ws, h1, h2 with | [_], [_], _, _ => rfl), .int 1 tk13, ⟨_, rfl⟩, Al.dfl_binds nk13 rfl (fun us h => match us, h with | [_], _ => ⟨_, _, _, _, _, _, rfl, rfl, rfl⟩)⟩
    _law_feed := ⟨f14, _, (fun_mk (st := s__law_feed) l14 c14 k14), (fun_mk (st := s__law_feed) l14 c14 k14).binds (ps := ["_law_script"]) fun _ _ _ _ _ _ us hl => match us, hl with | [_], _ => rfl, PySem.W.mg_of X G a14⟩
    _law_draw := ⟨f15, _, (fun_mk (st := s__law_draw) l15 c15 k15), (fun_mk (st := s__law_draw) l15 c15 k15).binds (ps := ["_law_feed_here", "_law_many"]) fun _ _ _ _ _ _ us hl => match us, hl with | [_, _], _ => rfl, PySem.W.mg_of X G a15⟩
    _law_of := ⟨f16, _, (fun_mk (st := s__law_of) l16 c16 k16), (fun_mk (st := s__law_of) l16 c16 k16).binds (ps := ["_law_feed_here", "_law_some"]) fun _ _ _ _ _ _ us hl => match us, hl with | [_, _], _ => rfl, PySem.W.mg_of X G a16⟩
    _law_frame := ⟨f17, _, (fun_mk (st := s__law_frame) l17 c17 k17), (fun_mk (st := s__law_frame) l17 c17 k17).binds (ps := ["_law_rank", "_law_shape"]) fun _ _ _ _ _ _ us hl => match us, hl with | [_, _], _ => rfl, PySem.W.mg_of X G a17⟩
    _law_word_for := ⟨f18, _, (fun_mk (st := s__law_word_for) l18 c18 k18), (fun_mk (st := s__law_word_for) l18 c18 k18).binds (ps := ["_law_feed_here", "_law_shape"]) fun _ _ _ _ _ _ us hl => match us, hl with | [_, _], _ => rfl, PySem.W.mg_of X G a18⟩
    _law_verb_for := ⟨f19, _, (fun_mk (st := s__law_verb_for) l19 c19 k19), (fun_mk (st := s__law_verb_for) l19 c19 k19).binds (ps := ["_law_feed_here", "_law_shape"]) fun _ _ _ _ _ _ us hl => match us, hl with | [_, _], _ => rfl, PySem.W.mg_of X G a19⟩
    _law_rank_two := ⟨f20, _, (fun_mk (st := s__law_rank_two) l20 c20 k20), (fun_mk (st := s__law_rank_two) l20 c20 k20).binds (ps := ["_law_feed_here"]) fun _ _ _ _ _ _ us hl => match us, hl with | [_], _ => rfl, PySem.W.mg_of X G a20⟩
    _law_verb_of_two := ⟨f21, _, (fun_mk (st := s__law_verb_of_two) l21 c21 k21), (fun_mk (st := s__law_verb_of_two) l21 c21 k21).binds (ps := ["_law_feed_here"]) fun _ _ _ _ _ _ us hl => match us, hl with | [_], _ => rfl, PySem.W.mg_of X G a21⟩
    _law_figures := ⟨f22, _, (fun_mk (st := s__law_figures) l22 c22 k22), (fun_mk (st := s__law_figures) l22 c22 k22).binds (ps := ["_law_word"]) fun _ _ _ _ _ _ us hl => match us, hl with | [_], _ => rfl, PySem.W.mg_of X G a22⟩
    _law_numbers_in := ⟨f23, _, (fun_mk (st := s__law_numbers_in) l23 c23 k23), (fun_mk (st := s__law_numbers_in) l23 c23 k23).binds (ps := ["_law_text"]) fun _ _ _ _ _ _ us hl => match us, hl with | [_], _ => rfl, PySem.W.mg_of X G a23⟩
    _law_is_one := ⟨f24, _, (fun_mk (st := s__law_is_one) l24 c24 k24), (fun_mk (st := s__law_is_one) l24 c24 k24).binds (ps := ["_law_text"]) fun _ _ _ _ _ _ us hl => match us, hl with | [_], _ => rfl, PySem.W.mg_of X G a24⟩
    _law_is_two := ⟨f25, _, (fun_mk (st := s__law_is_two) l25 c25 k25), (fun_mk (st := s__law_is_two) l25 c25 k25).binds (ps := ["_law_text"]) fun _ _ _ _ _ _ us hl => match us, hl with | [_], _ => rfl, PySem.W.mg_of X G a25⟩
    _law_is_rank := ⟨f26, _, (fun_mk (st := s__law_is_rank) l26 c26 k26), (fun_mk (st := s__law_is_rank) l26 c26 k26).binds (ps := ["_law_text", "_law_many"]) fun _ _ _ _ _ _ us hl => match us, hl with | [_, _], _ => rfl, PySem.W.mg_of X G a26⟩
    _law_due := ⟨f27, _, (fun_mk (st := s__law_due) l27 c27 k27), (fun_mk (st := s__law_due) l27 c27 k27).binds (ps := ["_law_a_thing", "_law_many"]) fun _ _ _ _ _ _ us hl => match us, hl with | [_, _], _ => rfl, PySem.W.mg_of X G a27⟩
    _law_any_text := ⟨f28, _, (fun_mk (st := s__law_any_text) l28 c28 k28), (fun_mk (st := s__law_any_text) l28 c28 k28).binds (ps := ["_law_feed_here"]) fun _ _ _ _ _ _ us hl => match us, hl with | [_], _ => rfl, PySem.W.mg_of X G a28⟩
    _law_verb := ⟨f29, _, (fun_mk (st := s__law_verb) l29 c29 k29), (fun_mk (st := s__law_verb) l29 c29 k29).binds (ps := ["_law_feed_here"]) fun _ _ _ _ _ _ us hl => match us, hl with | [_], _ => rfl, PySem.W.mg_of X G a29⟩
    b_len := PySem.W.mg_none_of X G z_len
    b_list := PySem.W.mg_none_of X G z_list
    b_range := PySem.W.mg_none_of X G z_range
    b_isinstance := PySem.W.mg_none_of X G z_isinstance
    b_int := PySem.W.mg_none_of X G z_int
    b_bool := PySem.W.mg_none_of X G z_bool
    b_str := PySem.W.mg_none_of X G z_str
    b_tuple := PySem.W.mg_none_of X G z_tuple
    b_dict := PySem.W.mg_none_of X G z_dict
    b_all := PySem.W.mg_none_of X G z_all
    b_abs := PySem.W.mg_none_of X G z_abs
    b_repr := PySem.W.mg_none_of X G z_repr
    b_max := PySem.W.mg_none_of X G z_max
    b_min := PySem.W.mg_none_of X G z_min
    b_enumerate := PySem.W.mg_none_of X G z_enumerate
    b_zip := PySem.W.mg_none_of X G z_zip
    b_reversed := PySem.W.mg_none_of X G z_reversed
    b_sorted := PySem.W.mg_none_of X G z_sorted
    b_sum := PySem.W.mg_none_of X G z_sum
    b_any := PySem.W.mg_none_of X G z_any }
  exact ⟨PySem.W.fnOf "law" "law" (defArgs s_law) (defBody s_law) (defScope s_law) .none kV30 dc30 pm30 an30 cd30 ct30, fun s v => .of_eq rfl, fun base _ _ => Al.FnG.weak (ok_law T (fun_mk (st := s_law) l30 c30 k30)) fun vs H Q E h => Al.lift_law (by simp) law_plain h⟩
theorem walk {l : PySem.W.OpenLaw} {q : Program} {loose : List Str} {XP : (Str → Option Value) → Heap → Prop} {YP : World → Heap → Prop} {d : DefRec} {K : Params → PySem.W.Frag} (hn : l.most = some 63) (hdf : d.params.defaults = [])
    (hY : ∀ (w : World) (h : Heap), YP w h → (K w.params).In h)
    (F : ∀ (w : World) (mg : Str → Option Value) (fa : Addr) (h : Heap), (K w.params).In h → h.Ns mainGlobals mg → mg d.name = some (.ref fa) →
      ∃ fd : FuncData, (∀ (s : Shared) (u : Value), BindsTo s fd ⟨[u], []⟩ [("_law_script", u)]) ∧ ∀ base : Heap, (K w.params).In base → base.Ns mainGlobals mg → FnG l.prog w (K w.params) mg base CX0 8 fa fd ["_law_script"] (Al.spLaw (K w.params))) :
    PySem.W.WalkO q loose XP YP l.row.toRowW d [] (fun f vs => PySem.call f vs) :=
  endG (n := 63) (k := 8) (x := "_law_script") (sp := fun w => Al.spLaw (K w.params)) hn (by decide) hdf ⟨rfl, by decide, by decide⟩ hY F fun w H a ns hl _ hS => ⟨a, ns, rfl, hS, hl, fun _ => rfl⟩
end Cr
open PySem PySem.W PyProof.Rows in
set_option maxRecDepth 100000 in
set_option maxHeartbeats 0 in
theorem PySem.Challenge.cw_cellranks_k08_what_is_a_verb_holds : PySem.Challenge.rw_cellranks_k08_what_is_a_verb.Holds := by
  w_on; o_law; k_head; (case hw => w_witness2)
  k_fill
  refine Cr.walk (l := PySem.Challenge.rw_cellranks_k08_what_is_a_verb) rfl rfl (fun w h Y => PySem.W.kIn_of Y) ?F
  case F =>
    intro w mg fa h KX G hmg
    refine' Cr.all_mk KX G hmg ?a0 ?l0 ?c0 ?k0 ?a1 ?l1 ?c1 ?k1 ?a2 ?l2 ?c2 ?k2 ?a3 ?l3 ?c3 ?k3 ?a4 ?l4 ?c4 ?k4 ?a5 ?l5 ?c5 ?k5 ?a6 ?l6 ?c6 ?k6 ?a7 ?l7 ?c7 ?k7 ?a8 ?l8 ?nk8 ?c8 ?k8 ?a9 ?l9 ?c9 ?k9 ?a10 ?l10 ?c10 ?k10 ?a11 ?l11 ?c11 ?k11 ?a12 ?l12 ?nk12 ?c12 ?k12 ?a13 ?l13 ?nk13 ?c13 ?k13 ?a14 ?l14 ?c14 ?k14 ?a15 ?l15 ?c15 ?k15 ?a16 ?l16 ?c16 ?k16 ?a17 ?l17 ?c17 ?k17 ?a18 ?l18 ?c18 ?k18 ?a19 ?l19 ?c19 ?k19 ?a20 ?l20 ?c20 ?k20 ?a21 ?l21 ?c21 ?k21 ?a22 ?l22 ?c22 ?k22 ?a23 ?l23 ?c23 ?k23 ?a24 ?l24 ?c24 ?k24 ?a25 ?l25 ?c25 ?k25 ?a26 ?l26 ?c26 ?k26 ?a27 ?l27 ?c27 ?k27 ?a28 ?l28 ?c28 ?k28 ?a29 ?l29 ?c29 ?k29 ?a30 ?l30 ?c30 ?k30 ?z_len ?z_list ?z_range ?z_isinstance ?z_int ?z_bool ?z_str ?z_tuple ?z_dict ?z_all ?z_abs ?z_repr ?z_max ?z_min ?z_enumerate ?z_zip ?z_reversed ?z_sorted ?z_sum ?z_any ?g_FIGURES ?g_MOST_FIGURES ?g_MOST_AXES ?g_MOST_SIZE ?g_MOST_TEXTS ?g_FOLDED ?tl_FOLDED ?tv_FOLDED ?g_PLAIN ?tl_PLAIN ?tv_PLAIN ?g_CHOOSING ?tl_CHOOSING ?tv_CHOOSING ?g_JOINING ?tl_JOINING ?tv_JOINING ?g_ONES ?dl_ONES ?dk_ONES ?dw_ONES ?dz_ONES ?g_TWOS ?dl_TWOS ?dk_TWOS ?dw_TWOS ?dz_TWOS
    (case a0 => k_is)
    (case l0 => k_is)
    (case c0 => k_is)
    (case k0 => k_is)
    (case a1 => k_is)
    (case l1 => k_is)
    (case c1 => k_is)
    (case k1 => k_is)
    (case a2 => k_is)
    (case l2 => k_is)
    (case c2 => k_is)
    (case k2 => k_is)
    (case a3 => k_is)
    (case l3 => k_is)
    (case c3 => k_is)
    (case k3 => k_is)
    (case a4 => k_is)
    (case l4 => k_is)
    (case c4 => k_is)
    (case k4 => k_is)
    (case a5 => k_is)
    (case l5 => k_is)
    (case c5 => k_is)
    (case k5 => k_is)
    (case a6 => k_is)
    (case l6 => k_is)
    (case c6 => k_is)
    (case k6 => k_is)
    (case a7 => k_is)
    (case l7 => k_is)
    (case c7 => k_is)
    (case k7 => k_is)
    (case a8 => k_is)
    (case l8 => k_is)
    (case nk8 => k_is)
    (case c8 => k_is)
    (case k8 => k_is)
    (case a9 => k_is)
    (case l9 => k_is)
    (case c9 => k_is)
    (case k9 => k_is)
    (case a10 => k_is)
    (case l10 => k_is)
    (case c10 => k_is)
    (case k10 => k_is)
    (case a11 => k_is)
    (case l11 => k_is)
    (case c11 => k_is)
    (case k11 => k_is)
    (case a12 => k_is)
    (case l12 => k_is)
    (case nk12 => k_is)
    (case c12 => k_is)
    (case k12 => k_is)
    (case a13 => k_is)
    (case l13 => k_is)
    (case nk13 => k_is)
    (case c13 => k_is)
    (case k13 => k_is)
    (case a14 => k_is)
    (case l14 => k_is)
    (case c14 => k_is)
    (case k14 => k_is)
    (case a15 => k_is)
    (case l15 => k_is)
    (case c15 => k_is)
    (case k15 => k_is)
    (case a16 => k_is)
    (case l16 => k_is)
    (case c16 => k_is)
    (case k16 => k_is)
    (case a17 => k_is)
    (case l17 => k_is)
    (case c17 => k_is)
    (case k17 => k_is)
    (case a18 => k_is)
    (case l18 => k_is)
    (case c18 => k_is)
    (case k18 => k_is)
    (case a19 => k_is)
    (case l19 => k_is)
    (case c19 => k_is)
    (case k19 => k_is)
    (case a20 => k_is)
    (case l20 => k_is)
    (case c20 => k_is)
    (case k20 => k_is)
    (case a21 => k_is)
    (case l21 => k_is)
    (case c21 => k_is)
    (case k21 => k_is)
    (case a22 => k_is)
    (case l22 => k_is)
    (case c22 => k_is)
    (case k22 => k_is)
    (case a23 => k_is)
    (case l23 => k_is)
    (case c23 => k_is)
    (case k23 => k_is)
    (case a24 => k_is)
    (case l24 => k_is)
    (case c24 => k_is)
    (case k24 => k_is)
    (case a25 => k_is)
    (case l25 => k_is)
    (case c25 => k_is)
    (case k25 => k_is)
    (case a26 => k_is)
    (case l26 => k_is)
    (case c26 => k_is)
    (case k26 => k_is)
    (case a27 => k_is)
    (case l27 => k_is)
    (case c27 => k_is)
    (case k27 => k_is)
    (case a28 => k_is)
    (case l28 => k_is)
    (case c28 => k_is)
    (case k28 => k_is)
    (case a29 => k_is)
    (case l29 => k_is)
    (case c29 => k_is)
    (case k29 => k_is)
    (case a30 => k_is)
    (case l30 => k_is)
    (case c30 => k_is)
    (case k30 => k_is)
    (case z_len => k_is)
    (case z_list => k_is)
    (case z_range => k_is)
    (case z_isinstance => k_is)
    (case z_int => k_is)
    (case z_bool => k_is)
    (case z_str => k_is)
    (case z_tuple => k_is)
    (case z_dict => k_is)
    (case z_all => k_is)
    (case z_abs => k_is)
    (case z_repr => k_is)
    (case z_max => k_is)
    (case z_min => k_is)
    (case z_enumerate => k_is)
    (case z_zip => k_is)
    (case z_reversed => k_is)
    (case z_sorted => k_is)
    (case z_sum => k_is)
    (case z_any => k_is)
    (case g_FIGURES => k_is)
    (case g_MOST_FIGURES => k_is)
    (case g_MOST_AXES => k_is)
    (case g_MOST_SIZE => k_is)
    (case g_MOST_TEXTS => k_is)
    (case g_FOLDED => k_is)
    (case tl_FOLDED => k_is)
    (case tv_FOLDED => (repeat (first | exact Paired.nil | refine Paired.cons ⟨_, rfl⟩ ?_)))
    (case g_PLAIN => k_is)
    (case tl_PLAIN => k_is)
    (case tv_PLAIN => (repeat (first | exact Paired.nil | refine Paired.cons ⟨_, rfl⟩ ?_)))
    (case g_CHOOSING => k_is)
    (case tl_CHOOSING => k_is)
    (case tv_CHOOSING => (repeat (first | exact Paired.nil | refine Paired.cons ⟨_, rfl⟩ ?_)))
    (case g_JOINING => k_is)
    (case tl_JOINING => k_is)
    (case tv_JOINING => (repeat (first | exact Paired.nil | refine Paired.cons ⟨_, rfl⟩ ?_)))
    (case g_ONES => k_is)
    (case dl_ONES => k_is)
    (case dk_ONES => (repeat (first | exact trivial | refine ⟨⟨_, _, rfl, rfl⟩, ?_⟩)))
    (case dw_ONES => rfl)
    (case dz_ONES => (repeat (first | exact Al.KeysAre.nil | refine Al.KeysAre.cons rfl ?_)))
    (case g_TWOS => k_is)
    (case dl_TWOS => k_is)
    (case dk_TWOS => (repeat (first | exact trivial | refine ⟨⟨_, _, rfl, rfl⟩, ?_⟩)))
    (case dw_TWOS => rfl)
    (case dz_TWOS => (repeat (first | exact Al.KeysAre.nil | refine Al.KeysAre.cons rfl ?_)))
