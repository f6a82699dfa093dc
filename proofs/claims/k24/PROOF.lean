import PyProof.Rows.All
import Wide.All
import OpenK.AllK
import Wide.FinOn
import HandS.ForMost
import HandS.Flow
import HandS.Style
import HandS.MakeKwOnly
import HandS.DictComp
import HandS.FStr
import HandS.IsInst
import HandS.OwnEq
import HandS.RaiseMore
import HandS.EndBits
import HandS.Evl
import PyProof.Rows.StrRev
import PyProof.ReprRoads
import PyProof.CollectStr
import HandS.Exc
import HandS.ExcInit
import HandS.WordsExc
import HandS.CallSlots
import HandS.More
import KE.KExcInit
import KE.KExcIs
import KE.KExcHand
import HandS.Wide
import HandS.Small
import PySem.Challenge.RW_cellranks_k24_sizes_put_together
import KE.KExcLine
import HandS.ExcIs
set_option Elab.async false
set_option linter.all false
set_option maxRecDepth 100000
set_option maxHeartbeats 4000000
/-! Cr0: what every law here uses: defs by place, the ghost part of the heap. -/
namespace Cr
open PySem L2

structure FnAt (K : PySem.W.Frag) (mg : Str → Option Value) (x qual : Str) (st : Stmt) (ps : List Str) where
  f : Addr
  fd : FuncData
  F : Fun K x qual st f fd
  b : Binds K fd ps []
  mg : mg x = some (.ref f)
structure MtAt (K : PySem.W.Frag) (C : Addr) (x qual : Str) (st : Stmt) (ps : List Str) where
  f : Addr
  fd : FuncData
  F : Fun K x qual st f fd
  b : Binds K fd ps []
  m : Meth K C x f
structure ClAt (K : PySem.W.Frag) (mg : Str → Option Value) (x : Str) (C fI : Addr) : Prop where
  mkk : Mk K C fI
  cl : Cls K C
  mg : mg x = some (.ref C)

/-! ### the ghost part: G stands in H -/
theorem Same.new {G H : Hp} {p : Addr} {o : HO} (s : Same G H) (h : H p = none) : Same G (upd H p o) := fun a u e => by
  rw [upd_ne (ne_of_none (s a u e) h)]
  exact s a u e
theorem Same.put {G H : Hp} {p : Addr} {o : HO} (s : Same G H) (h : G p = none) : Same G (upd H p o) := fun a u e => by
  rw [upd_ne (ne_of_none e h)]
  exact s a u e
theorem Same.add {G H : Hp} {p : Addr} {o : HO} (s : Same G H) (h : H p = some o) : Same (upd G p o) H := fun a u e => by
  by_cases q : a = p
  · subst q
    rw [upd_same] at e
    cases e
    exact h
  · rw [upd_ne q] at e
    exact s a u e
theorem Same.two {G H : Hp} {p : Addr} {o : HO} (s : Same G H) : Same (upd G p o) (upd H p o) := fun a u e => by
  by_cases q : a = p
  · subst q
    rw [upd_same] at e ⊢
    exact e
  · rw [upd_ne q] at e ⊢
    exact s a u e
theorem same_up {G : Hp} {p : Addr} {o : HO} (h : G p = none) : Same G (upd G p o) := fun a u e => by
  rw [upd_ne (ne_of_none e h)]
  exact e
theorem Same.lst {G H : Hp} {a : Addr} {u : HO} (s : Same G H) (h : Rd G a u) : Rd H a u := by
  rcases h with h | ⟨o, h⟩
  · exact .inl (s _ _ h)
  · exact .inr ⟨o, s _ _ h⟩
theorem Same.sqL {K : PySem.W.Frag} {G H : Hp} {a : Addr} {xs : List V} (s : Same G H) (h : SqL K G a xs) : SqL K H a xs := s.seq h
theorem Same.sqT {K : PySem.W.Frag} {G H : Hp} {a : Addr} {xs : List V} (s : Same G H) (h : SqT K G a xs) : SqT K H a xs := by
  rcases h with h | h
  · exact .inl (Same.lst s h)
  · exact .inr h
theorem pss_cut {X : Cx} {st : Stmt} {rest : List Stmt} {t u : TS} (h1 : PS X st t) (h2 : PSs X rest u) : PSs X (st :: rest) (Evl.tCut t u) := Evl.pss_cut h1 h2
theorem dpInts {K : PySem.W.Frag} {H : Hp} : ∀ ns : List Int, DpAll K H (ns.map V.int) (ns.map PyData.int)
  | [] => .nil
  | n :: r => .cons (.int n) (dpInts r)
theorem canInts : ∀ ns : List Int, PyData.canLayAll0 (ns.map PyData.int) = true
  | [] => rfl
  | n :: r => by simp [PyData.canLayAll0, PyData.canLay0, canInts r]
theorem depInts : ∀ ns : List Int, PyData.depthAll (ns.map PyData.int) ≤ 1
  | [] => by simp [PyData.depthAll]
  | n :: r => by have := depInts r; simp [PyData.depthAll, PyData.depth]; omega
theorem shInts (ns : List Int) : SeqAt.shaped (.list (ns.map PyData.int)) = true := by
  have h1 := canInts ns
  have h2 := depInts ns
  unfold SeqAt.shaped
  rw [show PyData.canLay0 (.list (ns.map PyData.int)) = true by rw [PyData.canLay0]; exact h1]
  simp [PyData.depth]
  omega
theorem fmod_rng (x : Int) {n : Int} (h : 0 < n) : 0 ≤ x.fmod n ∧ x.fmod n < n := ⟨Int.fmod_nonneg_of_pos _ h, Int.fmod_lt_of_pos _ h⟩
theorem ofL {K : PySem.W.Frag} {H : Hp} {a : Addr} {xs : List V} (h : H a = some (.lst xs)) : SqL K H a xs := .inl (.inl h)
theorem ofT {K : PySem.W.Frag} {H : Hp} {a : Addr} {xs : List V} (h : H a = some (.tup xs)) : SqT K H a xs := .inl (.inl h)
end Cr

/-! Cr1: rules that the layer lacks. -/
namespace Cr
open PySem PySem.Spec PyProof.Rows L2

/-! ### s[::-1] -/
def revS (z : Str) : Str := ⟨z.cps.toList.reverse.toArray⟩
theorem revS_length (z : Str) : (revS z).length = z.length := by simp [revS, Str.length]
def tRevS (te : TE) : TE := fun σ H Q => te σ H fun x H1 => ∃ z : Str, x = .str z ∧ z.length ≤ sizeLine ∧ Q (.str (revS z)) H1
theorem rev_picked (z : Str) : ((Builtin.Str.strSliceIndices none none (-1) z.length).filterMap (z.cps[·]?)).toArray = z.cps.toList.reverse.toArray := by
  rw [picked_rev]
  have e : z.length = z.cps.size := rfl
  rw [e, PySem.W.krv_range, List.filterMap_reverse, PySem.W.krv_all]
theorem pe_revS {X : Cx} {e : Expr} {te : TE} {k : Nat} {p1 p2 p3 pos : Pos} (he : PE X e te) : PE X (.Subscript e (.Slice none none (some (.UnaryOp .USub (.Constant (.int 1) k p1) p2)) p3) pos) (tRevS te) := by
  refine ⟨fun pins s σ H Q I h => ?_⟩
  refine Subscript_ (thn (he.run pins s σ H _ I h) fun v s1 ⟨x, H1, I1, r1, q1⟩ => ?_)
  obtain ⟨z, ex, hz, q⟩ := q1
  subst ex
  obtain ⟨t, rfl⟩ := r1
  have hst : PO X (some (.UnaryOp .USub (.Constant (.int 1) k p1) p2)) (tPart (tUn (rU fun i => .int (-i)) (tC (.int 1)))) := po_some (pe_un un_neg pe_int)
  refine wpAny_Slice (thn (po_none.run pins s1 σ H1 (fun o H2 => o = none ∧ H2 = H1) I1 ⟨rfl, rfl⟩) fun vl s2 ⟨l, H2, I2, pl, el, e2⟩ => ?_)
  subst el e2
  refine thn (po_none.run pins s2 σ H2 (fun o H3 => o = none ∧ H3 = H2) I2 ⟨rfl, rfl⟩) fun vu s3 ⟨u, H3, I3, pu, eu, e3⟩ => ?_
  subst eu e3
  refine thn (hst.run pins s3 σ H3 (fun o H4 => o = some (-1) ∧ H4 = H3) I3 ⟨1, rfl, -1, rfl, rfl, rfl⟩) fun vs s4 ⟨o, H4, I4, ps, eo, e4⟩ => ?_
  subst eo e4
  have I5 : Inv X pins σ H4 { s4 with heap := s4.heap.push { cls := .type "slice", data := .fields #[vl, vu, vs] } } := I4.kept (t' := s4.toks) fun b ob q => Heap.get?_push_of_some _ q
  obtain ⟨l, rfl, hl⟩ := IsPart.raw pl
  obtain ⟨u, rfl, hu⟩ := IsPart.raw pu
  obtain ⟨st, rfl, hst'⟩ := IsPart.raw ps
  have hl0 : l.map (·.1) = none := hl
  have hu0 : u.map (·.1) = none := hu
  have hs0 : st.map (·.1) = some (-1) := hst'
  show wpAny (model X.prog X.w) X.A (subscriptTail e (.Slice none none (some (.UnaryOp .USub (.Constant (.int 1) k p1) p2)) p3) (.str z t) (.ref s4.heap.objs.size)) (EP X pins σ Q) X.xe { s4 with heap := s4.heap.push { cls := .type "slice", data := .fields #[partValue l, partValue u, partValue st] } }
  refine tail_any (ops := [.str z t, .ref s4.heap.objs.size]) (typeIs_str _ _ _) F.slot_str_getitem.lookup ?_ (by with_unfolding_all rfl)
  refine wpAny_getItem_str_slice (l := l) (u := u) (st := st) ⟨_, Heap.get?_push_size _ rfl, rfl, rfl⟩ (by rw [hs0]; rfl) ?_
  have key : Made.post (if (((st.map (·.1)).getD 1 == 1) && (Builtin.Str.strSliceIndices (l.map (·.1)) (u.map (·.1)) ((st.map (·.1)).getD 1) z.length).length == z.length) = true then Made.val (.str z t)
    else Made.str ⟨((Builtin.Str.strSliceIndices (l.map (·.1)) (u.map (·.1)) ((st.map (·.1)).getD 1) z.length).filterMap (z.cps[·]?)).toArray⟩) (EP X pins σ Q) { s4 with heap := s4.heap.push { cls := .type "slice", data := .fields #[partValue l, partValue u, partValue st] } } := by
    rw [hl0, hu0, hs0]
    rw [if_neg (by rw [show (((some (-1) : Option Int)).getD 1 == 1) = false from rfl, Bool.false_and]; exact Bool.false_ne_true)]
    show Made.post (Made.str ⟨((Builtin.Str.strSliceIndices none none (-1) z.length).filterMap (z.cps[·]?)).toArray⟩) _ _
    rw [rev_picked]
    exact ⟨by have := revS_length z; unfold revS at this; rw [this]; exact hz, .str _, H4, I5.tok _, ⟨_, rfl⟩, q⟩
  exact key

/-! ### sorted(text) -/
def signs (z : Str) : List Str := z.cps.toList.map fun c => ⟨#[c]⟩
theorem signs_len (z : Str) : (signs z).length = z.length := by simp [signs, Str.length]
theorem call_sortedT {X : Cx} (hcalm : X.calm = true) : CallR X (.builtin "sorted") (fun xs H Q => ∃ z : Str, xs = [.str z] ∧ z.length < 64 ∧
    ∀ ys p, ys.Perm (signs z) → sortedS ys = true → H p = none → Q (.ref p) (upd H p (.lst (ys.map V.str)))) := by
  intro pins s σ H xs us Q I r q
  obtain ⟨z, ex, h64, q⟩ := q
  subst ex
  obtain ⟨u, eu, rx⟩ := vals1 r
  subst eu
  obtain ⟨t, rfl⟩ := rx
  have hsz : z.cps.size ≤ sizeLine := by
    have : z.length = z.cps.size := rfl
    rw [← this, sizeLine_eq]; omega
  refine Calls.call_function_entry PyProof.Rows.kind_sorted PyProof.Rows.plain_sorted PyProof.Rows.entry_sorted (PyProof.Rows.args_sorted1 _) ?_
  unfold Builtin.«sorted»
  refine wpAny_bind (m := checkCount "sorted" 1 1 _) (wpAny_pure ?_)
  refine wpAny_bind (PySem.wpAny_collect_str (A := X.A.in1) (I.ok.hd hcalm) z t (fun s' acc hk hg hd ho hacc => ?_) hsz)
  have hal : acc.toList.length = (signs z).length := by rw [Array.length_toList, hacc.1, signs_len]; rfl
  have hS : StrsAre acc.toList (signs z) := strs_at hal fun j v e => by
    obtain ⟨c, x, e1, e2⟩ := hacc.2 j v (by rw [← Array.getElem?_toList]; exact e)
    refine ⟨⟨#[c]⟩, x, ?_, e2⟩
    unfold signs
    rw [List.getElem?_map, Array.getElem?_toList, e1]
    rfl
  obtain ⟨h', g', d', tk, os'⟩ := s'
  have e0 : os' = s.os := ho
  have e1 : g' = s.gens := hg
  have e2 : d' = s.drawn := hd
  subst e0 e1 e2
  have I1 : Inv X pins σ H ⟨h', s.gens, s.drawn, tk, s.os⟩ := I.kept hk
  refine wpAny_bind (wpAny_newList ?_ (by rw [hal, signs_len, sizeLine_eq]; omega))
  have hoL : (h'.push (seqObj "list" acc.toList.toArray 0)).get? h'.objs.size = some (seqObj "list" acc.toList.toArray 0) := Heap.get?_push_size _ rfl
  show wpAny _ _ _ _ _ ⟨h'.push (seqObj "list" acc.toList.toArray 0), s.gens, s.drawn, tk, s.os⟩
  refine wpAny_bind (wpAny_holding (wpAny_call_entry PyProof.Rows.slot_list_sort ⟨_, hoL, rfl⟩ PyProof.Rows.entry_list_sort
    (list_sort_treeK strKind_oneLt (s := ⟨h'.push (seqObj "list" acc.toList.toArray 0), s.gens, s.drawn, tk, s.os⟩) hoL hS.keysOf (fun v₁ v₂ rest e => keyKind_strs (by rw [← e]; exact hS)) (by rw [hal, signs_len]; exact h64) fun st' hp hs => ⟨_, rfl, ?_⟩)
    (PyProof.Rows.args_list_sort _)))
  obtain ⟨ys, g1, g2, g3⟩ := sorted_out_str hS hp hs
  obtain ⟨e', he'⟩ := PyProof.Rows.sortedHeap_at (vs := acc.toList) (out := (arrOf st').map (·.2)) hoL
  have hlen : (ys.map V.str).length ≤ sizeLine := by
    rw [List.length_map, g2.length_eq, signs_len]
    exact Nat.le_trans (Nat.le_of_lt h64) (by decide)
  refine wpAny_pure ⟨_, rfl, .ref h'.objs.size, upd H h'.objs.size (.lst (ys.map V.str)), I1.laid (t' := tk) (fun b u e => ?_) (Nat.le_refl _)
    (show ObjOk X.prog X.w _ _ _ (.lst (ys.map V.str)) from ⟨hlen, ((arrOf st').map (·.2)).toList, e', vals_of_strs g1, by rw [Array.toArray_toList]; exact he'⟩), rfl, q ys _ g2 g3 (I1.hok.fresh (Nat.le_refl _))⟩
  have hb : b < h'.objs.size := Heap.lt_size e
  rw [PyProof.Rows.sortedHeap_old (Nat.ne_of_lt hb) (by rw [size_push']; exact Nat.lt_succ_of_lt hb)]
  exact Heap.get?_push_of_some _ e

/-! ### repr(data), where no repr runs around -/
theorem call_reprD {X : Cx} (hg : X.A.guards = some []) (hu : X.A.units + 66 < cLine) : CallR X (.builtin "repr") (fun xs H Q => ∃ (a : Addr) (d : PyData), xs = [.ref a] ∧ Dp X.K H (.ref a) d ∧ d.showable = true ∧ d.hasDict = false ∧ d.depth ≤ 64 ∧ d.shown.length ≤ sizeLine ∧ Q (.str d.shown) H) := by
  intro pins s σ H xs us Q I r h
  obtain ⟨a, d, ex, hd, hs, hnd, hdep, hsz, q⟩ := h
  subst ex
  obtain ⟨u, eu, rx⟩ := vals1 r
  subst eu
  cases rx
  obtain ⟨as, r1⟩ := Dp.reads I d _ _ hd rfl
  refine repr_of_reads' r1 hs (fun z => by rw [hnd] at z; cases z) hg (by omega) (fun b o e => e) (fun h' u tk hk => ⟨.str d.shown, H, I.kept (t' := tk) hk, ⟨u, rfl⟩, q⟩) hsz

/-! ### defs that are only run where no repr runs around -/
structure FnG (P : Program) (w : World) (K : PySem.W.Frag) (mg : Str → Option Value) (base : Heap) (CX : CXT) (k : Nat) (f : Addr) (fd : FuncData) (ps : List Str) (sp : Sp) : Prop where
  len : ∀ vs H Q E, sp vs H Q E → vs.length = ps.length
  run : ∀ (A : Around) (outer : List Env) (s : Shared) (H : Hp) (args : Args) (us : List Value) (vs : List V) (Q : VK) (E : XK), Room k A → A.guards = some [] → Env0 P w K mg base A outer s H → BindsTo s fd args (ps.zip us) → Vals vs us → sp vs H Q E →
    codeAny (model P w) A (.call (.ref f) args) (CR CX outer P w H s Q E) s
/-- what a body's end says of the call -/
theorem CE.of {X : Cx} {σ' : L2.St} {H' : Hp} {v : V} {u : Value} {s' : Shared} {Q : VK} (J : Inv X [] σ' H' s') (h0 : X.fs = frs X.outer) (hx : X.ex = []) (rv : RelV v u) (q : Q v H') : CE X.outer X.prog X.w X.H_0 X.s_0 Q u s' := by
  have b := J.base
  rw [hx] at b
  exact ⟨v, H', J.os, J.bare, b, J.hok, rv, q⟩
theorem okG {P : Program} {w : World} {K : PySem.W.Frag} {mg : Str → Option Value} {base : Heap} {x qual : Str} {st : Stmt} {f : Addr} {fd : FuncData} {N ps : List Str} {k : Nat} {sp : Sp}
    (F : Fun K x qual st f fd) (S : FnScope N ps (defScope st)) (hlen : ∀ vs H Q E, sp vs H Q E → vs.length = ps.length)
    (body : ∀ cdv A outer s H vs Q E, Room k (A.deeper (envOfC qual (defScope st) s.heap.objs.size f cdv)) → A.guards = some [] → sp vs H Q E →
      ∃ t, PSs (cxOf CX0 P w K mg base N qual (defScope st) f cdv A outer s H E).nox (defBody st) t ∧ t ⟨fun _ H' => Q .non H', Q, fun _ _ => False, fun _ _ => False⟩ (start N vs) H) :
    FnG P w K mg base CX0 (k + 1) f fd ps sp := by
  obtain ⟨oc, od, kV, doc, pm, an, cd, ct, osl, rfl, look, hc⟩ := F.ex
  refine ⟨hlen, fun A outer s H args us vs Q E room grd env bind rel want => ?_⟩
  have keep : ∀ b o, base.get? b = some o → s.heap.get? b = some o := fun b o e => (env.bs b o e).1
  have KX := env.mod.kin.keeps keep
  have par : ∀ y ∈ ps.zip us, (defScope st).names.lookup y.1 = some .local ∨
      ((defScope st).names.lookup y.1 = some .cell ∧ ((cellsFrom (s.heap.objs.size + 1) (defScope st).names []).lookup y.1).isSome = true) := by
    rintro ⟨n, v⟩ hy
    exact (S.par n (List.of_mem_zip hy).1).imp id fun q => ⟨q, PySem.W.cellsFrom_some _ _ _ (.inl q)⟩
  refine codeAny_call_function room.depth (KX _ _ look) rfl S.co S.gen rfl (PySem.W.codeRec_of KX hc) (bind _ _ _ _ ?_)
  refine wpAny_newFunctionEnv_cells S.kind par fun e he s1 x1 => ?_
  subst he
  obtain ⟨t, d, q⟩ := body cd A outer s H vs Q E (room.deeper _) grd want
  refine ⟨(env.mod.nolimit.keeps keep).keeps x1.toInCall.keep, codeAny_func (wpAny_mono (d.nox.run [] s1 _ H _ (inv_start S room.hd env (hlen _ _ _ _ want) rel x1) q) (fun fl s' hs => ?_) fun _ _ z => z)⟩
  cases fl with
  | ret u => let ⟨_, _, _, J, rv, z⟩ := hs; exact CE.of J rfl rfl rv z
  | next => let ⟨_, _, J, z⟩ := hs; exact CE.of (v := V.non) J rfl rfl rfl z
  | brk => exact hs.elim fun _ z => z.elim fun _ z => z.2.elim
  | cont => exact hs.elim fun _ z => z.elim fun _ z => z.2.elim
theorem FnG.of {P : Program} {w : World} {K : PySem.W.Frag} {mg : Str → Option Value} {base : Heap} {CX : CXT} {k : Nat} {f : Addr} {fd : FuncData} {ps : List Str} {sp : Sp} (F : FnOk P w K mg base CX k f fd ps sp) : FnG P w K mg base CX k f fd ps sp :=
  ⟨F.len, fun A outer s H args us vs Q E hr _ => F.run A outer s H args us vs Q E hr⟩

/-! ### the law's end by FnG: the script is tracked, locked, unless it is one of the written things -/
section
variable {P : Program} {w : World} {K : PySem.W.Frag} {a : Addr} {vs : List Value} {ns : List Int} {h : Heap}
def scrO (vs : List Value) : Obj := { cls := .type "list", data := .seq vs.toArray }
def scr (K : PySem.W.Frag) (a : Addr) (vs : List Value) (ns : List Int) : Hp := fun b => if b = a ∧ K.lookup a = none then some (.frz (scrO vs) (.lst (ns.map V.int))) else none
theorem scr_some {b : Addr} {u : HO} (e : scr K a vs ns b = some u) : b = a ∧ K.lookup a = none ∧ u = .frz (scrO vs) (.lst (ns.map V.int)) := by
  unfold scr at e
  split at e
  · next c => cases e; exact ⟨c.1, c.2, rfl⟩
  · cases e
theorem scr_only : Only (scr K a vs ns) := fun b => by
  cases e : scr K a vs ns b with
  | none => exact .inl rfl
  | some u => obtain ⟨_, _, rfl⟩ := scr_some e; exact .inr ⟨_, _, rfl⟩
theorem scr_ok (ha : h.get? a = some (scrO vs)) (hi : IntsAre vs ns) (hl : ns.length ≤ sizeLine) : HOk P w (scr K a vs ns) h := fun b u e => by
  obtain ⟨rfl, _, rfl⟩ := scr_some e
  exact ⟨ha, by rw [List.length_map]; exact hl, vs, _, vals_ints hi, ha⟩
theorem scr_sq (KX : K.In h) (ha : h.get? a = some (scrO vs)) (hi : IntsAre vs ns) (hl : ns.length ≤ sizeLine) : SqL K (scr K a vs ns) a (ns.map V.int) := by
  cases e : K.lookup a with
  | none => exact .inl (.inr ⟨scrO vs, if_pos ⟨rfl, e⟩⟩)
  | some o =>
    obtain rfl : scrO vs = o := Option.some.inj (ha.symm.trans (KX a o e))
    exact .inr ⟨_, vs.toArray, _, e, rfl, rfl, rfl, by rw [List.size_toArray, hi.length]; exact hl, by simpa using vals_ints hi⟩
theorem scr_dict {b : Addr} {o : Obj} {es : Array DictEntry} {ep : Nat} (ha : h.get? a = some (scrO vs)) (e : h.get? b = some o) (d : o.data = .dict es ep) : scr K a vs ns b = none := by
  cases q : scr K a vs ns b with
  | none => rfl
  | some u =>
    obtain ⟨rfl, _⟩ := scr_some q
    obtain rfl := Option.some.inj (ha.symm.trans e)
    cases d
theorem scr_free (b : Addr) (o : Obj) (e : K.lookup b = some o) : scr K a vs ns b = none := by
  cases q : scr K a vs ns b with
  | none => rfl
  | some u =>
    obtain ⟨rfl, n, _⟩ := scr_some q
    rw [n] at e
    cases e
theorem endG {l : PySem.W.OpenLaw} {n k : Nat} {q : Program} {loose : List Str} {XP : (Str → Option Value) → Heap → Prop} {YP : World → Heap → Prop} {d : DefRec} {K : Params → PySem.W.Frag} {sp : World → Sp} {x : Str}
    (hn : l.most = some n) (hn2 : n ≤ sizeLine) (hdf : d.params.defaults = []) (room : Room k callerA) (hY : ∀ w h, YP w h → (K w.params).In h)
    (F : ∀ w mg fa h, (K w.params).In h → h.Ns mainGlobals mg → mg d.name = some (.ref fa) →
      ∃ fd : FuncData, (∀ s u, BindsTo s fd ⟨[u], []⟩ [(x, u)]) ∧ ∀ base : Heap, (K w.params).In base → base.Ns mainGlobals mg → FnG l.prog w (K w.params) mg base CX0 k fa fd [x] (sp w))
    (hsp : ∀ (w : World) (H : Hp) (a : Addr) (ns : List Int), ns.length ≤ n → Only H → SqL (K w.params) H a (ns.map V.int) → sp w [.ref a] H (fun v _ => v = .bl true) fun _ _ _ => False) :
    PySem.W.WalkO q loose XP YP l.row.toRowW d [] (fun f vs => PySem.call f vs) := by
  refine Att.attach_callB hn hdf fun w s₀ s₁ mg mb fa o pm cd doc a vs ns G Y ho hd hcd hmg hobj hints hlen _ hg => ?_
  have KX := hY w _ Y
  have hl : ns.length ≤ sizeLine := Nat.le_trans hlen hn2
  obtain ⟨fd, hb, hF⟩ := F w mg fa _ KX G.T.g hmg
  have hobj : s₁.heap.get? a = some (scrO vs) := hobj
  generalize hH : scr (K w.params) a vs ns = H
  have ns' : ∀ {b : Addr} {m : Str → Option Value}, s₁.heap.Ns b m → (hidT s₁.heap H).Ns b m := fun ⟨o, es, ep, e, d, r⟩ => ⟨o, es, ep, hidT_get e (hH ▸ scr_dict hobj e d), d, r⟩
  have kin : (K w.params).In (hidT s₁.heap H) := fun b o e => hidT_get (KX b o e) (hH ▸ scr_free b o e)
  have okH : HOk l.prog w H s₁.heap := hH ▸ scr_ok hobj hints hl
  have only : Only H := hH ▸ scr_only
  have env : Env0 l.prog w (K w.params) mg (hidT s₁.heap H) callerA [] s₁ H := by
    refine ⟨rfl, ⟨kin, ns' G.T.g, ⟨mb, ns' G.T.b, G.T.builtins⟩, ?_⟩, fun b o e => of_hidT e, Nat.le_of_eq (hidT_size _ _), trivial, fun b z => (nomatch z), okH, .of_eq hg⟩
    obtain ⟨mc, h1, h2⟩ := G.T.nolimit
    exact ⟨mc, ns' h1, h2⟩
  have sq : SqL (K w.params) H a (ns.map V.int) := hH ▸ scr_sq KX hobj hints hl
  refine codeAny_mono ((hF _ kin (ns' G.T.g)).run callerA [] s₁ H ⟨[.ref a], []⟩ [.ref a] [.ref a] _ _ room rfl env (hb s₁ (.ref a)) (.cons rfl .nil) (hsp w H a ns hlen only sq)) fun r s' z => ?_
  match r, z with
  | .error _, z => exact False.elim z
  | .ok .next, z => exact False.elim z
  | .ok .brk, z => exact False.elim z
  | .ok .cont, z => exact False.elim z
  | .ok (.ret u), ⟨v, H', os, bare, un, ok', rel, qv⟩ =>
    have ev : v = .bl true := qv
    subst ev
    obtain rfl : u = Value.bool true := rel
    refine ⟨rfl, OldK.of_keep fun b o e => ?_, os, bare⟩
    rcases only b with z | ⟨ob, xs, z⟩
    · exact un.keep b o e z (fun y => nomatch y) (fun y => nomatch y)
    · have z2 := un.frzs b ob _ z
      have e1 := (okH b _ z).1
      rw [e] at e1
      cases e1
      exact (ok' b _ z2).1
end

/-- e.f, the written part named -/
theorem pe_fldK {X : Cx} (K : PySem.W.Frag) (hK : X.K = K) {e : Expr} {f : Str} {pos : Pos} {ta : TE} (he : PE X e ta) (hb : attributeBase e f X.env (eval e X.env) = eval e X.env) : PE X (.Attribute e f pos) (tFld K ta f) := by
  subst hK
  exact pe_fld he hb
end Cr

/-! Cr2: == and != where an own __eq__ answers, str() by an own __str__. -/
namespace Cr
open PySem PySem.Spec PyProof.Rows L2

/-- what the text says of a class with an own ==: f the def; ne the inherited != -/
structure OwnE (K : PySem.W.Frag) (C f : Addr) : Prop where
  eq : PySem.W.findIn K (.ref C) "__eq__" = some (some (.ref f))
  fn : PySem.W.isFn K (.ref f) = true
  ne : PySem.W.findIn K (.ref C) "__ne__" = some (some (.builtin "object.__ne__"))
  ob : PySem.W.mroIn K C (.type "object") = some true
  noL : PySem.W.mroIn K C (.type "list") = some false
  noT : PySem.W.mroIn K C (.type "tuple") = some false
  noD : PySem.W.mroIn K C (.type "dict") = some false
  noS : PySem.W.mroIn K C (.type "str") = some false
  noI : PySem.W.mroIn K C (.type "int") = some false
  noB : PySem.W.mroIn K C (.type "bool") = some false
  noN : PySem.W.mroIn K C (.type "NoneType") = some false

section
variable {prog : Program} {w : World} {A : Around} {E : Value → Shared → Prop} {s : Shared} {K : PySem.W.Frag} {x C f : Addr} {ox : Obj} {od : Option Obj}
/-- T's own == declines, then the instance's is asked -/
theorem rc_back {y : Value} {T ide : String} {Q : Value → Shared → Prop} (hu : A.units < cLine) (ty : s.TypeIs y T) (X : K.In s.heap) (J : PySem.W.InstAt s.heap x ox C od) (hsub : PySem.W.mroIn K C (.type T) = some false)
    (slot : Slot T "__eq__" ide) (hs : PySem.W.findIn K (.ref C) "__eq__" = some (some (.ref f))) (hf : PySem.W.isFn K (.ref f) = true)
    (dec : ∀ Q' : Value → Shared → Prop, Q' .notImplemented s → wpAny (model prog w) A (call (.builtin ide) [y, .ref x]) Q' E s)
    (h : wpAny (model prog w) A (call (.ref f) [.ref x, y]) (PySem.W.CmpBack Q) E s) : wpAny (model prog w) A (richCompare .Eq y (.ref x)) Q E s := by
  have two : wpAny (model prog w) A (tryCompare (.ref x) "__eq__" y) (fun r s' => ∃ v, r = some v ∧ Q v s') E s := by
    unfold tryCompare
    refine wpAny_bind (PySem.W.ifBound_K X J hs hf (wpAny_mono h (fun v s' hv => ?_) fun _ _ e => e))
    cases v <;> first | exact hv.elim | exact wpAny_pure ⟨_, rfl, hv⟩
  unfold richCompare
  rw [ty.oneThing_none]
  refine wpAny_holding (wpAny_bind (wpAny_cRoomFor hu ?_))
  refine wpAny_bind (wpAny_typeOf ty (wpAny_bind (J.type.here ?_)))
  rw [show (Value.type T != Value.ref C) = true from rfl, if_pos rfl]
  refine wpAny_bind ((PySem.W.looks_mroIn X hsub).here ?_)
  simp only [Bool.false_eq_true, if_false, Bool.not_false, if_true]
  refine wpAny_bind (m := tryCompare y _ (.ref x)) (wpAny_tryCompare_declines ty slot (dec _ ⟨rfl, ?_⟩))
  refine wpAny_bind (m := tryCompare (.ref x) _ y) (wpAny_mono two (fun r s' z => ?_) fun _ _ e => e)
  obtain ⟨v, rfl, hq⟩ := z
  exact wpAny_pure hq

/-! the built-in types' own == declines -/
theorem dec_none {Q' : Value → Shared → Prop} (h : Q' .notImplemented s) : wpAny (model prog w) A (call (.builtin "NoneType.__eq__") [.none, .ref x]) Q' E s := by
  refine GQ.call_here F.slot_NoneType_eq rfl F.entry_NoneType_eq (F.args_NoneType_eq_2 _ _) ?_
  wp_walk
  exact h
theorem dec_list {a : Addr} {Q' : Value → Shared → Prop} (ty : s.TypeIs (.ref a) "list") (X : K.In s.heap) (J : PySem.W.InstAt s.heap x ox C od) (hsub : PySem.W.mroIn K C (.type "list") = some false) (h : Q' .notImplemented s) :
    wpAny (model prog w) A (call (.builtin "list.__eq__") [.ref a, .ref x]) Q' E s := by
  refine GQ.call_here F.slot_list_eq ty F.entry_list_eq (F.args_list_eq_2 _ _) ?_
  have hi : PySem.W.Looks (model prog w) s.heap (isInstance (.ref x) (.type "list")) false := J.type.andThen (PySem.W.looks_mroIn X hsub)
  wp_walk using hi.here
  exact h
theorem dec_tuple {a : Addr} {Q' : Value → Shared → Prop} (ty : s.TypeIs (.ref a) "tuple") (X : K.In s.heap) (J : PySem.W.InstAt s.heap x ox C od) (hsub : PySem.W.mroIn K C (.type "tuple") = some false) (h : Q' .notImplemented s) :
    wpAny (model prog w) A (call (.builtin "tuple.__eq__") [.ref a, .ref x]) Q' E s := by
  refine GQ.call_here F.slot_tuple_eq ty F.entry_tuple_eq (F.args_tuple_eq_2 _ _) ?_
  have hi : PySem.W.Looks (model prog w) s.heap (isInstance (.ref x) (.type "tuple")) false := J.type.andThen (PySem.W.looks_mroIn X hsub)
  wp_walk using hi.here
  exact h
theorem dec_dict {a : Addr} {Q' : Value → Shared → Prop} (ty : s.TypeIs (.ref a) "dict") (X : K.In s.heap) (J : PySem.W.InstAt s.heap x ox C od) (hsub : PySem.W.mroIn K C (.type "dict") = some false) (h : Q' .notImplemented s) :
    wpAny (model prog w) A (call (.builtin "dict.__eq__") [.ref a, .ref x]) Q' E s := by
  refine GQ.call_here F.slot_dict_eq ty F.entry_dict_eq (F.args_dict_eq_2 _ _) ?_
  have hi : PySem.W.Looks (model prog w) s.heap (isInstance (.ref x) (.type "dict")) false := J.type.andThen (PySem.W.looks_mroIn X hsub)
  wp_walk using hi.here
  exact h
theorem dec_str {z : Str} {t : Tok} {Q' : Value → Shared → Prop} (hx : s.heap.get? x = some ox) (hp : ox.data = .plain) (h : Q' .notImplemented s) :
    wpAny (model prog w) A (call (.builtin "str.__eq__") [.str z t, .ref x]) Q' E s := by
  obtain ⟨oc, odd, dt, sl⟩ := ox
  simp only at hp
  subst hp
  refine GQ.call_here F.slot_str_eq rfl F.entry_str_eq (F.args_str_eq_2 _ _) ?_
  wp_walk
  exact h
theorem dec_int {i : Int} {t : Tok} {Q' : Value → Shared → Prop} (hx : s.heap.get? x = some ox) (hp : ox.data = .plain) (h : Q' .notImplemented s) :
    wpAny (model prog w) A (call (.builtin "int.__eq__") [.int i t, .ref x]) Q' E s := by
  obtain ⟨oc, odd, dt, sl⟩ := ox
  simp only at hp
  subst hp
  refine GQ.call_here F.slot_int_eq rfl F.entry_int_eq (F.args_int_eq_2 _ _) ?_
  wp_walk
  exact h
theorem bound_B {name : Str} {id : String} {args : List Value} {Q : Option Value → Shared → Prop} (X : K.In s.heap) (J : PySem.W.InstAt s.heap x ox C od) (hs : PySem.W.findIn K (.ref C) name = some (some (.builtin id)))
    (hb : ∀ self, bindSpecial (.builtin id) self = pure (.builtin id, [self])) (h : wpAny (model prog w) A (call (.builtin id) (.ref x :: args)) (fun v => Q (some v)) E s) : wpAny (model prog w) A (callSpecialIfBound? (.ref x) name args) Q E s := by
  have go : ∀ (T : Sem (Option (Value × List Value))), T = (do return some (← bindSpecial (.builtin id) (.ref x))) → wpAny (model prog w) A T (fun r s' => r = some (.builtin id, [.ref x]) ∧ s' = s) E s := by
    rintro T rfl
    exact wpAny_bind ((PySem.W.Looks.of_pure (hb _)).here (wpAny_pure ⟨rfl, rfl⟩))
  simp only [callSpecialIfBound?, bindSpecialIfBound?]
  refine wpAny_holding (wpAny_bind (wpAny_bind (wpAny_bind (J.type.here ((PySem.W.looks_findIn X hs).here ?_)))))
  refine wpAny_bind (wpAny_askSetting (wpAny_ite ?_))
  have fin : wpAny (model prog w) A (call (.builtin id) ([.ref x] ++ args) >>= fun v => pure (some v)) Q E s := wpAny_bind (wpAny_mono h (fun v s' z => wpAny_pure z) fun _ _ z => z)
  split
  · exact wpAny_mono (go _ rfl) (fun r s' ⟨a, b⟩ => by subst a b; exact fin) fun _ _ z => z
  · exact wpAny_tryCatch (wpAny_bind ((PySem.W.Looks.of_pure (hb _)).here (wpAny_pure (by exact fin))))
/-- x != y by the inherited !=, which asks the own == -/
theorem rc_ne {y ty : Value} {Q : Value → Shared → Prop} (hu : A.units + 1 < cLine) (X : K.In s.heap) (J : PySem.W.InstAt s.heap x ox C od) (O : OwnE K C f) (hb : PySem.W.Looks (model prog w) s.heap (typeOf y) ty) (hn : PySem.W.notFirst K C ty = true)
    (h : wpAny (model prog w) A.in1 (call (.ref f) [.ref x, y]) (fun v s' => ∃ b, v = .bool b ∧ Q (.bool (!b)) s') E s) : wpAny (model prog w) A (richCompare .NotEq (.ref x) y) Q E s := by
  have ne : ∀ Q' : Value → Shared → Prop, (∀ v s', (∃ b, v = .bool (!b) ∧ Q (.bool (!b)) s') → Q' v s') → wpAny (model prog w) A (call (.builtin "object.__ne__") [.ref x, y]) Q' E s := by
    intro Q' hQ
    refine wpAny_call (codeAny_call_builtin F.slot_object_ne.plain F.entry_object_ne (PySem.W.check_slot (i := "object.__ne__") (owner := "object") (n := "__ne__") (by decide +kernel) (by decide +kernel) (J.type.andThen (PySem.W.looks_mroIn X O.ob)) (F.args_object_ne_2 _ _) ?_))
    unfold Builtin.«object.__ne__»
    refine wpAny_bind (m := slotArgs "__ne__" 1 _) (wpAny_pure ?_)
    refine wpAny_bind (m := cRoomFor _ _) (wpAny_cRoomFor (by show A.units + 1 < cLine; exact hu) ?_)
    refine wpAny_bind (m := callSpecialIfBound? (.ref x) (Str.ofString "__eq__") _) (PySem.W.ifBound_K X J O.eq O.fn (wpAny_mono h (fun r s' hq => ?_) fun _ _ z => z))
    obtain ⟨b, rfl, hq⟩ := hq
    refine wpAny_bind (wpAny_truthy_bool (wpAny_pure ?_))
    exact hQ _ _ ⟨b, rfl, hq⟩
  have one : wpAny (model prog w) A (tryCompare (.ref x) "__ne__" y) (fun r s' => ∃ v, r = some v ∧ Q v s') E s := by
    unfold tryCompare
    refine wpAny_bind (bound_B X J O.ne F.slot_object_ne.bind (ne _ fun v s' z => ?_))
    obtain ⟨b, rfl, q⟩ := z
    exact wpAny_pure ⟨_, rfl, q⟩
  unfold richCompare
  rw [oneThing_ref]
  refine wpAny_holding (wpAny_bind (wpAny_cRoomFor (by omega) ?_))
  refine wpAny_bind (J.type.here (wpAny_bind (hb.here ?_)))
  by_cases e : ty = .ref C
  · subst e
    rw [if_neg (by simp)]
    refine wpAny_bind (wpAny_pure ?_)
    simp only [Bool.false_eq_true, if_false]
    refine wpAny_bind (wpAny_mono one (fun r s' z => ?_) fun _ _ z => z)
    obtain ⟨v, rfl, q⟩ := z
    exact wpAny_pure q
  · have e1 : PySem.W.subIn K ty (.ref C) = some false := by
      rcases Bool.or_eq_true_iff.mp hn with z | z
      · exact absurd (beq_iff_eq.mp z) e
      · exact beq_iff_eq.mp z
    rw [if_pos (by simp [bne, beq_iff_eq]; exact fun z => e z.symm)]
    refine wpAny_bind ((PySem.W.looks_subIn X e1).here ?_)
    simp only [Bool.false_eq_true, if_false]
    refine wpAny_bind (wpAny_mono one (fun r s' z => ?_) fun _ _ z => z)
    obtain ⟨v, rfl, q⟩ := z
    exact wpAny_pure q
end

/-! ### in, index: the list read anew at each turn -/
section
variable {prog : Program} {w : World} {A : Around} {R : Result → Shared → Prop} {E : Value → Shared → Prop}
def ReadsL (I : Nat → Shared → Prop) (l : Addr) (N : Nat) (T : Nat → Value → Shared → Prop) : Prop :=
  ∀ i s, I i s → ∃ (items : Array Value) (n : Nat), s.heap.get? l = some { cls := .type "list", data := .seq items n } ∧ items.size = N ∧ ∀ h : i < items.size, T i items[i] s
theorem contains_loopG (l : Addr) (x : Value) (N : Nat) (I : Nat → Shared → Prop)
    (hl : ReadsL I l N fun i y s => wpAny (model prog w) A.in1 (eqBool y x) (fun r s' => if r = true then R (.ok (.ret (.bool true))) s' else I (i + 1) s') (fun e s' => R (.error e) s') s)
    (fin : ∀ s, I N s → R (.ok (.ret (.bool false))) s) : ∀ k i : Nat, N - i = k → i ≤ N → ∀ s, I i s →
      wpAny (model prog w) A.in1 (Builtin.«list.__contains__.loop» ⟨[.ref l, x, rawInt i], []⟩) (GQ.FinOf prog w A R) (fun e s' => R (.error e) s') s := by
  intro k
  induction k with
  | zero =>
    intro i hk hi s h
    obtain ⟨items, n, hl1, hs1, _⟩ := hl _ _ h
    have ei : i = N := by omega
    have hR := fin s (ei ▸ h)
    have hnone : items[((i : Nat) : Int).toNat]? = none := by simp; omega
    obtain ⟨hp, g, d, tk, os⟩ := s
    wp_walk using AutoSeq1.wpAny_loadPart' hl1
    rw [hnone]
    wp_walk
    exact hR
  | succ k ih =>
    intro i hk hi s h
    obtain ⟨items, n, hl1, hs1, turn⟩ := hl _ _ h
    have hlt : i < items.size := by omega
    have ht := turn hlt
    have hsome : items[((i : Nat) : Int).toNat]? = some items[i] := by simp [hlt]
    have hc : ((i : Int) + 1) = ((i + 1 : Nat) : Int) := by omega
    obtain ⟨hp, g, d, tk, os⟩ := s
    wp_walk using AutoSeq1.wpAny_loadPart' hl1
    rw [hsome]
    refine wpAny_bind (wpAny_mono ht (fun r s2 h2 => ?_) fun _ _ z => z)
    cases r with
    | true =>
      rw [if_pos rfl] at h2 ⊢
      exact wpAny_pure h2
    | false =>
      rw [if_neg Bool.false_ne_true] at h2 ⊢
      have hrec := ih (i + 1) (by omega) (by omega) s2 h2
      rw [hc]
      refine wpAny_pure ⟨plainId_quiet MeetsSeq.plain_contains_loop _, codeAny_builtin MeetsSeq.entry_contains_loop (by
        rw [Around.under_plainId MeetsSeq.plain_contains_loop _]
        exact hrec)⟩
theorem index_loopG (l : Addr) (x : Value) (N : Nat) (upto : Int) (hN : (N : Int) < upto) (I : Nat → Shared → Prop)
    (hl : ReadsL I l N fun i y s => wpAny (model prog w) A.in1 (eqBool y x) (fun r s' => if r = true then (∀ t k, R (.ok (.ret (.int i t))) { s' with toks := k }) else I (i + 1) s') (fun e s' => R (.error e) s') s)
    (fin : ∀ s, I N s → False) : ∀ k i : Nat, N - i = k → i ≤ N → ∀ s, I i s →
      wpAny (model prog w) A.in1 (Builtin.«list.index.loop» ⟨[.ref l, x, rawInt i, rawInt upto], []⟩) (GQ.FinOf prog w A R) (fun e s' => R (.error e) s') s := by
  intro k
  induction k with
  | zero =>
    intro i hk hi s h
    have ei : i = N := by omega
    exact (fin s (ei ▸ h)).elim
  | succ k ih =>
    intro i hk hi s h
    obtain ⟨items, n, hl1, hs1, turn⟩ := hl _ _ h
    have hlt : i < items.size := by omega
    have ht := turn hlt
    have hsome : (if (i : Int) < upto then items[((i : Nat) : Int).toNat]? else none) = some items[i] := by
      rw [if_pos (by omega)]
      simp [hlt]
    have hc : ((i : Int) + 1) = ((i + 1 : Nat) : Int) := by omega
    obtain ⟨hp, g, d, tk, os⟩ := s
    wp_walk using AutoSeq1.wpAny_loadPart' hl1
    rw [hsome]
    refine wpAny_bind (wpAny_mono ht (fun r s2 h2 => ?_) fun _ _ z => z)
    cases r with
    | true =>
      rw [if_pos rfl] at h2 ⊢
      obtain ⟨hp2, g2, d2, tk2, os2⟩ := s2
      wp_walk
      exact h2 _ _
    | false =>
      rw [if_neg Bool.false_ne_true] at h2 ⊢
      have hrec := ih (i + 1) (by omega) (by omega) s2 h2
      rw [hc]
      refine wpAny_pure ⟨plainId_quiet MeetsSeq.plain_index_loop _, codeAny_builtin MeetsSeq.entry_index_loop (by
        rw [Around.under_plainId MeetsSeq.plain_index_loop _]
        exact hrec)⟩
end

/-! ### over the layer -/
section
variable {X : Cx} {CX : CXT} {k : Nat} {f C : Addr} {fd : FuncData} {ps : List Str} {sp : Sp}
theorem run_at {A : Around} {E : XK} {pins : List (Addr × Obj)} {σ : L2.St} {H : Hp} {s : Shared} {Q : VK} {us : List Value} {vs : List V} (F : FnOk X.prog X.w X.K X.mg X.base CX k f fd ps sp) (room : Room k A) (fr : A.frames = X.A.frames)
    (hb : Binds X.K fd ps []) (hx : Passes CX X E) (I : Inv X pins σ H s) (r : Vals vs us) (h : sp vs H Q E) : wpAny (model X.prog X.w) A (call (.ref f) us) (EP X pins σ Q) X.xe s := by
  have hl : us.length = ps.length := r.length.symm.trans (F.len _ _ _ _ h)
  have e := I.env0
  have b := hb s us I.kIn (by rw [List.append_nil]; exact hl)
  rw [List.append_nil] at b
  refine wpAny_call (codeAny_mono (F.run A X.stack s H ⟨us, []⟩ us vs Q E room ⟨fr.trans e.frames, e.mod, e.bs, e.bsz, e.funs, e.frf, e.hok, e.bare⟩ b r h) fun r s' q => ?_)
  match r, q with
  | .error e, q => exact hx pins σ H s e s' I q
  | .ok (.ret u), q => exact I.after q
/-- an own == answers b, and K of it -/
def OwnB (K : Bool → Hp → Prop) : VK := fun v H' => ∃ r, v = .bl r ∧ K r H'
theorem inst_at {pins : List (Addr × Obj)} {σ : L2.St} {H : Hp} {s : Shared} {a dx : Addr} {fs : List (Str × V)} (I : Inv X pins σ H s) (h : H a = some (.ins C dx fs)) :
    ∃ od, PySem.W.InstAt s.heap a (PySem.W.instObj C dx) C od := by
  obtain ⟨mA, J, _⟩ := ins_get I.hok h
  obtain ⟨od, J, _⟩ := J.look
  exact ⟨od, J⟩
theorem eq_run {A : Around} {pins : List (Addr × Obj)} {σ : L2.St} {H : Hp} {s : Shared} {a dx : Addr} {fs : List (Str × V)} {y : V} {u t : Value} {K : Bool → Hp → Prop} (O : OwnE X.K C f) (F : FnOk X.prog X.w X.K X.mg X.base CX0 k f fd ps sp)
    (hb : Binds X.K fd ps []) (room : Room k A) (fr : A.frames = X.A.frames) (I : Inv X pins σ H s) (ha : H a = some (.ins C dx fs)) (ry : RelV y u) (ty : TyX X.K H y t) (hn : PySem.W.notFirst X.K C t = true) (h : sp [.ref a, y] H (OwnB K) E0) :
    wpAny (model X.prog X.w) A (richCompare .Eq (.ref a) u) (fun v s' => ∃ b H', v = .bool b ∧ Inv X pins σ H' s' ∧ K b H') X.xe s := by
  obtain ⟨od, J⟩ := inst_at I ha
  obtain ⟨P, Z, p, _⟩ := kit_of I ry ty
  obtain ⟨m, hF⟩ := I.fr
  refine PySem.W.cmp_K (op := .Eq) room.units0 hF I.ok.mod.kin J (Z.ty _ _ I.kIn p) hn O.eq O.fn ?_
  refine wpAny_mono (run_at F room fr hb pass0 I (vs := [.ref a, y]) (us := [.ref a, u]) (.cons rfl (.cons ry .nil)) h) (fun v s' z => ?_) fun _ _ z => z
  obtain ⟨w, H', I', rw', b, rfl, q⟩ := z
  obtain rfl : v = .bool b := rw'
  exact ⟨b, H', rfl, I', q⟩
/-- x == y, x an instance of the class with an own == -/
theorem op_eqO (O : OwnE X.K C f) (F : FnOk X.prog X.w X.K X.mg X.base CX0 k f fd ps sp) (hb : Binds X.K fd ps []) (room : Room k X.A) :
    OpR X (compareOp .Eq) (fun x y H Q => ∃ a dx fs t, x = .ref a ∧ H a = some (.ins C dx fs) ∧ TyX X.K H y t ∧ PySem.W.notFirst X.K C t = true ∧ sp [.ref a, y] H (OwnB fun r H' => Q (.bl r) H') E0) := by
  intro pins s σ H x y v u Q I rx ry h
  obtain ⟨a, dx, fs, t, rfl, ha, ty, hn, h⟩ := h
  cases rx
  show wpAny _ _ (richCompare .Eq (.ref a) u) _ _ _
  refine wpAny_mono (eq_run O F hb room rfl I ha ry ty hn h) (fun v s' z => ?_) fun _ _ z => z
  obtain ⟨b, H', rfl, I', q⟩ := z
  exact ⟨.bl b, H', I', rfl, q⟩
theorem op_neO (O : OwnE X.K C f) (F : FnOk X.prog X.w X.K X.mg X.base CX0 k f fd ps sp) (hb : Binds X.K fd ps []) (room : Room (k + 1) X.A) :
    OpR X (compareOp .NotEq) (fun x y H Q => ∃ a dx fs t, x = .ref a ∧ H a = some (.ins C dx fs) ∧ TyX X.K H y t ∧ PySem.W.notFirst X.K C t = true ∧ sp [.ref a, y] H (OwnB fun r H' => Q (.bl (!r)) H') E0) := by
  intro pins s σ H x y v u Q I rx ry h
  obtain ⟨a, dx, fs, t, rfl, ha, ty, hn, h⟩ := h
  cases rx
  show wpAny _ _ (richCompare .NotEq (.ref a) u) _ _ _
  obtain ⟨od, J⟩ := inst_at I ha
  obtain ⟨P, Z, p, _⟩ := kit_of I ry ty
  refine rc_ne (by have := room.un; omega) I.kIn J O (Z.ty _ _ I.kIn p) hn (wpAny_mono (run_at F room.in1 rfl hb pass0 I (vs := [.ref a, y]) (us := [.ref a, u]) (.cons rfl (.cons ry .nil)) h) (fun v s' z => ?_) fun _ _ z => z)
  obtain ⟨w, H', I', rw', b, rfl, q⟩ := z
  obtain rfl : v = .bool b := rw'
  exact ⟨b, rfl, .bl (!b), H', I', rfl, q⟩
/-- what stands left of == : its own == declines -/
inductive Bk (K : PySem.W.Frag) (H : Hp) : V → Prop where
  | non : Bk K H .non
  | int (i : Int) : Bk K H (.int i)
  | str (z : Str) : Bk K H (.str z)
  | lst {a : Addr} {xs : List V} (h : SqL K H a xs) : Bk K H (.ref a)
  | tup {a : Addr} {xs : List V} (h : SqT K H a xs) : Bk K H (.ref a)
  | dK {a : Addr} {kvs : List (Key × V)} (h : H a = some (.dK kvs)) : Bk K H (.ref a)
theorem op_eqB (O : OwnE X.K C f) (F : FnOk X.prog X.w X.K X.mg X.base CX0 k f fd ps sp) (hb : Binds X.K fd ps []) (room : Room k X.A) :
    OpR X (compareOp .Eq) (fun x y H Q => ∃ a dx fs, y = .ref a ∧ H a = some (.ins C dx fs) ∧ Bk X.K H x ∧ sp [.ref a, x] H (OwnB fun r H' => Q (.bl r) H') E0) := by
  intro pins s σ H x y v u Q I rx ry h
  obtain ⟨a, dx, fs, rfl, ha, bk, h⟩ := h
  cases ry
  show wpAny _ _ (richCompare .Eq v (.ref a)) _ _ _
  obtain ⟨od, J⟩ := inst_at I ha
  have go : wpAny (model X.prog X.w) X.A (call (.ref f) [.ref a, v]) (PySem.W.CmpBack (EP X pins σ Q)) X.xe s := by
    refine wpAny_mono (run_at F room rfl hb pass0 I (vs := [.ref a, x]) (us := [.ref a, v]) (.cons rfl (.cons rx .nil)) h) (fun v s' z => ?_) fun _ _ z => z
    obtain ⟨w, H', I', rw', b, rfl, q⟩ := z
    obtain rfl : v = .bool b := rw'
    exact ⟨.bl b, H', I', rfl, q⟩
  have kin := I.kIn
  have hu := room.units0
  cases bk with
  | non =>
    cases rx
    exact rc_back hu rfl kin J O.noN PySem.F.slot_NoneType_eq O.eq O.fn (fun Q' q => dec_none q) go
  | int i =>
    obtain ⟨t, rfl⟩ := rx
    exact rc_back hu rfl kin J O.noI PySem.F.slot_int_eq O.eq O.fn (fun Q' q => dec_int J.at_ rfl q) go
  | str z =>
    obtain ⟨t, rfl⟩ := rx
    exact rc_back hu rfl kin J O.noS PySem.F.slot_str_eq O.eq O.fn (fun Q' q => dec_str J.at_ rfl q) go
  | lst hs =>
    cases rx
    obtain ⟨its, r, pl, hz⟩ := I.list hs
    exact rc_back hu pl.isList.typeIs kin J O.noL PySem.F.slot_list_eq O.eq O.fn (fun Q' q => dec_list pl.isList.typeIs kin J O.noL q) go
  | tup hs =>
    cases rx
    obtain ⟨its, r, ⟨o, ho, hc, _⟩, hz⟩ := I.tuple hs
    have ty : s.TypeIs (.ref _) "tuple" := ⟨o, ho, hc⟩
    exact rc_back hu ty kin J O.noT PySem.F.slot_tuple_eq O.eq O.fn (fun Q' q => dec_tuple ty kin J O.noT q) go
  | dK hd =>
    cases rx
    obtain ⟨_, _, vs, _, dd⟩ := dk_of I.hok hd
    exact rc_back hu dd.typeIs kin J O.noD PySem.F.slot_dict_eq O.eq O.fn (fun Q' q => dec_dict dd.typeIs kin J O.noD q) go

/-- == inside a list, of two instances -/
def eqW (sp : Sp) (C : Addr) (z x : V) (H : Hp) (K : Bool → Hp → Prop) : Prop :=
  ∃ a b dx dy fs gs, z = .ref a ∧ x = .ref b ∧ H a = some (.ins C dx fs) ∧ H b = some (.ins C dy gs) ∧ (a = b → K true H) ∧ (a ≠ b → sp [.ref a, .ref b] H (OwnB K) E0)
theorem eqW_run {A : Around} {pins : List (Addr × Obj)} {σ : L2.St} {H : Hp} {s : Shared} {z x : V} {u v : Value} {K : Bool → Hp → Prop} (O : OwnE X.K C f) (cl : Cls X.K C) (tyO : ∀ {H : Hp} {b dy : Addr} {gs : List (Str × V)}, H b = some (.ins C dy gs) → TyX X.K H (.ref b) (.ref C))
    (F : FnOk X.prog X.w X.K X.mg X.base CX0 k f fd ps sp) (hb : Binds X.K fd ps []) (room : Room k A) (fr : A.frames = X.A.frames) (I : Inv X pins σ H s) (rz : RelV z u) (rx : RelV x v) (h : eqW sp C z x H K) :
    wpAny (model X.prog X.w) A (eqBool u v) (fun r s' => ∃ H', Inv X pins σ H' s' ∧ K r H') X.xe s := by
  obtain ⟨a, b, dx, dy, fs, gs, rfl, rfl, ha, hb', h1, h2⟩ := h
  cases rz
  cases rx
  by_cases e : a = b
  · subst e
    exact SeqAt.EqAt.same (A := A) (s := s) (.ref a) X.prog X.w X.xe _ ⟨H, I, h1 rfl⟩
  · refine GQ.eqBool_refG e (wpAny_mono (eq_run O F hb room fr I ha (y := .ref b) rfl (tyO hb') (by simp [PySem.W.notFirst]) (h2 e)) (fun w s' q => ?_) fun _ _ q => q)
    obtain ⟨r, H', rfl, I', q⟩ := q
    exact ⟨r, rfl, H', I', q⟩
end
end Cr

/-! Cr3: in and index by an own ==, str() by an own __str__, == of dicts. -/
namespace Cr
open PySem PySem.Spec PyProof.Rows L2

section
variable {X : Cx} {CX : CXT} {k : Nat} {f C : Addr} {fd : FuncData} {ps : List Str} {sp : Sp}
/-- z in all, from the items that are left -/
def inW (sp : Sp) (C l : Addr) (all : List V) (x : V) : List V → Hp → VK → Prop
  | [], H, Q => Q (.bl false) H
  | z :: r, H, Q => eqW sp C z x H fun b H' => (b = true → Q (.bl true) H') ∧ (b = false → H' l = some (.lst all) ∧ inW sp C l all x r H' Q)
/-- the place of x in all: j items were passed -/
def ixW (sp : Sp) (C l : Addr) (all : List V) (x : V) : Nat → List V → Hp → VK → Prop
  | _, [], _, _ => False
  | j, z :: r, H, Q => eqW sp C z x H fun b H' => (b = true → Q (.int j) H') ∧ (b = false → H' l = some (.lst all) ∧ ixW sp C l all x (j + 1) r H' Q)
/-- the class's facts for a type told by an instance -/
structure OwnT (K : PySem.W.Frag) (C : Addr) : Prop where
  cl : Cls K C
  ty : ∀ {H : Hp} {b dy : Addr} {gs : List (Str × V)}, H b = some (.ins C dy gs) → TyX K H (.ref b) (.ref C)
theorem op_inO (O : OwnE X.K C f) (T : OwnT X.K C) (F : FnOk X.prog X.w X.K X.mg X.base CX0 k f fd ps sp) (hb : Binds X.K fd ps []) (room : Room (k + 2) X.A) :
    OpR X (compareOp .In) (fun x y H Q => ∃ l all, y = .ref l ∧ H l = some (.lst all) ∧ inW sp C l all x all H Q) := by
  intro pins s σ H x y v u Q I rx ry h
  obtain ⟨l, all, rfl, hl, h⟩ := h
  cases ry
  obtain ⟨z0, its0, n0, r0, e0⟩ := (show ObjOk X.prog X.w H s.heap l (.lst all) from I.hok l _ hl)
  have ty : s.TypeIs (.ref l) "list" := ⟨_, e0, rfl⟩
  show wpAny (model X.prog X.w) X.A (do return Value.bool (← contains (.ref l) v)) (EP X pins σ Q) X.xe s
  refine wpAny_bind (wpAny_contains_slot ty PySem.F.slot_list_contains (Q := fun b s' => wpAny (model X.prog X.w) X.A (pure (Value.bool b)) (EP X pins σ Q) X.xe s') ?_)
  refine GQ.call_here PySem.F.slot_list_contains ty PySem.F.entry_list_contains (PySem.F.args_list_contains_2 _ _) ?_
  have key : ∀ (b : Bool) (H' : Hp) (s' : Shared), Inv X pins σ H' s' → Q (.bl b) H' →
      wants (fun r s' => wpAny (model X.prog X.w) X.A (truthy r) (fun b s' => wpAny (model X.prog X.w) X.A (pure (Value.bool b)) (EP X pins σ Q) X.xe s') X.xe s') X.xe (.ok (.ret (.bool b))) s' := by
    intro b H' s' I' q
    exact wpAny_truthy_bool (wpAny_pure ⟨.bl b, H', I', rfl, q⟩)
  have loop := contains_loopG (prog := X.prog) (w := X.w) (A := X.A) (R := wants (fun r s' => wpAny (model X.prog X.w) X.A (truthy r) (fun b s' => wpAny (model X.prog X.w) X.A (pure (Value.bool b)) (EP X pins σ Q) X.xe s') X.xe s') X.xe) l v all.length
    (fun i s' => ∃ H', Inv X pins σ H' s' ∧ H' l = some (.lst all) ∧ inW sp C l all x (all.drop i) H' Q)
    (fun i s' ⟨H', I', hl', h'⟩ => by
      obtain ⟨z1, its, n1, r1, e1⟩ := (show ObjOk X.prog X.w H' s'.heap l (.lst all) from I'.hok l _ hl')
      refine ⟨its.toArray, n1, e1, by rw [List.size_toArray, ← r1.length], fun hi => ?_⟩
      have hi' : i < all.length := by rw [r1.length]; simpa using hi
      obtain ⟨u, hu, ru⟩ := r1.get (List.getElem?_eq_getElem hi')
      have eu : its.toArray[i] = u := by
        have hi2 : i < its.length := by simpa using hi
        rw [List.getElem?_eq_getElem hi2] at hu
        simpa using hu
      rw [eu]
      rw [List.drop_eq_getElem_cons hi'] at h'
      refine wpAny_mono (eqW_run O T.cl (fun h => T.ty h) F hb (Room.mono room.in1 (by omega)) rfl I' ru rx h') (fun r s2 q => ?_) fun _ _ q => q
      obtain ⟨H2, I2, q1, q2⟩ := q
      cases r with
      | true => rw [if_pos rfl]; exact key true H2 s2 I2 (q1 rfl)
      | false =>
        rw [if_neg Bool.false_ne_true]
        obtain ⟨a1, a2⟩ := q2 rfl
        exact ⟨H2, I2, a1, a2⟩)
    (fun s' ⟨H', I', hl', h'⟩ => by
      rw [List.drop_length] at h'
      exact key false H' s' I' h') all.length 0 (by omega) (Nat.zero_le _) s ⟨H, I, hl, by rw [List.drop_zero]; exact h⟩
  obtain ⟨hp, g, d, tk, os⟩ := s
  wp_walk using AutoSeq1.wpAny_loadPart' e0
  exact ⟨plainId_quiet MeetsSeq.plain_contains_loop _, codeAny_builtin MeetsSeq.entry_contains_loop (by
    rw [Around.under_plainId MeetsSeq.plain_contains_loop _]
    exact loop)⟩
theorem mt_indexO (O : OwnE X.K C f) (T : OwnT X.K C) (F : FnOk X.prog X.w X.K X.mg X.base CX0 k f fd ps sp) (hb : Binds X.K fd ps []) (room : Room (k + 2) X.A) :
    MtR X "list.index" (fun o xs H Q => ∃ l all x, o = .ref l ∧ xs = [x] ∧ H l = some (.lst all) ∧ ixW sp C l all x 0 all H Q) := by
  intro pins s σ H o xs v us Q I ro rxs h
  obtain ⟨l, all, x, rfl, rfl, hl, h⟩ := h
  cases ro
  obtain ⟨vx, rfl, rx⟩ := vals1 rxs
  obtain ⟨z0, its0, n0, r0, e0⟩ := (show ObjOk X.prog X.w H s.heap l (.lst all) from I.hok l _ hl)
  have ty : s.TypeIs (.ref l) "list" := ⟨_, e0, rfl⟩
  refine GQ.call_here PySem.F.slot_list_index ty PySem.F.entry_list_index (PySem.F.args_list_index_2 _ _) ?_
  have hN : (all.length : Int) < 2 ^ 63 - 1 := by rw [sizeLine_eq] at z0; omega
  have loop := index_loopG (prog := X.prog) (w := X.w) (A := X.A) (R := wants (EP X pins σ Q) X.xe) l vx all.length (2 ^ 63 - 1) hN
    (fun i s' => ∃ H', Inv X pins σ H' s' ∧ H' l = some (.lst all) ∧ ixW sp C l all x i (all.drop i) H' Q)
    (fun i s' ⟨H', I', hl', h'⟩ => by
      obtain ⟨z1, its, n1, r1, e1⟩ := (show ObjOk X.prog X.w H' s'.heap l (.lst all) from I'.hok l _ hl')
      refine ⟨its.toArray, n1, e1, by rw [List.size_toArray, ← r1.length], fun hi => ?_⟩
      have hi' : i < all.length := by rw [r1.length]; simpa using hi
      obtain ⟨u, hu, ru⟩ := r1.get (List.getElem?_eq_getElem hi')
      have eu : its.toArray[i] = u := by
        have hi2 : i < its.length := by simpa using hi
        rw [List.getElem?_eq_getElem hi2] at hu
        simpa using hu
      rw [eu]
      rw [List.drop_eq_getElem_cons hi'] at h'
      refine wpAny_mono (eqW_run O T.cl (fun h => T.ty h) F hb (Room.mono room.in1 (by omega)) rfl I' ru rx h') (fun r s2 q => ?_) fun _ _ q => q
      obtain ⟨H2, I2, q1, q2⟩ := q
      cases r with
      | true => rw [if_pos rfl]; exact fun t kk => ⟨.int i, H2, I2.tok kk, ⟨t, rfl⟩, q1 rfl⟩
      | false =>
        rw [if_neg Bool.false_ne_true]
        obtain ⟨a1, a2⟩ := q2 rfl
        exact ⟨H2, I2, a1, a2⟩)
    (fun s' ⟨H', I', hl', h'⟩ => by
      rw [List.drop_length] at h'
      exact h') all.length 0 (by omega) (Nat.zero_le _) s ⟨H, I, hl, by rw [List.drop_zero]; exact h⟩
  obtain ⟨hp, g, d, tk, os⟩ := s
  wp_walk using AutoSeq1.wpAny_loadPart' e0
  have a1 : ((fun i : Int => if i < 0 then max 0 (i + (its0.toArray.size : Int)) else i) ((none : Option Int).getD 0)) = ((0 : Nat) : Int) := by simp
  have a2 : ((fun i : Int => if i < 0 then max 0 (i + (its0.toArray.size : Int)) else i) ((none : Option Int).getD (2 ^ 63 - 1))) = 2 ^ 63 - 1 := by simp
  rw [a1, a2]
  exact ⟨plainId_quiet MeetsSeq.plain_index_loop _, codeAny_builtin MeetsSeq.entry_index_loop (by
    rw [Around.under_plainId MeetsSeq.plain_index_loop _]
    exact loop)⟩
/-- str(o) by an own __str__ -/
theorem call_strO (hs : PySem.W.findIn X.K (.ref C) "__str__" = some (some (.ref f))) (hf : PySem.W.isFn X.K (.ref f) = true) (F : FnOk X.prog X.w X.K X.mg X.base CX0 k f fd ps sp) (hb : Binds X.K fd ps []) (room : Room (k + 2) X.A) :
    CallR X (.type "str") (fun xs H Q => ∃ a dx fs, xs = [.ref a] ∧ H a = some (.ins C dx fs) ∧ sp [.ref a] H (fun v H' => ∃ z, v = .str z ∧ Q (.str z) H') E0) := by
  intro pins s σ H xs us Q I r h
  obtain ⟨a, dx, fs, rfl, ha, h⟩ := h
  obtain ⟨u, rfl, ru⟩ := vals1 r
  cases ru
  obtain ⟨od, J⟩ := inst_at I ha
  refine PySem.W.kso_call (by have := room.un; show X.A.units + 1 + 1 < cLine; omega) I.kIn J hs hf ?_
  refine wpAny_mono (run_at F (room.in1.in1.mono (by omega)) rfl hb pass0 I (vs := [.ref a]) (us := [.ref a]) (.cons rfl .nil) h) (fun v s' z => ?_) fun _ _ z => z
  obtain ⟨w, H', I', rw', b, rfl, q⟩ := z
  obtain ⟨t, rfl⟩ : ∃ t, v = .str b t := rw'
  exact ⟨.str b, H', I', ⟨t, rfl⟩, q⟩
end

/-! ### d == e of dicts with flat values -/
def dEq (ks ls : List (Key × V)) : Bool := ks.length == ls.length && ks.all fun p => match valV ls p.1 with
  | some v => eqV p.2 v
  | none => false
theorem hits_any {A : Around} {s : Shared} {ls : List (Key × V)} {vb : List (Key × Value)} (rb : KV ls vb) (fl : ∀ p ∈ ls, flatV p.2 = true) {ks : List (Key × V)} {va : List (Key × Value)} (ra : KV ks va) :
    (∀ p ∈ ks, flatV p.2 = true) → PySem.W.KeqHits A s vb va (ks.all fun p => match valV ls p.1 with | some v => eqV p.2 v | none => false) := by
  unfold KV at ra
  induction ra with
  | nil => intro _; exact .nil
  | @cons p q ps qs h t ih =>
    intro hp
    obtain ⟨h1, h2⟩ := h
    obtain ⟨k, v⟩ := q
    have h1' : p.1 = k := h1
    have ih' := ih fun p' hm => hp p' (List.mem_cons_of_mem _ hm)
    rw [List.all_cons]
    have rr : RelO (valV ls p.1) (valueAt vb p.1) := rb.val p.1
    cases e : valV ls p.1 with
    | none =>
      rw [e] at rr
      cases e2 : valueAt vb p.1 with
      | none =>
        rw [h1'] at e2
        exact .miss e2
      | some y => rw [e2] at rr; exact rr.elim
    | some y =>
      rw [e] at rr
      obtain ⟨z, hz, rz⟩ := rr.some_of
      rw [h1'] at hz
      have fy : flatV y = true := by
        unfold valV at e
        obtain ⟨kv, hkv, rfl⟩ := Option.map_eq_some_iff.mp e
        exact fl kv (List.mem_of_find?_eq_some hkv)
      exact .hit hz (eqAt_V h2 rz (hp p List.mem_cons_self) fy) ih'
theorem op_eqDK {X : Cx} (hu : X.A.units < cLine) : OpR X (compareOp .Eq) (fun x y H Q => ∃ a b ks ls, x = .ref a ∧ y = .ref b ∧ H a = some (.dK ks) ∧ H b = some (.dK ls) ∧ (∀ p ∈ ks, flatV p.2 = true) ∧ (∀ p ∈ ls, flatV p.2 = true) ∧ Q (.bl (dEq ks ls)) H) := by
  intro pins s σ H x y v u Q I rx ry h
  obtain ⟨a, b, ks, ls, rfl, rfl, ea, eb, f1, f2, q⟩ := h
  cases rx
  cases ry
  obtain ⟨_, ya, va, ra, da⟩ := dk_of I.hok ea
  obtain ⟨_, yb, vb, rb, db⟩ := dk_of I.hok eb
  refine PySem.W.keq_eq (knd := mixKind X.prog X.w) ya yb da db hu (fun _ => hits_any rb f2 ra f1) ⟨.bl (dEq ks ls), H, I, ?_, q⟩
  show Value.bool _ = Value.bool _
  rw [← ra.length, ← rb.length]
  rfl
end Cr

/-! CrT: texts: joins, sorted signs. -/
namespace Cr
open PySem L2
theorem str_ext {x y : Str} (h : x.cps.toList = y.cps.toList) : x = y := by
  cases x; cases y
  simp at h
  simp [h]
theorem glue_fold (g : Str) : ∀ (r : List Str) (acc : Array Nat), (r.foldl (fun acc p => acc ++ g.cps ++ p.cps) acc).toList = acc.toList ++ (r.map fun p => g.cps.toList ++ p.cps.toList).flatten
  | [], acc => by simp
  | p :: r, acc => by
    rw [List.foldl_cons, glue_fold g r]
    simp
theorem join_list (g : Str) (x : Str) (r : List Str) : (Txt.join g (x :: r)).cps.toList = x.cps.toList ++ (r.map fun p => g.cps.toList ++ p.cps.toList).flatten := by
  exact glue_fold g r x.cps
theorem empty_cps : ("" : Str).cps = #[] := by decide +kernel
theorem join0 : ∀ ys : List Str, (Txt.join "" ys).cps.toList = (ys.map (·.cps.toList)).flatten
  | [] => by decide +kernel
  | x :: r => by
    rw [join_list, empty_cps]
    simp
theorem join0_len (ys : List Str) (n : Nat) (h : ∀ y ∈ ys, y.length = 1) (hn : ys.length = n) : (Txt.join "" ys).length = n := by
  have e : (Txt.join "" ys).length = (Txt.join "" ys).cps.toList.length := by simp [Str.length]
  rw [e, join0, List.length_flatten]
  subst hn
  clear e
  induction ys with
  | nil => rfl
  | cons y r ih =>
    have h1 := h y List.mem_cons_self
    have h2 := ih fun z hz => h z (List.mem_cons_of_mem _ hz)
    simp only [List.map_cons, List.sum_cons, List.length_cons]
    rw [h2]
    have : y.cps.toList.length = 1 := by simpa [Str.length] using h1
    omega
/-- small letters -/
def lets (z : Str) : Prop := ∀ c ∈ z.cps.toList, 97 ≤ c ∧ c ≤ 122
theorem lets_join {ys : List Str} (h : ∀ y ∈ ys, lets y) : lets (Txt.join "" ys) := by
  intro c hc
  rw [join0] at hc
  obtain ⟨l, hl, hcl⟩ := List.mem_flatten.mp hc
  obtain ⟨y, hy, rfl⟩ := List.mem_map.mp hl
  exact h y hy c hcl
theorem lets_rev {z : Str} (h : lets z) : lets (revS z) := fun c hc => h c (by simpa [revS] using hc)
theorem lets_ok {z : Str} (h : lets z) : PyData.strOk z = true := by
  unfold PyData.strOk
  rw [Array.all_eq_true']
  intro x hx
  have := h x (by simpa using hx)
  simp only [decide_eq_true_eq]
  omega
/-! ### the one sorted list -/
def leS (a b : Str) : Prop := ¬ b.cps.toList < a.cps.toList
theorem leS_trans {a b c : Str} (h1 : leS a b) (h2 : leS b c) : leS a c := List.le_trans (α := Nat) h1 h2
theorem leS_antisymm {a b : Str} (h1 : leS a b) (h2 : leS b a) : a = b := str_ext (List.le_antisymm (α := Nat) h1 h2)
open PyProof.Rows in
theorem pw_rising : ∀ (r : List Str) (x : Str), risingS x r = true → (x :: r).Pairwise leS
  | [], x, _ => by simp
  | y :: r, x, h => by
    unfold risingS at h
    rw [Bool.and_eq_true, ltCps_eq] at h
    have hx : leS x y := by
      unfold leS
      simpa using h.1
    have ih := pw_rising r y h.2
    refine List.pairwise_cons.mpr ⟨fun z hz => ?_, ih⟩
    rcases List.mem_cons.mp hz with rfl | hz
    · exact hx
    · exact leS_trans hx ((List.pairwise_cons.mp ih).1 z hz)
open PyProof.Rows in
theorem pw_sorted {l : List Str} (h : sortedS l = true) : l.Pairwise leS := by
  cases l with
  | nil => exact List.Pairwise.nil
  | cons x r => exact pw_rising r x h
theorem sorted_one {l m : List Str} (hl : l.Pairwise leS) (hm : m.Pairwise leS) (p : l.Perm m) : l = m :=
  List.Perm.eq_of_pairwise (fun a b _ _ h1 h2 => leS_antisymm h1 h2) hl hm p
/-- a fixed way to sort: by insertion -/
def insS (x : Str) : List Str → List Str
  | [] => [x]
  | y :: r => if y.cps.toList < x.cps.toList then y :: insS x r else x :: y :: r
def srtL : List Str → List Str
  | [] => []
  | x :: r => insS x (srtL r)
theorem insS_perm (x : Str) : ∀ l : List Str, (insS x l).Perm (x :: l)
  | [] => List.Perm.refl _
  | y :: r => by
    unfold insS
    split
    · exact ((insS_perm x r).cons y).trans (List.Perm.swap x y r)
    · exact List.Perm.refl _
theorem srtL_perm : ∀ l : List Str, (srtL l).Perm l
  | [] => List.Perm.refl _
  | x :: r => (insS_perm x (srtL r)).trans ((srtL_perm r).cons x)
theorem insS_pw (x : Str) : ∀ l : List Str, l.Pairwise leS → (insS x l).Pairwise leS
  | [], _ => by simp [insS]
  | y :: r, h => by
    obtain ⟨h1, h2⟩ := List.pairwise_cons.mp h
    unfold insS
    split
    · next c =>
      refine List.pairwise_cons.mpr ⟨fun z hz => ?_, insS_pw x r h2⟩
      rcases List.mem_cons.mp ((insS_perm x r).mem_iff.mp hz) with rfl | hz
      · exact List.lt_asymm c
      · exact h1 z hz
    · next c =>
      refine List.pairwise_cons.mpr ⟨fun z hz => ?_, h⟩
      rcases List.mem_cons.mp hz with rfl | hz
      · exact c
      · exact leS_trans c (h1 z hz)
theorem srtL_pw : ∀ l : List Str, (srtL l).Pairwise leS
  | [] => List.Pairwise.nil
  | x :: r => insS_pw x _ (srtL_pw r)
open PyProof.Rows in
theorem sorted_is {ys l : List Str} (p : ys.Perm l) (h : sortedS ys = true) : ys = srtL l :=
  sorted_one (pw_sorted h) (srtL_pw l) (p.trans (srtL_perm l).symm)
theorem srtL_filter (f : Str → Bool) (l : List Str) : (srtL l).filter f = srtL (l.filter f) :=
  sorted_one ((srtL_pw l).filter f) (srtL_pw _) (((srtL_perm l).filter f).trans (srtL_perm _).symm)
/-- a text's signs in order -/
def srt (z : Str) : Str := Txt.join "" (srtL (signs z))
theorem sign_len {z y : Str} (h : y ∈ signs z) : y.length = 1 := by
  obtain ⟨c, _, rfl⟩ := List.mem_map.mp h
  rfl
theorem srt_len (z : Str) : (srt z).length = z.length :=
  join0_len _ _ (fun y hy => sign_len ((srtL_perm _).mem_iff.mp hy)) (by rw [(srtL_perm _).length_eq, signs_len])
theorem srt_lets {z : Str} (h : lets z) : lets (srt z) := lets_join fun y hy => by
  obtain ⟨c, hc, rfl⟩ := List.mem_map.mp ((srtL_perm _).mem_iff.mp hy)
  intro d hd
  have : d = c := by simpa using hd
  subst this
  exact h d hc
end Cr

/-! Cr4: comprehensions over a locked dict's keys. -/
namespace Cr
open PySem L2
section
variable {d : Addr} {o : Obj} {kvs : List (Key × V)} {g : TG} {tt : TT} {te tk tv : TE} {vs : List Nat} {σ : L2.St} {H1 : Hp} {D : Addr} {Qd : Hp → Prop}
theorem lc_keys (Pv : Nat → Hp → Prop) (h0 : Pv 0 (upd H1 D (.lst []))) (hl : ∀ i H, i ≤ kvs.length → Pv i H → H d = some (.frz o (.dK kvs)))
    (hs : ∀ i k v H, kvs[i]? = some (k, v) → Pv i H → g (kV k) (wipe σ vs) H fun σ2 H2 => wipe σ2 vs = wipe σ vs ∧ tt σ2 H2 fun b H3 =>
      if b = true then te σ2 H3 fun y H4 => ∃ acc, H4 D = some (.lst acc) ∧ acc.length < sizeLine ∧ Pv (i + 1) (upd H4 D (.lst (acc ++ [y]))) else Pv (i + 1) H3) (hd : ∀ H, Pv kvs.length H → Qd H) :
    ∃ W : Nat → Nat → Hp → Prop, (∃ m, W 0 m (upd H1 D (.lst []))) ∧ ∀ i m H, W i m H → ((Itk d o kvs).stop i H ∧ Qd H) ∨ ((Itk d o kvs).go i H ∧ ∃ Nx : Hp → Prop, (∀ H', Nx H' → ∃ m', m' < m ∧ W (i + 1) m' H') ∧
      ∀ x H', (Itk d o kvs).yld i H x H' → g x (wipe σ vs) H' fun σ2 H2 => wipe σ2 vs = wipe σ vs ∧ tt σ2 H2 fun b H3 =>
        if b = true then te σ2 H3 fun y H4 => ∃ acc, H4 D = some (.lst acc) ∧ acc.length < sizeLine ∧ Nx (upd H4 D (.lst (acc ++ [y]))) else Nx H3) := by
  refine ⟨fun i m H => m + i = kvs.length ∧ Pv i H, ⟨kvs.length, rfl, h0⟩, fun i m H ⟨em, p⟩ => ?_⟩
  have q := hl i H (by omega) p
  by_cases c : i < kvs.length
  · refine .inr ⟨⟨q, c⟩, Pv (i + 1), fun H' p' => ⟨m - 1, by omega, by omega, p'⟩, fun x H' y => ?_⟩
    obtain ⟨rfl, k, v, e, rfl⟩ := y
    exact hs i k v _ e p
  · obtain rfl : i = kvs.length := by omega
    exact .inl ⟨⟨q, Nat.le_refl _⟩, hd H p⟩
theorem dc_keys (Pv : Nat → Hp → Prop) (h0 : Pv 0 (upd H1 D (.dK []))) (hl : ∀ i H, i ≤ kvs.length → Pv i H → H d = some (.frz o (.dK kvs)))
    (hs : ∀ i k v H, kvs[i]? = some (k, v) → Pv i H → g (kV k) (wipe σ vs) H fun σ2 H2 => wipe σ2 vs = wipe σ vs ∧ tt σ2 H2 fun b H3 =>
      if b = true then tk σ2 H3 fun y H4 => tv σ2 H4 fun z H5 => ∃ ls k, y = kV k ∧ H5 D = some (.dK ls) ∧ ls.length < sizeLine ∧ Pv (i + 1) (upd H5 D (.dK (putK ls k z))) else Pv (i + 1) H3) (hd : ∀ H, Pv kvs.length H → Qd H) :
    ∃ W : Nat → Nat → Hp → Prop, (∃ m, W 0 m (upd H1 D (.dK []))) ∧ ∀ i m H, W i m H → ((Itk d o kvs).stop i H ∧ Qd H) ∨ ((Itk d o kvs).go i H ∧ ∃ Nx : Hp → Prop, (∀ H', Nx H' → ∃ m', m' < m ∧ W (i + 1) m' H') ∧
      ∀ x H', (Itk d o kvs).yld i H x H' → g x (wipe σ vs) H' fun σ2 H2 => wipe σ2 vs = wipe σ vs ∧ tt σ2 H2 fun b H3 =>
        if b = true then tk σ2 H3 fun y H4 => tv σ2 H4 fun z H5 => ∃ ls k, y = kV k ∧ H5 D = some (.dK ls) ∧ ls.length < sizeLine ∧ Nx (upd H5 D (.dK (putK ls k z))) else Nx H3) := by
  refine ⟨fun i m H => m + i = kvs.length ∧ Pv i H, ⟨kvs.length, rfl, h0⟩, fun i m H ⟨em, p⟩ => ?_⟩
  have q := hl i H (by omega) p
  by_cases c : i < kvs.length
  · refine .inr ⟨⟨q, c⟩, Pv (i + 1), fun H' p' => ⟨m - 1, by omega, by omega, p'⟩, fun x H' y => ?_⟩
    obtain ⟨rfl, k, v, e, rfl⟩ := y
    exact hs i k v _ e p
  · obtain rfl : i = kvs.length := by omega
    exact .inl ⟨⟨q, Nat.le_refl _⟩, hd H p⟩
end
/-- a locked dict is read -/
theorem dg_frz {H : Hp} {d : Addr} {o : Obj} {kvs : List (Key × V)} {k : Key} {v : V} (h : H d = some (.frz o (.dK kvs))) (e : valV kvs k = some v) : DGet H d (kV k) (some v) := .inl ⟨kvs, k, .inr ⟨o, h⟩, rfl, e.symm⟩
/-- what stands but for the locked d stands again behind the lock -/
theorem same_lock {H H' : Hp} {d : Addr} {u : HO} (hd : H d = some u) (h : ∀ a x, a ≠ d → H a = some x → H' a = some x) : Same H (upd H' d u) := fun a x e => by
  by_cases c : a = d
  · subst c
    rw [hd] at e
    rw [upd_same]
    exact e
  · rw [upd_ne c]
    exact h a x c e
theorem filter_take_yes {α : Type} {l : List α} {f : α → Bool} {i : Nat} {x : α} (e : l[i]? = some x) (h : f x = true) : (l.take (i + 1)).filter f = (l.take i).filter f ++ [x] := by
  rw [List.take_add_one, e, List.filter_append]
  simp [h]
theorem filter_take_no {α : Type} {l : List α} {f : α → Bool} {i : Nat} {x : α} (e : l[i]? = some x) (h : f x = false) : (l.take (i + 1)).filter f = (l.take i).filter f := by
  rw [List.take_add_one, e, List.filter_append]
  simp [h]
end Cr

/-! CrX1: own exception classes straight over any built-in one: made, their fields stored. -/
namespace Cr
open PySem PySem.Spec PyProof.Rows L2
/-- what the written part says of such a class -/
structure ExB (K : PySem.W.Frag) (C : Addr) (B newId initId : String) (tl : List Value) : Prop where
  fb : ExcBaseFacts B newId initId tl
  sf : StoreFacts B tl "object.__setattr__" "object"
  ii : PySem.W.excInitIn K C tl newId = true
  ov : PySem.W.excOver K C tl = true
  hd : PySem.W.hasDictIn K C = true
  sa : PySem.W.findIn K (.ref C) "__setattr__" = some (some (.builtin "object.__setattr__"))
  ga : PySem.W.findIn K (.ref C) "__getattribute__" = some (some (.builtin "BaseException.__getattribute__"))
  gt : ∃ g, PySem.W.findIn K (.ref C) "__getattr__" = some g
  exC : PySem.W.subIn K (.ref C) (.type "BaseException") = some true
  tyC : PySem.W.typeIn K (.ref C) = some (.type "type")
  kC : PySem.W.keepIn K (.ref C) = true
  ci : PySem.W.isClsIn K C = true
  ca : PySem.W.findIn K (.ref C) "__class__" = some (some (.builtin "object.__class__"))
  cn : PySem.W.specialIn K (.builtin "object.__class__") "__get__" = some (some (.builtin "getset_descriptor.__get__"))
  ct : PySem.W.takesIn K (.builtin "object.__class__") = some true
  ob : PySem.W.mroIn K C (.type "object") = some true
section
variable {X : Cx} {pins : List (Addr × Obj)} {σ : L2.St} {H : Hp} {s : Shared} {a C dx : Addr} {f : Str} {y : V} {u : Value} {fs : List (Str × V)} {Q : Unit → Shared → Prop} {E : Value → Shared → Prop} {A : Around} {B newId initId : String} {tl : List Value}
/-- the first field: the dict at dx is new, the exception at a names it now -/
theorem xinv_new {h' : Heap} {tk : Nat} {t1 : Addr} {mA : Str → Option Value} (I : Inv X pins σ H s) (e : H a = some (exo a C none)) (ha : s.heap.get? a = some (PySem.W.excObj C t1 none .none)) (k : ∀ b o, b ≠ a → s.heap.get? b = some o → h'.get? b = some o)
    (dn : s.heap.objs.size ≤ dx) (hx : h'.get? a = some (PySem.W.excObj C t1 (some dx) .none)) (hn : h'.Ns1 dx mA) (rel : ∀ g, RelO (fs.lookup g) (mA g)) :
    Inv X pins σ (upd (upd H dx (exd dx fs)) a (exo a C (some dx))) { s with heap := h', toks := tk } := by
  have nda : dx ≠ a := fun z => absurd (Heap.lt_size ha) (Nat.not_lt.mpr (z ▸ dn))
  -- between: the dict is laid, the exception is as it was
  generalize hm : h'.update a (fun _ => PySem.W.excObj C t1 none .none) = h1
  have h1a : h1.get? a = some (PySem.W.excObj C t1 none .none) := by rw [← hm]; exact Heap.get?_update_self _ hx rfl
  have h1b : ∀ b, b ≠ a → h1.get? b = h'.get? b := fun b hb => by rw [← hm]; exact Heap.get?_update_other _ _ (Ne.symm hb)
  have J := I.laid (t' := tk) (a := dx) (o := exd dx fs) (h' := h1) (fun b o q => by
    by_cases hb : b = a
    · subst hb
      rw [ha] at q
      rw [h1a]; exact q
    · rw [h1b b hb]; exact k b o hb q) dn (exd_ok (hn.at fun o q => by rw [h1b dx nda]; exact q) rel)
  have eJ : (upd H dx (exd dx fs)) a = some (exo a C none) := by rw [upd_ne (Ne.symm nda)]; exact e
  exact J.write (x := a) (e := a) (o := exo a C (some dx)) (t' := tk) (h' := h') (by rw [eJ]; exact True.intro) (.inl rfl) (fun b o hb q => by rw [← h1b b hb]; exact q) ⟨_, hx⟩ (exo_ok hx)
theorem xst_new (T : ExB X.K C B newId initId tl) (I : Inv X pins σ H s) (e : H a = some (exo a C none)) (hno : NoAttr X.K C f) (ry : RelV y u)
    (h : ∀ dx s', H dx = none → dx ≠ a → Inv X pins σ (upd (upd H dx (exd dx [(f, y)])) a (exo a C (some dx))) s' → Q () s') : wpAny (model X.prog X.w) A (setAttr (.ref a) f u) Q E s := by
  obtain ⟨t1, ho⟩ := exo_at I.hok e
  obtain ⟨hp, g, d, t, os⟩ := s
  have IA : PySem.W.InstAt hp a (PySem.W.excObj C t1 none .none) C none := ⟨ho, rfl, rfl, trivial⟩
  refine PySem.W.set_plain I.kIn IA T.sa (PySem.W.osa_openX T.sf I.kIn IA T.ov hno.taker fun b => ?_)
  obtain ⟨cd, hc, hdd⟩ := PySem.W.any_some T.hd
  refine wpAny_bind (wpAny_pure (wpAny_bind (PySem.W.instanceDict_exc (t := t1) (c2 := .none) ho (PySem.W.looks_clsIn I.kIn hc) hdd ?_)))
  have ho' : hp.get? a = some (PySem.W.excObj C t1 none .none) := ho
  have hxs : a ≠ hp.objs.size := Nat.ne_of_lt (Heap.lt_size ho')
  show wpAny _ _ (Builtin.ObjectAttr.storeInDict hp.objs.size _ f u) _ _ ⟨(hp.push (PySem.W.dictOf [] 0)).update a fun o => { o with dict := some hp.objs.size }, g, d, t + 1, os⟩
  generalize hh2 : ((hp.push (PySem.W.dictOf [] 0)).update a fun o => { o with dict := some hp.objs.size }) = h2
  have h2a : h2.get? a = some (PySem.W.excObj C t1 (some hp.objs.size) .none) := by rw [← hh2]; exact Heap.get?_update_self _ (Heap.get?_push_of_some _ ho') rfl
  have h2b : ∀ b o, b ≠ a → hp.get? b = some o → h2.get? b = some o := fun b o hb q => by rw [← hh2, Heap.get?_update_other _ _ (Ne.symm hb)]; exact Heap.get?_push_of_some _ q
  have h2d : h2.Ns hp.objs.size (fun _ => none) := by
    refine ⟨PySem.W.dictOf [] 0, #[], 0, ?_, rfl, fun en q => absurd q (by simp), fun _ => rfl⟩
    rw [← hh2, Heap.get?_update_other _ _ hxs]
    exact Heap.get?_push_at rfl rfl
  refine PySem.HandSPX.store_in_new h2d fun h' tk' hn hs => ?_
  have hfree : H hp.objs.size = none := I.hok.fresh (Nat.le_refl _)
  refine h hp.objs.size _ hfree (Ne.symm hxs) (xinv_new (s := ⟨hp, g, d, t, os⟩) (tk := tk') I e ho' (fun b o hb q => (hs.2 b (Nat.ne_of_lt (Heap.lt_size q))).trans (h2b b o hb q)) (Nat.le_refl _) ((hs.2 a hxs).trans h2a) hn (relO_put (fs := []) ry fun g => True.intro))
theorem xst_old (T : ExB X.K C B newId initId tl) (I : Inv X pins σ H s) (e : H a = some (exo a C (some dx))) (ed : H dx = some (exd dx fs)) (hl : fs.length ≤ 900) (hno : NoAttr X.K C f) (ry : RelV y u)
    (h : ∀ s', Inv X pins σ (upd H dx (exd dx ((f, y) :: fs))) s' → Q () s') : wpAny (model X.prog X.w) A (setAttr (.ref a) f u) Q E s := by
  obtain ⟨t1, ho⟩ := exo_at I.hok e
  obtain ⟨mA, hns, rel⟩ := exd_at I.hok ed
  have hw := within_of rel
  obtain ⟨hp, g, d, t, os⟩ := s
  obtain ⟨oD, _, _, hoD, _, _⟩ := hns.count hw
  have IA : PySem.W.InstAt hp a (PySem.W.excObj C t1 (some dx) .none) C (some oD) := ⟨ho, rfl, rfl, hoD⟩
  refine PySem.W.set_plain I.kIn IA T.sa (PySem.W.osa_openX T.sf I.kIn IA T.ov hno.taker fun b => ?_)
  obtain ⟨cd, hc, hdd⟩ := PySem.W.any_some T.hd
  have ho' : hp.get? a = some (PySem.W.excObj C t1 (some dx) .none) := ho
  have di : ∀ {Q' : Option Addr → Shared → Prop} {E' : Value → Shared → Prop} {s' : Shared}, s'.heap = hp → Q' (some dx) s' → wpAny (model X.prog X.w) A.in1 (instanceDict a true) Q' E' s' := by
    intro Q' E' s' es q
    unfold instanceDict
    refine wpAny_bind (wpAny_loadPart (by rw [es]; exact ho') ?_)
    refine wpAny_bind ((PySem.W.looks_clsIn I.kIn hc) _ _ _ _ (fun _ _ z => by rw [es]; exact z) ?_)
    rw [hdd]
    exact wpAny_pure q
  refine wpAny_bind (wpAny_pure (wpAny_bind (di rfl ?_)))
  show wpAny _ _ (Builtin.ObjectAttr.storeInDict dx _ f u) _ _ _
  refine PySem.OEX.store_in_old hns hw (by rw [List.length_map]; omega) fun h' tk' hn hs => ?_
  have hd : ∃ o, h'.get? dx = some o := by
    obtain ⟨o, _, _, e', _⟩ := hn
    exact ⟨o, e'⟩
  exact h _ (I.write (t' := tk') (x := dx) (e := dx) (o := exd dx ((f, y) :: fs)) (by rw [ed]; exact True.intro) (.inl rfl) (fun b o hb q => (hs.2 b hb).trans q) hd (exd_ok hn (relO_put ry rel)))
/-- B.__init__(self, ..) -/
theorem xinit_ok {us : List Value} {R : Value → Shared → Prop} (T : ExB X.K C B newId initId tl) (I : Inv X pins σ H s) (e : H a = some (exo a C none)) (hl : us.length ≤ sizeLine) (h : ∀ s', Inv X pins σ H s' → R .none s') :
    wpAny (model X.prog X.w) A (call (.builtin initId) (.ref a :: us)) R E s := by
  obtain ⟨nm, N, qn, bs, bm, hd, sn, sub, ab, col, dd, k0, k1, k2, k3, k5, hC, hT⟩ := PySem.W.excInit_of I.kIn T.ii
  obtain ⟨t1, ho⟩ := exo_at I.hok e
  obtain ⟨hp, g, d, t, os⟩ := s
  refine wpAny_call (PySem.HandSPX.init_base T.fb hT hC ho hl fun h' t2 k hx => ?_)
  have J := I.write (t' := t) (x := a) (e := a) (o := exo a C none) (by rw [e]; exact True.intro) (.inl rfl) k ⟨_, hx⟩ (exo_ok hx)
  have same : upd H a (exo a C none) = H := by
    funext b
    by_cases hb : b = a
    · subst hb; rw [upd_same, e]
    · rw [upd_ne hb]
  rw [same] at J
  exact h _ J
end
end Cr

/-! CrX2: rules for __init__ of such classes, and for making them. -/
namespace Cr
open PySem PySem.Spec PyProof.Rows L2
/-- the built-in class B by its name x -/
structure BltE (K : PySem.W.Frag) (x : Str) (B initId : String) : Prop where
  boot : bootBuiltins x = some (.type B)
  ty : typeOf (.type B) = pure (.type "type")
  st : Manifest.isStub B = false
  fi : PySem.W.findCls K (.type B) (.type "type") "__init__" = some (.val (.builtin initId))
  hi : PySem.W.handedIn (.builtin initId) = true
section
variable {X : Cx} {o e : Expr} {es : List Expr} {to te : TE} {ta : TA} {f x : Str} {p p' p1 p2 pos : Pos} {C : Addr} {B newId initId : String} {tl : List Value}
/-- B.__init__(self, ..) -/
def tBI (C : Addr) (ta : TA) : TE := fun σ H Q => ta σ H fun vs H1 => ∃ (a : Addr) (ws : List V), vs = .ref a :: ws ∧ ws.length ≤ 1000 ∧ H1 a = some (exo a C none) ∧ Q .non H1
theorem pe_bi {pl : Sem Bool} (T : ExB X.K C B newId initId tl) (hB : BltE X.K x B initId) (hg : Gl X x) (hm : X.mg x = none) (ha : PA X (e :: es) ta) (hn : x ≠ "__name__" := by decide) (hdb : (x == ("__debug__" : Str)) = false := by decide)
    (hc : eval (.Call (.Attribute (.Name x p1) "__init__" p2) (e :: es) [] pos) X.env = (do
      let z ← eval (.Name x p1) X.env
      standAt p2.atName
      let (g, fst) ← holding [z] (getMethod z "__init__" pl)
      callWith pos g fst (backTo pos (starEach (e :: es) X.env)) (backToKw pos (keywordEach [] X.env))) := by rfl)
    (he : starEach (e :: es) X.env = (false, eval e X.env) :: starEach es X.env := by rfl) (hpl : (backTo pos (starEach es X.env)).any (·.1) = false := by rfl) :
    PE X (.Call (.Attribute (.Name x p1) "__init__" p2) (e :: es) [] pos) (tBI C ta) := by
  refine ⟨fun pins s σ H Q I h => PySem.W.methodCall_KW (ld_blt I hg hm hB.boot ?_ hn hdb) hc⟩
  obtain ⟨m, fr⟩ := I.fr
  refine PySem.W.method_type fr I.ok.mod.kin hB.ty hB.st hB.fi hB.hi ?_
  show wpAny _ _ (callWith pos (Value.builtin initId) [] (backTo pos (starEach (e :: es) X.env)) []) _ _ _
  refine PyProof.Rows.callWith_method1 (thn (ha.run pos pins _ σ H _ (I.tok _) h) fun us s1 z => ?_) he hpl
  obtain ⟨vs, H1, J, rv, a, ws, rfl, hl, ea, q⟩ := z
  cases rv with
  | @cons _ v0 _ vr r0 rr =>
    obtain rfl : v0 = Value.ref a := r0
    have hlen : vr.length ≤ sizeLine := by
      have := Paired.length rr
      rw [sizeLine_eq]; omega
    exact xinit_ok T J ea hlen fun s' J' => ⟨.non, H1, J', rfl, q⟩
/-- self.f = e in such an __init__ -/
def tXst (C : Addr) (f : Str) (to te : TE) : TS := fun D σ H => te σ H fun y H1 => to σ H1 fun z H2 => ∃ a : Addr, z = .ref a ∧
  ((H2 a = some (exo a C none) ∧ ∀ dx, H2 dx = none → dx ≠ a → D.nx σ (upd (upd H2 dx (exd dx [(f, y)])) a (exo a C (some dx)))) ∨
    ∃ (dx : Addr) (fs : List (Str × V)), H2 a = some (exo a C (some dx)) ∧ H2 dx = some (exd dx fs) ∧ fs.length ≤ 900 ∧ D.nx σ (upd H2 dx (exd dx ((f, y) :: fs))))
theorem ps_xst (T : ExB X.K C B newId initId tl) (hno : NoAttr X.K C f) (ho : PE X o to) (he : PE X e te) (hs : swapsWith e (some (.Attribute o f p')) pos.line X.env = pure false := by rfl) :
    PS X (.Assign [.Attribute o f p'] e pos) (tXst C f to te) := by
  refine ⟨fun pins s σ H D I h => plainObj_wpAny_Assign_Attribute (thn (he.run pins s σ H _ I h) fun v s1 z1 => ?_) hs⟩
  obtain ⟨y, H1, I1, r1, q1⟩ := z1
  refine thn (ho.run pins s1 σ H1 _ I1 q1) fun u s2 z2 => ?_
  obtain ⟨z, H2, I2, r2, a, rfl, q⟩ := z2
  obtain rfl : u = Value.ref a := r2
  rcases q with ⟨ea, q⟩ | ⟨dx, fs, ea, ed, hl, q⟩
  · exact xst_new T I2 ea hno r1 fun dx s' n ne J => ⟨σ, _, J, q dx n ne⟩
  · exact xst_old T I2 ea ed hl hno r1 fun s' J => ⟨σ, _, J, q⟩
/-- C(e, ..) -/
theorem pmk_x {CX : CXT} {fI : Addr} {k : Nat} {fd : FuncData} {ps : List Str} {sp : Sp} (T : ExB X.K C B newId initId tl) (M : Meth X.K C "__init__" fI) (F1 : FnOk X.prog X.w X.K X.mg X.base CX k fI fd ps sp) (hr : Room (k + 1) X.A)
    (hb : Binds X.K fd ps []) (hx : Passes CX X (fun _ _ _ => False)) (hg : Gl X x) (hm : X.mg x = some (.ref C)) (ha : PA X (e :: es) ta) (hdb : (x == ("__debug__" : Str)) = false := by decide)
    (he : starEach (e :: es) X.env = (false, eval e X.env) :: starEach es X.env := by rfl) (hpl : (backTo pos (starEach es X.env)).any (·.1) = false := by rfl) :
    PMk X (.Call (.Name x p) (e :: es) [] pos) (tMkO C sp [] ta) := by
  intro pins s σ H Q I h
  refine wpAny_Call_Name_kw (ld_glob I hg hm (PySem.W.callWith_K (h₀ := X.base) I.ok.mod.kin T.kC (thn (ha.run pos pins s σ H _ I h) fun us s1 z => ?_) he hpl) hdb)
  obtain ⟨vs, H1, J, rv, hz, q1⟩ := z
  refine ⟨J.kIn, ?_⟩
  show wpAny _ _ (call (.ref C) us) _ _ _
  obtain ⟨hp, g, dr, tk, os⟩ := s1
  obtain ⟨nm, N, qn, bs, bm, hd, sn, sub, ab, col, dd, k0, k1, k2, k3, k5, hC, hT⟩ := PySem.W.excInit_of J.kIn T.ii
  have sz : hp.objs.size ≤ hp.objs.size + 1 := Nat.le_succ _
  have want := q1 (hp.objs.size + 1) (J.hok.fresh sz)
  generalize hh2 : (hp.push (PySem.W.kdv_tup us)).push (PySem.HandSPX.excO C hp.objs.size) = h2
  have kk : ∀ b o, hp.get? b = some o → h2.get? b = some o := fun b o q => by rw [← hh2]; exact Heap.get?_push_of_some _ (Heap.get?_push_of_some _ q)
  have hget : h2.get? (hp.objs.size + 1) = some (PySem.HandSPX.excO C hp.objs.size) := by rw [← hh2]; heap_get
  have J2 : Inv X pins σ (upd H1 (hp.objs.size + 1) (exo (hp.objs.size + 1) C none)) ⟨h2, g, dr, tk, os⟩ := J.laid (t' := tk) (a := hp.objs.size + 1) (h' := h2) kk sz (exo_ok hget)
  rw [List.append_nil] at want
  have r2 : Vals (V.ref (hp.objs.size + 1) :: vs) (Value.ref (hp.objs.size + 1) :: us) := .cons rfl rv
  have hl : (Value.ref (hp.objs.size + 1) :: us).length = ps.length := r2.length.symm.trans (F1.len _ _ _ _ want)
  have bt := hb ⟨h2, g, dr, tk, os⟩ (Value.ref (hp.objs.size + 1) :: us) J2.kIn (by rw [List.append_nil]; exact hl)
  rw [List.append_nil] at bt
  have hus : us.length ≤ sizeLine := by
    have := Paired.length rv
    rw [sizeLine_eq]; omega
  refine wpAny_call (PySem.HandSPX.call_own T.fb hT hC (PySem.W.looks_findIn J.kIn M.at_) (fun self => PySem.W.bind_fn J.kIn self (beq_iff_eq.mp M.fn)) hus ?_)
  rw [hh2]
  refine codeAny_mono (F1.run _ X.stack _ _ ⟨Value.ref (hp.objs.size + 1) :: us, []⟩ (Value.ref (hp.objs.size + 1) :: us) _ _ (fun _ _ _ => False) (hr.make C us []) (J2.env0.make C us []) bt r2 want) fun r s' w => ?_
  match r, w with
  | .error er, w => exact hx pins σ _ _ er s' J2 w
  | .ok .next, w => exact False.elim w
  | .ok .brk, w => exact False.elim w
  | .ok .cont, w => exact False.elim w
  | .ok (.ret v), ⟨rv', H2, os2, bare2, un2, hok2, rel, en, d, fs, ea, ed, hd1, q2⟩ =>
    subst en
    obtain ⟨h3, g2, d2, t2, os'⟩ := s'
    exact ⟨rel, mk_end (raises_own T.exC T.tyC) J sz kk un2 hok2 os2 bare2 ea ed hd1 q2⟩
end
end Cr

/-! CrX3: a caught exception that is kept behind the suite. -/
namespace Cr
open PySem PySem.Spec PyProof.Rows L2
/-- at a: an exception of the class cls, its own dict at d -/
def ExK (a : Addr) (cls : Value) (d : Option Addr) : HO := .ext fun h => ∃ (oe : Obj) (vs : Array Value), h.get? a = some oe ∧ Zc cls d oe ∧ oe.data = .fields vs
theorem exK_ok {P : Program} {w : World} {H : Hp} {h : Heap} {a : Addr} {cls : Value} {d : Option Addr} {oe : Obj} {vs : Array Value} (e : h.get? a = some oe) (z : Zc cls d oe) (f : oe.data = .fields vs) : ObjOk P w H h a (ExK a cls d) :=
  ⟨⟨oe, vs, e, z, f⟩, ⟨oe, e⟩, fun _ _ ⟨o, v, q, r⟩ k => ⟨o, v, k o q, r⟩⟩
theorem exK_at {P : Program} {w : World} {H : Hp} {h : Heap} {a : Addr} {cls : Value} {d : Option Addr} (hok : HOk P w H h) (e : H a = some (ExK a cls d)) : ∃ (oe : Obj) (vs : Array Value), h.get? a = some oe ∧ Zc cls d oe ∧ oe.data = .fields vs := by
  have q := hok a _ e
  exact q.1
section
variable {X : Cx} {pins : List (Addr × Obj)} {σ : L2.St} {H : Hp} {s : Shared} {a : Addr}
/-- an object that was not followed is followed from here on -/
theorem adopt {oe : Obj} {vs : Array Value} {cls : Value} {d : Option Addr} (I : Inv X pins σ H s) (ha : s.heap.get? a = some oe) (hz : Zc cls d oe) (hd : oe.data = .fields vs) (na : H a = none) (nL : a ≠ X.env.locals) (n0 : X.s_0.heap.get? a = none)
    (np : ∀ p ∈ X.pn ++ pins, p.1 ≠ a) : Inv X pins σ (upd H a (ExK a cls d)) s := by
  have up : ∀ {b : Addr} {o : HO}, H b = some o → (upd H a (ExK a cls d)) b = some o := fun {b o} q => by rw [upd_ne (ne_of_none q na)]; exact q
  refine ⟨I.ok, I.os, I.bare, ⟨I.base.keep, I.base.slot, fun b o q n x => ?_, I.base.there, fun b xs q => up (I.base.tups b xs q), fun b o v q => up (I.base.frzs b o v q), fun b ps q => ?_⟩, I.loc, I.cell, ?_, fun x c q => ?_, fun p hp => ?_, fun b o q => ?_, I.len⟩
  · rw [upd_ne (fun z => by rw [z, n0] at q; cases q)]
    exact I.base.free b o q n x
  · obtain ⟨more, q'⟩ := I.base.tbls b ps q
    exact ⟨more, up q'⟩
  · rw [upd_ne (Ne.symm nL)]; exact I.free
  · obtain ⟨v, oc, ec, dc⟩ := I.cell x c q
    rw [upd_ne (fun z => by
      rw [z, ha] at ec
      cases ec
      rw [hd] at dc
      cases dc)]
    exact I.freeC x c q
  · obtain ⟨p1, p2, p3⟩ := I.pin p hp
    exact ⟨p1, by rw [upd_ne (np p hp)]; exact p2, p3⟩
  · by_cases hb : b = a
    · subst hb
      rw [upd_same] at q
      cases q
      exact exK_ok ha hz hd
    · rw [upd_ne hb] at q
      exact (I.hok b o q).stay (fun _ _ _ z => z) (fun _ z => up z) fun _ _ z => up z
end
/-- what 'except x as n: suite' wishes of an exception of the body, where the exception is kept -/
def wKeep (K : PySem.W.Frag) (c : Value) (i : Nat) (ts : Addr → TS) (D : Ends) : WX := fun cls d σ H =>
  PySem.W.exmOne K cls c = some true ∧ ∀ a, H a = none → ts a { nx := fun σ' H' => D.nx (σ'.set i none) (upd H' a (ExK a cls d)), rt := fun _ _ => False, bk := fun _ _ => False, ct := fun _ _ => False } (σ.set i (some (.ref a))) H
section
variable {X : Cx} {x n : Str} {c : Value} {i : Nat} {body suite : List Stmt} {b₀ : Stmt} {np pos pos' : Pos} {tb : WX → TS} {ts : Addr → TS}
theorem ps_try_keep (hs : X.stack = X.env :: X.outer) (hf : X.env.frame = some X.env.locals) (hex : X.ex = []) (hN : X.N.Nodup) (hi : X.N[i]? = some n) (hln : X.env.kindOf n = some .local) (hc : Names X x c)
    (hb : ∀ (W : WX) (pn : List (Addr × Obj)) (xe : Value → Shared → Prop), Takes (X.tr pn xe) W → PassesOwn (model X.prog X.w) X.A X.env xe → PSs (X.tr pn xe) body (tb W))
    (hsu : ∀ (a : Addr) (oe : Obj) (pn : List (Addr × Obj)), PSs (X.suite a ((a, oe) :: pn)) (b₀ :: suite) (ts a)) :
    PS X (.Try body [.ExceptHandler (some (.Name x np)) (some n) (b₀ :: suite) pos'] [] [] pos) (fun D σ H => tb (wKeep X.K c i ts D) D σ H) := by
  refine ⟨fun pins s σ H D I h => wpAny_Try_except ?_⟩
  have ok := I.ok
  have hfr : X.A.frames = some (X.env :: X.outer) := by rw [ok.frames, hs]
  refine wpAny_mono ((hb (wKeep X.K c i ts D) (X.pn ++ pins) _ ?air PassesOwn.looking).run [] s σ H D (I.toTry _) h) (fun fl s1 w => ?_) fun _ _ z => z
  case air =>
    rintro u s' ⟨a, B, sI, pins', σ', H', cls, d, rfl, J', nb, up, sky, na, os, ag, hm, hyes⟩
    have J : Inv X pins σ' H' sI := J'.ofTry ok
    rw [show (X.tr (X.pn ++ pins) _).stack = X.env :: X.outer from hs] at sky
    refine Sky.land Zc.steady hfr hf sky fun h3 fl3 up3 => ?_
    have gone : B.get? a = none := fl3.2.1
    obtain ⟨oe3, vs3, he3, hz3, hd3⟩ := fl3.there
    have nfr : a ∉ frs (X.env :: X.outer) := fun hm' => by
      obtain ⟨_, o', e', hnf⟩ := fl3.2.2.1.mem hm'
      rw [he3] at e'
      cases e'
      exact hnf _ hd3
    have inB : ∀ o, sI.heap.get? a = some o → False := fun o q => by
      have := nb a o q (by rw [show (X.tr (X.pn ++ pins) _).stack = X.env :: X.outer from hs]; exact nfr)
      rw [gone] at this
      cases this
    have nL : a ≠ X.env.locals := fun z => nfr (List.mem_filterMap.mpr ⟨X.env, List.mem_cons_self, by rw [hf, z]⟩)
    have nF : a ∉ X.fs := fun hm' => by
      obtain ⟨en, hen, q⟩ := List.mem_filterMap.mp hm'
      exact nfr (List.mem_filterMap.mpr ⟨en, List.mem_cons_of_mem _ hen, q⟩)
    have n0 : X.s_0.heap.get? a = none := by
      cases e0 : X.s_0.heap.get? a with
      | none => rfl
      | some o =>
        obtain ⟨o', q⟩ := J.base.there a o e0 (by rw [hex]; simp)
        exact (inB o' q).elim
    have npin : ∀ p ∈ X.pn ++ pins, p.1 ≠ a := fun p hp z => inB p.2 (by rw [← z]; exact (J.pin p hp).1)
    have J3 : Inv X pins σ' H' { s' with heap := h3 } := J.landed nb fl3.1 (up.trans up3) os ag
    have S3 := J3.suite he3 hd3 na nL nF
    have LT : PySem.W.Looks (model X.prog X.w) h3 (typeOf (.ref a)) cls := fun A' Q' E' s1 kk q => wpAny_typeOf_ref (kk _ _ he3) (by rw [hz3.1]; exact q)
    have name : ∀ {Q' : Value → Shared → Prop} {E' : Value → Shared → Prop}, Q' c { s' with heap := h3 } → wpAny (model X.prog X.w) (X.A.mark (some (.ref a))) (eval (.Name x np) X.env) Q' E' { s' with heap := h3 } := fun {Q' E'} q => by
      obtain ⟨hg, hdbg, hm1 | ⟨hm1, hv, hnn⟩⟩ := hc
      · exact ld_glob (X := X.suite a ((a, oe3) :: (X.pn ++ pins))) S3 hg hm1 q hdbg
      · exact ld_blt (X := X.suite a ((a, oe3) :: (X.pn ++ pins))) S3 hg hm1 hv q hnn hdbg
    refine PySem.W.exc_clause_as (name ⟨true, PySem.W.exm_one (M := model X.prog X.w) J3.kIn LT hm, ?_⟩)
    rw [if_pos rfl]
    refine HandSPX.lands_againZ fl3 fun h4 fl4 up4 => ?_
    have J4 : Inv X pins σ' H' { s' with heap := h4 } := J.landed nb fl4.1 ((up.trans up3).trans up4) os ag
    obtain ⟨oe4, vs4, he4, hz4, hd4⟩ := fl4.there
    refine store_ok (X := X.suite a ((a, oe4) :: (X.pn ++ pins))) (v := .ref a) (J4.suite he4 hd4 na nL nF) hN hi (.inl hln) rfl (fun s5 S5 => ?_) (.inr hln)
    refine wpAny_mono ((hsu a oe4 (X.pn ++ pins)).run [] s5 _ H' _ S5 (hyes a na)) (fun fl s6 w => ?_) fun _ _ z => False.elim z
    match fl, w with
    | .next, ⟨σ6, H6, S6, q6⟩ =>
      obtain ⟨p1, p2, _⟩ := S6.pin (a, oe4) (by simp [Cx.suite])
      exact gone_ok (adopt (S6.unsuite ok) p1 hz4 hd4 p2 nL n0 npin) hN hi hln fun s7 J7 => ⟨_, _, J7, q6⟩
    | .brk, ⟨_, _, _, q⟩ => exact q.elim
    | .cont, ⟨_, _, _, q⟩ => exact q.elim
    | .ret _, ⟨_, _, _, _, _, q⟩ => exact q.elim
  · match fl, w with
    | .next, ⟨σ', H', J, q⟩ => exact wpAny_execs_nil ⟨σ', H', J.ofTry ok, q⟩
    | .brk, ⟨σ', H', J, q⟩ => exact ⟨σ', H', J.ofTry ok, q⟩
    | .cont, ⟨σ', H', J, q⟩ => exact ⟨σ', H', J.ofTry ok, q⟩
    | .ret u, ⟨v, σ', H', J, r, q⟩ => exact ⟨v, σ', H', J.ofTry ok, r, q⟩
end
end Cr

/-! CrX4: isinstance and fields of a kept exception. -/
namespace Cr
open PySem PySem.Spec PyProof.Rows L2
/-- a kept exception with its fields -/
def XkAt (H : Hp) (a C : Addr) (fs : List (Str × V)) : Prop := ∃ d, H a = some (ExK a (.ref C) (some d)) ∧ H d = some (.xd fs)
theorem XkAt.up {H H' : Hp} {a C : Addr} {fs : List (Str × V)} (h : XkAt H a C fs) (s : Same H H') : XkAt H' a C fs := by
  obtain ⟨d, e1, e2⟩ := h
  exact ⟨d, s _ _ e1, s _ _ e2⟩
section
variable {X : Cx} {pins : List (Addr × Obj)} {σ : L2.St} {H : Hp} {s : Shared} {a C : Addr} {fs : List (Str × V)} {B newId initId : String} {tl : List Value}
theorem xk_inst (I : Inv X pins σ H s) (h : XkAt H a C fs) : ∃ (oe od : Obj) (mA : Str → Option Value), PySem.W.InstAt s.heap a oe C (some od) ∧ (∀ f, RelO (fs.lookup f) (mA f)) ∧ ∀ f, PySem.W.lookIn f od = some (mA f) := by
  obtain ⟨d, e1, e2⟩ := h
  obtain ⟨oe, vs, he, hz, hd⟩ := exK_at I.hok e1
  obtain ⟨mA, hns, hr⟩ : ∃ mA, s.heap.Ns1 d mA ∧ ∀ f, RelO (fs.lookup f) (mA f) := I.hok d _ e2
  obtain ⟨od, ho, hl⟩ := lookIn_ns hns
  exact ⟨oe, od, mA, ⟨he, hz.1, by unfold PySem.W.notCls; rw [hd] <;> rfl, by rw [hz.2]; exact ho⟩, hr, hl⟩
/-- e.f of a kept exception -/
def tXk (C : Addr) (f : Str) (te : TE) : TE := fun σ H Q => te σ H fun x H1 => ∃ (a : Addr) (fs : List (Str × V)) (v : V), x = .ref a ∧ XkAt H1 a C fs ∧ fs.lookup f = some v ∧ Q v H1
theorem pe_xk {e : Expr} {te : TE} {pos : Pos} {n : Str} (T : ExB X.K C B newId initId tl) (hno : NoAttr X.K C n) (he : PE X e te) (hb : attributeBase e n X.env (eval e X.env) = eval e X.env := by rfl) : PE X (.Attribute e n pos) (tXk C n te) := by
  refine ⟨fun pins s σ H Q I h => attr_of hb (thn (he.run pins s σ H _ I h) fun u s1 z => ?_)⟩
  obtain ⟨x, H1, J, rx, a, fs, v, rfl, hk, l, q⟩ := z
  obtain rfl : u = Value.ref a := rx
  obtain ⟨oe, od, mA, IA, hr, hl⟩ := xk_inst J hk
  obtain ⟨w, hw, rw'⟩ := RelO.some_of (v := v) (o := mA n) (by rw [← l]; exact hr n)
  obtain ⟨g, hg⟩ := T.gt
  exact HandSPX.exc_get J.kIn IA T.ga hg T.exC (PySem.W.findObj_own T.hd hno rfl (by rw [hl, hw])) (handed_of rw') ⟨v, H1, J.tok _, rw', q⟩
theorem xk_kit (T : ExB X.K C B newId initId tl) (I : Inv X pins σ H s) (h : XkAt H a C fs) : ∃ P : Heap → Prop, PySem.W.KitX X.K (.ref a) (.ref C) P ∧ P s.heap := by
  obtain ⟨oe, od, mA, IA, _⟩ := xk_inst I h
  obtain ⟨g, hg⟩ := T.gt
  exact ⟨_, PySem.W.kitx_exc (ox := oe) (od := some od) (show (PySem.W.clsIn X.K C).isSome = true from T.ci) T.ga hg T.exC T.ca T.cn T.ct T.ob, IA⟩
/-- isinstance(e, T) of a kept exception -/
theorem call_isX (T : ExB X.K C B newId initId tl) : CallR X (.builtin "isinstance") (fun xs H Q => ∃ (a : Addr) (fs : List (Str × V)) (c : V) (u : Value) (b : Bool), xs = [.ref a, c] ∧ XkAt H a C fs ∧ ClsV c u ∧ PySem.W.kitOne X.K (.ref C) u = some b ∧ Q (.bl b) H) := by
  intro pins s σ H xs us Q I r h
  obtain ⟨a, fs, c, u, b, rfl, hk, cv, e, q⟩ := h
  obtain ⟨u1, u2, rfl, r1, r2⟩ := vals2 r
  obtain rfl : u1 = Value.ref a := r1
  have e2 := cv.eq r2
  subst e2
  obtain ⟨P, Z, p⟩ := xk_kit T I hk
  exact PySem.W.kia_one Z I.kIn p e (by intro z; cases z) fun tk => ⟨.bl b, H, I.tok tk, rfl, q⟩
/-- isinstance(e, (T, ..)) of a kept exception -/
theorem call_isXT (T : ExB X.K C B newId initId tl) : CallR X (.builtin "isinstance") (fun xs H Q => ∃ (a tp : Addr) (fs : List (Str × V)) (cs : List V) (ws : List Value) (b : Bool), xs = [.ref a, .ref tp] ∧ XkAt H a C fs ∧ H tp = some (.tup cs) ∧ Paired ClsV cs ws ∧ PySem.W.kitAny X.K (.ref C) ws = some b ∧ Q (.bl b) H) := by
  intro pins s σ H xs us Q I r h
  obtain ⟨a, tp, fs, cs, ws, b, rfl, hk, ht, cv, e, q⟩ := h
  obtain ⟨u1, u2, rfl, r1, r2⟩ := vals2 r
  obtain rfl : u1 = Value.ref a := r1
  obtain rfl : u2 = Value.ref tp := r2
  obtain ⟨P, Z, p⟩ := xk_kit T I hk
  have ot : ObjOk X.prog X.w H s.heap tp (.tup cs) := I.hok tp _ ht
  obtain ⟨_, its, rv, ⟨oc, odd, dt, sl⟩, g1, g2, n, g3⟩ := ot
  obtain rfl := ClsV.all cv rv
  simp only at g2 g3
  subst g2 g3
  exact PySem.W.kia_tup Z I.kIn p g1 e (by intro z; cases z) fun tk => ⟨.bl b, H, I.tok tk, rfl, q⟩
end
end Cr

/-! CrX5: o.m(k = v, ..), what is raised wished for at the caller's slots; binding by one keyword; wide products in place. -/
namespace Cr
open PySem PySem.Spec PyProof.Rows L2
theorem kbn_all {K : PySem.W.Frag} {x qual : Str} {st : Stmt} {f : Addr} {fd : FuncData} {ps ks : List Str} {n : Nat} (F : Fun K x qual st f fd)
    (h : ∀ (kV doc pm : Value) (an : Option Addr) (cdv ct : Value) (us ws : List Value), us.length = n → ws.length = ks.length → bindArgs (PySem.W.fnOf x qual (defArgs st) (defBody st) (defScope st) .none kV doc pm an cdv ct) ⟨us, ks.zip ws⟩ = pure (ps.zip (us ++ ws))) :
    KBn K fd ps n ks (fun us ws => us ++ ws) (fun vs zs => vs ++ zs) := by
  obtain ⟨oc, od, kV, doc, pm, an, cdv, ct, osl, rfl, lk, hcd⟩ := F.ex
  exact ⟨fun s us ws X l1 l2 => BindsTo.of_looks fun M => .of_pure (h kV doc pm an cdv ct us ws l1 l2), fun r1 r2 => r1.append r2⟩
section
variable {X : Cx} {CX : CXT} {k : Nat} {f C : Addr} {fd : FuncData} {ps ks : List Str} {sp : Sp} {E : L2.St → XK} {m : Str} {apos pos : Pos} {o : Expr} {ta : TE} {tk : TA} {kws : List Keyword}
def tMethK (C : Addr) (m : Str) (n : Nat) (sp : Sp) (E : L2.St → XK) (ta : TE) (tk : TA) : TE := fun σ H Q => ta σ H fun x H1 => ∃ a dx fs, x = .ref a ∧ H1 a = some (.ins C dx fs) ∧ fs.lookup m = none ∧
  tk σ H1 fun zs H2 => zs.length = n ∧ sp (x :: zs) H2 Q (E σ)
theorem pe_methK {pl : Sem Bool} (he : PE X o ta) (c : Cls X.K C) (hm : Meth X.K C m f) (F : FnOk X.prog X.w X.K X.mg X.base CX k f fd ps sp) (hr : Room k X.A) (hb : KBn X.K fd ps 1 ks (fun us ws => us ++ ws) (fun vs zs => vs ++ zs)) (hx : ∀ σ, PassesAt CX X σ (E σ)) (hkw : PK X kws tk)
    (hall : (backToKw pos (keywordEach kws X.env)).all (·.1.isSome) = true := by rfl) (hks : (backToKw pos (keywordEach kws X.env)).filterMap (·.1) = ks := by rfl)
    (hpl : ((backTo pos (starEach [] X.env)).any (·.1) || (backToKw pos (keywordEach kws X.env)).any (·.1.isNone)) = false := by rfl)
    (ht : eval (.Call (.Attribute o m apos) [] kws pos) X.env = (do
      let z ← eval o X.env
      standAt apos.atName
      let (g, fst) ← holding [z] (getMethod z m pl)
      callWith pos g fst (backTo pos (starEach [] X.env)) (backToKw pos (keywordEach kws X.env))) := by rfl) :
    PE X (.Call (.Attribute o m apos) [] kws pos) (tMethK C m ks.length sp E ta tk) := by
  refine ⟨fun pins s σ H Q I h => PySem.W.methodCall_KW (pl := pl) (thn (he.run pins s σ H _ I h) fun u s1 z => ?_) ht⟩
  obtain ⟨x, H1, I1, rx, a, dx, fs, rfl, ea, l, q⟩ := z
  obtain rfl : u = Value.ref a := rx
  refine getmeth_ok I1 ea c hm l (PySem.W.callWith_KW0 (first := [.ref a]) (h₀ := X.base) I.ok.mod.kin hm.kp hall ?_ hpl)
  refine thn (hkw.run pos pins s1 σ H1 _ I1 q) fun ws s2 w => ?_
  obtain ⟨zs, H2, I2, rz, l2, q2⟩ := w
  refine ⟨I2.kIn, ?_⟩
  rw [hks]
  have r2 : Vals (V.ref a :: zs) (Value.ref a :: ws) := .cons rfl rz
  refine wpAny_call (codeAny_mono (F.run X.A X.stack s2 H2 ⟨[.ref a], ks.zip ws⟩ (.ref a :: ws) (.ref a :: zs) Q (E σ) hr I2.env0 (hb.to s2 [.ref a] ws I2.kIn rfl (rz.length.symm.trans l2)) r2 q2) fun r s' w => ?_)
  match r, w with
  | .error e, w => exact hx σ pins H2 s2 e s' I2 w
  | .ok (.ret u), w => exact I2.after w
  | .ok .next, w => exact False.elim w
  | .ok .brk, w => exact False.elim w
  | .ok .cont, w => exact False.elim w
end
theorem at0 {X : Cx} (σ : L2.St) : PassesAt CX0 X σ E0 := fun pins H s e s' I c => pass0 (X := X) pins σ H s e s' I c
theorem ip_mulW {X : Cx} : PIp X .Mult (rI CMulW fun i j => .int (i * j)) := by
  have h : OpR X (inplaceOp .Mult) (rI CMulW fun i j => .int (i * j)) := opI fun _ _ _ _ _ _ _ hc q => imul_int q hc.ok
  intro pins s σ H x y v u Q I r1 r2 w
  exact h pins s σ H x y v u Q I r1 r2 w
end Cr

/-! Cr6: a walk over a list within any frame of a comprehension. -/
namespace Cr
open PySem L2
theorem lcw {K : PySem.W.Frag} {a : Addr} {xs : List V} {Hs : Hp} {Fin : Hp → Prop} {Body : V → Hp → (Hp → Prop) → Prop} (Pv : Nat → Hp → Prop) (h0 : Pv 0 Hs) (hl : ∀ i H, i ≤ xs.length → Pv i H → SqL K H a xs) (hs : ∀ i x H, xs[i]? = some x → Pv i H → Body x H (Pv (i + 1)))
    (hd : ∀ H, Pv xs.length H → Fin H) :
    ∃ W : Nat → Nat → Hp → Prop, (∃ m, W 0 m Hs) ∧ ∀ i m H, W i m H → ((Itl K a).stop i H ∧ Fin H) ∨ ((Itl K a).go i H ∧ ∃ Nx : Hp → Prop, (∀ H', Nx H' → ∃ m', m' < m ∧ W (i + 1) m' H') ∧ ∀ x H', (Itl K a).yld i H x H' → Body x H' Nx) := by
  refine ⟨fun i m H => m + i = xs.length ∧ Pv i H, ⟨xs.length, rfl, h0⟩, fun i m H ⟨em, p⟩ => ?_⟩
  have q := hl i H (by omega) p
  by_cases c : i < xs.length
  · refine .inr ⟨⟨xs, xs[i], q, List.getElem?_eq_getElem c⟩, Pv (i + 1), fun H' p' => ⟨m - 1, by omega, by omega, p'⟩, fun x H' y => ?_⟩
    obtain ⟨rfl, y⟩ := y
    exact hs i x _ (y xs q) p
  · obtain rfl : i = xs.length := by omega
    exact .inl ⟨⟨xs, q, Nat.le_refl _⟩, hd H p⟩
theorem ix_tupK {X : Cx} (K : PySem.W.Frag) (hK : X.K = K) : IxR X (rIxT K) := by
  subst hK
  exact ix_tup
theorem ix_listK {X : Cx} (K : PySem.W.Frag) (hK : X.K = K) : IxR X (rIxL K) := by
  subst hK
  exact ix_list
/-- the items of a list, the written part named -/
theorem pi_listK {X : Cx} (K : PySem.W.Frag) (hK : X.K = K) {tg l : Expr} {tl : TE} (hl : PE X l tl) : PI X tg l (iList K tl) := by
  subst hK
  exact pi_list hl
section
variable {g : TG} {tb : TS} {D : Ends} {σ : L2.St} {H : Hp}
/-- for c in text -/
theorem for_str {z : Str} (Pv : Nat → L2.St → Hp → Prop) (h0 : Pv 0 σ H)
    (hs : ∀ i c σ H, z.cps.toList[i]? = some c → Pv i σ H → g (.str ⟨#[c]⟩) σ H fun σ2 H2 => tb { nx := Pv (i + 1), rt := D.rt, bk := D.nx, ct := Pv (i + 1) } σ2 H2) (hd : ∀ σ H, Pv z.cps.toList.length σ H → D.nx σ H) :
    ∃ W : Nat → Nat → L2.St → Hp → Prop, (∃ m, W 0 m σ H) ∧ ∀ i m σ H, W i m σ H → ((Its z).stop i H ∧ D.nx σ H) ∨ ((Its z).go i H ∧ ∃ N : L2.St → Hp → Prop, (∀ σ' H', N σ' H' → ∃ m', m' < m ∧ W (i + 1) m' σ' H') ∧
      ∀ x H', (Its z).yld i H x H' → g x σ H' fun σ2 H2 => tb { nx := N, rt := D.rt, bk := D.nx, ct := N } σ2 H2) := by
  have hz : z.cps.size = z.cps.toList.length := by simp
  refine ⟨fun i m σ H => m + i = z.cps.toList.length ∧ Pv i σ H, ⟨z.cps.toList.length, rfl, h0⟩, fun i m σ H ⟨em, p⟩ => ?_⟩
  by_cases c : i < z.cps.toList.length
  · refine .inr ⟨show i < z.cps.size by omega, Pv (i + 1), fun σ' H' p' => ⟨m - 1, by omega, by omega, p'⟩, fun x H' y => ?_⟩
    obtain ⟨rfl, d, ed, rfl⟩ := y
    exact hs i d σ _ (by rw [Array.getElem?_toList]; exact ed) p
  · obtain rfl : i = z.cps.toList.length := by omega
    exact .inl ⟨show z.cps.size ≤ z.cps.toList.length by omega, hd σ H p⟩
/-- for k in d, d locked -/
theorem for_keys {d : Addr} {o : Obj} {kvs : List (Key × V)} (Pv : Nat → L2.St → Hp → Prop) (h0 : Pv 0 σ H) (hl : ∀ i σ H, i ≤ kvs.length → Pv i σ H → H d = some (.frz o (.dK kvs)))
    (hs : ∀ i k v σ H, kvs[i]? = some (k, v) → Pv i σ H → g (kV k) σ H fun σ2 H2 => tb { nx := Pv (i + 1), rt := D.rt, bk := D.nx, ct := Pv (i + 1) } σ2 H2) (hd : ∀ σ H, Pv kvs.length σ H → D.nx σ H) :
    ∃ W : Nat → Nat → L2.St → Hp → Prop, (∃ m, W 0 m σ H) ∧ ∀ i m σ H, W i m σ H → ((Itk d o kvs).stop i H ∧ D.nx σ H) ∨ ((Itk d o kvs).go i H ∧ ∃ N : L2.St → Hp → Prop, (∀ σ' H', N σ' H' → ∃ m', m' < m ∧ W (i + 1) m' σ' H') ∧
      ∀ x H', (Itk d o kvs).yld i H x H' → g x σ H' fun σ2 H2 => tb { nx := N, rt := D.rt, bk := D.nx, ct := N } σ2 H2) := by
  refine ⟨fun i m σ H => m + i = kvs.length ∧ Pv i σ H, ⟨kvs.length, rfl, h0⟩, fun i m σ H ⟨em, p⟩ => ?_⟩
  have q := hl i σ H (by omega) p
  by_cases c : i < kvs.length
  · refine .inr ⟨⟨q, c⟩, Pv (i + 1), fun σ' H' p' => ⟨m - 1, by omega, by omega, p'⟩, fun x H' y => ?_⟩
    obtain ⟨rfl, k, v, e, rfl⟩ := y
    exact hs i k v σ _ e p
  · obtain rfl : i = kvs.length := by omega
    exact .inl ⟨⟨q, Nat.le_refl _⟩, hd σ H p⟩
end
end Cr

/-! K23m: tables of terms, plain. -/
namespace Cr
open PySem L2
abbrev Tm := Int × Str
def gI (kvs : List (Key × V)) (z : Str) : Int := match valV kvs (.inr z) with
  | some (.int n) => n
  | _ => 0
def stepK (kvs : List (Key × V)) (t : Tm) : List (Key × V) := putK kvs (.inr (srt t.2)) (.int (gI kvs (srt t.2) + t.1))
def tab0 (ts : List Tm) : List (Key × V) := ts.foldl stepK []
def posV : V → Bool
  | .int n => decide (0 < n)
  | _ => false
def tab (ts : List Tm) : List (Key × V) := (tab0 ts).filter fun p => posV p.2
/-- a table: texts of at most m signs, numbers below B -/
structure TabOk (m : Nat) (B : Int) (kvs : List (Key × V)) : Prop where
  each : ∀ p ∈ kvs, ∃ (z : Str) (n : Int), p = (.inr z, .int n) ∧ 0 ≤ n ∧ n < B ∧ z.length ≤ m ∧ lets z
  nd : (kvs.map (·.1)).Nodup
theorem TabOk.nil {m : Nat} {B : Int} : TabOk m B [] := ⟨fun _ h => (nomatch h), List.nodup_nil⟩
theorem TabOk.mono {m : Nat} {B C : Int} {kvs : List (Key × V)} (h : TabOk m B kvs) (hB : B ≤ C) : TabOk m C kvs := ⟨fun p hp => by
  obtain ⟨z, n, e, n0, n1, r⟩ := h.each p hp
  exact ⟨z, n, e, n0, by omega, r⟩, h.nd⟩
theorem TabOk.sub {m : Nat} {B : Int} {kvs ls : List (Key × V)} (h : TabOk m B kvs) (hs : ls.Sublist kvs) : TabOk m B ls :=
  ⟨fun p hp => h.each p (hs.subset hp), h.nd.sublist (hs.map _)⟩
theorem gI_rng {m : Nat} {B : Int} {kvs : List (Key × V)} (h : TabOk m B kvs) (hB : 0 < B) (z : Str) : 0 ≤ gI kvs z ∧ gI kvs z < B := by
  unfold gI
  cases e : valV kvs (.inr z) with
  | none => exact ⟨Int.le_refl _, hB⟩
  | some v =>
    unfold valV at e
    obtain ⟨kv, hkv, rfl⟩ := Option.map_eq_some_iff.mp e
    obtain ⟨y, n, rfl, n0, n1, _⟩ := h.each kv (List.mem_of_find?_eq_some hkv)
    exact ⟨n0, n1⟩
/-- what get gives -/
theorem getD_gI {m : Nat} {B : Int} {kvs : List (Key × V)} (h : TabOk m B kvs) (z : Str) : (valV kvs (.inr z)).getD (.int 0) = .int (gI kvs z) := by
  unfold gI
  cases e : valV kvs (.inr z) with
  | none => rfl
  | some v =>
    unfold valV at e
    obtain ⟨kv, hkv, rfl⟩ := Option.map_eq_some_iff.mp e
    obtain ⟨y, n, rfl, _⟩ := h.each kv (List.mem_of_find?_eq_some hkv)
    rfl
theorem putK_keys (kvs : List (Key × V)) (k : Key) (v : V) : (putK kvs k v).map (·.1) = if (kvs.any fun kv => decide (kv.1 = k)) = true then kvs.map (·.1) else kvs.map (·.1) ++ [k] := by
  unfold putK
  split
  · rw [List.map_map]
    apply List.map_congr_left
    intro p _
    show (if p.1 = k then (p.1, v) else p).1 = p.1
    split <;> rfl
  · rw [List.map_append]; rfl
theorem TabOk.put {m : Nat} {B : Int} {kvs : List (Key × V)} (h : TabOk m B kvs) {z : Str} {n : Int} (n0 : 0 ≤ n) (n1 : n < B) (zl : z.length ≤ m) (zo : lets z) : TabOk m B (putK kvs (.inr z) (.int n)) := by
  refine ⟨fun p hp => ?_, ?_⟩
  · unfold putK at hp
    split at hp
    · obtain ⟨q, hq, rfl⟩ := List.mem_map.mp hp
      obtain ⟨y, n', rfl, r⟩ := h.each q hq
      by_cases e : (Sum.inr y : Key) = .inr z
      · obtain rfl : y = z := Sum.inr.inj e
        exact ⟨y, n, by simp, n0, n1, zl, zo⟩
      · exact ⟨y, n', by simp only [if_neg e], r⟩
    · rcases List.mem_append.mp hp with hp | hp
      · exact h.each p hp
      · rw [List.mem_singleton.mp hp]; exact ⟨z, n, rfl, n0, n1, zl, zo⟩
  · rw [putK_keys]
    split
    · exact h.nd
    · next c =>
      refine nd_snoc h.nd fun hm => c ?_
      obtain ⟨p, hp, e⟩ := List.mem_map.mp hm
      exact List.any_eq_true.mpr ⟨p, hp, decide_eq_true e⟩
theorem step_ok {m : Nat} {B C : Int} {kvs : List (Key × V)} {t : Tm} (h : TabOk m B kvs) (hB : 0 < B) (t0 : 0 ≤ t.1) (t1 : t.1 < C) (tl : t.2.length ≤ m) (to : lets t.2) : TabOk m (B + C) (stepK kvs t) := by
  obtain ⟨g0, g1⟩ := gI_rng h hB (srt t.2)
  exact (h.mono (by omega)).put (by omega) (by omega) (by rw [srt_len]; exact tl) (srt_lets to)
theorem putK_len (kvs : List (Key × V)) (k : Key) (v : V) : (putK kvs k v).length ≤ kvs.length + 1 := by
  unfold putK
  split
  · rw [List.length_map]; omega
  · rw [List.length_append]; exact Nat.le_refl _
theorem fold_ok {m : Nat} {C : Int} (hC : 0 < C) : ∀ (ts : List Tm) (kvs : List (Key × V)) (B : Int), TabOk m B kvs → 0 < B → (∀ t ∈ ts, 0 ≤ t.1 ∧ t.1 < C ∧ t.2.length ≤ m ∧ lets t.2) →
    TabOk m (B + C * ts.length) (ts.foldl stepK kvs) ∧ (ts.foldl stepK kvs).length ≤ kvs.length + ts.length
  | [], kvs, B, h, hB, _ => by simpa using h
  | t :: r, kvs, B, h, hB, ht => by
    obtain ⟨a0, a1, a2, a3⟩ := ht t List.mem_cons_self
    have h1 := step_ok h hB a0 a1 a2 a3
    obtain ⟨r1, r2⟩ := fold_ok hC r (stepK kvs t) (B + C) h1 (by omega) fun u hu => ht u (List.mem_cons_of_mem _ hu)
    rw [List.foldl_cons, List.length_cons]
    refine ⟨r1.mono ?_, ?_⟩
    · have e : C * ((r.length + 1 : Nat) : Int) = C * (r.length : Int) + C := by
        rw [Int.natCast_add, Int.mul_add]; simp
      omega
    · have := putK_len kvs (.inr (srt t.2)) (.int (gI kvs (srt t.2) + t.1))
      unfold stepK at r2 ⊢
      omega
/-- keys that are new, one behind the other, come in their order -/
theorem put_all : ∀ (ls kvs : List (Key × V)), ((kvs ++ ls).map (·.1)).Nodup → ls.foldl (fun acc kv => putK acc kv.1 kv.2) kvs = kvs ++ ls
  | [], kvs, _ => by simp
  | p :: r, kvs, h => by
    have e : putK kvs p.1 p.2 = kvs ++ [p] := by
      unfold putK
      rw [if_neg]
      intro c
      obtain ⟨q, hq, e⟩ := List.any_eq_true.mp c
      rw [List.map_append, List.nodup_append] at h
      exact h.2.2 _ (List.mem_map.mpr ⟨q, hq, rfl⟩) _ (List.mem_map.mpr ⟨p, List.mem_cons_self, rfl⟩) (of_decide_eq_true e)
    rw [List.foldl_cons, e, put_all r (kvs ++ [p]) (by rw [List.append_assoc]; exact h), List.append_assoc]
    rfl
theorem merge_new {ls : List (Key × V)} (h : (ls.map (·.1)).Nodup) : mergeK [] ls = ls := by
  unfold mergeK
  rw [put_all ls [] (by simpa using h)]
  rfl
theorem tab_sub (ts : List Tm) : (tab ts).Sublist (tab0 ts) := List.filter_sublist
end Cr

namespace Cr
open PySem L2
def topS (i : Nat) : Stmt := PySem.Challenge.pw_cellranks_k24_sizes_put_together.main.body.getD i (.Pass ⟨0, 0, 0, 0⟩)
abbrev s_TooFew___init__ : Stmt := inClass (topS 4) 0
abbrev N_TooFew___init__ : List Str := ["self", "word", "asked", "size"]
theorem sc_TooFew___init__ : FnScope N_TooFew___init__ ["self", "word", "asked", "size"] (defScope s_TooFew___init__) := ⟨rfl, rfl, rfl, by decide +kernel, rfl, by decide +kernel, by decide +kernel⟩
abbrev s_term_text : Stmt := topS 8
abbrev N_term_text : List Str := ["many", "letters"]
theorem sc_term_text : FnScope N_term_text ["many", "letters"] (defScope s_term_text) := ⟨rfl, rfl, rfl, by decide +kernel, rfl, by decide +kernel, by decide +kernel⟩
abbrev s_Size___init__ : Stmt := inClass (topS 9) 0
abbrev N_Size___init__ : List Str := ["self", "terms", "found", "many", "letters", "key"]
theorem sc_Size___init__ : FnScope N_Size___init__ ["self", "terms"] (defScope s_Size___init__) := ⟨rfl, rfl, rfl, by decide +kernel, rfl, by decide +kernel, by decide +kernel⟩
abbrev s_Size___eq__ : Stmt := inClass (topS 9) 1
abbrev N_Size___eq__ : List Str := ["self", "other"]
theorem sc_Size___eq__ : FnScope N_Size___eq__ ["self", "other"] (defScope s_Size___eq__) := ⟨rfl, rfl, rfl, by decide +kernel, rfl, by decide +kernel, by decide +kernel⟩
abbrev s_Size___str__ : Stmt := inClass (topS 9) 2
abbrev N_Size___str__ : List Str := ["self", "many", "letters"]
theorem sc_Size___str__ : FnScope N_Size___str__ ["self"] (defScope s_Size___str__) := ⟨rfl, rfl, rfl, by decide +kernel, rfl, by decide +kernel, by decide +kernel⟩
abbrev s_Size_terms_told : Stmt := inClass (topS 9) 3
abbrev N_Size_terms_told : List Str := ["self", "keys", "key"]
theorem sc_Size_terms_told : FnScope N_Size_terms_told ["self"] (defScope s_Size_terms_told) := ⟨rfl, rfl, rfl, by decide +kernel, rfl, by decide +kernel, by decide +kernel⟩
abbrev s_Size_alone : Stmt := inClass (topS 9) 4
abbrev N_Size_alone : List Str := ["self"]
theorem sc_Size_alone : FnScope N_Size_alone ["self"] (defScope s_Size_alone) := ⟨rfl, rfl, rfl, by decide +kernel, rfl, by decide +kernel, by decide +kernel⟩
abbrev s_Size_plus : Stmt := inClass (topS 9) 5
abbrev N_Size_plus : List Str := ["self", "other"]
theorem sc_Size_plus : FnScope N_Size_plus ["self", "other"] (defScope s_Size_plus) := ⟨rfl, rfl, rfl, by decide +kernel, rfl, by decide +kernel, by decide +kernel⟩
abbrev s_Size_times : Stmt := inClass (topS 9) 6
abbrev N_Size_times : List Str := ["self", "other", "rows", "many", "here", "more", "there"]
theorem sc_Size_times : FnScope N_Size_times ["self", "other"] (defScope s_Size_times) := ⟨rfl, rfl, rfl, by decide +kernel, rfl, by decide +kernel, by decide +kernel⟩
abbrev s_Size_less : Stmt := inClass (topS 9) 7
abbrev N_Size_less : List Str := ["self", "count", "row"]
theorem sc_Size_less : FnScope N_Size_less ["self", "count"] (defScope s_Size_less) := ⟨rfl, rfl, rfl, by decide +kernel, rfl, by decide +kernel, by decide +kernel⟩
abbrev s_Size_worth : Stmt := inClass (topS 9) 8
abbrev N_Size_worth : List Str := ["self", "numbers", "total", "many", "letters", "product", "letter"]
theorem sc_Size_worth : FnScope N_Size_worth ["self", "numbers"] (defScope s_Size_worth) := ⟨rfl, rfl, rfl, by decide +kernel, rfl, by decide +kernel, by decide +kernel⟩
abbrev s__law_feed : Stmt := topS 11
abbrev N__law_feed : List Str := ["_law_script"]
theorem sc__law_feed : FnScope N__law_feed ["_law_script"] (defScope s__law_feed) := ⟨rfl, rfl, rfl, by decide +kernel, rfl, by decide +kernel, by decide +kernel⟩
abbrev s__law_draw : Stmt := topS 12
abbrev N__law_draw : List Str := ["_law_feed_here", "_law_many", "_law_found", "_law_at", "_law_cell", "_law_mixed"]
theorem sc__law_draw : FnScope N__law_draw ["_law_feed_here", "_law_many"] (defScope s__law_draw) := ⟨rfl, rfl, rfl, by decide +kernel, rfl, by decide +kernel, by decide +kernel⟩
abbrev s__law_of : Stmt := topS 13
abbrev N__law_of : List Str := ["_law_feed_here", "_law_some"]
theorem sc__law_of : FnScope N__law_of ["_law_feed_here", "_law_some"] (defScope s__law_of) := ⟨rfl, rfl, rfl, by decide +kernel, rfl, by decide +kernel, by decide +kernel⟩
abbrev s__law_terms : Stmt := topS 14
abbrev N__law_terms : List Str := ["_law_feed_here", "_law_most", "_law_alphabet", "_law_found", "_law_turn", "_law_letters", "_law_great", "_law_many", "_law_place"]
theorem sc__law_terms : FnScope N__law_terms ["_law_feed_here", "_law_most"] (defScope s__law_terms) := ⟨rfl, rfl, rfl, by decide +kernel, rfl, by decide +kernel, by decide +kernel⟩
abbrev s__law_table : Stmt := topS 15
abbrev N__law_table : List Str := ["_law_terms_here", "_law_found", "_law_many", "_law_letters", "_law_key"]
theorem sc__law_table : FnScope N__law_table ["_law_terms_here"] (defScope s__law_table) := ⟨rfl, rfl, rfl, by decide +kernel, rfl, by decide +kernel, by decide +kernel⟩
abbrev s__law_text : Stmt := topS 16
abbrev N__law_text : List Str := ["_law_table_here", "_law_words", "_law_key"]
theorem sc__law_text : FnScope N__law_text ["_law_table_here"] (defScope s__law_text) := ⟨rfl, rfl, rfl, by decide +kernel, rfl, by decide +kernel, by decide +kernel⟩
abbrev s__law_sum : Stmt := topS 17
abbrev N__law_sum : List Str := ["_law_one", "_law_more_size", "_law_found", "_law_key"]
theorem sc__law_sum : FnScope N__law_sum ["_law_one", "_law_more_size"] (defScope s__law_sum) := ⟨rfl, rfl, rfl, by decide +kernel, rfl, by decide +kernel, by decide +kernel⟩
abbrev s__law_product : Stmt := topS 18
abbrev N__law_product : List Str := ["_law_one", "_law_more_size", "_law_found", "_law_key", "_law_more", "_law_both"]
theorem sc__law_product : FnScope N__law_product ["_law_one", "_law_more_size"] (defScope s__law_product) := ⟨rfl, rfl, rfl, by decide +kernel, rfl, by decide +kernel, by decide +kernel⟩
abbrev s__law_worth : Stmt := topS 19
abbrev N__law_worth : List Str := ["_law_table_here", "_law_here", "_law_total", "_law_key", "_law_part", "_law_letter"]
theorem sc__law_worth : FnScope N__law_worth ["_law_table_here", "_law_here"] (defScope s__law_worth) := ⟨rfl, rfl, rfl, by decide +kernel, rfl, by decide +kernel, by decide +kernel⟩
abbrev s__law_number : Stmt := topS 20
abbrev N__law_number : List Str := ["_law_feed_here"]
theorem sc__law_number : FnScope N__law_number ["_law_feed_here"] (defScope s__law_number) := ⟨rfl, rfl, rfl, by decide +kernel, rfl, by decide +kernel, by decide +kernel⟩
abbrev s__law_less : Stmt := topS 21
abbrev N__law_less : List Str := ["_law_size", "_law_many", "_law_error", "_law_found", "e"]
theorem sc__law_less : FnScope N__law_less ["_law_size", "_law_many"] (defScope s__law_less) := ⟨rfl, rfl, rfl, by decide +kernel, rfl, by decide +kernel, by decide +kernel⟩
abbrev s__law_less_right : Stmt := topS 22
abbrev N__law_less_right : List Str := ["_law_feed_here", "_law_size", "_law_table_here", "_law_alone", "_law_many", "_law_found", "_law_left", "_law_due", "_law_key"]
theorem sc__law_less_right : FnScope N__law_less_right ["_law_feed_here", "_law_size", "_law_table_here"] (defScope s__law_less_right) := ⟨rfl, rfl, rfl, by decide +kernel, rfl, by decide +kernel, by decide +kernel⟩
abbrev s_law : Stmt := topS 23
abbrev N_law : List Str := ["_law_script", "_law_feed_here", "_law_letters", "_law_turn", "_law_terms_here", "_law_more", "_law_one", "_law_more_size", "_law_table_here", "_law_beside", "_law_both", "_law_often", "_law_here", "_law_kept", "_law_found", "_law_worths", "_law_letter"]
theorem sc_law : FnScope N_law ["_law_script"] (defScope s_law) := ⟨rfl, rfl, rfl, by decide +kernel, rfl, by decide +kernel, by decide +kernel⟩

abbrev tlLookup : List Value := [.type "LookupError", .type "Exception", .type "BaseException", .type "object"]
structure Tx (K : PySem.W.Frag) (mg : Str → Option Value) where
  C : Addr
  term_text : FnAt K mg "term_text" "term_text" s_term_text ["many", "letters"]
  Size___init__ : MtAt K C "__init__" "Size.__init__" s_Size___init__ ["self", "terms"]
  Size___eq__ : MtAt K C "__eq__" "Size.__eq__" s_Size___eq__ ["self", "other"]
  Size___str__ : MtAt K C "__str__" "Size.__str__" s_Size___str__ ["self"]
  Size_terms_told : MtAt K C "terms_told" "Size.terms_told" s_Size_terms_told ["self"]
  Size_alone : MtAt K C "alone" "Size.alone" s_Size_alone ["self"]
  Size_plus : MtAt K C "plus" "Size.plus" s_Size_plus ["self", "other"]
  Size_times : MtAt K C "times" "Size.times" s_Size_times ["self", "other"]
  Size_less : MtAt K C "less" "Size.less" s_Size_less ["self", "count"]
  Size_worth : MtAt K C "worth" "Size.worth" s_Size_worth ["self", "numbers"]
  Size : ClAt K mg "Size" C Size___init__.f
  ow : OwnE K C Size___eq__.f
  ot : OwnT K C
  nC : NoAttr K C "counts"
  D : Addr
  TooFew___init__ : MtAt K D "__init__" "TooFew.__init__" s_TooFew___init__ ["self", "word", "asked", "size"]
  tf : ExB K D "LookupError" "LookupError.__new__" "LookupError.__init__" tlLookup
  tfm : mg "TooFew" = some (.ref D)
  tfs : PySem.W.exmOne K (.ref D) (.ref D) = some true
  nW : NoAttr K D "word"
  nA : NoAttr K D "asked"
  nS : NoAttr K D "size"
  bE : BltE K "LookupError" "LookupError" "LookupError.__init__"
  cEmpty : Addr
  cNoAxis : Addr
  cNoCell : Addr
  cNoName : Addr
  cNoText : Addr
  mEmpty : mg "Empty" = some (.ref cEmpty)
  mNoAxis : mg "NoAxis" = some (.ref cNoAxis)
  mNoCell : mg "NoCell" = some (.ref cNoCell)
  mNoName : mg "NoName" = some (.ref cNoName)
  mNoText : mg "NoText" = some (.ref cNoText)
  isO : PySem.W.kitAny K (.ref D) [.ref cEmpty, .ref cNoAxis, .ref cNoCell, .ref cNoName, .ref cNoText, .type "KeyError", .type "IndexError", .type "ValueError"] = some false
  isL : PySem.W.kitOne K (.ref D) (.type "LookupError") = some true
  _law_feed : FnAt K mg "_law_feed" "_law_feed" s__law_feed ["_law_script"]
  _law_draw : FnAt K mg "_law_draw" "_law_draw" s__law_draw ["_law_feed_here", "_law_many"]
  _law_of : FnAt K mg "_law_of" "_law_of" s__law_of ["_law_feed_here", "_law_some"]
  _law_terms : FnAt K mg "_law_terms" "_law_terms" s__law_terms ["_law_feed_here", "_law_most"]
  _law_table : FnAt K mg "_law_table" "_law_table" s__law_table ["_law_terms_here"]
  _law_text : FnAt K mg "_law_text" "_law_text" s__law_text ["_law_table_here"]
  _law_sum : FnAt K mg "_law_sum" "_law_sum" s__law_sum ["_law_one", "_law_more_size"]
  _law_product : FnAt K mg "_law_product" "_law_product" s__law_product ["_law_one", "_law_more_size"]
  _law_worth : FnAt K mg "_law_worth" "_law_worth" s__law_worth ["_law_table_here", "_law_here"]
  _law_number : FnAt K mg "_law_number" "_law_number" s__law_number ["_law_feed_here"]
  _law_less : FnAt K mg "_law_less" "_law_less" s__law_less ["_law_size", "_law_many"]
  _law_less_right : FnAt K mg "_law_less_right" "_law_less_right" s__law_less_right ["_law_feed_here", "_law_size", "_law_table_here"]
  b_len : mg "len" = none
  b_list : mg "list" = none
  b_range : mg "range" = none
  b_sorted : mg "sorted" = none
  b_dict : mg "dict" = none
  b_str : mg "str" = none
  b_int : mg "int" = none
  b_isinstance : mg "isinstance" = none
  b_repr : mg "repr" = none
  b_max : mg "max" = none
  b_LookupError : mg "LookupError" = none
  b_KeyError : mg "KeyError" = none
  b_IndexError : mg "IndexError" = none
  b_ValueError : mg "ValueError" = none
  kc : ((PySem.W.clsIn K C).isSome && PySem.W.typeIn K (.ref C) == some (.type "type")) = true

/-! ### the feed -/
def fdK (c : Addr) (a l : Int) : List (Key × V) := [(.inr "cells", .ref c), (.inr "at", .int a), (.inr "left", .int l)]
theorem n_ca0 : ¬ ("cells" : Str) = "at" := by decide +kernel
theorem n_cl0 : ¬ ("cells" : Str) = "left" := by decide +kernel
theorem n_al0 : ¬ ("at" : Str) = "left" := by decide +kernel
theorem n_ca : ¬ (Sum.inr ("cells" : Str) : Key) = Sum.inr ("at" : Str) := fun h => n_ca0 (Sum.inr.inj h)
theorem n_cl : ¬ (Sum.inr ("cells" : Str) : Key) = Sum.inr ("left" : Str) := fun h => n_cl0 (Sum.inr.inj h)
theorem n_al : ¬ (Sum.inr ("at" : Str) : Key) = Sum.inr ("left" : Str) := fun h => n_al0 (Sum.inr.inj h)
theorem v_cells (c : Addr) (a l : Int) : valV (fdK c a l) (.inr "cells") = some (.ref c) := valV_pos rfl
theorem v_at (c : Addr) (a l : Int) : valV (fdK c a l) (.inr "at") = some (.int a) := by
  unfold fdK; rw [valV_neg n_ca, valV_pos rfl]
theorem v_left (c : Addr) (a l : Int) : valV (fdK c a l) (.inr "left") = some (.int l) := by
  unfold fdK; rw [valV_neg n_cl, valV_neg n_al, valV_pos rfl]
theorem p_at (c : Addr) (a l x : Int) : putK (fdK c a l) (.inr "at") (.int x) = fdK c x l := by
  unfold putK fdK
  simp [n_ca0, show ¬ ("left" : Str) = "at" from fun h => n_al0 (Eq.symm h)]
theorem p_left (c : Addr) (a l x : Int) : putK (fdK c a l) (.inr "left") (.int x) = fdK c a x := by
  unfold putK fdK
  simp [n_cl0, n_al0]
/-- the feed at f (its cells at c, at most k draws so far), beside the ghost part G -/
structure Wo (G H : Hp) (f c : Addr) (k : Nat) : Prop where
  same : Same G H
  nf : G f = none
  cells : ∃ ns : List Int, G c = some (.lst (ns.map V.int))
  feed : ∃ a l : Int, H f = some (.dK (fdK c a l)) ∧ 0 ≤ a ∧ a ≤ k
theorem Wo.ne {G H : Hp} {f c p : Addr} {k : Nat} (W : Wo G H f c k) (h : H p = none) : f ≠ p := by
  obtain ⟨a, l, e, _⟩ := W.feed
  exact ne_of_none e h
theorem Wo.mono {G H : Hp} {f c : Addr} {k m : Nat} (W : Wo G H f c k) (h : k ≤ m) : Wo G H f c m := by
  obtain ⟨a, l, e, a0, ak⟩ := W.feed
  exact ⟨W.same, W.nf, W.cells, a, l, e, a0, by omega⟩
/-- a new thing, not kept in G -/
theorem Wo.fresh {G H : Hp} {f c p : Addr} {k : Nat} {o : HO} (W : Wo G H f c k) (h : H p = none) : Wo G (upd H p o) f c k := by
  obtain ⟨a, l, e, r⟩ := W.feed
  exact ⟨Same.new W.same h, W.nf, W.cells, a, l, by rw [upd_ne (W.ne h)]; exact e, r⟩
/-- a new thing, kept in G -/
theorem Wo.new {G H : Hp} {f c p : Addr} {k : Nat} {o : HO} (W : Wo G H f c k) (h : H p = none) : Wo (upd G p o) (upd H p o) f c k := by
  obtain ⟨a, l, e, r⟩ := W.feed
  obtain ⟨ns, hc⟩ := W.cells
  refine ⟨Same.two W.same, by rw [upd_ne (W.ne h)]; exact W.nf, ⟨ns, ?_⟩, a, l, by rw [upd_ne (W.ne h)]; exact e, r⟩
  rw [upd_ne (ne_of_none (W.same _ _ hc) h)]
  exact hc
/-- a thing that G does not keep is changed -/
theorem Wo.put {G H : Hp} {f c p : Addr} {k : Nat} {o : HO} (W : Wo G H f c k) (h : G p = none) (hf : f ≠ p) : Wo G (upd H p o) f c k := by
  obtain ⟨a, l, e, r⟩ := W.feed
  exact ⟨Same.put W.same h, W.nf, W.cells, a, l, by rw [upd_ne hf]; exact e, r⟩
/-- G keeps one thing more -/
theorem Wo.add {G H : Hp} {f c p : Addr} {k : Nat} {o : HO} (W : Wo G H f c k) (h : H p = some o) (hf : f ≠ p) (hp : G p = none) : Wo (upd G p o) H f c k := by
  obtain ⟨ns, hc⟩ := W.cells
  exact ⟨Same.add W.same h, by rw [upd_ne hf]; exact W.nf, ⟨ns, by rw [upd_ne (ne_of_none hc hp)]; exact hc⟩, W.feed⟩
/-- G keeps less -/
theorem Wo.sub {G G' H : Hp} {f c : Addr} {k : Nat} (W : Wo G' H f c k) (s : Same G G') (hc : ∃ ns : List Int, G c = some (.lst (ns.map V.int))) : Wo G H f c k :=
  ⟨s.trans W.same, s.free W.nf, hc, W.feed⟩
theorem dg_cells {H : Hp} {f c : Addr} {a l : Int} (h : H f = some (.dK (fdK c a l))) : DGet H f (.str "cells") (some (.ref c)) := by
  have q := DGet.k (k := .inr "cells") h; rw [v_cells] at q; exact q
theorem dg_at {H : Hp} {f c : Addr} {a l : Int} (h : H f = some (.dK (fdK c a l))) : DGet H f (.str "at") (some (.int a)) := by
  have q := DGet.k (k := .inr "at") h; rw [v_at] at q; exact q
theorem dg_left {H : Hp} {f c : Addr} {a l : Int} (h : H f = some (.dK (fdK c a l))) : DGet H f (.str "left") (some (.int l)) := by
  have q := DGet.k (k := .inr "left") h; rw [v_left] at q; exact q
theorem dp_at {H : Hp} {f c : Addr} {a l x : Int} (h : H f = some (.dK (fdK c a l))) : DPut H f (.str "at") (.int x) (upd H f (.dK (fdK c x l))) := by
  have q := DPut.k (k := .inr "at") (v := .int x) h (by show 3 < sizeLine; decide); rw [p_at] at q; exact q
theorem dp_left {H : Hp} {f c : Addr} {a l x : Int} (h : H f = some (.dK (fdK c a l))) : DPut H f (.str "left") (.int x) (upd H f (.dK (fdK c a x))) := by
  have q := DPut.k (k := .inr "left") (v := .int x) h (by show 3 < sizeLine; decide); rw [p_left] at q; exact q

theorem at_of' {α : Type} {xs : List α} {z : Int} {j : Nat} {v : α} (e : z = (j : Int)) (h : xs[j]? = some v) : atI xs z = some v := by
  rw [e]
  exact atI_nat h
section
variable {P : Program} {w : World} {K : PySem.W.Frag} {mg : Str → Option Value} {base : Heap}
def spDraw : Sp := fun vs H Q _ => ∃ (G : Hp) (f c : Addr) (k : Nat) (n : Int), vs = [.ref f, .int n] ∧ 0 < n ∧ n < 1073741824 ∧ Wo G H f c k ∧ k < 1073741824 ∧
  ∀ (d : Int) (H' : Hp), 0 ≤ d → d < n → Wo G H' f c (k + 1) → Q (.int d) H'
theorem ok__law_draw (T : Tx K mg) : FnOk P w K mg base CX0 1 T._law_draw.f T._law_draw.fd ["_law_feed_here", "_law_many"] spDraw := by
  refine T._law_draw.F.ok sc__law_draw (fun vs H Q E h => ?_) (fun cdv A outer s H vs Q E hr h => ?_)
  · obtain ⟨G, f, c, k, n, rfl, _⟩ := h
    rfl
  · obtain ⟨G, f, c, k, n, rfl, n0, n1, ⟨sg, gf, ⟨ns, gc⟩, a, l, hf, a0, ak⟩, kb, q⟩ := h
    have hc := sg _ _ gc
    have hu := hu_of hr
    have nfc : c ≠ f := ne_of hc hf (by intro z; cases z)
    refine ⟨_, (pss_cons (ps_if (pt_cmpR op_gt (pe_dget hu (pv 0) pe_str (fun _ _ => rfl)) pe_int (nomark _))
 (pss_cons (ps_set (i := 2) sc__law_draw.nd rfl (Or.inl rfl) (pe_op op_modN (pe_dget hu (pv 0) pe_str (fun _ _ => rfl)) (pv 1)))
 (pss_cons (ps_dput hu (pv 0) pe_str (pe_op op_fdivN (pe_dget hu (pv 0) pe_str (fun _ _ => rfl)) (pv 1)) rfl)
 (pss_one (ps_ret (pv 2)))))
 pss_nil)
 (pss_cons (ps_set (i := 3) sc__law_draw.nd rfl (Or.inl rfl) (pe_dget hu (pv 0) pe_str (fun _ _ => rfl)))
 (pss_cons (ps_dput hu (pv 0) pe_str (pe_op op_add (pv 3) pe_int) rfl)
 (pss_cons (ps_set (i := 4) sc__law_draw.nd rfl (Or.inl rfl) (pe_op op_add pe_int (pe_op op_mul pe_int (pv 3))))
 (pss_cut (ps_if (pt_cmpR (op_neD hr.units) (pe_dget hu (pv 0) pe_str (fun _ _ => rfl)) (pe_lst pa_nil) (nomark _))
 (pss_one (ps_set (i := 4) sc__law_draw.nd rfl (Or.inl rfl) (pe_ix ix_list (pe_dget hu (pv 0) pe_str (fun _ _ => rfl)) (pe_op op_modN (pv 3) (pe_callB call_len_seq (by rfl) T.b_len (by decide +kernel) (pa_cons (pe_dget hu (pv 0) pe_str (fun _ _ => rfl)) pa_nil))) (fun _ _ => rfl))))
 pss_nil)
 (pss_cut (ps_if (PW.pt (pw_and (pt_cmpR op_ge (pv 4) (pe_op op_pow pe_int pe_int) (nomark _)) (pw_and1 (pt_cmpR op_lt (pv 3) (pe_callB call_len_seq (by rfl) T.b_len (by decide +kernel) (pa_cons (pe_dget hu (pv 0) pe_str (fun _ _ => rfl)) pa_nil)) (nomark _)))))
 (pss_cons (ps_dput hu (pv 0) pe_str (pe_op op_fdivN (pe_op op_sub (pv 4) (pe_op op_pow pe_int pe_int)) (pv 1)) rfl)
 (pss_one (ps_ret (pe_op op_modN (pe_op op_sub (pv 4) (pe_op op_pow pe_int pe_int)) (pv 1)))))
 pss_nil)
 (pss_cons (ps_set (i := 5) sc__law_draw.nd rfl (Or.inl rfl) (pe_op op_mul (pe_op op_add (pe_op op_add (pe_op op_modN (pv 4) pe_int) (pe_op op_mul (pe_op op_mul pe_int (pv 3)) (pv 3))) pe_int) pe_int))
 (pss_cons (ps_set (i := 5) sc__law_draw.nd rfl (Or.inl rfl) (pe_op op_modN (pe_op op_pow (pe_op op_add (pe_op op_modN (pv 5) pe_int) (pe_op op_mul pe_int (pv 3))) pe_int) pe_int))
 (pss_one (ps_ret (pe_op op_modN (pe_op op_fdivN (pe_op op_modN (pe_op op_mul (pv 5) pe_int) pe_int) pe_int) (pv 1)))))))))))), ?_⟩
    refine ⟨_, rfl, f, _, rfl, dg_left hf, _, _, rfl, rfl, _, rfl, ?_⟩
    refine ite2 (fun hl => ?_) (fun hl => ?_)
    · refine ⟨_, rfl, f, _, rfl, dg_left hf, _, rfl, _, _, rfl, rfl, (by omega), ?_⟩
      refine ⟨_, rfl, f, _, rfl, dg_left hf, _, rfl, _, _, rfl, rfl, ⟨by omega, by omega⟩, _, rfl, f, _, rfl, dp_left hf, ?_⟩
      refine ⟨_, rfl, ?_⟩
      obtain ⟨d0, d1⟩ := fmod_rng l n0
      exact q _ _ d0 d1 ⟨Same.put sg gf, gf, ⟨ns, gc⟩, a, _, upd_same, a0, by omega⟩
    · -- at = feed['at']; feed['at'] = at + 1
      refine ⟨_, rfl, f, _, rfl, dg_at hf, ?_⟩
      refine ⟨_, rfl, _, _, rfl, rfl, _, rfl, f, _, rfl, dp_at hf, ?_⟩
      generalize hH1 : upd H f (.dK (fdK c (a + 1) l)) = H1
      have hf1 : H1 f = some (.dK (fdK c (a + 1) l)) := by rw [← hH1]; exact upd_same
      have hc1 : H1 c = some (.lst (ns.map V.int)) := by rw [← hH1, upd_ne nfc]; exact hc
      have sg1 : Same G H1 := by rw [← hH1]; exact Same.put sg gf
      -- cell = 29 + 3 * at
      refine ⟨_, rfl, _, _, rfl, rfl, .inl ⟨by decide, by decide⟩, _, _, rfl, rfl, ?_⟩
      -- if cells != []
      refine ⟨fun σ' H' => ∃ cell : Int, σ' = [some (.ref f), some (.int n), none, some (.int a), some (.int cell), none] ∧ Same G H' ∧ H' f = some (.dK (fdK c (a + 1) l)) ∧ H' c = some (.lst (ns.map V.int)), ?_, ?_⟩
      · refine ⟨_, rfl, f, _, rfl, dg_cells hf1, Nat.zero_le _, fun p hp => ?_⟩
        have sg2 : Same G (upd H1 p (.lst [])) := Same.new sg1 hp
        have hf2 : (upd H1 p (.lst [])) f = some (.dK (fdK c (a + 1) l)) := by rw [upd_ne (ne_of_none hf1 hp)]; exact hf1
        have hc2 : (upd H1 p (.lst [])) c = some (.lst (ns.map V.int)) := by rw [upd_ne (ne_of_none hc1 hp)]; exact hc1
        have hp2 : (upd H1 p (.lst [])) p = some (.lst []) := upd_same
        generalize upd H1 p (.lst []) = H2 at sg2 hf2 hc2 hp2
        refine ⟨.list (ns.map PyData.int), .list [], .lst (ofL hc2) (dpInts ns), .lst (ofL hp2) .nil, shInts ns, (by rfl), _, rfl, ?_⟩
        refine ite2 (fun hn => ?_) (fun _ => ⟨_, rfl, sg2, hf2, hc2⟩)
        have hpos : 0 < ns.length := by
          cases ns with
          | nil => exact absurd hn (by decide)
          | cons _ _ => exact Nat.succ_pos _
        have hL : 0 < (((ns.map V.int).length : Nat) : Int) := by rw [List.length_map]; omega
        obtain ⟨j0, j1⟩ := fmod_rng a hL
        have hlen : (ns.map V.int).length = ns.length := List.length_map ..
        have hj : (a.fmod ((ns.map V.int).length : Nat)).toNat < ns.length := by omega
        refine ⟨_, rfl, f, _, rfl, dg_cells hf2, _, rfl, _, rfl, f, _, rfl, dg_cells hf2, c, _, rfl, .inl (ofL hc2), _, _, rfl, rfl, (by omega), c, _, _, .int ns[(a.fmod ((ns.map V.int).length : Nat)).toNat], rfl, rfl, ofL hc2, at_of (j := (a.fmod ((ns.map V.int).length : Nat)).toNat) (by omega) ?_, ?_⟩
        · rw [List.getElem?_map, List.getElem?_eq_getElem hj]; rfl
        · exact ⟨_, rfl, sg2, hf2, hc2⟩
      · rintro σ' H' ⟨cell, rfl, sg2, hf2, hc2⟩
        have fin : ∀ (d : Int) (l' : Int) (H3 : Hp), 0 ≤ d → d < n → H3 = H' ∨ H3 = upd H' f (.dK (fdK c (a + 1) l')) → Q (.int d) H3 := by
          intro d l' H3 d0 d1 e
          rcases e with e | e
          · subst e
            exact q d _ d0 d1 ⟨sg2, gf, ⟨ns, gc⟩, a + 1, l, hf2, by omega, by omega⟩
          · subst e
            exact q d _ d0 d1 ⟨Same.put sg2 gf, gf, ⟨ns, gc⟩, a + 1, l', upd_same, by omega, by omega⟩
        -- if cell >= 10 ** 18 and at < len(cells)
        refine ⟨fun σ2 H2 => σ2 = [some (.ref f), some (.int n), none, some (.int a), some (.int cell), none] ∧ H2 = H', ?_, ?_⟩
        · refine ⟨_, rfl, _, _, rfl, rfl, ⟨by decide, by decide, by decide⟩, _, _, rfl, rfl, _, rfl, ?_⟩
          refine ite2 (fun h18 => ?_) (fun _ => ⟨rfl, rfl⟩)
          refine ⟨_, rfl, _, rfl, f, _, rfl, dg_cells hf2, c, _, rfl, .inl (ofL hc2), _, _, rfl, rfl, _, rfl, ?_⟩
          refine ite2 (fun _ => ?_) (fun _ => ⟨rfl, rfl⟩)
          refine ⟨_, rfl, _, _, rfl, rfl, ⟨by decide, by decide, by decide⟩, _, _, rfl, rfl, _, rfl, _, _, rfl, rfl, ⟨by omega, by omega⟩, _, rfl, f, _, rfl, dp_left hf2, ?_⟩
          refine ⟨_, rfl, _, _, rfl, rfl, ⟨by decide, by decide, by decide⟩, _, _, rfl, rfl, _, rfl, _, _, rfl, rfl, (by omega), ?_⟩
          obtain ⟨d0, d1⟩ := fmod_rng (cell - 10 ^ 18) n0
          exact fin _ _ _ d0 d1 (.inr rfl)
        · rintro σ2 H2 ⟨rfl, rfl⟩
          refine ⟨_, rfl, _, _, rfl, rfl, (by show (2147483629 : Int) ≠ 0; decide), _, rfl, _, _, rfl, rfl, .inl ⟨by decide, by decide⟩, _, rfl, _, _, rfl, rfl, .inr ⟨by omega, by omega⟩, _, _, rfl, rfl, _, _, rfl, rfl, _, _, rfl, rfl, .inr ⟨by decide, by decide⟩, ?_⟩
          have y := fmod_rng ((cell.fmod 2147483629 + 7919 * a * a + 53) * 48271) (n := 2147483647) (by decide)
          refine ⟨_, rfl, _, _, rfl, rfl, (by show (2147483647 : Int) ≠ 0; decide), _, rfl, _, _, rfl, rfl, .inl ⟨by decide, by decide⟩, _, _, rfl, rfl, _, _, rfl, rfl, ⟨by decide, by decide, by omega⟩, _, _, rfl, rfl, (by show (2147483587 : Int) ≠ 0; decide), ?_⟩
          refine ⟨_, rfl, _, _, rfl, rfl, .inr ⟨by decide, by decide⟩, _, _, rfl, rfl, (by show (2147483563 : Int) ≠ 0; decide), _, _, rfl, rfl, ⟨by decide, by decide⟩, _, rfl, _, _, rfl, rfl, (by omega), ?_⟩
          exact fin _ 0 _ (fmod_rng _ n0).1 (fmod_rng _ n0).2 (.inl rfl)

/-! ### _law_feed -/
theorem fd_merge (c : Addr) : mergeK [] [(.inr "cells", .ref c), (.inr "at", .int 0), (.inr "left", .int 0)] = fdK c 0 0 := by
  unfold mergeK putK fdK
  simp [n_ca0, n_cl0, n_al0]
theorem cut_ints (ns : List Int) (lo hi : Option Int) : ∃ ms : List Int, cutV (ns.map V.int) lo hi = ms.map V.int := by
  unfold cutV
  exact ⟨(ns.drop (HT.sIx (ns.map V.int).length 0 lo)).take (HT.sIx (ns.map V.int).length (ns.map V.int).length hi - HT.sIx (ns.map V.int).length 0 lo), by rw [List.map_take, List.map_drop]⟩
def spFeed (K : PySem.W.Frag) : Sp := fun vs H Q _ => ∃ (a : Addr) (ns : List Int), vs = [.ref a] ∧ SqL K H a (ns.map V.int) ∧
  ∀ (f c : Addr) (G H' : Hp), Same H G → H f = none → Wo G H' f c 0 → Q (.ref f) H'
theorem ok__law_feed (T : Tx K mg) : FnOk P w K mg base CX0 1 T._law_feed.f T._law_feed.fd ["_law_script"] (spFeed K) := by
  refine T._law_feed.F.ok sc__law_feed (fun vs H Q E h => ?_) (fun cdv A outer s H vs Q E hr h => ?_)
  · obtain ⟨a, ns, rfl, _⟩ := h
    rfl
  · obtain ⟨a, ns, rfl, hS, q⟩ := h
    refine ⟨_, (pss_one (ps_ret (pe_disp (pps_cons pe_str (pe_callTy call_list_of (by rfl) T.b_list (by decide +kernel) (pa_cons (pe_slice sl_list (pv 0) po_none (po_some pe_int)) pa_nil)) (pps_cons pe_str pe_int (pps_cons pe_str pe_int pps_nil))) (by rfl) (by rfl) (fun z => by cases z) (by decide)))), ?_⟩
    intro f nf
    have s1 : Same H (upd H f (.dK [])) := same_up nf
    refine ⟨_, rfl, 63, rfl, a, _, rfl, s1.seq hS, fun p np => ?_⟩
    obtain ⟨ms, em⟩ := cut_ints ns none (some 63)
    rw [em]
    have npf : p ≠ f := fun e => by rw [e, upd_same] at np; cases np
    refine ⟨p, _, rfl, .inl (ofL upd_same), fun c nc => ?_⟩
    have ncf : c ≠ f := fun e => by rw [e, upd_ne npf.symm, upd_same] at nc; cases nc
    have ncp : c ≠ p := fun e => by rw [e, upd_same] at nc; cases nc
    have nc0 : H c = none := by rw [upd_ne ncp, upd_ne ncf] at nc; exact nc
    refine ⟨by rw [upd_ne ncf.symm, upd_ne npf.symm, upd_same], [(.inr "cells", .ref c), (.inr "at", .int 0), (.inr "left", .int 0)], rfl, by show 3 ≤ 15; decide, ?_⟩
    rw [fd_merge]
    refine q f c (upd H c (.lst (ms.map V.int))) _ (same_up nc0) nf ⟨fun b o e => ?_, by rw [upd_ne ncf.symm]; exact nf, ⟨ms, upd_same⟩, 0, 0, upd_same, Int.le_refl _, by decide⟩
    by_cases hb : b = c
    · subst hb
      rw [upd_same] at e
      rw [upd_ne ncf, upd_same]
      exact e
    · rw [upd_ne hb] at e
      have np0 : H p = none := by rw [upd_ne npf] at np; exact np
      rw [upd_ne (ne_of_none e nf), upd_ne hb, upd_ne (ne_of_none e np0), upd_ne (ne_of_none e nf)]
      exact e

/-! ### _law_of -/
def signV (z : Str) : List V := z.cps.toList.map fun c => V.str ⟨#[c]⟩
def SeqIn (K : PySem.W.Frag) (G : Hp) (x : V) (ys : List V) : Prop := (∃ a, x = .ref a ∧ SqL K G a ys) ∨ ∃ z : Str, x = .str z ∧ z.length ≤ 100000 ∧ ys = signV z
def spOf (K : PySem.W.Frag) : Sp := fun vs H Q _ => ∃ (G : Hp) (f c : Addr) (k : Nat) (x : V) (ys : List V), vs = [.ref f, x] ∧ SeqIn K G x ys ∧ 0 < ys.length ∧ ys.length < 1000000 ∧ Wo G H f c k ∧ k < 1073741824 ∧
  ∀ (v : V) (H' : Hp), v ∈ ys → Wo G H' f c (k + 1) → Q v H'
theorem ok__law_of (T : Tx K mg) : FnOk P w K mg base CX0 2 T._law_of.f T._law_of.fd ["_law_feed_here", "_law_some"] (spOf K) := by
  refine T._law_of.F.ok sc__law_of (fun vs H Q E h => ?_) (fun cdv A outer s H vs Q E hr h => ?_)
  · obtain ⟨G, f, c, k, x, ys, rfl, _⟩ := h
    rfl
  · obtain ⟨G, f, c, k, x, ys, rfl, hx, y0, y1, W, kb, q⟩ := h
    refine ⟨_, (pss_one (ps_ret (pe_ix ix_seq (pv 1) (pe_call (ok__law_draw T) (hr.mono (by decide)) (by rfl) T._law_draw.mg T._law_draw.F.kp T._law_draw.b .nil pass0 (pa_cons (pv 0) (pa_cons (pe_callB call_len (by rfl) T.b_len (by decide +kernel) (pa_cons (pv 1) pa_nil)) pa_nil))) (fun _ _ => rfl)))), ?_⟩
    have hy : ∀ d : Int, 0 ≤ d → d < (ys.length : Int) → ∃ v, v ∈ ys ∧ ys[d.toNat]? = some v := fun d d0 d1 => by
      have : d.toNat < ys.length := by omega
      exact ⟨ys[d.toNat], List.getElem_mem this, List.getElem?_eq_getElem this⟩
    rcases hx with ⟨a, rfl, ha⟩ | ⟨z, rfl, hz, ey⟩
    · refine ⟨_, rfl, _, rfl, _, rfl, _, ys.length, rfl, .inl ⟨ys, W.same.seq ha, rfl⟩, G, f, c, k, _, rfl, by omega, by omega, W, kb, fun d H' d0 d1 W' => ?_⟩
      obtain ⟨v, hv, ev⟩ := hy d d0 d1
      exact .inl ⟨a, ys, d, v, rfl, rfl, W'.same.seq ha, at_of (j := d.toNat) (by omega) ev, q v H' hv W'⟩
    · have el : ys.length = z.length := by rw [ey]; simp [signV, Str.length]
      refine ⟨_, rfl, _, rfl, _, rfl, _, ys.length, rfl, ⟨Nat.le_trans hz (by decide), el⟩, G, f, c, k, _, rfl, by omega, by omega, W, kb, fun d H' d0 d1 W' => ?_⟩
      obtain ⟨v, hv, ev⟩ := hy d d0 d1
      rw [ey] at ev
      unfold signV at ev
      rw [List.getElem?_map] at ev
      cases e : z.cps.toList[d.toNat]? with
      | none => rw [e] at ev; cases ev
      | some cc =>
        rw [e] at ev
        obtain rfl : V.str ⟨#[cc]⟩ = v := Option.some.inj ev
        exact .inr (.inr ⟨z, d, cc, rfl, rfl, Nat.le_trans hz (by decide), at_of' (by omega) e, q _ H' hv W'⟩)
end
end Cr

namespace Cr
open PySem L2

/-! ### terms as data -/
def tmD (t : Tm) : PyData := .tuple [.int t.1, .str t.2]
def okT (m : Nat) (B : Int) (t : Tm) : Prop := 0 ≤ t.1 ∧ t.1 < B ∧ t.2.length ≤ m ∧ lets t.2
theorem canTms : ∀ ts : List Tm, (∀ t ∈ ts, lets t.2) → PyData.canLayAll0 (ts.map tmD) = true
  | [], _ => rfl
  | t :: r, h => by
    have h1 := lets_ok (h t List.mem_cons_self)
    have h2 := canTms r fun u hu => h u (List.mem_cons_of_mem _ hu)
    simp [PyData.canLayAll0, PyData.canLay0, tmD, h1, h2]
theorem depTms : ∀ ts : List Tm, PyData.depthAll (ts.map tmD) ≤ 2
  | [] => by simp [PyData.depthAll]
  | t :: r => by
    have := depTms r
    simp [PyData.depthAll, PyData.depth, tmD]
    omega
theorem shTms {ts : List Tm} (h : ∀ t ∈ ts, lets t.2) : SeqAt.shaped (.list (ts.map tmD)) = true := by
  have h1 := canTms ts h
  have h2 := depTms ts
  unfold SeqAt.shaped
  rw [show PyData.canLay0 (.list (ts.map tmD)) = true by rw [PyData.canLay0]; exact h1]
  simp [PyData.depth]
  omega
mutual
theorem dpUp {K : PySem.W.Frag} {G G' : Hp} (s : Same G G') : ∀ {v : V} {d : PyData}, Dp K G v d → Dp K G' v d
  | _, _, .non => .non
  | _, _, .bl b => .bl b
  | _, _, .int i => .int i
  | _, _, .str x => .str x
  | _, _, .lst h a => .lst (s.seq h) (dpUps s a)
  | _, _, .tup h a => .tup (Same.sqT s h) (dpUps s a)
theorem dpUps {K : PySem.W.Frag} {G G' : Hp} (s : Same G G') : ∀ {vs : List V} {ds : List PyData}, DpAll K G vs ds → DpAll K G' vs ds
  | _, _, .nil => .nil
  | _, _, .cons h t => .cons (dpUp s h) (dpUps s t)
end
theorem dpApp {K : PySem.W.Frag} {G : Hp} : ∀ {vs ws : List V} {ds es : List PyData}, DpAll K G vs ds → DpAll K G ws es → DpAll K G (vs ++ ws) (ds ++ es)
  | _, _, _, _, .nil, h => h
  | _, _, _, _, .cons a b, h => .cons a (dpApp b h)
theorem dpLen {K : PySem.W.Frag} {G : Hp} : ∀ {vs : List V} {ds : List PyData}, DpAll K G vs ds → vs.length = ds.length
  | _, _, .nil => rfl
  | _, _, .cons _ b => by rw [List.length_cons, List.length_cons, dpLen b]
theorem dpGet {K : PySem.W.Frag} {G : Hp} : ∀ {vs : List V} {ds : List PyData} {i : Nat} {v : V}, DpAll K G vs ds → vs[i]? = some v → ∃ d, ds[i]? = some d ∧ Dp K G v d
  | _, _, _, _, .nil, h => by simp at h
  | _, _, 0, _, .cons a b, h => by
    simp at h
    subst h
    exact ⟨_, rfl, a⟩
  | _, _, i + 1, _, .cons a b, h => by
    obtain ⟨d, e, q⟩ := dpGet (i := i) b (by simpa using h)
    exact ⟨d, by simpa using e, q⟩
theorem dpMem {K : PySem.W.Frag} {G : Hp} {vs : List V} {ds : List PyData} {v : V} (h : DpAll K G vs ds) (hv : v ∈ vs) : ∃ d ∈ ds, Dp K G v d := by
  obtain ⟨i, hi, rfl⟩ := List.getElem_of_mem hv
  obtain ⟨d, e, q⟩ := dpGet h (List.getElem?_eq_getElem hi)
  exact ⟨d, List.mem_of_getElem? e, q⟩
/-- a term at a value -/
theorem tm_at {K : PySem.W.Frag} {G : Hp} {v : V} {t : Tm} (h : Dp K G v (tmD t)) : ∃ a, v = .ref a ∧ SqT K G a [.int t.1, .str t.2] := by
  unfold tmD at h
  cases h with
  | tup h a =>
    cases a with
    | cons a1 b1 =>
      cases a1
      cases b1 with
      | cons a2 b2 =>
        cases a2
        cases b2
        exact ⟨_, rfl, h⟩

section
variable {P : Program} {w : World} {K : PySem.W.Frag} {mg : Str → Option Value} {base : Heap}
theorem alpha_ok {v : V} (h : v ∈ ([.str "abcdefghijklmnopqrstuvwxyz", .str "nmk", .str "z"] : List V)) : ∃ z : Str, v = .str z ∧ lets z ∧ 0 < z.length ∧ z.length ≤ 26 := by
  have k1 : lets "abcdefghijklmnopqrstuvwxyz" := by unfold lets; decide +kernel
  have k2 : lets "nmk" := by unfold lets; decide +kernel
  have k3 : lets "z" := by unfold lets; decide +kernel
  rcases List.mem_cons.mp h with rfl | h
  · exact ⟨_, rfl, k1, by decide +kernel, by decide +kernel⟩
  rcases List.mem_cons.mp h with rfl | h
  · exact ⟨_, rfl, k2, by decide +kernel, by decide +kernel⟩
  rcases List.mem_cons.mp h with rfl | h
  · exact ⟨_, rfl, k3, by decide +kernel, by decide +kernel⟩
  · cases h
theorem sign_of {z : Str} {v : V} (hz : lets z) (h : v ∈ signV z) : ∃ y : Str, v = .str y ∧ y.length = 1 ∧ lets y := by
  obtain ⟨c, hc, rfl⟩ := List.mem_map.mp h
  refine ⟨_, rfl, rfl, fun d hd => ?_⟩
  have : d = c := by simpa using hd
  subst this
  exact hz d hc
def spTerms (K : PySem.W.Frag) : Sp := fun vs H Q _ => ∃ (G : Hp) (f c : Addr) (k : Nat) (m : Int), vs = [.ref f, .int m] ∧ 0 < m ∧ m ≤ 8 ∧ Wo G H f c k ∧ k < 536870912 ∧
  ∀ (p : Addr) (xs : List V) (ts : List Tm) (G' H' : Hp), Same G G' → Wo G' H' f c (k + 200) → G p = none → G' p = some (.lst xs) → DpAll K G' xs (ts.map tmD) → (ts.length : Int) < m → (∀ t ∈ ts, okT 5 (2 ^ 99) t) → Q (.ref p) H'
theorem ok__law_terms (T : Tx K mg) : FnOk P w K mg base CX0 3 T._law_terms.f T._law_terms.fd ["_law_feed_here", "_law_most"] (spTerms K) := by
  refine T._law_terms.F.ok sc__law_terms (fun vs H Q E h => ?_) (fun cdv A outer s H vs Q E hr h => ?_)
  · obtain ⟨G, f, c, k, m, rfl, _⟩ := h
    rfl
  · obtain ⟨G, f, c, k, m, rfl, m0, m1, W, kb, q⟩ := h
    refine ⟨_, (pss_cons (ps_set (i := 2) sc__law_terms.nd rfl (Or.inr rfl) (pe_call (ok__law_of T) (hr.mono (by decide)) (by rfl) T._law_of.mg T._law_of.F.kp T._law_of.b .nil pass0 (pa_cons (pv 0) (pa_cons (pe_lst (pa_cons pe_str (pa_cons pe_str (pa_cons pe_str pa_nil)))) pa_nil))))
 (pss_cons (ps_set (i := 3) sc__law_terms.nd rfl (Or.inl rfl) (pe_lst pa_nil))
 (pss_cons (ps_for PassesOwn.never rfl (pi_range1 (by rfl) T.b_range (pa_cons (pe_call (ok__law_draw T) (hr.mono (by decide)) (by rfl) T._law_draw.mg T._law_draw.F.kp T._law_draw.b .nil pass0 (pa_cons (pv 0) (pa_cons (pv 1) pa_nil))) pa_nil)) (pg_name (i := 4) sc__law_terms.nd rfl (Or.inl rfl))
 (pss_cons (ps_set (i := 5) sc__law_terms.nd rfl (Or.inl rfl) (pe_join pe_str (pe_lc (own := [("_law_place", 8)]) (g := gName 8) (by rfl) sc__law_terms.nd (pi_range1 (by rfl) T.b_range (pa_cons (pe_call (ok__law_draw T) (hr.mono (by decide)) (by rfl) T._law_draw.mg T._law_draw.F.kp T._law_draw.b .nil pass0 (pa_cons (pv 0) (pa_cons pe_int pa_nil))) pa_nil)) (blkOk_by (own := [("_law_place", 8)]) (N := N__law_terms) (sc := defScope s__law_terms) (by decide +kernel)) (fun _ _ _ _ _ => (pg_name (i := 8) sc__law_terms.nd rfl (Or.inl rfl))) (fun _ _ _ _ _ => pts_nil) (fun _ _ _ _ _ => (pe_call (ok__law_of T) (hr.mono (by decide)) (by rfl) T._law_of.mg T._law_of.F.kp T._law_of.b .nil pass0 (pa_cons (pv 0) (pa_cons (pv 2) pa_nil)))))))
 (pss_cons (ps_set (i := 6) sc__law_terms.nd rfl (Or.inl rfl) (pe_op op_add (pe_op op_pow pe_int pe_int) (pe_call (ok__law_draw T) (hr.mono (by decide)) (by rfl) T._law_draw.mg T._law_draw.F.kp T._law_draw.b .nil pass0 (pa_cons (pv 0) (pa_cons (pe_op op_pow pe_int pe_int) pa_nil)))))
 (pss_cons (ps_set (i := 7) sc__law_terms.nd rfl (Or.inl rfl) (pe_call (ok__law_of T) (hr.mono (by decide)) (by rfl) T._law_of.mg T._law_of.F.kp T._law_of.b .nil pass0 (pa_cons (pv 0) (pa_cons (pe_lst (pa_cons pe_int (pa_cons pe_int (pa_cons pe_int (pa_cons (pe_op op_add pe_int (pe_call (ok__law_draw T) (hr.mono (by decide)) (by rfl) T._law_draw.mg T._law_draw.F.kp T._law_draw.b .nil pass0 (pa_cons (pv 0) (pa_cons pe_int pa_nil)))) (pa_cons (pe_call (ok__law_draw T) (hr.mono (by decide)) (by rfl) T._law_draw.mg T._law_draw.F.kp T._law_draw.b .nil pass0 (pa_cons (pv 0) (pa_cons pe_int pa_nil))) (pa_cons (pv 6) pa_nil))))))) pa_nil))))
 (pss_cut (ps_if (PW.pt (pw_and (pt_cmpR (op_neD hr.units) (pv 3) (pe_lst pa_nil) (nomark _)) (pw_and1 (pt_cmpR op_eq (pe_call (ok__law_draw T) (hr.mono (by decide)) (by rfl) T._law_draw.mg T._law_draw.F.kp T._law_draw.b .nil pass0 (pa_cons (pv 0) (pa_cons pe_int pa_nil))) pe_int (nomark _)))))
 (pss_one (ps_set (i := 5) sc__law_terms.nd rfl (Or.inl rfl) (pe_revS (pe_ix ix_tup (pe_call (ok__law_of T) (hr.mono (by decide)) (by rfl) T._law_of.mg T._law_of.F.kp T._law_of.b .nil pass0 (pa_cons (pv 0) (pa_cons (pv 3) pa_nil))) pe_int (fun _ _ => rfl)))))
 pss_nil)
 (pss_one (ps_expr (pe_bm PySem.F.plainAttrs_list PySem.F.slot_list_append PySem.F.type_list_append mt_append (pv 3) (pa_cons (pe_tup (pa_cons (pv 7) (pa_cons (pv 5) pa_nil))) pa_nil)))))))))
 (pss_one (ps_ret (pv 3)))))), ?_⟩
    -- alphabet
    refine ⟨_, rfl, by show 3 ≤ sizeLine; decide, fun p1 np1 => ?_⟩
    refine ⟨_, f, c, k, _, _, rfl, .inl ⟨p1, rfl, ofL upd_same⟩, by show 0 < 3; decide, by show 3 < 1000000; decide, W.new np1, by omega, fun v H1 hv W1' => ?_⟩
    obtain ⟨az, rfl, azl, az0, az1⟩ := alpha_ok hv
    have W1 : Wo G H1 f c (k + 1) := W1'.sub (same_up (W.same.free np1)) W.cells
    -- found = []
    refine ⟨Nat.zero_le _, fun p np => ?_⟩
    have gp : G p = none := W1.same.free np
    have W2 : Wo G (upd H1 p (.lst [])) f c (k + 1) := W1.fresh np
    have hp2 : (upd H1 p (.lst [])) p = some (.lst []) := upd_same
    have nfp : f ≠ p := W1.ne np
    generalize upd H1 p (.lst []) = H2 at W2 hp2
    -- for turn in range(draw(feed, most))
    refine ⟨_, rfl, _, rfl, _, f, c, k + 1, m, rfl, m0, by omega, W2.add hp2 nfp gp, by omega, fun d H3 d0 d1 W3' => ?_⟩
    have hp3 : H3 p = some (.lst []) := W3'.same _ _ upd_same
    have W3 : Wo G H3 f c (k + 2) := W3'.sub (same_up gp) W.cells
    refine ⟨d, rfl, by omega, by omega, for_range (lo := 0) (n := d.toNat) (fun i σ H' => ∃ (Gi : Hp) (ts : List Tm) (xs : List V) (v4 v5 v6 v7 v8 : Option V),
      σ = [some (.ref f), some (.int m), some (.str az), some (.ref p), v4, v5, v6, v7, v8] ∧ Same G Gi ∧ Gi p = none ∧ Wo Gi H' f c (k + 2 + 20 * i) ∧ H' p = some (.lst xs) ∧ DpAll K Gi xs (ts.map tmD) ∧ ts.length ≤ i ∧ ∀ t ∈ ts, okT 5 (2 ^ 99) t)
      ⟨G, [], [], none, none, none, none, none, rfl, Same.refl G, gp, W3, hp3, .nil, Nat.le_refl _, fun t ht => nomatch ht⟩ ?_ ?_⟩
    · rintro i σ H4 hi ⟨Gi, ts, xs, v4, v5, v6, v7, v8, rfl, sg, gip, W4, hp4, hxs, hts, okt⟩
      have hi8 : i < 8 := by omega
      generalize hGp : upd Gi p (.lst xs) = Gp
      have sgp : Same Gi Gp := by rw [← hGp]; exact same_up gip
      have gpp : Gp p = some (.lst xs) := by rw [← hGp]; exact upd_same
      have gcl : ∃ ns : List Int, Gp c = some (.lst (ns.map V.int)) := by
        obtain ⟨ns, e⟩ := W4.cells
        exact ⟨ns, sgp _ _ e⟩
      have W5 : Wo Gp H4 f c (k + 2 + 20 * i) := by rw [← hGp]; exact W4.add hp4 nfp gip
      -- letters = ''.join([of(feed, alphabet) for place in range(draw(feed, 6))])
      refine ⟨⟨_, rfl⟩, _, rfl, Gp, f, c, _, 6, rfl, by decide, by decide, W5, by omega, fun d6 H5 e0 e1 W6 => ?_⟩
      refine ⟨d6, rfl, by omega, by omega, fun D nD => ?_⟩
      have gD : Gp D = none := W6.same.free nD
      have nfD : f ≠ D := W6.ne nD
      refine lc_range (lo := 0) (n := d6.toNat) (fun j H' => ∃ zs : List Str, H' D = some (.lst (zs.map V.str)) ∧ Wo Gp H' f c (k + 3 + 20 * i + j) ∧ zs.length = j ∧ ∀ z ∈ zs, z.length = 1 ∧ lets z)
        ⟨[], upd_same, (W6.fresh nD).mono (by omega), rfl, fun z hz => nomatch hz⟩ ?_ ?_
      · rintro j H6 hj ⟨zs, hD, W7, ez, hz⟩
        refine ⟨rfl, ?_⟩
        have hD7 : Wo (upd Gp D (.lst (zs.map V.str))) H6 f c (k + 3 + 20 * i + j) := W7.add hD nfD gD
        refine ⟨_, rfl, _, rfl, _, f, c, _, _, _, rfl, .inr ⟨az, rfl, by omega, rfl⟩, by simp [signV]; exact az0, by simp [signV]; have : az.cps.size = az.length := rfl; omega, hD7, by omega, fun v H7 hv W8 => ?_⟩
        obtain ⟨y, rfl, y1, yl⟩ := sign_of azl hv
        refine ⟨_, W8.same _ _ upd_same, by rw [List.length_map, sizeLine_eq]; omega, zs ++ [y], by rw [upd_same, List.map_append]; rfl, ?_, by rw [List.length_append, ez]; rfl, ?_⟩
        · exact ((W8.sub (same_up gD) gcl).put gD nfD).mono (by omega)
        · intro z hz'
          rcases List.mem_append.mp hz' with h | h
          · exact hz z h
          · rw [List.mem_singleton.mp h]; exact ⟨y1, yl⟩
      · rintro H6 ⟨zs, hD, W7, ez, hz⟩
        refine ⟨_, D, zs, rfl, rfl, .inl (ofL hD), ?_, ?_⟩
        · have : (zs.map (·.length)).sum ≤ zs.length := by
            clear hD W7 ez
            induction zs with
            | nil => exact Nat.le_refl _
            | cons z r ih =>
              have h1 := (hz z List.mem_cons_self).1
              have h2 := ih fun y hy => hz y (List.mem_cons_of_mem _ hy)
              simp only [List.map_cons, List.sum_cons, List.length_cons]
              omega
          have e0 : ("" : Str).length = 0 := by decide +kernel
          rw [e0]
          omega
        have letL : (Txt.join "" zs).length ≤ 5 := by rw [join0_len zs zs.length (fun y hy => (hz y hy).1) rfl]; omega
        have letO : lets (Txt.join "" zs) := lets_join fun y hy => (hz y hy).2
        generalize Txt.join "" zs = z5 at letL letO
        -- great = 10 ** 29 + draw(feed, 10 ** 6)
        refine ⟨_, _, rfl, rfl, ⟨by decide, by decide, by decide⟩, _, rfl, _, _, rfl, rfl, ⟨by decide, by decide, by decide⟩, Gp, f, c, _, _, rfl, by decide, by decide, W7, by omega, fun dg H7 g0 g1 W8 => ?_⟩
        refine ⟨_, _, rfl, rfl, ?_⟩
        -- many = of(feed, [0, 1, 1, 1 + draw(feed, 9), draw(feed, 1000), great])
        refine ⟨_, rfl, _, rfl, Gp, f, c, _, 9, rfl, by decide, by decide, W8, by omega, fun d9 H8 a0 a1 W9 => ?_⟩
        refine ⟨_, _, rfl, rfl, _, rfl, Gp, f, c, _, 1000, rfl, by decide, by decide, W9, by omega, fun dk H9 b0 b1 W10 => ?_⟩
        refine ⟨_, rfl, by show 6 ≤ sizeLine; decide, fun pl npl => ?_⟩
        refine ⟨_, f, c, _, _, _, rfl, .inl ⟨pl, rfl, ofL upd_same⟩, by show 0 < 6; decide, by show 6 < 1000000; decide, W10.new npl, by omega, fun vm H10 hv W11' => ?_⟩
        have W11 := W11'.sub (same_up (W10.same.free npl)) gcl
        obtain ⟨mn, rfl, mn0, mn1⟩ : ∃ mn : Int, vm = .int mn ∧ 0 ≤ mn ∧ mn < 2 ^ 99 := by
          have big : (10 : Int) ^ 29 + 1000000 < 2 ^ 99 := by decide
          have e29 : (10 : Int) ^ (29 : Int).toNat = 10 ^ 29 := rfl
          have e6 : (10 : Int) ^ (6 : Int).toNat = 1000000 := by decide
          rw [e6] at g1
          rcases List.mem_cons.mp hv with rfl | hv
          · exact ⟨_, rfl, by decide, by decide⟩
          rcases List.mem_cons.mp hv with rfl | hv
          · exact ⟨_, rfl, by decide, by decide⟩
          rcases List.mem_cons.mp hv with rfl | hv
          · exact ⟨_, rfl, by decide, by decide⟩
          rcases List.mem_cons.mp hv with rfl | hv
          · exact ⟨_, rfl, by omega, by omega⟩
          rcases List.mem_cons.mp hv with rfl | hv
          · exact ⟨_, rfl, by omega, by omega⟩
          rcases List.mem_cons.mp hv with rfl | hv
          · exact ⟨_, rfl, by rw [e29]; omega, by rw [e29]; omega⟩
          · cases hv
        -- if found != [] and draw(feed, 4) == 0
        refine ⟨fun σ' H' => ∃ z : Str, σ' = [some (.ref f), some (.int m), some (.str az), some (.ref p), some (.int (0 + (i : Int))), some (.str z), some (.int ((10 : Int) ^ (29 : Int).toNat + dg)), some (.int mn), v8] ∧ z.length ≤ 5 ∧ lets z ∧ Wo Gp H' f c (k + 2 + 20 * (i + 1)), ?_, ?_⟩
        · have W12 : Wo Gp H10 f c (k + 2 + 20 * (i + 1)) := W11.mono (by omega)
          have hp12 : H10 p = some (.lst xs) := W12.same _ _ gpp
          refine ⟨_, rfl, Nat.zero_le _, fun pe npe => ?_⟩
          have hpe : (upd H10 pe (.lst [])) pe = some (.lst []) := upd_same
          have W13 : Wo Gp (upd H10 pe (.lst [])) f c (k + 2 + 20 * i + 15) := (W11.fresh npe).mono (by omega)
          generalize upd H10 pe (.lst []) = H11 at W13 hpe
          refine ⟨.list (ts.map tmD), .list [], .lst (ofL (W13.same _ _ gpp)) (dpUps (sgp.trans W13.same) hxs), .lst (ofL hpe) .nil, shTms fun t ht => (okt t ht).2.2.2, (by rfl), _, rfl, ?_⟩
          refine ite2 (fun hn => ?_) (fun _ => ⟨z5, rfl, letL, letO, W13.mono (by omega)⟩)
          have hx0 : 0 < xs.length := by
            rw [dpLen hxs, List.length_map]
            cases ts with
            | nil => exact absurd hn (by decide)
            | cons _ _ => exact Nat.succ_pos _
          refine ⟨_, rfl, Gp, f, c, _, 4, rfl, by decide, by decide, W13, by omega, fun d4 H12 h0 h1 W14 => ?_⟩
          refine ⟨rfl, _, rfl, ?_⟩
          refine ite2 (fun _ => ?_) (fun _ => ⟨z5, rfl, letL, letO, W14.mono (by omega)⟩)
          refine ⟨_, rfl, _, rfl, Gp, f, c, _, _, xs, rfl, .inl ⟨p, rfl, ofL gpp⟩, hx0, by rw [dpLen hxs, List.length_map]; omega, W14, by omega, fun v H13 hv W15 => ?_⟩
          obtain ⟨dd, hdd, hv'⟩ := dpMem hxs hv
          obtain ⟨t, ht, rfl⟩ := List.mem_map.mp hdd
          obtain ⟨a, rfl, ha⟩ := tm_at hv'
          obtain ⟨t0, t1, t2, t3⟩ := okt t ht
          refine ⟨a, _, 1, .str t.2, rfl, rfl, Same.sqT (sgp.trans W15.same) ha, rfl, t.2, rfl, by rw [sizeLine_eq]; omega, ?_⟩
          exact ⟨revS t.2, rfl, by rw [revS_length]; exact t2, lets_rev t3, W15.mono (by omega)⟩
        · rintro σ' H11 ⟨z, rfl, zl, zo, W12⟩
          have hp12 : H11 p = some (.lst xs) := W12.same _ _ gpp
          refine ⟨_, rfl, .inl ⟨rfl, _, ofL hp12⟩, _, rfl, _, rfl, by show 2 ≤ sizeLine; decide, fun tp ntp => ?_⟩
          have npt : p ≠ tp := ne_of_none hp12 ntp
          have gtp : Gi tp = none := (sgp.trans W12.same).free ntp
          refine ⟨p, xs, _, rfl, rfl, by rw [upd_ne npt]; exact hp12, by rw [dpLen hxs, List.length_map, sizeLine_eq]; omega, ?_⟩
          refine ⟨upd Gi tp (.tup [.int mn, .str z]), ts ++ [(mn, z)], xs ++ [.ref tp], _, _, _, _, _, rfl, sg.trans (same_up gtp), by rw [upd_ne npt]; exact gip, ?_, upd_same, ?_, by rw [List.length_append]; show ts.length + 1 ≤ i + 1; omega, ?_⟩
          · have W13 : Wo Gi H11 f c (k + 2 + 20 * (i + 1)) := W12.sub sgp W4.cells
            exact (W13.new ntp).put (by rw [upd_ne npt]; exact gip) nfp
          · rw [List.map_append]
            exact dpApp (dpUps (same_up gtp) hxs) (.cons (.tup (ofT upd_same) (.cons (.int _) (.cons (.str _) .nil))) .nil)
          · intro t ht
            rcases List.mem_append.mp ht with h | h
            · exact okt t h
            · rw [List.mem_singleton.mp h]; exact ⟨mn0, mn1, zl, zo⟩
    · rintro σ H4 ⟨Gi, ts, xs, v4, v5, v6, v7, v8, rfl, sg, gip, W4, hp4, hxs, hts, okt⟩
      refine ⟨_, rfl, ?_⟩
      exact q p xs ts (upd Gi p (.lst xs)) H4 (sg.trans (same_up gip)) ((W4.add hp4 nfp gip).mono (by omega)) gp upd_same (dpUps (same_up gip) hxs) (by omega) okt
end
end Cr

namespace Cr
open PySem L2
theorem Wo.keep {G H H' : Hp} {f c : Addr} {k : Nat} (W : Wo G H f c k) (s : Same H H') : Wo G H' f c k := by
  obtain ⟨a, l, e, r⟩ := W.feed
  exact ⟨W.same.trans s, W.nf, W.cells, a, l, s _ _ e, r⟩
theorem paired_app {α β : Type} {F : α → β → Prop} : ∀ {xs ys : List α} {us vs : List β}, Paired F xs us → Paired F ys vs → Paired F (xs ++ ys) (us ++ vs)
  | _, _, _, _, .nil, h => h
  | _, _, _, _, .cons a b, h => .cons a (paired_app b h)
/-- bounds of tables of terms of at most 12 signs -/
abbrev BT : Int := 2 ^ 240
structure TsOk (ts : List Tm) : Prop where
  len : ts.length ≤ 40
  each : ∀ t ∈ ts, okT 12 (2 ^ 230) t
theorem TsOk.part {ts : List Tm} (h : TsOk ts) (i : Nat) : TabOk 12 BT ((ts.take i).foldl stepK []) ∧ ((ts.take i).foldl stepK []).length ≤ 40 := by
  have a := fold_ok (m := 12) (C := 2 ^ 230) (by decide) (ts.take i) [] 1 .nil (by decide) fun t ht => h.each t (List.mem_of_mem_take ht)
  have hl : (ts.take i).length ≤ 40 := Nat.le_trans (by rw [List.length_take]; omega) h.len
  refine ⟨a.1.mono ?_, by simpa using Nat.le_trans a.2 (by simpa using hl)⟩
  have e : (2 : Int) ^ 240 = 2 ^ 230 * 1024 := by decide
  show 1 + 2 ^ 230 * ((ts.take i).length : Int) ≤ (2 : Int) ^ 240
  rw [e]
  have : (0 : Int) < 2 ^ 230 := by decide
  omega
theorem TsOk.tab0 {ts : List Tm} (h : TsOk ts) : TabOk 12 BT (tab0 ts) ∧ (tab0 ts).length ≤ 40 := by
  have q := h.part ts.length
  rw [List.take_length] at q
  exact q
theorem take_fold {ts : List Tm} {i : Nat} {t : Tm} (e : ts[i]? = some t) : (ts.take (i + 1)).foldl stepK [] = stepK ((ts.take i).foldl stepK []) t := by
  rw [List.take_add_one, e, List.foldl_append]
  rfl
theorem lens1 : ∀ (ys : List Str), (∀ y ∈ ys, y.length = 1) → (ys.map (·.length)).sum = ys.length
  | [], _ => rfl
  | y :: r, h => by
    have h1 := h y List.mem_cons_self
    have h2 := lens1 r fun z hz => h z (List.mem_cons_of_mem _ hz)
    simp only [List.map_cons, List.sum_cons, List.length_cons, h1, h2]
    omega
theorem e0len : ("" : Str).length = 0 := by decide +kernel
/-- the room that a join of sorted signs asks -/
theorem join_room {ys : List Str} {z : Str} (pm : ys.Perm (signs z)) (hz : z.length < 64) : (ys.map (·.length)).sum + ys.length * ("" : Str).length ≤ 16777216 := by
  rw [lens1 ys fun y hy => sign_len (pm.mem_iff.mp hy), pm.length_eq, signs_len, e0len]
  omega
theorem join_srt {ys : List Str} {z : Str} (pm : ys.Perm (signs z)) (so : PyProof.Rows.sortedS ys = true) : Txt.join "" ys = srt z := by
  rw [sorted_is pm so]
  rfl
section
variable {P : Program} {w : World} {K : PySem.W.Frag} {mg : Str → Option Value} {base : Heap}
def spTable (K : PySem.W.Frag) : Sp := fun vs H Q _ => ∃ (a : Addr) (xs : List V) (ts : List Tm), vs = [.ref a] ∧ SqL K H a xs ∧ DpAll K H xs (ts.map tmD) ∧ TsOk ts ∧
  ∀ (p : Addr) (H' : Hp), Same H H' → H p = none → H' p = some (.dK (tab ts)) → Q (.ref p) H'
theorem ok__law_table (T : Tx K mg) : FnOk P w K mg base CX0 1 T._law_table.f T._law_table.fd ["_law_terms_here"] (spTable K) := by
  refine T._law_table.F.ok sc__law_table (fun vs H Q E h => ?_) (fun cdv A outer s H vs Q E hr h => ?_)
  · obtain ⟨a, xs, ts, rfl, _⟩ := h
    rfl
  · obtain ⟨a, xs, ts, rfl, ha, hxs, tok, q⟩ := h
    have hu := hu_of hr
    refine ⟨_, (pss_cons (ps_set (i := 1) sc__law_table.nd rfl (Or.inr rfl) pe_dnewK)
 (pss_cons (ps_for PassesOwn.never rfl (pi_list (pv 0)) (pg_tup rfl (pgs_cons (pg_name (i := 2) sc__law_table.nd rfl (Or.inl rfl)) (pgs_cons (pg_name (i := 3) sc__law_table.nd rfl (Or.inl rfl)) pgs_nil)))
 (pss_cons (ps_set (i := 4) sc__law_table.nd rfl (Or.inl rfl) (pe_join pe_str (pe_callB (call_sortedT (by rfl)) (by rfl) T.b_sorted (by decide +kernel) (pa_cons (pv 3) pa_nil))))
 (pss_one (ps_dput hu (pv 1) (pv 4) (pe_op op_add (pe_dget2 hu (pv 1) (pv 4) pe_int ⟨rfl, rfl, rfl, rfl⟩) (pv 2)) rfl))))
 (pss_one (ps_ret (pe_callTy (call_dictP rfl) (by rfl) T.b_dict (by decide +kernel) (pa_cons (pe_lock (pe_lc (own := [("_law_key", 4)]) (g := gName 4) (by rfl) sc__law_table.nd (pi_keys (pv 1)) (blkOk_by (own := [("_law_key", 4)]) (N := N__law_table) (sc := defScope s__law_table) (by decide +kernel)) (fun _ _ _ _ _ => (pg_name (i := 4) sc__law_table.nd rfl (Or.inl rfl))) (fun _ _ _ _ _ => (pts_one (pt_cmpR op_gt (pe_dget hu (pv 1) (pv 4) (fun _ _ => rfl)) pe_int (nomark _)))) (fun _ _ _ _ _ => (pe_tup (pa_cons (pv 4) (pa_cons (pe_dget hu (pv 1) (pv 4) (fun _ _ => rfl)) pa_nil)))))) pa_nil)))))), ?_⟩
    intro d nd
    have hlen : xs.length = ts.length := by rw [dpLen hxs, List.length_map]
    refine ⟨_, rfl, a, rfl, ⟨_, (same_up nd).seq ha⟩, for_list (K := K) (a := a) (xs := xs) (fun i σ H' => ∃ v2 v3 v4, σ = [some (.ref a), some (.ref d), v2, v3, v4] ∧ Same H H' ∧ H' d = some (.dK ((ts.take i).foldl stepK [])))
      ⟨none, none, none, rfl, same_up nd, upd_same⟩ (fun i σ H' _ ⟨_, _, _, _, s, _⟩ => s.seq ha) ?_ ?_⟩
    · rintro i x σ H' hi ⟨v2, v3, v4, rfl, s, hd⟩
      obtain ⟨dd, hdd, hx⟩ := dpGet hxs hi
      rw [List.getElem?_map] at hdd
      obtain ⟨t, et, rfl⟩ := Option.map_eq_some_iff.mp hdd
      obtain ⟨b, rfl, hb⟩ := tm_at hx
      obtain ⟨t0, t1, t2, t3⟩ := tok.each t (List.mem_of_getElem? et)
      obtain ⟨ok, ol⟩ := tok.part i
      refine ⟨b, _, rfl, Same.sqT s hb, rfl, _, _, rfl, _, _, rfl, rfl, ?_⟩
      refine ⟨⟨_, rfl⟩, _, rfl, t.2, rfl, by omega, fun ys p pm so np => ?_⟩
      refine ⟨_, p, ys, rfl, rfl, .inl (ofL upd_same), join_room pm (by omega), ?_⟩
      rw [join_srt pm so]
      have hd2 : (upd H' p (.lst (ys.map V.str))) d = some (.dK ((ts.take i).foldl stepK [])) := by rw [upd_ne (ne_of_none hd np)]; exact hd
      have s2 : Same H (upd H' p (.lst (ys.map V.str))) := Same.new s np
      generalize upd H' p (.lst (ys.map V.str)) = H2 at hd2 s2
      refine ⟨_, rfl, d, rfl, .inl ⟨_, .inl hd2⟩, _, rfl, _, DGet.k (k := .inr (srt t.2)) hd2, ?_⟩
      rw [getD_gI ok]
      refine ⟨_, rfl, _, _, rfl, rfl, _, rfl, _, rfl, d, _, rfl, DPut.k (k := .inr (srt t.2)) hd2 (by rw [sizeLine_eq]; omega), ?_⟩
      refine ⟨_, _, _, rfl, Same.put s2 nd, ?_⟩
      rw [upd_same, take_fold et]
      rfl
    · rintro σ H' ⟨v2, v3, v4, rfl, s, hd⟩
      rw [hlen, List.take_length] at hd
      have hd : H' d = some (.dK (tab0 ts)) := hd
      obtain ⟨ok, ol⟩ := tok.tab0
      -- [(key, found[key]) for key in found if found[key] > 0]
      refine ⟨d, _, hd, trivial, fun od => ?_⟩
      have hd1 : (upd H' d (.frz od (.dK (tab0 ts)))) d = some (.frz od (.dK (tab0 ts))) := upd_same
      have s1 : ∀ a x, a ≠ d → H' a = some x → (upd H' d (.frz od (.dK (tab0 ts)))) a = some x := fun a x c e => by rw [upd_ne c]; exact e
      generalize upd H' d (.frz od (.dK (tab0 ts))) = H1 at hd1 s1
      refine ⟨_, rfl, d, od, rfl, .inl ⟨_, hd1, fun D nD => ?_⟩⟩
      have nDd : d ≠ D := ne_of_none hd1 nD
      refine lc_keys (Pv := fun i H2 => (∀ a x, a ≠ d → H' a = some x → H2 a = some x) ∧ H2 d = some (.frz od (.dK (tab0 ts))) ∧ ∃ ps : List Addr, H2 D = some (.lst (ps.map V.ref)) ∧
          Paired (fun p kv => H2 p = some (.tup [kV kv.1, kv.2])) ps (((tab0 ts).take i).filter fun p => posV p.2)) ⟨fun a x c e => ?_, ?_, [], upd_same, .nil⟩ (fun i H2 _ h => h.2.1) ?_ ?_
      · have e1 := s1 a x c e
        rw [upd_ne (ne_of_none e1 nD)]; exact e1
      · rw [upd_ne nDd]; exact hd1
      · rintro i kk v H2 hi ⟨sk, hd2, ps, hD, hps⟩
        obtain ⟨z, n, ekv, n0, n1, zl, zo⟩ := ok.each _ (List.mem_of_getElem? hi)
        obtain ⟨rfl, rfl⟩ : kk = .inr z ∧ v = .int n := by cases ekv; exact ⟨rfl, rfl⟩
        have hv : valV (tab0 ts) (.inr z) = some (.int n) := val_nodup ok.nd _ (List.mem_of_getElem? hi)
        refine ⟨rfl, _, rfl, _, rfl, d, _, rfl, dg_frz (k := .inr z) hd2 hv, _, _, rfl, rfl, _, rfl, ?_⟩
        refine ite2 (fun hpos => ?_) (fun hneg => ?_)
        · refine ⟨_, rfl, _, rfl, _, rfl, d, _, rfl, dg_frz (k := .inr z) hd2 hv, by show 2 ≤ sizeLine; decide, fun tp ntp => ?_⟩
          have nDt : D ≠ tp := ne_of_none hD ntp
          have ndt : d ≠ tp := ne_of_none hd2 ntp
          have hlp : ps.length ≤ 40 := by
            rw [Paired.length hps]
            exact Nat.le_trans (List.length_filter_le _ _) (Nat.le_trans (by rw [List.length_take]; omega) ol)
          refine ⟨_, by rw [upd_ne nDt]; exact hD, by rw [List.length_map, sizeLine_eq]; omega, fun a x c e => ?_, ?_, ps ++ [tp], by rw [upd_same, List.map_append]; rfl, ?_⟩
          · have e1 := sk a x c e
            have naD : a ≠ D := fun q => by
              rw [q] at e
              have e2 := s1 _ _ (q ▸ c) e
              rw [nD] at e2; cases e2
            rw [upd_ne naD, upd_ne (ne_of_none e1 ntp)]
            exact e1
          · rw [upd_ne nDd, upd_ne ndt]; exact hd2
          · rw [filter_take_yes hi (show posV (.int n) = true from hpos)]
            refine paired_app (Paired.mapP hps fun p kv e => ?_) (.cons ?_ .nil)
            · have npD : p ≠ D := ne_of e hD (by intro q; cases q)
              rw [upd_ne npD, upd_ne (ne_of_none e ntp)]
              exact e
            · rw [upd_ne nDt.symm, upd_same]
        · refine ⟨sk, hd2, ps, hD, ?_⟩
          rw [filter_take_no hi (show posV (.int n) = false by simpa [posV] using hneg)]
          exact hps
      · rintro H2 ⟨sk, hd2, ps, hD, hps⟩
        rw [List.take_length] at hps
        have nd1 : (tab ts).map (·.1) |>.Nodup := ok.nd.sublist ((tab_sub ts).map _)
        refine ⟨hd2, D, ps, tab ts, rfl, ofL (by rw [upd_ne nDd.symm]; exact hD), Paired.mapP hps fun p kv e => ofT (by rw [upd_ne (ne_of e hd2 (by intro q; cases q))]; exact e), fun p np => ?_⟩
        rw [merge_new nd1]
        have ss : Same H' (upd H2 d (.dK (tab0 ts))) := same_lock hd sk
        exact q p _ ((s.trans ss).trans (same_up np)) ((s.trans ss).free np) upd_same

/-! ### Size.__init__ -/
def spInit (K : PySem.W.Frag) (C : Addr) : Sp := fun vs H Q _ => ∃ (x dx a : Addr) (xs : List V) (ts : List Tm), vs = [.ref x, .ref a] ∧ H x = some (.ins C dx []) ∧ SqL K H a xs ∧ DpAll K H xs (ts.map tmD) ∧ TsOk ts ∧
  ∀ (p : Addr) (H' : Hp), (∀ b o, b ≠ x → H b = some o → H' b = some o) → H p = none → H' x = some (.ins C dx [("counts", .ref p)]) → H' p = some (.dK (tab ts)) → Q .non H'
theorem ok_Size___init__ (T : Tx K mg) : FnOk P w K mg base CX0 1 T.Size___init__.f T.Size___init__.fd ["self", "terms"] (spInit K T.C) := by
  refine T.Size___init__.F.ok sc_Size___init__ (fun vs H Q E h => ?_) (fun cdv A outer s H vs Q E hr h => ?_)
  · obtain ⟨x, dx, a, xs, ts, rfl, _⟩ := h
    rfl
  · obtain ⟨x, dx, a, xs, ts, rfl, hx0, ha, hxs, tok, q⟩ := h
    have hu := hu_of hr
    refine ⟨_, (pss_cons (ps_set (i := 2) sc_Size___init__.nd rfl (Or.inr rfl) pe_dnewK)
 (pss_cons (ps_for PassesOwn.never rfl (pi_list (pv 1)) (pg_tup rfl (pgs_cons (pg_name (i := 3) sc_Size___init__.nd rfl (Or.inl rfl)) (pgs_cons (pg_name (i := 4) sc_Size___init__.nd rfl (Or.inl rfl)) pgs_nil)))
 (pss_cons (ps_set (i := 5) sc_Size___init__.nd rfl (Or.inl rfl) (pe_join pe_str (pe_callB (call_sortedT (by rfl)) (by rfl) T.b_sorted (by decide +kernel) (pa_cons (pv 4) pa_nil))))
 (pss_one (ps_dput hu (pv 2) (pv 5) (pe_op op_add (pe_dget2 hu (pv 2) (pv 5) pe_int ⟨rfl, rfl, rfl, rfl⟩) (pv 3)) rfl))))
 (pss_one (ps_fld (pv 0) (pe_lock (pe_dc (own := [("key", 5)]) (g := gName 5) (by rfl) sc_Size___init__.nd (pi_keys (pv 2)) (blkOk_by (own := [("key", 5)]) (N := N_Size___init__) (sc := defScope s_Size___init__) (by decide +kernel)) (fun _ _ _ _ _ => (pg_name (i := 5) sc_Size___init__.nd rfl (Or.inl rfl))) (fun _ _ _ _ _ => (pts_one (pt_cmpR op_gt (pe_dget hu (pv 2) (pv 5) (fun _ _ => rfl)) pe_int (nomark _)))) (fun _ _ _ _ _ => (pv 5)) (fun _ _ _ _ _ => (pe_dget hu (pv 2) (pv 5) (fun _ _ => rfl))))) rfl)))), ?_⟩
    intro d nd
    have hlen : xs.length = ts.length := by rw [dpLen hxs, List.length_map]
    refine ⟨_, rfl, a, rfl, ⟨_, (same_up nd).seq ha⟩, for_list (K := K) (a := a) (xs := xs) (fun i σ H' => ∃ v2 v3 v4, σ = [some (.ref x), some (.ref a), some (.ref d), v2, v3, v4] ∧ Same H H' ∧ H' d = some (.dK ((ts.take i).foldl stepK [])))
      ⟨none, none, none, rfl, same_up nd, upd_same⟩ (fun i σ H' _ ⟨_, _, _, _, s, _⟩ => s.seq ha) ?_ ?_⟩
    · rintro i y σ H' hi ⟨v2, v3, v4, rfl, s, hd⟩
      obtain ⟨dd, hdd, hx⟩ := dpGet hxs hi
      rw [List.getElem?_map] at hdd
      obtain ⟨t, et, rfl⟩ := Option.map_eq_some_iff.mp hdd
      obtain ⟨b, rfl, hb⟩ := tm_at hx
      obtain ⟨t0, t1, t2, t3⟩ := tok.each t (List.mem_of_getElem? et)
      obtain ⟨ok, ol⟩ := tok.part i
      refine ⟨b, _, rfl, Same.sqT s hb, rfl, _, _, rfl, _, _, rfl, rfl, ?_⟩
      refine ⟨⟨_, rfl⟩, _, rfl, t.2, rfl, by omega, fun ys p pm so np => ?_⟩
      refine ⟨_, p, ys, rfl, rfl, .inl (ofL upd_same), join_room pm (by omega), ?_⟩
      rw [join_srt pm so]
      have hd2 : (upd H' p (.lst (ys.map V.str))) d = some (.dK ((ts.take i).foldl stepK [])) := by rw [upd_ne (ne_of_none hd np)]; exact hd
      have s2 : Same H (upd H' p (.lst (ys.map V.str))) := Same.new s np
      generalize upd H' p (.lst (ys.map V.str)) = H2 at hd2 s2
      refine ⟨_, rfl, d, rfl, .inl ⟨_, .inl hd2⟩, _, rfl, _, DGet.k (k := .inr (srt t.2)) hd2, ?_⟩
      rw [getD_gI ok]
      refine ⟨_, rfl, _, _, rfl, rfl, _, rfl, _, rfl, d, _, rfl, DPut.k (k := .inr (srt t.2)) hd2 (by rw [sizeLine_eq]; omega), ?_⟩
      refine ⟨_, _, _, rfl, Same.put s2 nd, ?_⟩
      rw [upd_same, take_fold et]
      rfl
    · rintro σ H' ⟨v2, v3, v4, rfl, s, hd⟩
      rw [hlen, List.take_length] at hd
      have hd : H' d = some (.dK (tab0 ts)) := hd
      obtain ⟨ok, ol⟩ := tok.tab0
      -- {key: found[key] for key in found if found[key] > 0}
      refine ⟨d, _, hd, trivial, fun od => ?_⟩
      have hd1 : (upd H' d (.frz od (.dK (tab0 ts)))) d = some (.frz od (.dK (tab0 ts))) := upd_same
      have s1 : ∀ a x, a ≠ d → H' a = some x → (upd H' d (.frz od (.dK (tab0 ts)))) a = some x := fun a x c e => by rw [upd_ne c]; exact e
      generalize upd H' d (.frz od (.dK (tab0 ts))) = H1 at hd1 s1
      refine ⟨_, rfl, d, od, rfl, .inl ⟨_, hd1, fun D nD => ?_⟩⟩
      have nDd : d ≠ D := ne_of_none hd1 nD
      have stay : ∀ a x, a ≠ d → H' a = some x → a ≠ D := fun a x c e q => by
        have e2 := s1 a x c e
        rw [q, nD] at e2; cases e2
      refine dc_keys (Pv := fun i H2 => (∀ a x, a ≠ d → H' a = some x → H2 a = some x) ∧ H2 d = some (.frz od (.dK (tab0 ts))) ∧ H2 D = some (.dK (((tab0 ts).take i).filter fun p => posV p.2)))
          ⟨fun a x c e => ?_, ?_, upd_same⟩ (fun i H2 _ h => h.2.1) ?_ ?_
      · rw [upd_ne (stay a x c e)]; exact s1 a x c e
      · rw [upd_ne nDd]; exact hd1
      · rintro i kk v H2 hi ⟨sk, hd2, hD⟩
        obtain ⟨z, n, ekv, n0, n1, zl, zo⟩ := ok.each _ (List.mem_of_getElem? hi)
        obtain ⟨rfl, rfl⟩ : kk = .inr z ∧ v = .int n := by cases ekv; exact ⟨rfl, rfl⟩
        have hv : valV (tab0 ts) (.inr z) = some (.int n) := val_nodup ok.nd _ (List.mem_of_getElem? hi)
        refine ⟨rfl, _, rfl, _, rfl, d, _, rfl, dg_frz (k := .inr z) hd2 hv, _, _, rfl, rfl, _, rfl, ?_⟩
        refine ite2 (fun hpos => ?_) (fun hneg => ?_)
        · refine ⟨_, rfl, _, rfl, _, rfl, d, _, rfl, dg_frz (k := .inr z) hd2 hv, _, .inr z, rfl, hD, ?_, fun a x c e => ?_, ?_, ?_⟩
          · have : ((((tab0 ts).take i).filter fun p => posV p.2).length) ≤ 40 := Nat.le_trans (List.length_filter_le _ _) (Nat.le_trans (by rw [List.length_take]; omega) ol)
            rw [sizeLine_eq]; omega
          · rw [upd_ne (stay a x c e)]; exact sk a x c e
          · rw [upd_ne nDd]; exact hd2
          · rw [upd_same, filter_take_yes hi (show posV (.int n) = true from hpos)]
            rw [putK_new]
            refine (Option.eq_none_iff_forall_not_mem.mpr fun y hy => ?_)
            have hm := valV_in hy
            obtain ⟨p', hp', e'⟩ := List.mem_map.mp hm
            have hp2 := (List.mem_filter.mp hp').1
            obtain ⟨j, hj, ej⟩ := List.getElem_of_mem hp2
            rw [List.length_take] at hj
            have ej' : (tab0 ts)[j]? = some p' := by
              rw [← ej, List.getElem_take, List.getElem?_eq_getElem]
            have i1 : ((tab0 ts).map (·.1))[j]? = some (.inr z) := by rw [List.getElem?_map, ej']; exact congrArg some e'
            have i2 : ((tab0 ts).map (·.1))[i]? = some (.inr z) := by rw [List.getElem?_map, hi]; rfl
            have := nd_ix ok.nd i1 i2
            omega
        · refine ⟨sk, hd2, ?_⟩
          rw [filter_take_no hi (show posV (.int n) = false by simpa [posV] using hneg)]
          exact hD
      · rintro H2 ⟨sk, hd2, hD⟩
        rw [List.take_length] at hD
        have ss : Same H' (upd H2 d (.dK (tab0 ts))) := same_lock hd sk
        have hx1 := (s.trans ss) _ _ hx0
        have hD2 : (upd H2 d (.dK (tab0 ts))) D = some (.dK (tab ts)) := by rw [upd_ne nDd.symm]; exact hD
        have nDx : D ≠ x := ne_of hD2 hx1 (by intro q; cases q)
        have nD0 : H D = none := by
          cases e : H D with
          | none => rfl
          | some o =>
            have e1 := s1 _ _ nDd.symm (s _ _ e)
            rw [nD] at e1; cases e1
        refine ⟨hd2, _, rfl, x, T.C, dx, [], rfl, hx1, T.Size.cl, T.nC, by show 0 < 1000; decide, ?_⟩
        exact q D _ (fun b o c e => by rw [upd_ne c]; exact (s.trans ss) _ _ e) nD0 upd_same (by rw [upd_ne nDx]; exact hD2)
end
end Cr

namespace Cr
open PySem L2
/-! ### a Size -/
def SzAt (C : Addr) (H : Hp) (x : Addr) (kvs : List (Key × V)) : Prop := ∃ dx d, H x = some (.ins C dx [("counts", .ref d)]) ∧ H d = some (.dK kvs)
theorem SzAt.up {C : Addr} {H H' : Hp} {x : Addr} {kvs : List (Key × V)} (h : SzAt C H x kvs) (s : Same H H') : SzAt C H' x kvs := by
  obtain ⟨dx, d, a, b⟩ := h
  exact ⟨dx, d, s _ _ a, s _ _ b⟩
theorem lk_counts (d : Addr) : ([("counts", V.ref d)] : List (Str × V)).lookup ("counts" : Str) = some (V.ref d) := by
  unfold List.lookup
  rw [show (("counts" : Str) == "counts") = true by decide +kernel]
structure KvOk (kvs : List (Key × V)) : Prop where
  ok : TabOk 12 BT kvs
  len : kvs.length ≤ 40
  pos : ∀ p ∈ kvs, posV p.2 = true
theorem TsOk.kv {ts : List Tm} (h : TsOk ts) : KvOk (tab ts) :=
  ⟨h.tab0.1.sub (tab_sub ts), Nat.le_trans (tab_sub ts).length_le h.tab0.2, fun p hp => (List.mem_filter.mp hp).2⟩
theorem KvOk.flat {kvs : List (Key × V)} (h : KvOk kvs) : ∀ p ∈ kvs, flatV p.2 = true := fun p hp => by
  obtain ⟨z, n, rfl, _⟩ := h.ok.each p hp
  rfl

section
variable {P : Program} {w : World} {K : PySem.W.Frag} {mg : Str → Option Value} {base : Heap}
/-! ### Size.__eq__ -/
def spEq (K : PySem.W.Frag) (C : Addr) : Sp := fun vs H Q _ => ∃ (x : Addr) (y : V) (ks : List (Key × V)), vs = [.ref x, y] ∧ SzAt C H x ks ∧ KvOk ks ∧
  ((∃ (x' : Addr) (ls : List (Key × V)), y = .ref x' ∧ SzAt C H x' ls ∧ KvOk ls ∧ Q (.bl (dEq ks ls)) H) ∨ ∃ t, TyX K H y t ∧ PySem.W.kitOne K t (.ref C) = some false ∧ Q (.bl false) H)
theorem ok_Size___eq__ (T : Tx K mg) : FnOk P w K mg base CX0 1 T.Size___eq__.f T.Size___eq__.fd ["self", "other"] (spEq K T.C) := by
  refine T.Size___eq__.F.ok sc_Size___eq__ (fun vs H Q E h => ?_) (fun cdv A outer s H vs Q E hr h => ?_)
  · obtain ⟨x, y, ks, rfl, _⟩ := h
    rfl
  · obtain ⟨x, y, ks, rfl, ⟨dx, d, hx, hd⟩, kk, h⟩ := h
    refine ⟨_, (pss_one (ps_ret (pe_and (pe_callB call_isi (by rfl) T.b_isinstance (by decide +kernel) (pa_cons (pv 1) (pa_cons (pe_glob (v := V.ref T.C) (by rfl) T.Size.mg rfl) pa_nil))) (pe_one (pe_cmpR (op_eqDK hr.units0) (pe_fld (pv 0) rfl) (pe_fld (pv 1) rfl) (nomark _)))))), ?_⟩
    rcases h with ⟨x', ls, rfl, ⟨dy, e, hy, he⟩, lk, q⟩ | ⟨t, ty, ko, q⟩
    · refine ⟨_, rfl, _, _, _, _, true, rfl, .own T.C, T.ot.ty hy, by simp [PySem.W.kitOne], true, rfl, ?_⟩
      exact ⟨_, rfl, x, T.C, dx, _, _, rfl, hx, T.Size.cl, T.nC, lk_counts d, _, rfl, x', T.C, dy, _, _, rfl, hy, T.Size.cl, T.nC, lk_counts e, d, e, ks, ls, rfl, rfl, hd, he, kk.flat, lk.flat, q⟩
    · exact ⟨_, rfl, _, _, _, _, false, rfl, .own T.C, ty, ko, false, rfl, q⟩

/-! ### Size.terms_told -/
def keyS (p : Key × V) : Str := match p.1 with
  | .inr z => z
  | .inl _ => ""
def neE (z : Str) : Bool := !decide (z = "")
/-- the keys with letters, in order; then the term without letters -/
def toldK (kvs : List (Key × V)) : List Str := srtL ((kvs.map keyS).filter neE) ++ [("" : Str)]
def hasK (kvs : List (Key × V)) (z : Str) : Bool := (valV kvs (.inr z)).isSome
def told (kvs : List (Key × V)) : List Tm := ((toldK kvs).filter (hasK kvs)).map fun z => (gI kvs z, z)
def spTold (K : PySem.W.Frag) (C : Addr) : Sp := fun vs H Q _ => ∃ (x : Addr) (kvs : List (Key × V)), vs = [.ref x] ∧ SzAt C H x kvs ∧ KvOk kvs ∧
  ∀ (p : Addr) (xs : List V) (H' : Hp), Same H H' → H p = none → H' p = some (.lst xs) → DpAll K H' xs ((told kvs).map tmD) → Q (.ref p) H'
theorem ok_Size_terms_told (T : Tx K mg) : FnOk P w K mg base CX0 1 T.Size_terms_told.f T.Size_terms_told.fd ["self"] (spTold K T.C) := by
  refine T.Size_terms_told.F.ok sc_Size_terms_told (fun vs H Q E h => ?_) (fun cdv A outer s H vs Q E hr h => ?_)
  · obtain ⟨x, kvs, rfl, _⟩ := h
    rfl
  · obtain ⟨x, kvs, rfl, ⟨dx, d, hx, hd⟩, kk, q⟩ := h
    have hu := hu_of hr
    refine ⟨_, (pss_cons (ps_set (i := 1) sc_Size_terms_told.nd rfl (Or.inl rfl) (pe_callB cr_sortedS (by rfl) T.b_sorted (by decide +kernel) (pa_cons (pe_lock (pe_lc (own := [("key", 2)]) (g := gName 2) (by rfl) sc_Size_terms_told.nd (pi_keys (pe_fld (pv 0) rfl)) (blkOk_by (own := [("key", 2)]) (N := N_Size_terms_told) (sc := defScope s_Size_terms_told) (by decide +kernel)) (fun _ _ _ _ _ => (pg_name (i := 2) sc_Size_terms_told.nd rfl (Or.inl rfl))) (fun _ _ _ _ _ => (pts_one (pt_cmpR op_ne (pv 2) pe_str (nomark _)))) (fun _ _ _ _ _ => (pv 2)))) pa_nil)))
 (pss_one (ps_ret (pe_lc (own := [("key", 2)]) (g := gName 2) (by rfl) sc_Size_terms_told.nd (pi_list (pe_op op_cat (pv 1) (pe_lst (pa_cons pe_str pa_nil)))) (blkOk_by (own := [("key", 2)]) (N := N_Size_terms_told) (sc := defScope s_Size_terms_told) (by decide +kernel)) (fun _ _ _ _ _ => (pg_name (i := 2) sc_Size_terms_told.nd rfl (Or.inl rfl))) (fun _ _ _ _ _ => (pts_one (pt_cmp (pc_din hu (pv 2) (pe_fldK K rfl (pv 0) rfl))))) (fun _ _ _ _ _ => (pe_tup (pa_cons (pe_dget hu (pe_fldK K rfl (pv 0) rfl) (pv 2) (fun _ _ => rfl)) (pa_cons (pv 2) pa_nil)))))))), ?_⟩
    -- [key for key in self.counts if key != '']
    refine ⟨d, _, hd, trivial, fun od => ?_⟩
    have hd1 : (upd H d (.frz od (.dK kvs))) d = some (.frz od (.dK kvs)) := upd_same
    have s1 : ∀ a y, a ≠ d → H a = some y → (upd H d (.frz od (.dK kvs))) a = some y := fun a y c e => by rw [upd_ne c]; exact e
    have nxd : x ≠ d := ne_of hx hd (by intro z; cases z)
    generalize upd H d (.frz od (.dK kvs)) = H1 at hd1 s1
    refine ⟨_, rfl, x, T.C, dx, _, _, rfl, s1 _ _ nxd hx, T.Size.cl, T.nC, lk_counts d, d, od, rfl, .inl ⟨kvs, hd1, fun D nD => ?_⟩⟩
    have nDd : d ≠ D := ne_of_none hd1 nD
    have stay : ∀ a y, a ≠ d → H a = some y → a ≠ D := fun a y c e q => by
      have e2 := s1 a y c e
      rw [q, nD] at e2; cases e2
    refine lc_keys (Pv := fun i H2 => (∀ a y, a ≠ d → H a = some y → H2 a = some y) ∧ H2 d = some (.frz od (.dK kvs)) ∧ H2 D = some (.lst ((((kvs.take i).map keyS).filter neE).map V.str)))
      ⟨fun a y c e => ?_, ?_, upd_same⟩ (fun i H2 _ h => h.2.1) ?_ ?_
    · rw [upd_ne (stay a y c e)]; exact s1 a y c e
    · rw [upd_ne nDd]; exact hd1
    · rintro i kq v H2 hi ⟨sk, hd2, hD⟩
      obtain ⟨z, n, ekv, n0, n1, zl, zo⟩ := kk.ok.each _ (List.mem_of_getElem? hi)
      obtain ⟨rfl, rfl⟩ : kq = .inr z ∧ v = .int n := by cases ekv; exact ⟨rfl, rfl⟩
      have em : ((kvs.take (i + 1)).map keyS).filter neE = ((kvs.take i).map keyS).filter neE ++ (if neE z = true then [z] else []) := by
        rw [List.take_add_one, hi, List.map_append, List.filter_append]
        show _ ++ ([z].filter neE) = _
        rw [List.filter_cons]
        rfl
      refine ⟨rfl, _, rfl, rfl, _, rfl, ?_⟩
      refine ite2 (fun hne => ?_) (fun he => ?_)
      · have hz : neE z = true := by simpa [neE, kV] using hne
        refine ⟨_, rfl, _, hD, ?_, fun a y c e => ?_, ?_, ?_⟩
        · rw [List.length_map, sizeLine_eq]
          have := List.length_filter_le neE ((kvs.take i).map keyS)
          rw [List.length_map, List.length_take] at this
          have := kk.len
          omega
        · rw [upd_ne (stay a y c e)]; exact sk a y c e
        · rw [upd_ne nDd]; exact hd2
        · rw [upd_same, em, if_pos hz, List.map_append]
          rfl
      · have hz : ¬ neE z = true := by simpa [neE, kV] using he
        refine ⟨sk, hd2, ?_⟩
        rw [em, if_neg hz, List.append_nil]
        exact hD
    · rintro H2 ⟨sk, hd2, hD⟩
      rw [List.take_length] at hD
      have ss : Same H (upd H2 d (.dK kvs)) := same_lock hd sk
      have hD3 : (upd H2 d (.dK kvs)) D = some (.lst (((kvs.map keyS).filter neE).map V.str)) := by rw [upd_ne nDd.symm]; exact hD
      have hlk : ((kvs.map keyS).filter neE).length ≤ 40 := Nat.le_trans (List.length_filter_le _ _) (by rw [List.length_map]; exact kk.len)
      refine ⟨hd2, D, _, rfl, ofL hD3, by omega, fun ys p pm so np => ?_⟩
      rw [sorted_is pm so]
      have ss3 : Same H (upd (upd H2 d (.dK kvs)) p (.lst ((srtL ((kvs.map keyS).filter neE)).map V.str))) := ss.trans (same_up np)
      have hp3 : (upd (upd H2 d (.dK kvs)) p (.lst ((srtL ((kvs.map keyS).filter neE)).map V.str))) p = some (.lst ((srtL ((kvs.map keyS).filter neE)).map V.str)) := upd_same
      have hls : (srtL ((kvs.map keyS).filter neE)).length ≤ 40 := by rw [(srtL_perm _).length_eq]; exact hlk
      generalize upd (upd H2 d (.dK kvs)) p (.lst ((srtL ((kvs.map keyS).filter neE)).map V.str)) = H3 at ss3 hp3
      -- keys + ['']
      refine ⟨_, rfl, by show 1 ≤ sizeLine; decide, fun p1 np1 => ?_⟩
      refine ⟨p, p1, _, _, rfl, rfl, by rw [upd_ne (ne_of_none hp3 np1)]; exact hp3, upd_same, ?_, fun p2 np2 => ?_⟩
      · rw [List.length_map, sizeLine_eq]; show _ + 1 ≤ _; omega
      have ss4 : Same H (upd (upd H3 p1 (.lst [.str ""])) p2 (.lst ((srtL ((kvs.map keyS).filter neE)).map V.str ++ [.str ""]))) := (ss3.trans (same_up np1)).trans (same_up np2)
      have hp4 : (upd (upd H3 p1 (.lst [.str ""])) p2 (.lst ((srtL ((kvs.map keyS).filter neE)).map V.str ++ [.str ""]))) p2 = some (.lst ((toldK kvs).map V.str)) := by
        rw [upd_same]
        unfold toldK
        rw [List.map_append]
        rfl
      have htl : (toldK kvs).length ≤ 41 := by unfold toldK; rw [List.length_append]; show _ + 1 ≤ 41; omega
      generalize upd (upd H3 p1 (.lst [.str ""])) p2 (.lst ((srtL ((kvs.map keyS).filter neE)).map V.str ++ [.str ""])) = H4 at ss4 hp4
      have hx4 := ss4 _ _ hx
      have hd4 := ss4 _ _ hd
      -- [(self.counts[key], key) for key in .. if key in self.counts]
      refine ⟨p2, rfl, ⟨_, ofL hp4⟩, fun D2 nD2 => ?_⟩
      have np2D : p2 ≠ D2 := ne_of_none hp4 nD2
      refine lc_list (K := K) (a := p2) (xs := (toldK kvs).map V.str) (fun i H5 => ∃ (G5 : Hp) (xs : List V), Same H4 G5 ∧ Same G5 H5 ∧ G5 D2 = none ∧ H5 D2 = some (.lst xs) ∧ DpAll K G5 xs ((((toldK kvs).take i).filter (hasK kvs)).map fun z => tmD (gI kvs z, z)))
        ⟨H4, [], Same.refl _, same_up nD2, nD2, upd_same, .nil⟩ (fun i H5 _ ⟨_, _, a, b, _⟩ => ofL (b _ _ (a _ _ hp4))) ?_ ?_
      · rintro i y H5 hi ⟨G5, xs, a5, b5, gD5, hD5, hxs⟩
        have s5 := a5.trans b5
        rw [List.getElem?_map] at hi
        obtain ⟨z, ez, rfl⟩ := Option.map_eq_some_iff.mp hi
        have hx5 := s5 _ _ hx4
        have hd5 := s5 _ _ hd4
        refine ⟨rfl, _, rfl, _, rfl, x, T.C, dx, _, _, rfl, hx5, T.Size.cl, T.nC, lk_counts d, d, _, rfl, DGet.k (k := .inr z) hd5, _, rfl, ?_⟩
        refine ite2 (fun hh => ?_) (fun hh => ?_)
        · have hh' : hasK kvs z = true := hh
          obtain ⟨v, hv⟩ := Option.isSome_iff_exists.mp hh
          have hgi : v = .int (gI kvs z) := by
            have := getD_gI kk.ok z
            rw [hv] at this
            exact this
          subst hgi
          have dg : DGet H5 d (.str z) (some (.int (gI kvs z))) := by
            have q := DGet.k (k := .inr z) hd5
            rw [hv] at q
            exact q
          refine ⟨_, rfl, x, T.C, dx, _, _, rfl, hx5, T.Size.cl, T.nC, lk_counts d, _, rfl, d, _, rfl, dg, _, rfl, by show 2 ≤ sizeLine; decide, fun tp ntp => ?_⟩
          have nDt : D2 ≠ tp := ne_of_none hD5 ntp
          have hlx : xs.length ≤ 41 := by
            rw [dpLen hxs, List.length_map]
            exact Nat.le_trans (List.length_filter_le _ _) (Nat.le_trans (by rw [List.length_take]; omega) htl)
          have gt : G5 tp = none := b5.free ntp
          refine ⟨xs, by rw [upd_ne nDt]; exact hD5, by rw [sizeLine_eq]; omega, upd G5 tp (.tup [.int (gI kvs z), .str z]), xs ++ [.ref tp], a5.trans (same_up gt), Same.put (Same.two b5) (by rw [upd_ne nDt]; exact gD5), by rw [upd_ne nDt]; exact gD5, upd_same, ?_⟩
          rw [filter_take_yes ez hh', List.map_append]
          exact dpApp (dpUps (same_up gt) hxs) (.cons (.tup (ofT upd_same) (.cons (.int _) (.cons (.str _) .nil))) .nil)
        · have hh' : hasK kvs z = false := by simpa [hasK] using hh
          refine ⟨G5, xs, a5, b5, gD5, hD5, ?_⟩
          rw [filter_take_no ez hh']
          exact hxs
      · rintro H5 ⟨G5, xs, a5, b5, gD5, hD5, hxs⟩
        rw [List.length_map, List.take_length] at hxs
        refine q D2 xs H5 (ss4.trans (a5.trans b5)) (ss4.free nD2) hD5 ?_
        unfold told
        rw [List.map_map]
        exact dpUps b5 hxs
end
end Cr

namespace Cr
open PySem L2
theorem log_ok {n : Int} (h0 : 0 ≤ n) (h1 : n < 2 ^ 250) : n.natAbs.log2 < 1920 := by
  have big : ((2 : Int) ^ 250) = ((2 ^ 250 : Nat) : Int) := by decide
  rw [big] at h1
  by_cases e : n.natAbs = 0
  · rw [e]; decide
  · exact Nat.lt_trans ((Nat.log2_lt e).mpr (show n.natAbs < 2 ^ 250 by omega)) (by decide)
abbrev nT (n : Int) : Str := Str.ofString (toString n)
theorem BT_lt : BT < 2 ^ 250 := by decide
theorem BT_ten : BT < 10 ^ 80 := by decide
theorem nT_len {n : Int} (h0 : 0 ≤ n) (h1 : n < BT) : (nT n).length ≤ 80 := PyProof.Rows.toString_length_le h0 (by decide) (Int.lt_trans h1 BT_ten)
theorem nT_pos {n : Int} (h0 : 0 ≤ n) : 0 < (nT n).length := by
  obtain ⟨m, rfl⟩ := Int.eq_ofNat_of_zero_le h0
  rw [PyProof.Rows.ofString_length]
  have := PySem.toDigits_len_ge 10 m
  show 0 < (Nat.repr m).toList.length
  have e : (Nat.repr m).toList.length = (Nat.toDigits 10 m).length := by simp [Nat.repr]
  omega
theorem e_app (y : Str) : ("" : Str) ++ y = y := by
  apply str_ext
  show (("" : Str).cps ++ y.cps).toList = _
  rw [empty_cps]
  simp
theorem e_app' (y : Str) : Str.empty ++ y = y := e_app y
theorem app_len (x y : Str) : (x ++ y).length = x.length + y.length := by
  show (x.cps ++ y.cps).size = _
  rw [Array.size_append]
  rfl
def tT (t : Tm) : Str := if t.2 = "" then nT t.1 else if t.1 = 1 then t.2 else nT t.1 ++ t.2
def txt (kvs : List (Key × V)) : Str := if told kvs = [] then "0" else Txt.join "+" ((told kvs).map tT)
section
variable {P : Program} {w : World} {K : PySem.W.Frag} {mg : Str → Option Value} {base : Heap}
def spTT : Sp := fun vs H Q _ => ∃ t : Tm, vs = [.int t.1, .str t.2] ∧ 0 ≤ t.1 ∧ t.1 < BT ∧ t.2.length ≤ 12 ∧ Q (.str (tT t)) H
theorem ok_term_text (T : Tx K mg) : FnOk P w K mg base CX0 1 T.term_text.f T.term_text.fd ["many", "letters"] spTT := by
  refine T.term_text.F.ok sc_term_text (fun vs H Q E h => ?_) (fun cdv A outer s H vs Q E hr h => ?_)
  · obtain ⟨t, rfl, _⟩ := h
    rfl
  · obtain ⟨⟨n, z⟩, rfl, n0, n1, zl, q⟩ := h
    have n0 : 0 ≤ n := n0
    have n1 : n < BT := n1
    have zl : z.length ≤ 12 := zl
    have lg : n.natAbs.log2 < 1920 := log_ok n0 (Int.lt_trans n1 BT_lt)
    have nl : (Str.ofString (toString n)).length ≤ 80 := nT_len n0 n1
    unfold tT at q
    refine ⟨_, (pss_cons (ps_if (pt_cmpR op_eq (pv 1) pe_str (nomark _))
 (pss_one (ps_ret (pe_callTy call_str_int (by rfl) T.b_str (by decide +kernel) (pa_cons (pv 0) pa_nil))))
 pss_nil)
 (pss_one (ps_ret (pe_ifExp (pt_cmpR op_eq (pv 0) pe_int (nomark _)) (pv 1) (pe_joined (.cons (pe_fmt (pv 0)) (.cons (pe_fmt (pv 1)) .nil))))))), ?_⟩
    refine ⟨_, rfl, rfl, _, rfl, ?_⟩
    refine ite2 (fun h => ?_) (fun h => ?_)
    · have e : z = "" := by simpa using h
      rw [if_pos e] at q
      exact ⟨_, rfl, _, rfl, lg, q⟩
    · have e : ¬ z = "" := by simpa using h
      rw [if_neg e] at q
      refine ⟨_, rfl, rfl, _, rfl, ?_⟩
      refine ite2 (fun h => ?_) (fun h => ?_)
      · have e : n = 1 := by simpa using h
        rw [if_pos e] at q
        exact ⟨_, rfl, q⟩
      · have e : ¬ n = 1 := by simpa using h
        rw [if_neg e] at q
        refine ⟨_, rfl, .inr ⟨n, rfl, lg, _, rfl, by rw [e_app', sizeLine_eq]; omega, _, rfl, .inl ⟨z, rfl, by rw [sizeLine_eq]; omega, _, rfl, by rw [e_app', app_len, sizeLine_eq]; omega, ?_⟩⟩⟩
        show Q (.str ((Str.empty ++ nT n) ++ z)) H
        rw [e_app']
        exact q

/-! ### what terms_told tells -/
theorem mem_toldK {kvs : List (Key × V)} (h : KvOk kvs) {z : Str} (hz : z ∈ toldK kvs) : z.length ≤ 12 := by
  unfold toldK at hz
  rcases List.mem_append.mp hz with hz | hz
  · have hz := (List.mem_filter.mp ((srtL_perm _).mem_iff.mp hz)).1
    obtain ⟨p, hp, rfl⟩ := List.mem_map.mp hz
    obtain ⟨y, n, rfl, _, _, yl, _⟩ := h.ok.each p hp
    exact yl
  · rw [List.mem_singleton.mp hz, e0len]; omega
theorem told_len {kvs : List (Key × V)} (h : KvOk kvs) : (told kvs).length ≤ 41 := by
  unfold told toldK
  rw [List.length_map]
  refine Nat.le_trans (List.length_filter_le _ _) ?_
  rw [List.length_append, (srtL_perm _).length_eq]
  have := List.length_filter_le neE (kvs.map keyS)
  rw [List.length_map] at this
  have := h.len
  show _ + 1 ≤ 41
  omega
theorem told_ok {kvs : List (Key × V)} (h : KvOk kvs) {t : Tm} (ht : t ∈ told kvs) : 0 < t.1 ∧ t.1 < BT ∧ t.2.length ≤ 12 ∧ t.1 = gI kvs t.2 ∧ hasK kvs t.2 = true := by
  unfold told at ht
  obtain ⟨z, hz, rfl⟩ := List.mem_map.mp ht
  obtain ⟨hz, hh⟩ := List.mem_filter.mp hz
  refine ⟨?_, (gI_rng h.ok (by decide) z).2, mem_toldK h hz, rfl, hh⟩
  unfold hasK at hh
  obtain ⟨v, hv⟩ := Option.isSome_iff_exists.mp hh
  have e := getD_gI h.ok z
  rw [hv] at e
  have e : v = .int (gI kvs z) := e
  have hm : ∃ p ∈ kvs, p.2 = v := by
    unfold valV at hv
    obtain ⟨kv, hkv, e⟩ := Option.map_eq_some_iff.mp hv
    exact ⟨kv, List.mem_of_find?_eq_some hkv, e⟩
  obtain ⟨p, hp, ep⟩ := hm
  have hpos := h.pos p hp
  rw [ep, e] at hpos
  simpa [posV] using hpos
theorem tT_len {kvs : List (Key × V)} (h : KvOk kvs) {t : Tm} (ht : t ∈ told kvs) : (tT t).length ≤ 92 ∧ 0 < (tT t).length := by
  obtain ⟨a, b, c, _⟩ := told_ok h ht
  have nl := nT_len (Int.le_of_lt a) b
  have pos : 0 < (nT t.1).length := nT_pos (Int.le_of_lt a)
  unfold tT
  split
  · omega
  · next e =>
    have zp : 0 < t.2.length := by
      refine Nat.pos_of_ne_zero fun q => e ?_
      apply str_ext
      have : t.2.cps.size = 0 := q
      rw [empty_cps, Array.eq_empty_of_size_eq_zero this]
    split
    · omega
    · rw [app_len]; omega
/-! ### Size.__str__ -/
theorem join_len_pos (g x : Str) (r : List Str) (h : 0 < x.length) : 0 < (Txt.join g (x :: r)).length := by
  have e : (Txt.join g (x :: r)).length = (Txt.join g (x :: r)).cps.toList.length := by simp [Str.length]
  rw [e, join_list, List.length_append]
  have : x.cps.toList.length = x.length := by simp [Str.length]
  omega
theorem sum_le (B : Nat) : ∀ ys : List Str, (∀ y ∈ ys, y.length ≤ B) → (ys.map (·.length)).sum ≤ ys.length * B
  | [], _ => by simp
  | y :: r, h => by
    have h1 := h y List.mem_cons_self
    have h2 := sum_le B r fun z hz => h z (List.mem_cons_of_mem _ hz)
    simp only [List.map_cons, List.sum_cons, List.length_cons, Nat.succ_mul]
    omega
theorem join_len_le (g : Str) (ys : List Str) : (Txt.join g ys).length ≤ (ys.map (·.length)).sum + ys.length * g.length := by
  rw [show (Txt.join g ys).length = (ys.map (·.length)).sum + (ys.length - 1) * g.length from PySem.size_glued g ys]
  exact Nat.add_le_add_left (Nat.mul_le_mul_right _ (Nat.sub_le _ _)) _
def spStr (K : PySem.W.Frag) (C : Addr) : Sp := fun vs H Q _ => ∃ (x : Addr) (kvs : List (Key × V)), vs = [.ref x] ∧ SzAt C H x kvs ∧ KvOk kvs ∧ ∀ H' : Hp, Same H H' → Q (.str (txt kvs)) H'
theorem ok_Size___str__ (T : Tx K mg) : FnOk P w K mg base CX0 2 T.Size___str__.f T.Size___str__.fd ["self"] (spStr K T.C) := by
  refine T.Size___str__.F.ok sc_Size___str__ (fun vs H Q E h => ?_) (fun cdv A outer s H vs Q E hr h => ?_)
  · obtain ⟨x, kvs, rfl, _⟩ := h
    rfl
  · obtain ⟨x, kvs, rfl, hx, kk, q⟩ := h
    refine ⟨_, (pss_one (ps_ret (pe_callTy SkE.call_str_str (by rfl) T.b_str (by decide +kernel) (pa_cons (pe_orT (pe_join pe_str (pe_lc (own := [("many", 1), ("letters", 2)]) (g := gTup K 2 (gCons (gName 1) (gCons (gName 2) gNil))) (by rfl) sc_Size___str__.nd (pi_list (pe_meth0 (pv 0) T.Size.cl T.Size_terms_told.m (ok_Size_terms_told T) (hr.mono (by decide)) T.Size_terms_told.b .nil pass0)) (blkOk_by (own := [("many", 1), ("letters", 2)]) (N := N_Size___str__) (sc := defScope s_Size___str__) (by decide +kernel)) (fun _ _ _ _ _ => (pg_tup rfl (pgs_cons (pg_name (i := 1) sc_Size___str__.nd rfl (Or.inl rfl)) (pgs_cons (pg_name (i := 2) sc_Size___str__.nd rfl (Or.inl rfl)) pgs_nil)))) (fun _ _ _ _ _ => pts_nil) (fun _ _ _ _ _ => (pe_call (ok_term_text T) (hr.mono (by decide)) (by rfl) T.term_text.mg T.term_text.F.kp T.term_text.b .nil pass0 (pa_cons (pv 1) (pa_cons (pv 2) pa_nil)))))) (pe_one pe_str)) pa_nil)))), ?_⟩
    obtain ⟨dx, d, hxi, hd⟩ := id hx
    refine ⟨⟨_, rfl⟩, _, rfl, x, dx, _, rfl, hxi, rfl, x, kvs, rfl, hx, kk, fun p xs H1 s1 np hp hxs => ?_⟩
    refine ⟨p, rfl, ⟨_, ofL hp⟩, fun D nD => ?_⟩
    have hl : xs.length = (told kvs).length := by rw [dpLen hxs, List.length_map]
    refine lc_list (K := K) (a := p) (xs := xs) (fun i H2 => Same H1 H2 ∧ H2 D = some (.lst ((((told kvs).take i).map tT).map V.str))) ⟨same_up nD, upd_same⟩ (fun i H2 _ h => ofL (h.1 _ _ hp)) ?_ ?_
    · rintro i y H2 hi ⟨s2, hD⟩
      obtain ⟨dd, hdd, hy⟩ := dpGet hxs hi
      rw [List.getElem?_map] at hdd
      obtain ⟨t, et, rfl⟩ := Option.map_eq_some_iff.mp hdd
      obtain ⟨b, rfl, hb⟩ := tm_at hy
      obtain ⟨t0, t1, t2, _⟩ := told_ok kk (List.mem_of_getElem? et)
      refine ⟨b, _, rfl, Same.sqT s2 hb, rfl, _, _, rfl, _, _, rfl, rfl, rfl, ?_⟩
      refine ⟨_, rfl, _, rfl, t, rfl, Int.le_of_lt t0, t1, t2, _, hD, ?_, ?_, ?_⟩
      · have := told_len kk
        rw [List.length_map, List.length_map, List.length_take, sizeLine_eq]; omega
      · exact fun a o e => by rw [upd_ne (ne_of_none e nD)]; exact s2 _ _ e
      · rw [upd_same, List.take_add_one, et, List.map_append, List.map_append]
        rfl
    · rintro H2 ⟨s2, hD⟩
      rw [hl, List.take_length] at hD
      have hls : (((told kvs).map tT).map (·.length)).sum ≤ ((told kvs).map tT).length * 92 := sum_le 92 _ fun y hy => by
        obtain ⟨t, ht, rfl⟩ := List.mem_map.mp hy
        exact (tT_len kk ht).1
      have htl := told_len kk
      rw [List.length_map] at hls
      have p1 : ("+" : Str).length = 1 := by decide +kernel
      refine ⟨_, D, (told kvs).map tT, rfl, rfl, .inl (ofL hD), by rw [List.length_map, p1]; omega, ?_⟩
      have ss := s1.trans s2
      have jl := join_len_le "+" ((told kvs).map tT)
      rw [List.length_map, p1] at jl
      refine ⟨_, ⟨by rw [sizeLine_eq]; omega, rfl⟩, ?_⟩
      unfold txt at q
      cases e : told kvs with
      | nil =>
        rw [e, if_pos rfl] at q
        have : (Txt.join "+" (([] : List Tm).map tT)).length = 0 := by decide +kernel
        rw [this]
        exact ⟨_, rfl, q H2 ss⟩
      | cons t r =>
        rw [e, if_neg (by intro z; cases z)] at q
        have hp0 : 0 < (Txt.join "+" ((t :: r).map tT)).length := join_len_pos _ _ _ (tT_len kk (by rw [e]; exact List.mem_cons_self)).2
        have hb : (((Txt.join "+" ((t :: r).map tT)).length : Int) != 0) = true := bne_iff_ne.mpr (by omega)
        rw [hb]
        exact ⟨_, rfl, q H2 ss⟩
end
end Cr

namespace Cr
open PySem L2
/-! ### texts that may be laid -/
theorem sok_of (s : String) : PyData.strOk (Str.ofString s) = true := by
  rw [Str.ofString_eq_toList]
  unfold PyData.strOk
  rw [Array.all_eq_true']
  intro x hx
  have hx : x ∈ s.toList.map (fun c : Char => c.toNat) := by simpa using hx
  obtain ⟨c, _, rfl⟩ := List.mem_map.mp hx
  have := c.valid
  simp only [decide_eq_true_eq]
  rcases this with h | h
  · have : c.toNat < 0xd800 := h
    omega
  · have : c.toNat < 0x110000 := h.2
    omega
theorem sok_app {x y : Str} (h1 : PyData.strOk x = true) (h2 : PyData.strOk y = true) : PyData.strOk (x ++ y) = true := by
  unfold PyData.strOk at h1 h2 ⊢
  show (x.cps ++ y.cps).all _ = true
  rw [Array.all_append, h1, h2]
  rfl
theorem dpStrs {K : PySem.W.Frag} {H : Hp} : ∀ zs : List Str, DpAll K H (zs.map V.str) (zs.map PyData.str)
  | [] => .nil
  | z :: r => .cons (.str z) (dpStrs r)
theorem shStrs {zs : List Str} (h : ∀ z ∈ zs, PyData.strOk z = true) : SeqAt.shaped (.list (zs.map PyData.str)) = true := by
  have h1 : PyData.canLayAll0 (zs.map PyData.str) = true := by
    induction zs with
    | nil => rfl
    | cons z r ih => simp [PyData.canLayAll0, PyData.canLay0, h z List.mem_cons_self, ih fun y hy => h y (List.mem_cons_of_mem _ hy)]
  have h2 : PyData.depthAll (zs.map PyData.str) ≤ 1 := by
    clear h h1
    induction zs with
    | nil => simp [PyData.depthAll]
    | cons z r ih => simp [PyData.depthAll, PyData.depth]; omega
  unfold SeqAt.shaped
  rw [show PyData.canLay0 (.list (zs.map PyData.str)) = true by rw [PyData.canLay0]; exact h1]
  simp [PyData.depth]
  omega
/-! ### the law's words -/
def wd (kvs : List (Key × V)) (z : Str) : Str := (if 1 < gI kvs z then nT (gI kvs z) else "") ++ z
def wdsA (kvs : List (Key × V)) (l : List Str) : List Str := (l.filter neE).map (wd kvs)
def wds (kvs : List (Key × V)) : List Str := wdsA kvs (srtL (kvs.map keyS)) ++ (if hasK kvs "" = true then [nT (gI kvs "")] else [])
theorem has_key {kvs : List (Key × V)} (h : KvOk kvs) {z : Str} (hz : z ∈ kvs.map keyS) : hasK kvs z = true := by
  obtain ⟨p, hp, rfl⟩ := List.mem_map.mp hz
  obtain ⟨y, n, rfl, _⟩ := h.ok.each p hp
  unfold hasK
  rw [show valV kvs (.inr (keyS (Sum.inr y, V.int n))) = some (.int n) from val_nodup h.ok.nd _ hp]
  rfl
theorem gI_pos {kvs : List (Key × V)} (h : KvOk kvs) {z : Str} (hh : hasK kvs z = true) : 0 < gI kvs z := by
  unfold hasK at hh
  obtain ⟨v, hv⟩ := Option.isSome_iff_exists.mp hh
  have e := getD_gI h.ok z
  rw [hv] at e
  have e : v = .int (gI kvs z) := e
  unfold valV at hv
  obtain ⟨kv, hkv, e2⟩ := Option.map_eq_some_iff.mp hv
  have hpos := h.pos kv (List.mem_of_find?_eq_some hkv)
  rw [e2, e] at hpos
  simpa [posV] using hpos
theorem wds_told {kvs : List (Key × V)} (h : KvOk kvs) : wds kvs = (told kvs).map tT := by
  unfold wds wdsA told toldK
  rw [srtL_filter, List.filter_append, List.map_append, List.map_append]
  have e1 : (srtL ((kvs.map keyS).filter neE)).filter (hasK kvs) = srtL ((kvs.map keyS).filter neE) := by
    refine List.filter_eq_self.mpr fun z hz => has_key h ?_
    exact (List.mem_filter.mp ((srtL_perm _).mem_iff.mp hz)).1
  rw [e1]
  congr 1
  · rw [List.map_map]
    refine List.map_congr_left fun z hz => ?_
    obtain ⟨h1, h2⟩ := List.mem_filter.mp ((srtL_perm _).mem_iff.mp hz)
    have hne : ¬ z = "" := by simpa [neE] using h2
    have hp := gI_pos h (has_key h h1)
    show wd kvs z = tT (gI kvs z, z)
    unfold wd tT
    rw [if_neg hne]
    by_cases e : gI kvs z = 1
    · rw [if_neg (by omega), if_pos e, e_app]
    · rw [if_pos (by omega), if_neg e]
  · rw [List.filter_cons]
    cases hasK kvs "" with
    | false => rfl
    | true => simp [tT]
theorem wdsA_snoc (kvs : List (Key × V)) (l : List Str) (z : Str) : wdsA kvs (l ++ [z]) = wdsA kvs l ++ (if neE z = true then [wd kvs z] else []) := by
  unfold wdsA
  rw [List.filter_append, List.map_append, List.filter_cons]
  split <;> rfl
theorem wd_sok (kvs : List (Key × V)) {z : Str} (h : PyData.strOk z = true) : PyData.strOk (wd kvs z) = true := by
  unfold wd
  refine sok_app ?_ h
  split
  · exact sok_of _
  · decide +kernel
section
variable {P : Program} {w : World} {K : PySem.W.Frag} {mg : Str → Option Value} {base : Heap}
def spText : Sp := fun vs H Q _ => ∃ (d : Addr) (kvs : List (Key × V)), vs = [.ref d] ∧ H d = some (.dK kvs) ∧ KvOk kvs ∧ ∀ H' : Hp, Same H H' → Q (.str (txt kvs)) H'
theorem ok__law_text (T : Tx K mg) : FnOk P w K mg base CX0 1 T._law_text.f T._law_text.fd ["_law_table_here"] spText := by
  refine T._law_text.F.ok sc__law_text (fun vs H Q E h => ?_) (fun cdv A outer s H vs Q E hr h => ?_)
  · obtain ⟨d, kvs, rfl, _⟩ := h
    rfl
  · obtain ⟨d, kvs, rfl, hd, kk, q⟩ := h
    have hu := hu_of hr
    refine ⟨_, (pss_cons (ps_set (i := 1) sc__law_text.nd rfl (Or.inl rfl) (pe_lst pa_nil))
 (pss_cons (ps_for PassesOwn.never rfl (pi_list (pe_callB (call_sortedD (by rfl)) (by rfl) T.b_sorted (by decide +kernel) (pa_cons (pv 0) pa_nil))) (pg_name (i := 2) sc__law_text.nd rfl (Or.inl rfl))
 (pss_one (ps_if (pt_cmpR op_ne (pv 2) pe_str (nomark _))
 (pss_one (ps_expr (pe_bm PySem.F.plainAttrs_list PySem.F.slot_list_append PySem.F.type_list_append mt_append (pv 1) (pa_cons (pe_op op_add_str (pe_ix ix_list (pe_lst (pa_cons pe_str (pa_cons (pe_callTy call_str_int (by rfl) T.b_str (by decide +kernel) (pa_cons (pe_dget hu (pv 0) (pv 2) (fun _ _ => rfl)) pa_nil)) pa_nil))) (pe_callTy call_int1 (by rfl) T.b_int (by decide +kernel) (pa_cons (pe_cmpR op_gt (pe_dget hu (pv 0) (pv 2) (fun _ _ => rfl)) pe_int (nomark _)) pa_nil)) (fun _ _ => rfl)) (pv 2)) pa_nil))))
 pss_nil)))
 (pss_cut (ps_if (pt_cmp (pc_din hu pe_str (pv 0)))
 (pss_one (ps_expr (pe_bm PySem.F.plainAttrs_list PySem.F.slot_list_append PySem.F.type_list_append mt_append (pv 1) (pa_cons (pe_callTy call_str_int (by rfl) T.b_str (by decide +kernel) (pa_cons (pe_dget hu (pv 0) pe_str (fun _ _ => rfl)) pa_nil)) pa_nil))))
 pss_nil)
 (pss_one (ps_ret (pe_ifExp (pt_cmpR (op_neD hr.units) (pv 1) (pe_lst pa_nil) (nomark _)) (pe_join pe_str (pv 1)) pe_str)))))), ?_⟩
    refine ⟨Nat.zero_le _, fun p np => ?_⟩
    have s1 : Same H (upd H p (.lst [])) := same_up np
    have hp1 : (upd H p (.lst [])) p = some (.lst []) := upd_same
    generalize upd H p (.lst []) = H1 at s1 hp1
    have ek : kvs.map (·.1) = (kvs.map keyS).map Sum.inr := by
      rw [List.map_map]
      refine List.map_congr_left fun p hp => ?_
      obtain ⟨y, n, rfl, _⟩ := kk.ok.each p hp
      rfl
    have hlk : (kvs.map keyS).length ≤ 40 := by rw [List.length_map]; exact kk.len
    refine ⟨_, rfl, d, kvs, kvs.map keyS, rfl, .inl (s1 _ _ hd), ek, by omega, fun ys sp pm so nsp => ?_⟩
    rw [sorted_is pm so]
    generalize hL : srtL (kvs.map keyS) = L
    have hLk : ∀ z ∈ L, z ∈ kvs.map keyS := fun z hz => by rw [← hL] at hz; exact (srtL_perm _).mem_iff.mp hz
    have hLl : L.length ≤ 40 := by rw [← hL, (srtL_perm _).length_eq]; exact hlk
    have hLo : ∀ z ∈ L, z.length ≤ 12 ∧ PyData.strOk z = true := fun z hz => by
      obtain ⟨p, hp, rfl⟩ := List.mem_map.mp (hLk z hz)
      obtain ⟨y, n, rfl, _, _, yl, yo⟩ := kk.ok.each p hp
      exact ⟨yl, lets_ok yo⟩
    have s2 : Same H1 (upd H1 sp (.lst (L.map V.str))) := same_up nsp
    have hsp : (upd H1 sp (.lst (L.map V.str))) sp = some (.lst (L.map V.str)) := upd_same
    have nps : p ≠ sp := ne_of_none hp1 nsp
    generalize upd H1 sp (.lst (L.map V.str)) = H2 at s2 hsp
    have hwl : ∀ i, (wdsA kvs (L.take i)).length ≤ 40 := fun i => by
      unfold wdsA
      rw [List.length_map]
      exact Nat.le_trans (List.length_filter_le _ _) (by rw [List.length_take]; omega)
    refine ⟨sp, rfl, ⟨_, ofL hsp⟩, for_list (K := K) (a := sp) (xs := L.map V.str) (fun i σ H' => ∃ v2, σ = [some (.ref d), some (.ref p), v2] ∧ Same H H' ∧ H' sp = some (.lst (L.map V.str)) ∧ H' p = some (.lst ((wdsA kvs (L.take i)).map V.str)))
      ⟨none, rfl, s1.trans s2, hsp, s2 _ _ hp1⟩ (fun i σ H' _ ⟨_, _, _, e, _⟩ => ofL e) ?_ ?_⟩
    · rintro i x σ H3 hi ⟨v2, rfl, s3, hs3, hp3⟩
      rw [List.getElem?_map] at hi
      obtain ⟨z, ez, rfl⟩ := Option.map_eq_some_iff.mp hi
      have et : wdsA kvs (L.take (i + 1)) = wdsA kvs (L.take i) ++ (if neE z = true then [wd kvs z] else []) := by
        rw [List.take_add_one, ez]
        exact wdsA_snoc _ _ _
      have hzL := List.mem_of_getElem? ez
      have hh := has_key kk (hLk z hzL)
      refine ⟨_, rfl, rfl, _, rfl, ?_⟩
      refine ite2 (fun hne => ?_) (fun he => ?_)
      · have hz : neE z = true := by simpa [neE] using hne
        have hd3 := s3 _ _ hd
        have hv : valV kvs (.inr z) = some (.int (gI kvs z)) := by
          have := getD_gI kk.ok z
          obtain ⟨v, hv⟩ := Option.isSome_iff_exists.mp hh
          rw [hv] at this ⊢
          rw [show v = .int (gI kvs z) from this]
        have dg : ∀ H' : Hp, H' d = some (.dK kvs) → DGet H' d (.str z) (some (.int (gI kvs z))) := fun H' e => by
          have q := DGet.k (k := .inr z) e
          rw [hv] at q
          exact q
        obtain ⟨g0, g1⟩ := gI_rng kk.ok (by decide) z
        have lg : (gI kvs z).natAbs.log2 < 1920 := log_ok g0 (Int.lt_trans g1 BT_lt)
        refine ⟨_, rfl, .inl ⟨rfl, _, ofL hp3⟩, _, rfl, _, rfl, d, _, rfl, dg _ hd3, _, rfl, lg, ?_⟩
        refine ⟨by show 2 ≤ sizeLine; decide, fun p2 np2 => ?_⟩
        have s4 : Same H3 (upd H3 p2 (.lst [.str "", .str (nT (gI kvs z))])) := same_up np2
        have hp4 : (upd H3 p2 (.lst [.str "", .str (nT (gI kvs z))])) p2 = some (.lst [.str "", .str (nT (gI kvs z))]) := upd_same
        generalize upd H3 p2 (.lst [.str "", .str (nT (gI kvs z))]) = H4 at s4 hp4
        refine ⟨_, rfl, _, rfl, d, _, rfl, dg _ (s4 _ _ hd3), _, _, rfl, rfl, .inr ⟨_, rfl, ?_⟩⟩
        refine ⟨p2, _, _, .str (if 1 < gI kvs z then nT (gI kvs z) else ""), rfl, rfl, ofL hp4, ?_, ?_⟩
        · by_cases c : 1 < gI kvs z
          · simp [c]; rfl
          · simp [c]; rfl
        have wl : (if 1 < gI kvs z then nT (gI kvs z) else ("" : Str)).length ≤ 80 := by
          split
          · exact nT_len g0 g1
          · rw [e0len]; omega
        refine ⟨_, rfl, _, _, rfl, rfl, by rw [sizeLine_eq]; have := (hLo z hzL).1; omega, ?_⟩
        have hp5 := s4 _ _ hp3
        refine ⟨p, _, _, rfl, rfl, hp5, by rw [List.length_map, sizeLine_eq]; have := hwl i; omega, ?_⟩
        refine ⟨_, rfl, Same.put (s3.trans s4) np, by rw [upd_ne nps.symm]; exact s4 _ _ hs3, ?_⟩
        rw [upd_same, et, if_pos hz, List.map_append]
        rfl
      · have hz : ¬ neE z = true := by simpa [neE] using he
        refine ⟨_, rfl, s3, hs3, ?_⟩
        rw [et, if_neg hz, List.append_nil]
        exact hp3
    · rintro σ H3 ⟨v2, rfl, s3, hs3, hp3⟩
      rw [List.length_map, List.take_length] at hp3
      have hw := hwl L.length
      rw [List.take_length] at hw
      have hd3 := s3 _ _ hd
      refine ⟨fun σ' H' => ∃ v2, σ' = [some (.ref d), some (.ref p), v2] ∧ Same H H' ∧ H' p = some (.lst ((wds kvs).map V.str)), ?_, ?_⟩
      · refine ⟨_, rfl, d, _, rfl, DGet.k (k := .inr "") hd3, _, rfl, ?_⟩
        refine ite2 (fun hh => ?_) (fun hh => ?_)
        · have hh : hasK kvs "" = true := hh
          have hv : valV kvs (.inr "") = some (.int (gI kvs "")) := by
            have := getD_gI kk.ok ""
            obtain ⟨v, hv⟩ := Option.isSome_iff_exists.mp hh
            rw [hv] at this ⊢
            rw [show v = .int (gI kvs "") from this]
          have dg : DGet H3 d (.str "") (some (.int (gI kvs ""))) := by
            have q := DGet.k (k := .inr "") hd3
            rw [hv] at q
            exact q
          obtain ⟨g0, g1⟩ := gI_rng kk.ok (by decide) ""
          have lg : (gI kvs "").natAbs.log2 < 1920 := log_ok g0 (Int.lt_trans g1 BT_lt)
          refine ⟨_, rfl, .inl ⟨rfl, _, ofL hp3⟩, _, rfl, d, _, rfl, dg, _, rfl, lg, ?_⟩
          refine ⟨p, _, _, rfl, rfl, hp3, by rw [List.length_map, sizeLine_eq]; omega, ?_⟩
          refine ⟨_, rfl, Same.put s3 np, ?_⟩
          unfold wds
          rw [upd_same, hL, if_pos hh, List.map_append]
          rfl
        · have hh : ¬ hasK kvs "" = true := hh
          refine ⟨_, rfl, s3, ?_⟩
          unfold wds
          rw [hL, if_neg hh, List.append_nil]
          exact hp3
      · rintro σ' H4 ⟨v2, rfl, s4, hp4⟩
        rw [wds_told kk] at hp4
        have wok : ∀ z ∈ (told kvs).map tT, PyData.strOk z = true := by
          rw [← wds_told kk]
          intro z hz
          unfold wds wdsA at hz
          rcases List.mem_append.mp hz with hz | hz
          · obtain ⟨y, hy, rfl⟩ := List.mem_map.mp hz
            rw [hL] at hy
            exact wd_sok kvs (hLo y (List.mem_filter.mp hy).1).2
          · split at hz
            · rw [List.mem_singleton.mp hz]; exact sok_of _
            · cases hz
        refine ⟨_, rfl, Nat.zero_le _, fun pe npe => ?_⟩
        have hpe : (upd H4 pe (.lst [])) pe = some (.lst []) := upd_same
        have s5 : Same H4 (upd H4 pe (.lst [])) := same_up npe
        generalize upd H4 pe (.lst []) = H5 at s5 hpe
        have hp5 := s5 _ _ hp4
        refine ⟨.list (((told kvs).map tT).map PyData.str), .list [], .lst (ofL hp5) (dpStrs _), .lst (ofL hpe) .nil, shStrs wok, (by rfl), _, rfl, ?_⟩
        have hls : (((told kvs).map tT).map (·.length)).sum ≤ ((told kvs).map tT).length * 92 := sum_le 92 _ fun y hy => by
          obtain ⟨t, ht, rfl⟩ := List.mem_map.mp hy
          exact (tT_len kk ht).1
        have htl := told_len kk
        rw [List.length_map] at hls
        have p1 : ("+" : Str).length = 1 := by decide +kernel
        have qq := q H5 (s4.trans s5)
        unfold txt at qq
        refine ite2 (fun hn => ?_) (fun hn => ?_)
        · have hne : ¬ told kvs = [] := fun e => by
            rw [e] at hn
            exact absurd hn (by decide)
          rw [if_neg hne] at qq
          exact ⟨⟨_, rfl⟩, _, rfl, _, p, (told kvs).map tT, rfl, rfl, .inl (ofL hp5), by rw [List.length_map, p1]; omega, qq⟩
        · have he : told kvs = [] := by
            cases e : told kvs with
            | nil => rfl
            | cons t r =>
              rw [e] at hn
              exact absurd rfl hn
          rw [if_pos he] at qq
          exact qq
end
end Cr

/-! K24g: plain: linear sums over terms and tables. -/
namespace Cr
open PySem L2
/-! ### sums -/
def su {α : Type} (F : α → Int) : List α → Int
  | [] => 0
  | t :: r => F t + su F r
theorem su_app {α : Type} (F : α → Int) : ∀ a b : List α, su F (a ++ b) = su F a + su F b
  | [], b => by simp [su]
  | t :: r, b => by simp [su, su_app F r b]; omega
theorem su_perm {α : Type} (F : α → Int) {a b : List α} (h : a.Perm b) : su F a = su F b := by
  induction h with
  | nil => rfl
  | cons x _ ih => simp [su, ih]
  | swap x y l => simp [su]; omega
  | trans _ _ h1 h2 => exact h1.trans h2
theorem su_map {α β : Type} (F : β → Int) (g : α → β) : ∀ l : List α, su F (l.map g) = su (fun x => F (g x)) l
  | [] => rfl
  | x :: r => by simp [su, su_map F g r]
theorem su_congr {α : Type} {F G : α → Int} : ∀ {l : List α}, (∀ x ∈ l, F x = G x) → su F l = su G l
  | [], _ => rfl
  | x :: r, h => by
    simp only [su]
    rw [h x List.mem_cons_self, su_congr fun y hy => h y (List.mem_cons_of_mem _ hy)]
theorem su_add {α : Type} (F G : α → Int) : ∀ l : List α, su (fun x => F x + G x) l = su F l + su G l
  | [] => rfl
  | x :: r => by simp only [su]; rw [su_add F G r]; omega
theorem su_zero {α : Type} : ∀ l : List α, su (fun _ => (0 : Int)) l = 0
  | [] => rfl
  | x :: r => by simp only [su]; rw [su_zero r]; rfl
theorem su_mul {α : Type} (F : α → Int) (k : Int) : ∀ l : List α, su (fun x => k * F x) l = k * su F l
  | [] => by simp [su]
  | x :: r => by simp only [su]; rw [su_mul F k r, Int.mul_add]
theorem su_swap {α β : Type} (G : α → β → Int) (ys : List β) : ∀ xs : List α, su (fun x => su (fun y => G x y) ys) xs = su (fun y => su (fun x => G x y) xs) ys
  | [] => by simp only [su]; exact (su_zero ys).symm
  | x :: r => by
    simp only [su]
    rw [su_swap G ys r, ← su_add]
theorem su_nonneg {α : Type} {F : α → Int} : ∀ {l : List α}, (∀ x ∈ l, 0 ≤ F x) → 0 ≤ su F l
  | [], _ => Int.le_refl _
  | x :: r, h => by
    have h1 := h x List.mem_cons_self
    have h2 := su_nonneg fun y hy => h y (List.mem_cons_of_mem _ hy)
    simp only [su]; omega
theorem su_le {α : Type} {F : α → Int} {k : Int} : ∀ {l : List α}, (∀ x ∈ l, F x ≤ k) → su F l ≤ k * l.length
  | [], _ => by simp [su]
  | x :: r, h => by
    have h1 := h x List.mem_cons_self
    have h2 := su_le fun y hy => h y (List.mem_cons_of_mem _ hy)
    simp only [su, List.length_cons]
    have e : k * ((r.length + 1 : Nat) : Int) = k * (r.length : Int) + k := by rw [Int.natCast_add, Int.mul_add]; simp
    omega
def lin (c : Str → Int) (ts : List Tm) : Int := su (fun t => t.1 * c t.2) ts
def prodT (xs ys : List Tm) : List Tm := xs.flatMap fun x => ys.map fun y => (x.1 * y.1, x.2 ++ y.2)
theorem su_prod (F : Tm → Int) (ys : List Tm) : ∀ xs : List Tm, su F (prodT xs ys) = su (fun x => su (fun y => F (x.1 * y.1, x.2 ++ y.2)) ys) xs
  | [] => rfl
  | x :: r => by
    have e : prodT (x :: r) ys = (ys.map fun y => (x.1 * y.1, x.2 ++ y.2)) ++ prodT r ys := by simp [prodT]
    rw [e, su_app, su_prod F ys r, su_map]
    rfl
theorem prod_perm (F : Tm → Int) {xs xs' ys ys' : List Tm} (h1 : xs.Perm xs') (h2 : ys.Perm ys') : su F (prodT xs ys) = su F (prodT xs' ys') := by
  rw [su_prod, su_prod, su_perm _ h1]
  exact su_congr fun x _ => su_perm _ h2
theorem prod_swap {c : Str → Int} (hc : ∀ x y, c (x ++ y) = c (y ++ x)) (xs ys : List Tm) : lin c (prodT xs ys) = lin c (prodT ys xs) := by
  unfold lin
  rw [su_prod, su_prod, su_swap]
  refine su_congr fun y _ => su_congr fun x _ => ?_
  show x.1 * y.1 * c (x.2 ++ y.2) = y.1 * x.1 * c (y.2 ++ x.2)
  rw [hc, Int.mul_comm x.1]
theorem prod_lin {c : Str → Int} (hc : ∀ x y, c (x ++ y) = c x * c y) (xs ys : List Tm) : lin c (prodT xs ys) = lin c xs * lin c ys := by
  unfold lin
  rw [su_prod]
  have e : ∀ x ∈ xs, su (fun y => x.1 * y.1 * c (x.2 ++ y.2)) ys = su (fun y => y.1 * c y.2) ys * (x.1 * c x.2) := fun x _ => by
    rw [Int.mul_comm, ← su_mul]
    refine su_congr fun y _ => ?_
    rw [hc, Int.mul_assoc, Int.mul_assoc, Int.mul_left_comm y.1]
  rw [su_congr e, su_mul, Int.mul_comm]
theorem prod_len (xs ys : List Tm) : (prodT xs ys).length = xs.length * ys.length := by
  unfold prodT
  induction xs with
  | nil => simp
  | cons x r ih => simp [List.flatMap_cons, ih, Nat.succ_mul]; omega
theorem mem_prod {xs ys : List Tm} {t : Tm} (h : t ∈ prodT xs ys) : ∃ x ∈ xs, ∃ y ∈ ys, t = (x.1 * y.1, x.2 ++ y.2) := by
  obtain ⟨x, hx, h⟩ := List.mem_flatMap.mp h
  obtain ⟨y, hy, rfl⟩ := List.mem_map.mp h
  exact ⟨x, hx, y, hy, rfl⟩
/-! ### letters in order -/
theorem signs_perm {x y : Str} (h : x.cps.toList.Perm y.cps.toList) : srt x = srt y := by
  unfold srt
  rw [sorted_one (srtL_pw (signs x)) (srtL_pw (signs y)) (((srtL_perm _).trans (h.map _)).trans (srtL_perm _).symm)]
theorem srt_cps (z : Str) : (srt z).cps.toList.Perm z.cps.toList := by
  unfold srt
  rw [join0]
  refine ((srtL_perm (signs z)).map _).flatten.trans ?_
  have e : ((signs z).map fun x => x.cps.toList).flatten = z.cps.toList := by
    unfold signs
    rw [List.map_map]
    generalize z.cps.toList = l
    induction l with
    | nil => rfl
    | cons a r ih => simpa using ih
  rw [e]
theorem srt_srt (z : Str) : srt (srt z) = srt z := signs_perm (srt_cps z)
theorem app_cps (x y : Str) : (x ++ y).cps.toList = x.cps.toList ++ y.cps.toList := by
  show (x.cps ++ y.cps).toList = _
  simp
theorem srt_swap (x y : Str) : srt (x ++ y) = srt (y ++ x) := signs_perm (by rw [app_cps, app_cps]; exact List.perm_append_comm)
def cf (z : Str) (y : Str) : Int := if srt y = z then 1 else 0
theorem cf_srt (z y : Str) : cf z (srt y) = cf z y := by unfold cf; rw [srt_srt]
theorem cf_swap (z x y : Str) : cf z (x ++ y) = cf z (y ++ x) := by unfold cf; rw [srt_swap]
def pL (ρ : Nat → Int) : List Nat → Int
  | [] => 1
  | c :: r => ρ c * pL ρ r
theorem pL_app (ρ : Nat → Int) : ∀ a b : List Nat, pL ρ (a ++ b) = pL ρ a * pL ρ b
  | [], b => by simp [pL]
  | c :: r, b => by simp [pL, pL_app ρ r b, Int.mul_assoc]
theorem pL_perm (ρ : Nat → Int) {a b : List Nat} (h : a.Perm b) : pL ρ a = pL ρ b := by
  induction h with
  | nil => rfl
  | cons x _ ih => simp [pL, ih]
  | swap x y l => simp [pL, Int.mul_left_comm]
  | trans _ _ h1 h2 => exact h1.trans h2
def pr (ρ : Nat → Int) (z : Str) : Int := pL ρ z.cps.toList
theorem pr_srt (ρ : Nat → Int) (z : Str) : pr ρ (srt z) = pr ρ z := pL_perm ρ (srt_cps z)
theorem pr_app (ρ : Nat → Int) (x y : Str) : pr ρ (x ++ y) = pr ρ x * pr ρ y := by unfold pr; rw [app_cps, pL_app]
/-! ### tables -/
def vI : V → Int
  | .int n => n
  | _ => 0
def entT (kvs : List (Key × V)) : List Tm := kvs.map fun p => (vI p.2, keyS p)
structure PlainK (kvs : List (Key × V)) : Prop where
  each : ∀ p ∈ kvs, ∃ (z : Str) (n : Int), p = (.inr z, .int n)
  nd : (kvs.map (·.1)).Nodup
theorem TabOk.plain {m : Nat} {B : Int} {kvs : List (Key × V)} (h : TabOk m B kvs) : PlainK kvs := ⟨fun p hp => by
  obtain ⟨z, n, e, _⟩ := h.each p hp
  exact ⟨z, n, e⟩, h.nd⟩
theorem PlainK.tail {p : Key × V} {r : List (Key × V)} (h : PlainK (p :: r)) : PlainK r ∧ p.1 ∉ r.map (·.1) := by
  obtain ⟨h1, h2⟩ := List.nodup_cons.mp (show (p.1 :: r.map (·.1)).Nodup from h.nd)
  exact ⟨⟨fun q hq => h.each q (List.mem_cons_of_mem _ hq), h2⟩, h1⟩
theorem gI_none {kvs : List (Key × V)} {z : Str} (h : (.inr z : Key) ∉ kvs.map (·.1)) : gI kvs z = 0 := by
  unfold gI
  cases e : valV kvs (.inr z) with
  | none => rfl
  | some v =>
    unfold valV at e
    obtain ⟨kv, hkv, _⟩ := Option.map_eq_some_iff.mp e
    have e1 : kv.1 = .inr z := by simpa using List.find?_some hkv
    exact absurd (List.mem_map.mpr ⟨kv, List.mem_of_find?_eq_some hkv, e1⟩) h
theorem gI_cons_ne {p : Key × V} {r : List (Key × V)} {z : Str} (h : ¬ p.1 = .inr z) : gI (p :: r) z = gI r z := by
  unfold gI
  rw [show p = (p.1, p.2) from rfl, valV_neg h]
theorem gI_cons_eq {r : List (Key × V)} {z : Str} {n : Int} : gI ((.inr z, .int n) :: r) z = n := by
  unfold gI
  rw [valV_pos rfl]
theorem put_same {r : List (Key × V)} {k : Key} {v : V} (h : k ∉ r.map (·.1)) : (r.map fun p => if p.1 = k then (p.1, v) else p) = r := by
  refine (List.map_congr_left fun p hp => ?_).trans (List.map_id r)
  rw [if_neg fun e => h (List.mem_map.mpr ⟨p, hp, e⟩)]
  rfl
theorem lin_put {kvs : List (Key × V)} (c : Str → Int) (z : Str) (n : Int) (h : PlainK kvs) : lin c (entT (putK kvs (.inr z) (.int n))) = lin c (entT kvs) + (n - gI kvs z) * c z := by
  unfold putK
  split
  · next hany =>
    induction kvs with
    | nil => cases hany
    | cons p r ih =>
      obtain ⟨hr, hp⟩ := h.tail
      obtain ⟨y, o, rfl⟩ := h.each p List.mem_cons_self
      rw [List.map_cons]
      by_cases e : (Sum.inr y : Key) = .inr z
      · obtain rfl : y = z := Sum.inr.inj e
        rw [if_pos rfl, put_same hp, gI_cons_eq]
        show (n * c y) + lin c (entT r) = (o * c y + lin c (entT r)) + (n - o) * c y
        rw [Int.sub_mul]; omega
      · rw [if_neg e, gI_cons_ne e]
        have hany' : (r.any fun kv => decide (kv.1 = Sum.inr z)) = true := by
          rw [List.any_cons] at hany
          simpa [e] using hany
        have := ih hr hany'
        show (o * c y) + lin c (entT _) = (o * c y + lin c (entT r)) + _
        rw [this]; omega
  · next hno =>
    have hz : (.inr z : Key) ∉ kvs.map (·.1) := fun hm => hno (by
      obtain ⟨p, hp, e⟩ := List.mem_map.mp hm
      exact List.any_eq_true.mpr ⟨p, hp, decide_eq_true e⟩)
    rw [gI_none hz]
    unfold entT lin
    rw [List.map_append, su_app]
    rw [Int.sub_zero]
    show _ + (n * c z + 0) = _
    omega
theorem PlainK.put {kvs : List (Key × V)} (h : PlainK kvs) (z : Str) (n : Int) : PlainK (putK kvs (.inr z) (.int n)) := by
  refine ⟨fun p hp => ?_, ?_⟩
  · unfold putK at hp
    split at hp
    · obtain ⟨q, hq, rfl⟩ := List.mem_map.mp hp
      obtain ⟨y, o, rfl⟩ := h.each q hq
      by_cases e : (Sum.inr y : Key) = .inr z
      · exact ⟨y, n, by simp only [if_pos e]⟩
      · exact ⟨y, o, by simp only [if_neg e]⟩
    · rcases List.mem_append.mp hp with hp | hp
      · exact h.each p hp
      · exact ⟨z, n, List.mem_singleton.mp hp⟩
  · rw [putK_keys]
    split
    · exact h.nd
    · next hno =>
      refine nd_snoc h.nd fun hm => hno ?_
      obtain ⟨p, hp, e⟩ := List.mem_map.mp hm
      exact List.any_eq_true.mpr ⟨p, hp, decide_eq_true e⟩
theorem PlainK.nil : PlainK [] := ⟨fun _ h => (nomatch h), List.nodup_nil⟩
theorem lin_fold {c : Str → Int} (hc : ∀ y, c (srt y) = c y) : ∀ (ts : List Tm) (kvs : List (Key × V)), PlainK kvs → lin c (entT (ts.foldl stepK kvs)) = lin c (entT kvs) + lin c ts ∧ PlainK (ts.foldl stepK kvs)
  | [], kvs, h => ⟨(Int.add_zero _).symm, h⟩
  | t :: r, kvs, h => by
    obtain ⟨h1, h2⟩ := lin_fold hc r (stepK kvs t) (h.put _ _)
    refine ⟨?_, h2⟩
    rw [List.foldl_cons, h1]
    unfold stepK
    rw [lin_put c _ _ h, hc]
    show _ = _ + (t.1 * c t.2 + lin c r)
    have e : gI kvs (srt t.2) + t.1 - gI kvs (srt t.2) = t.1 := by omega
    rw [e]; omega
theorem lin_filter {c : Str → Int} : ∀ {kvs : List (Key × V)}, (∀ p ∈ kvs, ∃ n : Int, p.2 = .int n ∧ 0 ≤ n) → lin c (entT (kvs.filter fun p => posV p.2)) = lin c (entT kvs)
  | [], _ => rfl
  | p :: r, h => by
    have ih := lin_filter (c := c) fun q hq => h q (List.mem_cons_of_mem _ hq)
    obtain ⟨n, e, n0⟩ := h p List.mem_cons_self
    rw [List.filter_cons]
    split
    · show (vI p.2 * c (keyS p)) + lin c (entT _) = (vI p.2 * c (keyS p)) + lin c (entT r)
      rw [ih]
    · next hp =>
      rw [ih]
      have : n = 0 := by
        rw [e] at hp
        have : ¬ 0 < n := by simpa [posV] using hp
        omega
      show _ = (vI p.2 * c (keyS p)) + lin c (entT r)
      rw [e, this]
      show _ = 0 * c (keyS p) + _
      omega
end Cr

/-! K24p: plain: what a table's numbers say of its text. -/
namespace Cr
open PySem L2
def Srtd (kvs : List (Key × V)) : Prop := ∀ p ∈ kvs, srt (keyS p) = keyS p
theorem lin_cons (c : Str → Int) (y : Str) (o : Int) (r : List (Key × V)) : lin c (entT ((.inr y, .int o) :: r)) = o * c y + lin c (entT r) := rfl
theorem gI_lin {kvs : List (Key × V)} (h : PlainK kvs) (z : Str) : gI kvs z = lin (fun y => if y = z then 1 else 0) (entT kvs) := by
  induction kvs with
  | nil => rfl
  | cons p r ih =>
    obtain ⟨hr, hp⟩ := h.tail
    obtain ⟨y, o, rfl⟩ := h.each p List.mem_cons_self
    have ih := ih hr
    by_cases e : y = z
    · subst e
      rw [gI_cons_eq]
      rw [lin_cons, ← ih, gI_none hp, if_pos rfl]; omega
    · rw [gI_cons_ne (fun q => e (Sum.inr.inj q)), ih]
      rw [lin_cons, if_neg e]; omega
theorem gI_cf {kvs : List (Key × V)} (h : PlainK kvs) (s : Srtd kvs) (z : Str) : gI kvs z = lin (cf z) (entT kvs) := by
  rw [gI_lin h z]
  unfold lin
  refine su_congr fun t ht => ?_
  obtain ⟨p, hp, rfl⟩ := List.mem_map.mp ht
  show _ * (if keyS p = z then 1 else 0) = _ * cf z (keyS p)
  unfold cf
  rw [s p hp]
theorem Srtd.sub {kvs ls : List (Key × V)} (h : Srtd kvs) (s : ls.Sublist kvs) : Srtd ls := fun p hp => h p (s.subset hp)
theorem Srtd.put {kvs : List (Key × V)} (h : Srtd kvs) {z : Str} (hz : srt z = z) (v : V) : Srtd (putK kvs (.inr z) v) := fun p hp => by
  unfold putK at hp
  split at hp
  · obtain ⟨q, hq, rfl⟩ := List.mem_map.mp hp
    have e : keyS (if q.1 = Sum.inr z then (q.1, v) else q) = keyS q := by
      split <;> rfl
    rw [e]; exact h q hq
  · rcases List.mem_append.mp hp with hp | hp
    · exact h p hp
    · rw [List.mem_singleton.mp hp]; exact hz
theorem Srtd.fold : ∀ (ts : List Tm) {kvs : List (Key × V)}, Srtd kvs → Srtd (ts.foldl stepK kvs)
  | [], _, h => h
  | t :: r, _, h => Srtd.fold r (h.put (srt_srt t.2) _)
theorem tab0_srtd (ts : List Tm) : Srtd (tab0 ts) := Srtd.fold ts fun _ h => (nomatch h)
theorem tab_srtd (ts : List Tm) : Srtd (tab ts) := (tab0_srtd ts).sub (tab_sub ts)
theorem KvOk.plain {kvs : List (Key × V)} (h : KvOk kvs) : PlainK kvs := h.ok.plain
theorem lin_tab {ts : List Tm} (h : TsOk ts) {c : Str → Int} (hc : ∀ y, c (srt y) = c y) : lin c (entT (tab ts)) = lin c ts := by
  unfold tab
  rw [lin_filter fun p hp => ?_]
  · have := (lin_fold hc ts [] PlainK.nil).1
    rw [show (ts.foldl stepK []) = tab0 ts from rfl] at this
    rw [this]
    show (0 : Int) + _ = _
    omega
  · obtain ⟨z, n, rfl, n0, _⟩ := h.tab0.1.each p hp
    exact ⟨n, rfl, n0⟩
theorem tab_gI {ts : List Tm} (h : TsOk ts) (z : Str) : gI (tab ts) z = lin (cf z) ts := by
  rw [gI_cf h.kv.plain (tab_srtd ts) z]
  exact lin_tab h (cf_srt z)
/-! ### keys -/
theorem hasK_iff {kvs : List (Key × V)} (h : KvOk kvs) (z : Str) : hasK kvs z = true ↔ 0 < gI kvs z := by
  refine ⟨gI_pos h, fun q => ?_⟩
  unfold hasK
  unfold gI at q
  cases e : valV kvs (.inr z) with
  | none => rw [e] at q; exact absurd q (by decide)
  | some v => rfl
theorem mem_keys {kvs : List (Key × V)} (h : KvOk kvs) (z : Str) : z ∈ kvs.map keyS ↔ hasK kvs z = true := by
  refine ⟨has_key h, fun q => ?_⟩
  unfold hasK at q
  obtain ⟨v, hv⟩ := Option.isSome_iff_exists.mp q
  unfold valV at hv
  obtain ⟨kv, hkv, _⟩ := Option.map_eq_some_iff.mp hv
  have e1 : kv.1 = .inr z := by simpa using List.find?_some hkv
  refine List.mem_map.mpr ⟨kv, List.mem_of_find?_eq_some hkv, ?_⟩
  unfold keyS
  rw [e1]
theorem keys_nd {kvs : List (Key × V)} (h : KvOk kvs) : (kvs.map keyS).Nodup := by
  have e : kvs.map (·.1) = (kvs.map keyS).map Sum.inr := by
    rw [List.map_map]
    refine List.map_congr_left fun p hp => ?_
    obtain ⟨y, n, rfl, _⟩ := h.ok.each p hp
    rfl
  have nd := h.ok.nd
  rw [e] at nd
  exact List.Pairwise.of_map Sum.inr (fun a b q e => q (by rw [e])) nd
theorem keys_perm {ks ls : List (Key × V)} (h1 : KvOk ks) (h2 : KvOk ls) (h : ∀ z, gI ks z = gI ls z) : (ks.map keyS).Perm (ls.map keyS) :=
  (List.perm_ext_iff_of_nodup (keys_nd h1) (keys_nd h2)).mpr fun z => by rw [mem_keys h1, mem_keys h2, hasK_iff h1, hasK_iff h2, h]
theorem hasK_ext {ks ls : List (Key × V)} (h1 : KvOk ks) (h2 : KvOk ls) (h : ∀ z, gI ks z = gI ls z) : hasK ks = hasK ls := by
  funext z
  have a := hasK_iff h1 z
  have b := hasK_iff h2 z
  rw [h] at a
  cases e1 : hasK ks z <;> cases e2 : hasK ls z
  · rfl
  · rw [e1] at a; rw [e2] at b; exact absurd (a.mpr (b.mp rfl)) (by decide)
  · rw [e1] at a; rw [e2] at b; exact absurd (b.mpr (a.mp rfl)) (by decide)
  · rfl
theorem told_ext {ks ls : List (Key × V)} (h1 : KvOk ks) (h2 : KvOk ls) (h : ∀ z, gI ks z = gI ls z) : told ks = told ls := by
  unfold told toldK
  rw [hasK_ext h1 h2 h, show gI ks = gI ls from funext h]
  have e : srtL ((ks.map keyS).filter neE) = srtL ((ls.map keyS).filter neE) :=
    sorted_one (srtL_pw _) (srtL_pw _) (((srtL_perm _).trans ((keys_perm h1 h2 h).filter _)).trans (srtL_perm _).symm)
  rw [e]
theorem txt_ext {ks ls : List (Key × V)} (h1 : KvOk ks) (h2 : KvOk ls) (h : ∀ z, gI ks z = gI ls z) : txt ks = txt ls := by
  unfold txt
  rw [told_ext h1 h2 h]
theorem val_gI {kvs : List (Key × V)} (h : KvOk kvs) {z : Str} (hh : hasK kvs z = true) : valV kvs (.inr z) = some (.int (gI kvs z)) := by
  have := getD_gI h.ok z
  obtain ⟨v, hv⟩ := Option.isSome_iff_exists.mp hh
  rw [hv] at this ⊢
  rw [show v = .int (gI kvs z) from this]
theorem dEq_ext {ks ls : List (Key × V)} (h1 : KvOk ks) (h2 : KvOk ls) (h : ∀ z, gI ks z = gI ls z) : dEq ks ls = true := by
  unfold dEq
  rw [Bool.and_eq_true]
  have hl := (keys_perm h1 h2 h).length_eq
  rw [List.length_map, List.length_map] at hl
  refine ⟨by simpa using hl, List.all_eq_true.mpr fun p hp => ?_⟩
  have hk : keyS p ∈ ks.map keyS := List.mem_map.mpr ⟨p, hp, rfl⟩
  have hh := (mem_keys h1 _).mp hk
  obtain ⟨y, n, rfl, _⟩ := h1.ok.each p hp
  have hh : hasK ks y = true := hh
  have e1 : valV ks (.inr y) = some (.int n) := val_nodup h1.ok.nd _ hp
  have e2 : gI ks y = n := by unfold gI; rw [e1]
  rw [show valV ls (.inr y) = some (.int (gI ls y)) from val_gI h2 (by rw [← hasK_ext h1 h2 h]; exact hh), ← h y, e2]
  simp [eqV]
theorem told_perm {kvs : List (Key × V)} (h : KvOk kvs) : (told kvs).Perm (entT kvs) := by
  have e : entT kvs = (kvs.map keyS).map fun z => (gI kvs z, z) := by
    unfold entT
    rw [List.map_map]
    refine List.map_congr_left fun p hp => ?_
    obtain ⟨y, n, rfl, _⟩ := h.ok.each p hp
    have e1 : valV kvs (.inr y) = some (.int n) := val_nodup h.ok.nd _ hp
    show (n, y) = (gI kvs y, y)
    have e2 : gI kvs y = n := by unfold gI; rw [e1]
    rw [e2]
  rw [e]
  unfold told
  refine List.Perm.map _ ?_
  have ndS : (srtL ((kvs.map keyS).filter neE)).Nodup := (srtL_perm _).nodup_iff.mpr ((keys_nd h).filter _)
  have nin : ("" : Str) ∉ srtL ((kvs.map keyS).filter neE) := fun hm => by
    have := (List.mem_filter.mp ((srtL_perm _).mem_iff.mp hm)).2
    simp [neE] at this
  refine (List.perm_ext_iff_of_nodup (List.Pairwise.filter _ (nd_snoc ndS nin)) (keys_nd h)).mpr fun z => ?_
  · rw [mem_keys h, List.mem_filter]
    refine ⟨fun q => q.2, fun q => ⟨?_, q⟩⟩
    by_cases e0 : z = ""
    · rw [e0]; exact List.mem_append_right _ (List.mem_singleton.mpr rfl)
    · exact List.mem_append_left _ ((srtL_perm _).mem_iff.mpr (List.mem_filter.mpr ⟨(mem_keys h z).mpr q, by simp [neE, e0]⟩))
theorem lin_told {kvs : List (Key × V)} (h : KvOk kvs) (c : Str → Int) : lin c (told kvs) = lin c (entT kvs) := su_perm _ (told_perm h)
/-! ### positive terms -/
theorem fold_pos : ∀ (ts : List Tm) {kvs : List (Key × V)}, PlainK kvs → (∀ p ∈ kvs, posV p.2 = true) → (∀ t ∈ ts, 0 < t.1) → ∀ p ∈ ts.foldl stepK kvs, posV p.2 = true
  | [], _, _, h, _ => h
  | t :: r, kvs, hp, h, ht => by
    refine fold_pos r (hp.put _ _) (fun p hp' => ?_) fun u hu => ht u (List.mem_cons_of_mem _ hu)
    have g0 : 0 ≤ gI kvs (srt t.2) := by
      unfold gI
      cases e : valV kvs (.inr (srt t.2)) with
      | none => exact Int.le_refl _
      | some v =>
        unfold valV at e
        obtain ⟨kv, hkv, rfl⟩ := Option.map_eq_some_iff.mp e
        have := h kv (List.mem_of_find?_eq_some hkv)
        obtain ⟨y, n, rfl⟩ := hp.each kv (List.mem_of_find?_eq_some hkv)
        have : 0 < n := by simpa [posV] using this
        show 0 ≤ n
        omega
    have t0 := ht t List.mem_cons_self
    have np : posV (.int (gI kvs (srt t.2) + t.1)) = true := by simp only [posV, decide_eq_true_eq]; omega
    unfold stepK putK at hp'
    split at hp'
    · obtain ⟨q, hq, rfl⟩ := List.mem_map.mp hp'
      split
      · exact np
      · exact h q hq
    · rcases List.mem_append.mp hp' with hp' | hp'
      · exact h p hp'
      · rw [List.mem_singleton.mp hp']; exact np
theorem tab0_tab {ts : List Tm} (h : ∀ t ∈ ts, 0 < t.1) : tab0 ts = tab ts := by
  unfold tab
  exact (List.filter_eq_self.mpr (fold_pos ts PlainK.nil (fun _ q => (nomatch q)) h)).symm
/-! ### small tables -/
structure KvS (kvs : List (Key × V)) : Prop where
  ok : TabOk 5 (2 ^ 102) kvs
  len : kvs.length ≤ 5
  pos : ∀ p ∈ kvs, posV p.2 = true
  srtd : Srtd kvs
theorem TabOk.wide {m m' : Nat} {B B' : Int} {kvs : List (Key × V)} (h : TabOk m B kvs) (hm : m ≤ m') (hB : B ≤ B') : TabOk m' B' kvs := ⟨fun p hp => by
  obtain ⟨z, n, e, n0, n1, zl, zo⟩ := h.each p hp
  exact ⟨z, n, e, n0, by omega, by omega, zo⟩, h.nd⟩
theorem KvS.kv {kvs : List (Key × V)} (h : KvS kvs) : KvOk kvs := ⟨h.ok.wide (by decide) (by decide), Nat.le_trans h.len (by decide), h.pos⟩
theorem kvS_tab {ts : List Tm} (hl : ts.length ≤ 5) (h : ∀ t ∈ ts, okT 5 (2 ^ 99) t) : KvS (tab ts) := by
  obtain ⟨a, b⟩ := fold_ok (m := 5) (C := 2 ^ 99) (by decide) ts [] 1 .nil (by decide) h
  have b : (tab0 ts).length ≤ 0 + ts.length := b
  refine ⟨(TabOk.wide a (Nat.le_refl _) ?_).sub (tab_sub ts), Nat.le_trans (tab_sub ts).length_le (by omega), fun p hp => (List.mem_filter.mp hp).2, tab_srtd ts⟩
  have e : (2 : Int) ^ 102 = 2 ^ 99 * 8 := by decide
  have : (0 : Int) < 2 ^ 99 := by decide
  rw [e]; omega
theorem KvS.ent {kvs : List (Key × V)} (h : KvS kvs) {t : Tm} (ht : t ∈ entT kvs) : 0 < t.1 ∧ t.1 < 2 ^ 102 ∧ t.2.length ≤ 5 ∧ lets t.2 := by
  obtain ⟨p, hp, rfl⟩ := List.mem_map.mp ht
  have pp := h.pos p hp
  obtain ⟨z, n, rfl, n0, n1, zl, zo⟩ := h.ok.each p hp
  exact ⟨by show 0 < n; simpa [posV] using pp, n1, zl, zo⟩
theorem KvS.inTold {kvs : List (Key × V)} (h : KvS kvs) {t : Tm} (ht : t ∈ told kvs) : 0 < t.1 ∧ t.1 < 2 ^ 102 ∧ t.2.length ≤ 5 ∧ lets t.2 := h.ent ((told_perm h.kv).mem_iff.mp ht)
theorem KvS.lenTold {kvs : List (Key × V)} (h : KvS kvs) : (told kvs).length ≤ 5 := by
  rw [(told_perm h.kv).length_eq]
  unfold entT
  rw [List.length_map]; exact h.len
theorem ts_app {ks ls : List (Key × V)} (h1 : KvS ks) (h2 : KvS ls) : TsOk (told ks ++ told ls) := by
  refine ⟨?_, fun t ht => ?_⟩
  · rw [List.length_append]
    have := h1.lenTold
    have := h2.lenTold
    omega
  · have : 0 < t.1 ∧ t.1 < 2 ^ 102 ∧ t.2.length ≤ 5 ∧ lets t.2 := by
      rcases List.mem_append.mp ht with ht | ht
      · exact h1.inTold ht
      · exact h2.inTold ht
    obtain ⟨a, b, c, d⟩ := this
    exact ⟨by omega, Int.lt_trans b (by decide), by omega, d⟩
theorem ts_prod {xs ys : List Tm} (hx : xs.length ≤ 5) (hy : ys.length ≤ 5) (h1 : ∀ t ∈ xs, 0 < t.1 ∧ t.1 < 2 ^ 102 ∧ t.2.length ≤ 5 ∧ lets t.2) (h2 : ∀ t ∈ ys, 0 < t.1 ∧ t.1 < 2 ^ 102 ∧ t.2.length ≤ 5 ∧ lets t.2) : TsOk (prodT xs ys) ∧ ∀ t ∈ prodT xs ys, 0 < t.1 := by
  have key : ∀ t ∈ prodT xs ys, 0 < t.1 ∧ t.1 < 2 ^ 204 ∧ t.2.length ≤ 10 ∧ lets t.2 := fun t ht => by
    obtain ⟨x, hx', y, hy', rfl⟩ := mem_prod ht
    obtain ⟨a, b, c, d⟩ := h1 x hx'
    obtain ⟨a', b', c', d'⟩ := h2 y hy'
    refine ⟨Int.mul_pos a a', ?_, ?_, ?_⟩
    · show x.1 * y.1 < 2 ^ 204
      rw [show (2 : Int) ^ 204 = 2 ^ 102 * 2 ^ 102 by decide]
      exact Int.lt_of_lt_of_le (Int.mul_lt_mul_of_pos_right b a') (Int.mul_le_mul_of_nonneg_left (Int.le_of_lt b') (by decide))
    · show (x.2 ++ y.2).length ≤ 10
      rw [app_len]; omega
    · intro e he
      rw [app_cps] at he
      rcases List.mem_append.mp he with he | he
      · exact d e he
      · exact d' e he
  refine ⟨⟨?_, fun t ht => ?_⟩, fun t ht => (key t ht).1⟩
  · rw [prod_len]
    exact Nat.le_trans (Nat.mul_le_mul hx hy) (by decide)
  · obtain ⟨a, b, c, d⟩ := key t ht
    exact ⟨by omega, Int.lt_trans b (by decide), by omega, d⟩
end Cr

namespace Cr
open PySem L2
/-! ### == of two tables is even -/
theorem sub_back {α : Type} [DecidableEq α] : ∀ {l m : List α}, l.Nodup → (∀ x ∈ l, x ∈ m) → m.length ≤ l.length → ∀ x ∈ m, x ∈ l
  | [], m, _, _, hl, x, hx => by
    have : m = [] := List.eq_nil_of_length_eq_zero (by simpa using hl)
    rw [this] at hx; cases hx
  | a :: r, m, nd, hs, hl, x, hx => by
    obtain ⟨na, nr⟩ := List.nodup_cons.mp nd
    have ha := hs a List.mem_cons_self
    have e1 := List.length_erase_of_mem ha
    have hp := List.length_pos_of_mem ha
    by_cases c : x = a
    · rw [c]; exact List.mem_cons_self
    · refine List.mem_cons_of_mem _ (sub_back (m := m.erase a) nr (fun y hy => ?_) ?_ x ((List.mem_erase_of_ne c).mpr hx))
      · exact (List.mem_erase_of_ne (fun e : y = a => na (e ▸ hy))).mpr (hs y (List.mem_cons_of_mem _ hy))
      · rw [List.length_cons] at hl; omega
theorem val_mem {kvs : List (Key × V)} {k : Key} {v : V} (h : valV kvs k = some v) : (k, v) ∈ kvs := by
  unfold valV at h
  obtain ⟨kv, hkv, rfl⟩ := Option.map_eq_some_iff.mp h
  have e : kv.1 = k := by simpa using List.find?_some hkv
  have := List.mem_of_find?_eq_some hkv
  rw [← e]
  exact this
theorem dEq_imp {ks ls : List (Key × V)} (h1 : KvOk ks) (h2 : KvOk ls) (h : dEq ks ls = true) : dEq ls ks = true := by
  unfold dEq at h ⊢
  rw [Bool.and_eq_true] at h ⊢
  obtain ⟨hl, ha⟩ := h
  have hl : ks.length = ls.length := by simpa using hl
  have each : ∀ p ∈ ks, p ∈ ls := fun p hp => by
    have q := List.all_eq_true.mp ha p hp
    obtain ⟨z, n, rfl, _⟩ := h1.ok.each p hp
    cases e : valV ls (.inr z) with
    | none => simp only [e] at q; cases q
    | some v =>
      simp only [e] at q
      have hm := val_mem e
      obtain ⟨z', n', ee, _⟩ := h2.ok.each _ hm
      cases ee
      have : n = n' := by simpa [eqV] using q
      rw [this]; exact hm
  refine ⟨by simpa using hl.symm, List.all_eq_true.mpr fun p hp => ?_⟩
  have nk : ks.Nodup := by
    have := h1.ok.nd
    exact List.Pairwise.of_map (·.1) (fun a b h e => h (by rw [e])) this
  have hb := sub_back nk each (by omega) p hp
  obtain ⟨z, n, rfl, _⟩ := h2.ok.each p hp
  rw [show valV ks (.inr z) = some (.int n) from val_nodup h1.ok.nd _ hb]
  simp [eqV]
theorem dEq_comm {ks ls : List (Key × V)} (h1 : KvOk ks) (h2 : KvOk ls) : dEq ls ks = dEq ks ls := by
  cases e : dEq ks ls with
  | true => exact dEq_imp h1 h2 e
  | false =>
    cases e2 : dEq ls ks with
    | false => rfl
    | true => rw [dEq_imp h2 h1 e2] at e; cases e
section
variable {P : Program} {w : World} {K : PySem.W.Frag} {mg : Str → Option Value} {base : Heap}
theorem kw_init {f : Addr} {fd : FuncData} (F : Fun K "__init__" "Size.__init__" s_Size___init__ f fd) : KBn K fd ["self", "terms"] 1 ["terms"] (fun us ws => us ++ ws) (fun vs zs => vs ++ zs) := by
  obtain ⟨oc, od, kV, doc, pm, an, cdv, ct, osl, rfl, lk, hcd⟩ := F.ex
  refine ⟨fun s us ws X l1 l2 => BindsTo.of_looks fun M => ?_, fun r1 r2 => r1.append r2⟩
  match us, ws, l1, l2 with
  | [u], [w], _, _ => exact .of_pure rfl
/-- a new Size beside the ghost part -/
theorem mk_wo {C : Addr} {G H : Hp} {f c a : Addr} {k : Nat} {xs : List V} {ts : List Tm} {Q : Addr → Hp → Prop} {E : XK} (W : Wo G H f c k) (ha : SqL K H a xs) (hx : DpAll K H xs (ts.map tmD)) (tok : TsOk ts)
    (q : ∀ (x : Addr) (G' H' : Hp), Same G G' → Same H H' → H x = none → Wo G' H' f c k → SzAt C G' x (tab ts) → (∀ b, G b = none → H b ≠ none → G' b = none) → Q x H') :
    ∀ x dx, H x = none → H dx = none → dx ≠ x → spInit K C [.ref x, .ref a] (upd (upd H dx (.own x)) x (.ins C dx [])) (fun v H2 => v = .non ∧ Q x H2) E := by
  intro x dx nx ndx nex
  have s1 : Same H (upd (upd H dx (.own x)) x (.ins C dx [])) := fun b o e => by
    rw [upd_ne (ne_of_none e nx), upd_ne (ne_of_none e ndx)]
    exact e
  refine ⟨x, dx, a, xs, ts, rfl, upd_same, s1.seq ha, dpUps s1 hx, tok, fun p H' st np hx' hp => ⟨rfl, ?_⟩⟩
  have s2 : Same H H' := fun b o e => st b o (ne_of_none e nx) (s1 b o e)
  have np0 : H p = none := s1.free np
  have npx : p ≠ x := fun e => by rw [e, upd_same] at np; cases np
  have W1 := W.keep s2
  have gx : G x = none := W.same.free nx
  have gp : G p = none := W.same.free np0
  have W2 := (W1.add hx' (W.ne nx) gx).add hp (W.ne np0) (by rw [upd_ne npx]; exact gp)
  refine q x _ H' ((same_up gx).trans (same_up (by rw [upd_ne npx]; exact gp))) s2 nx W2 ⟨dx, p, by rw [upd_ne npx.symm, upd_same], upd_same⟩ fun b gb hb => ?_
  have nbx : b ≠ x := fun e => hb (e ▸ nx)
  have nbp : b ≠ p := fun e => hb (e ▸ np0)
  rw [upd_ne nbp, upd_ne nbx]; exact gb
/-! ### things that are no Size -/
inductive Thing (G : Hp) : V → Prop where
  | non : Thing G .non
  | int (i : Int) : Thing G (.int i)
  | str (z : Str) : Thing G (.str z)
  | lst {a : Addr} {xs : List V} (h : G a = some (.lst xs)) : Thing G (.ref a)
  | tup {a : Addr} {xs : List V} (h : G a = some (.tup xs)) : Thing G (.ref a)
  | dK {a : Addr} {kvs : List (Key × V)} (h : G a = some (.dK kvs)) : Thing G (.ref a)
theorem kit_no {C : Addr} {t : String} (kc : ((PySem.W.clsIn K C).isSome && PySem.W.typeIn K (.ref C) == some (.type "type")) = true) (e : PySem.W.subIn K (.type t) (.ref C) = some false) : PySem.W.kitOne K (.type t) (.ref C) = some false := by
  unfold PySem.W.kitOne PySem.W.kitCls
  rw [if_neg (by rw [show (Value.type t == Value.ref C) = false from rfl]; exact Bool.false_ne_true)]
  simp only [kc, if_true, e]
theorem thing_at {C : Addr} {G H : Hp} {y : V} (kc : ((PySem.W.clsIn K C).isSome && PySem.W.typeIn K (.ref C) == some (.type "type")) = true) (h : Thing G y) (s : Same G H) :
    Bk K H y ∧ ∃ t, TyX K H y t ∧ PySem.W.notFirst K C t = true ∧ PySem.W.kitOne K t (.ref C) = some false := by
  cases h with
  | non => exact ⟨.non, _, .base .non, by rfl, kit_no kc rfl⟩
  | int i => exact ⟨.int i, _, .base (.int i), by rfl, kit_no kc rfl⟩
  | str z => exact ⟨.str z, _, .base (.str z), by rfl, kit_no kc rfl⟩
  | lst h => exact ⟨.lst (ofL (s _ _ h)), _, .base (.lst (s _ _ h)), by rfl, kit_no kc rfl⟩
  | tup h => exact ⟨.tup (ofT (s _ _ h)), _, .base (.tup (s _ _ h)), by rfl, kit_no kc rfl⟩
  | dK h => exact ⟨.dK (s _ _ h), _, .base (.dK (s _ _ h)), by rfl, kit_no kc rfl⟩
theorem nf_own (C : Addr) : PySem.W.notFirst K C (.ref C) = true := by simp [PySem.W.notFirst]
end
end Cr

namespace Cr
open PySem L2
theorem ip_mulS {X : Cx} : PIp X .Mult (rI CMul fun i j => .int (i * j)) := by
  intro pins s σ H x y v u Q I r1 r2 w
  exact (iop_mul (X := X)) pins s σ H x y v u Q I r1 r2 w
section
variable {P : Program} {w : World} {K : PySem.W.Frag} {mg : Str → Option Value} {base : Heap}
/-- a new Size -/
theorem mk_sz {C : Addr} {H : Hp} {a : Addr} {xs : List V} {ts : List Tm} {Q : Addr → Hp → Prop} {E : XK} (ha : SqL K H a xs) (hx : DpAll K H xs (ts.map tmD)) (tok : TsOk ts)
    (q : ∀ (x : Addr) (H' : Hp), Same H H' → H x = none → SzAt C H' x (tab ts) → Q x H') :
    ∀ x dx, H x = none → H dx = none → dx ≠ x → spInit K C [.ref x, .ref a] (upd (upd H dx (.own x)) x (.ins C dx [])) (fun v H2 => v = .non ∧ Q x H2) E := by
  intro x dx nx ndx nex
  have s1 : Same H (upd (upd H dx (.own x)) x (.ins C dx [])) := fun b o e => by
    rw [upd_ne (ne_of_none e nx), upd_ne (ne_of_none e ndx)]
    exact e
  refine ⟨x, dx, a, xs, ts, rfl, upd_same, s1.seq ha, dpUps s1 hx, tok, fun p H' st np hx' hp => ⟨rfl, ?_⟩⟩
  exact q x H' (fun b o e => st b o (ne_of_none e nx) (s1 b o e)) nx ⟨dx, p, hx', hp⟩
/-! ### TooFew.__init__ -/
def xfs (w n m : V) : List (Str × V) := [("size", m), ("asked", n), ("word", w)]
def spTF (D : Addr) : Sp := fun vs H Q _ => ∃ (a : Addr) (w n m : V), vs = [.ref a, w, n, m] ∧ H a = some (exo a D none) ∧
  ∀ (dx : Addr) (H' : Hp), H dx = none → dx ≠ a → (∀ b, b ≠ a → b ≠ dx → H' b = H b) → H' a = some (exo a D (some dx)) → H' dx = some (exd dx (xfs w n m)) → Q .non H'
theorem ok_TooFew___init__ (T : Tx K mg) : FnOk P w K mg base CX0 1 T.TooFew___init__.f T.TooFew___init__.fd ["self", "word", "asked", "size"] (spTF T.D) := by
  refine T.TooFew___init__.F.ok sc_TooFew___init__ (fun vs H Q E h => ?_) (fun cdv A outer s H vs Q E hr h => ?_)
  · obtain ⟨a, w, n, m, rfl, _⟩ := h
    rfl
  · obtain ⟨a, w, n, m, rfl, ha, q⟩ := h
    refine ⟨_, (pss_cons (ps_expr (pe_bi T.tf T.bE (by rfl) T.b_LookupError (pa_cons (pv 0) (pa_cons pe_str pa_nil))))
 (pss_cons (ps_xst T.tf T.nW (pv 0) (pv 1))
 (pss_cons (ps_xst T.tf T.nA (pv 0) (pv 2))
 (pss_one (ps_xst T.tf T.nS (pv 0) (pv 3)))))), ?_⟩
    refine ⟨_, rfl, a, _, rfl, by show 1 ≤ 1000; decide, ha, ?_⟩
    refine ⟨_, rfl, _, rfl, a, rfl, .inl ⟨ha, fun dx nd ne => ?_⟩⟩
    have e1 : (upd (upd H dx (exd dx [("word", w)])) a (exo a T.D (some dx))) a = some (exo a T.D (some dx)) := upd_same
    have e2 : (upd (upd H dx (exd dx [("word", w)])) a (exo a T.D (some dx))) dx = some (exd dx [("word", w)]) := by rw [upd_ne ne, upd_same]
    have e3 : ∀ b, b ≠ a → b ≠ dx → (upd (upd H dx (exd dx [("word", w)])) a (exo a T.D (some dx))) b = H b := fun b h1 h2 => by rw [upd_ne h1, upd_ne h2]
    generalize upd (upd H dx (exd dx [("word", w)])) a (exo a T.D (some dx)) = H1 at e1 e2 e3
    refine ⟨_, rfl, _, rfl, a, rfl, .inr ⟨dx, _, e1, e2, by show 1 ≤ 900; decide, ?_⟩⟩
    refine ⟨_, rfl, _, rfl, a, rfl, .inr ⟨dx, _, by rw [upd_ne (Ne.symm ne)]; exact e1, upd_same, by show 2 ≤ 900; decide, ?_⟩⟩
    exact q dx _ nd ne (fun b h1 h2 => by rw [upd_ne h2, upd_ne h2]; exact e3 b h1 h2) (by rw [upd_ne (Ne.symm ne), upd_ne (Ne.symm ne)]; exact e1) upd_same
/-! ### Size.alone -/
def spAlone (C : Addr) : Sp := fun vs H Q _ => ∃ (x : Addr) (kvs : List (Key × V)), vs = [.ref x] ∧ SzAt C H x kvs ∧ KvOk kvs ∧ Q (.int (gI kvs "")) H
theorem ok_Size_alone (T : Tx K mg) : FnOk P w K mg base CX0 1 T.Size_alone.f T.Size_alone.fd ["self"] (spAlone T.C) := by
  refine T.Size_alone.F.ok sc_Size_alone (fun vs H Q E h => ?_) (fun cdv A outer s H vs Q E hr h => ?_)
  · obtain ⟨x, kvs, rfl, _⟩ := h
    rfl
  · obtain ⟨x, kvs, rfl, ⟨dx, d, hx, hd⟩, kk, q⟩ := h
    have hu := hu_of hr
    refine ⟨_, (pss_one (ps_ret (pe_dget2 hu (pe_fld (pv 0) rfl) pe_str pe_int ⟨rfl, rfl, rfl, rfl⟩))), ?_⟩
    refine ⟨_, rfl, x, T.C, dx, _, _, rfl, hx, T.Size.cl, T.nC, lk_counts d, d, rfl, .inl ⟨_, .inl hd⟩, _, DGet.k (k := .inr "") hd, ?_⟩
    rw [getD_gI kk.ok]
    exact q
/-! ### Size.plus -/
def spPlus (K : PySem.W.Frag) (C : Addr) : Sp := fun vs H Q _ => ∃ (x y : Addr) (ks ls : List (Key × V)), vs = [.ref x, .ref y] ∧ SzAt C H x ks ∧ SzAt C H y ls ∧ KvOk ks ∧ KvOk ls ∧ TsOk (told ks ++ told ls) ∧
  ∀ (z : Addr) (H' : Hp), Same H H' → H z = none → SzAt C H' z (tab (told ks ++ told ls)) → Q (.ref z) H'
theorem ok_Size_plus (T : Tx K mg) : FnOk P w K mg base CX0 3 T.Size_plus.f T.Size_plus.fd ["self", "other"] (spPlus K T.C) := by
  refine T.Size_plus.F.ok sc_Size_plus (fun vs H Q E h => ?_) (fun cdv A outer s H vs Q E hr h => ?_)
  · obtain ⟨x, y, ks, ls, rfl, _⟩ := h
    rfl
  · obtain ⟨x, y, ks, ls, rfl, hx, hy, kk, lk, tok, q⟩ := h
    refine ⟨_, (pss_one (ps_ret (pe_make T.Size.mkk (ok_Size___init__ T) (hr.mono (by decide)) (by rfl) T.Size.mg T.Size___init__.b .nil pass0 (pa_cons (pe_op op_cat (pe_meth0 (pv 0) T.Size.cl T.Size_terms_told.m (ok_Size_terms_told T) (hr.mono (by decide)) T.Size_terms_told.b .nil pass0) (pe_meth0 (pv 1) T.Size.cl T.Size_terms_told.m (ok_Size_terms_told T) (hr.mono (by decide)) T.Size_terms_told.b .nil pass0)) pa_nil)))), ?_⟩
    obtain ⟨dx, d, hxi, hd⟩ := id hx
    refine ⟨_, rfl, x, dx, _, rfl, hxi, rfl, x, ks, rfl, hx, kk, fun p xs H1 s1 np hp hxs => ?_⟩
    have hy1 := hy.up s1
    obtain ⟨dy, e, hyi, he⟩ := id hy1
    refine ⟨_, rfl, y, dy, _, rfl, hyi, rfl, y, ls, rfl, hy1, lk, fun p2 xs2 H2 s2 np2 hp2 hxs2 => ?_⟩
    have hp' := s2 _ _ hp
    have hl1 : xs.length = (told ks).length := by rw [dpLen hxs, List.length_map]
    have hl2 : xs2.length = (told ls).length := by rw [dpLen hxs2, List.length_map]
    refine ⟨p, p2, xs, xs2, rfl, rfl, hp', hp2, by rw [hl1, hl2, sizeLine_eq]; have := told_len kk; have := told_len lk; omega, fun p3 np3 => ?_⟩
    have s3 : Same H2 (upd H2 p3 (.lst (xs ++ xs2))) := same_up np3
    refine mk_sz (ofL upd_same) ?_ tok fun z H' sz nz hz => q z H' ((s1.trans s2).trans (s3.trans sz)) ((s1.trans (s2.trans s3)).free nz) hz
    rw [List.map_append]
    exact dpUps s3 (dpApp (dpUps s2 hxs) hxs2)
end
end Cr

namespace Cr
open PySem L2
section
variable {P : Program} {w : World} {K : PySem.W.Frag} {mg : Str → Option Value} {base : Heap}
theorem told_lets {kvs : List (Key × V)} (h : KvOk kvs) {t : Tm} (ht : t ∈ told kvs) : lets t.2 := by
  obtain ⟨p, hp, rfl⟩ := List.mem_map.mp ((told_perm h).mem_iff.mp ht)
  obtain ⟨z, n, rfl, _, _, _, zo⟩ := h.ok.each p hp
  exact zo
theorem prod_take {xs ys : List Tm} {i : Nat} {t : Tm} (e : xs[i]? = some t) : prodT (xs.take (i + 1)) ys = prodT (xs.take i) ys ++ ys.map fun y => (t.1 * y.1, t.2 ++ y.2) := by
  rw [List.take_add_one, e]
  unfold prodT
  rw [List.flatMap_append]
  simp
/-! ### Size.times -/
def spTimes (K : PySem.W.Frag) (C : Addr) : Sp := fun vs H Q _ => ∃ (x y : Addr) (ks ls : List (Key × V)), vs = [.ref x, .ref y] ∧ SzAt C H x ks ∧ SzAt C H y ls ∧ KvOk ks ∧ KvOk ls ∧ TsOk (prodT (told ks) (told ls)) ∧
  ∀ (z : Addr) (H' : Hp), Same H H' → H z = none → SzAt C H' z (tab (prodT (told ks) (told ls))) → Q (.ref z) H'
theorem ok_Size_times (T : Tx K mg) : FnOk P w K mg base CX0 3 T.Size_times.f T.Size_times.fd ["self", "other"] (spTimes K T.C) := by
  refine T.Size_times.F.ok sc_Size_times (fun vs H Q E h => ?_) (fun cdv A outer s H vs Q E hr h => ?_)
  · obtain ⟨x, y, ks, ls, rfl, _⟩ := h
    rfl
  · obtain ⟨x, y, ks, ls, rfl, hx, hy, kk, lk, tok, q⟩ := h
    refine ⟨_, (pss_cons (ps_set (i := 2) sc_Size_times.nd rfl (Or.inr rfl) (pe_meth0 (pv 1) T.Size.cl T.Size_terms_told.m (ok_Size_terms_told T) (hr.mono (by decide)) T.Size_terms_told.b .nil pass0))
 (pss_one (ps_ret (pe_make T.Size.mkk (ok_Size___init__ T) (hr.mono (by decide)) (by rfl) T.Size.mg T.Size___init__.b .nil pass0 (pa_cons (pe_lc2 (own := [("many", 3), ("here", 4), ("more", 5), ("there", 6)]) (vs1 := [5, 6]) (g := gTup K 2 (gCons (gName 3) (gCons (gName 4) gNil))) (g1 := gTup K 2 (gCons (gName 5) (gCons (gName 6) gNil))) (by rfl) sc_Size_times.nd (pi_list (pe_meth0 (pv 0) T.Size.cl T.Size_terms_told.m (ok_Size_terms_told T) (hr.mono (by decide)) T.Size_terms_told.b .nil pass0)) (blkOk_by (own := [("many", 3), ("here", 4), ("more", 5), ("there", 6)]) (N := N_Size_times) (sc := defScope s_Size_times) (by decide +kernel)) (by decide) (fun _ _ _ _ _ => (pg_tup rfl (pgs_cons (pg_name (i := 3) sc_Size_times.nd rfl (Or.inl rfl)) (pgs_cons (pg_name (i := 4) sc_Size_times.nd rfl (Or.inl rfl)) pgs_nil)))) (fun _ _ _ _ _ => pts_nil) (fun _ _ _ _ _ => (pi_listK K rfl (pv 2))) (fun _ _ _ _ _ => (pg_tup rfl (pgs_cons (pg_name (i := 5) sc_Size_times.nd rfl (Or.inl rfl)) (pgs_cons (pg_name (i := 6) sc_Size_times.nd rfl (Or.inl rfl)) pgs_nil)))) (fun _ _ _ _ _ => pts_nil) (fun _ _ _ _ _ => (pe_tup (pa_cons (pe_op op_mulW (pv 3) (pv 5)) (pa_cons (pe_op op_add_str (pv 4) (pv 6)) pa_nil))))) pa_nil))))), ?_⟩
    obtain ⟨dy, e, hyi, he⟩ := id hy
    refine ⟨_, rfl, y, dy, _, rfl, hyi, rfl, y, ls, rfl, hy, lk, fun p2 xs2 H1 s1 np2 hp2 hxs2 => ?_⟩
    have hx1 := hx.up s1
    obtain ⟨dx, d, hxi, hd⟩ := id hx1
    refine ⟨_, rfl, x, dx, _, rfl, hxi, rfl, x, ks, rfl, hx1, kk, fun p xs H2 s2 np hp hxs => ?_⟩
    have hp2' := s2 _ _ hp2
    have hxs2' := dpUps s2 hxs2
    have hl1 : xs.length = (told ks).length := by rw [dpLen hxs, List.length_map]
    have hl2 : xs2.length = (told ls).length := by rw [dpLen hxs2, List.length_map]
    refine ⟨p, rfl, ⟨_, ofL hp⟩, fun D nD => ?_⟩
    have np2D : p2 ≠ D := ne_of_none hp2' nD
    refine lcw (K := K) (a := p) (xs := xs) (fun i H5 => ∃ (G5 : Hp) (zs : List V), Same H2 G5 ∧ Same G5 H5 ∧ G5 D = none ∧ H5 D = some (.lst zs) ∧ DpAll K G5 zs ((prodT ((told ks).take i) (told ls)).map tmD))
      ⟨H2, [], Same.refl _, same_up nD, nD, upd_same, .nil⟩ (fun i H5 _ ⟨_, _, a, b, _⟩ => ofL (b _ _ (a _ _ hp))) ?_ ?_
    · rintro i v H5 hi ⟨G5, zs, a5, b5, gD5, hD5, hzs⟩
      obtain ⟨dd, hdd, hv⟩ := dpGet hxs hi
      rw [List.getElem?_map] at hdd
      obtain ⟨t, et, rfl⟩ := Option.map_eq_some_iff.mp hdd
      obtain ⟨b, rfl, hb⟩ := tm_at hv
      obtain ⟨t0, t1, t2, _⟩ := told_ok kk (List.mem_of_getElem? et)
      refine ⟨b, _, rfl, Same.sqT (a5.trans b5) hb, rfl, _, _, rfl, _, _, rfl, rfl, rfl, ?_⟩
      refine ⟨_, rfl, p2, rfl, ⟨_, ofL (b5 _ _ (a5 _ _ hp2'))⟩, ?_⟩
      refine lcw (K := K) (a := p2) (xs := xs2) (fun j H6 => ∃ (G6 : Hp) (zs : List V), Same H2 G6 ∧ Same G6 H6 ∧ G6 D = none ∧ H6 D = some (.lst zs) ∧ DpAll K G6 zs ((prodT ((told ks).take i) (told ls) ++ ((told ls).take j).map fun y => (t.1 * y.1, t.2 ++ y.2)).map tmD))
        ⟨G5, zs, a5, b5, gD5, hD5, by rw [List.take_zero]; simpa using hzs⟩ (fun j H6 _ ⟨_, _, a, b, _⟩ => ofL (b _ _ (a _ _ hp2'))) ?_ ?_
      · rintro j v2 H6 hj ⟨G6, zs, a6, b6, gD6, hD6, hzs⟩
        obtain ⟨dd, hdd, hv2⟩ := dpGet hxs2' hj
        rw [List.getElem?_map] at hdd
        obtain ⟨u, eu, rfl⟩ := Option.map_eq_some_iff.mp hdd
        obtain ⟨b2, rfl, hb2⟩ := tm_at hv2
        obtain ⟨u0, u1, u2, _⟩ := told_ok lk (List.mem_of_getElem? eu)
        refine ⟨b2, _, rfl, Same.sqT (a6.trans b6) hb2, rfl, _, _, rfl, _, _, rfl, rfl, rfl, ?_⟩
        have bt : ∀ n : Int, 0 < n → n < BT → n.natAbs < 2 ^ 240 := fun n h0 h1 => by
          have e : (2 : Int) ^ 240 = ((2 ^ 240 : Nat) : Int) := by decide
          have h1 : n < (2 : Int) ^ 240 := h1
          rw [e] at h1
          omega
        refine ⟨_, rfl, _, rfl, _, _, rfl, rfl, wide_mul (bt _ t0 t1) (bt _ u0 u1) (by decide) (by decide) (by decide), _, rfl, _, rfl, _, _, rfl, rfl, by rw [sizeLine_eq]; omega, by show 2 ≤ sizeLine; decide, fun tp ntp => ?_⟩
        have nDt : D ≠ tp := ne_of_none hD6 ntp
        have gt : G6 tp = none := b6.free ntp
        have hlz : zs.length ≤ 1800 := by
          have q1 := told_len kk
          have q2 := told_len lk
          rw [dpLen hzs, List.length_map, List.length_append, prod_len, List.length_map, List.length_take, List.length_take]
          have : min i (told ks).length * (told ls).length ≤ 41 * 41 := Nat.mul_le_mul (by omega) q2
          omega
        refine ⟨zs, by rw [upd_ne nDt]; exact hD6, by rw [sizeLine_eq]; omega, upd G6 tp (.tup [.int (t.1 * u.1), .str (t.2 ++ u.2)]), zs ++ [.ref tp], a6.trans (same_up gt), Same.put (Same.two b6) (by rw [upd_ne nDt]; exact gD6), by rw [upd_ne nDt]; exact gD6, upd_same, ?_⟩
        have ej : (prodT ((told ks).take i) (told ls) ++ ((told ls).take (j + 1)).map fun y => (t.1 * y.1, t.2 ++ y.2)).map tmD = (prodT ((told ks).take i) (told ls) ++ ((told ls).take j).map fun y => (t.1 * y.1, t.2 ++ y.2)).map tmD ++ [tmD (t.1 * u.1, t.2 ++ u.2)] := by
          rw [List.take_add_one, eu]
          simp
        rw [ej]
        exact dpApp (dpUps (same_up gt) hzs) (.cons (.tup (ofT upd_same) (.cons (.int _) (.cons (.str _) .nil))) .nil)
      · rintro H6 ⟨G6, zs, a6, b6, gD6, hD6, hzs⟩
        rw [hl2, List.take_length] at hzs
        exact ⟨G6, zs, a6, b6, gD6, hD6, by rw [prod_take et]; exact hzs⟩
    · rintro H5 ⟨G5, zs, a5, b5, gD5, hD5, hzs⟩
      rw [hl1, List.take_length] at hzs
      exact mk_sz (ofL hD5) (dpUps b5 hzs) tok fun z H' sz nz hz => q z H' ((s1.trans s2).trans ((a5.trans b5).trans sz)) ((s1.trans (s2.trans (a5.trans b5))).free nz) hz
/-! ### Size.worth -/
def gN (nk : List (Key × V)) (c : Nat) : Int := gI nk ⟨#[c]⟩
structure NumOk (nk : List (Key × V)) : Prop where
  has : ∀ c, 97 ≤ c → c ≤ 122 → valV nk (.inr ⟨#[c]⟩) = some (.int (gN nk c))
  lo : ∀ c, 0 ≤ gN nk c
  hi : ∀ c, gN nk c < 2 ^ 20
def spWorth (K : PySem.W.Frag) (C : Addr) : Sp := fun vs H Q _ => ∃ (x d : Addr) (kvs nk : List (Key × V)), vs = [.ref x, .ref d] ∧ SzAt C H x kvs ∧ KvOk kvs ∧ H d = some (.dK nk) ∧ NumOk nk ∧
  ∀ H' : Hp, Same H H' → Q (.int (lin (pr (gN nk)) (told kvs))) H'
theorem ok_Size_worth (T : Tx K mg) : FnOk P w K mg base CX0 2 T.Size_worth.f T.Size_worth.fd ["self", "numbers"] (spWorth K T.C) := by
  refine T.Size_worth.F.ok sc_Size_worth (fun vs H Q E h => ?_) (fun cdv A outer s H vs Q E hr h => ?_)
  · obtain ⟨x, d, kvs, nk, rfl, _⟩ := h
    rfl
  · obtain ⟨x, d, kvs, nk, rfl, hx, kk, hd, nok, q⟩ := h
    have hu := hu_of hr
    refine ⟨_, (pss_cons (ps_set (i := 2) sc_Size_worth.nd rfl (Or.inl rfl) pe_int)
 (pss_cons (ps_for PassesOwn.never rfl (pi_list (pe_meth0 (pv 0) T.Size.cl T.Size_terms_told.m (ok_Size_terms_told T) (hr.mono (by decide)) T.Size_terms_told.b .nil pass0)) (pg_tup rfl (pgs_cons (pg_name (i := 3) sc_Size_worth.nd rfl (Or.inl rfl)) (pgs_cons (pg_name (i := 4) sc_Size_worth.nd rfl (Or.inl rfl)) pgs_nil)))
 (pss_cons (ps_set (i := 5) sc_Size_worth.nd rfl (Or.inl rfl) (pv 3))
 (pss_cons (ps_for PassesOwn.never rfl (pi_str (pv 4)) (pg_name (i := 6) sc_Size_worth.nd rfl (Or.inl rfl))
 (pss_one (ps_aug (i := 5) sc_Size_worth.nd rfl (Or.inl rfl) (pe_dget hu (pv 1) (pv 6) (fun _ _ => rfl)) ip_mulS)))
 (pss_one (ps_aug (i := 2) sc_Size_worth.nd rfl (Or.inl rfl) (pv 5) ip_add)))))
 (pss_one (ps_ret (pv 2))))), ?_⟩
    obtain ⟨dx, d1, hxi, hd1⟩ := id hx
    refine ⟨_, rfl, x, dx, _, rfl, hxi, rfl, x, kvs, rfl, hx, kk, fun p xs H1 s1 np hp hxs => ?_⟩
    have hl1 : xs.length = (told kvs).length := by rw [dpLen hxs, List.length_map]
    refine ⟨p, rfl, ⟨_, ofL hp⟩, for_list (K := K) (a := p) (xs := xs) (fun i σ H' => ∃ v3 v4 v5 v6, σ = [some (.ref x), some (.ref d), some (.int (lin (pr (gN nk)) ((told kvs).take i))), v3, v4, v5, v6] ∧ H' = H1)
      ⟨none, none, none, none, rfl, rfl⟩ (fun i σ H' _ ⟨_, _, _, _, _, e⟩ => by rw [e]; exact ofL hp) ?_ ?_⟩
    · rintro i v σ H2 hi ⟨v3, v4, v5, v6, rfl, rfl⟩
      obtain ⟨dd, hdd, hv⟩ := dpGet hxs hi
      rw [List.getElem?_map] at hdd
      obtain ⟨t, et, rfl⟩ := Option.map_eq_some_iff.mp hdd
      obtain ⟨b, rfl, hb⟩ := tm_at hv
      have tl := (told_lets kk (List.mem_of_getElem? et))
      refine ⟨b, _, rfl, hb, rfl, _, _, rfl, _, _, rfl, rfl, ?_⟩
      refine ⟨_, rfl, ?_⟩
      refine ⟨_, rfl, t.2, rfl, for_str (z := t.2) (fun j σ H' => ∃ v6, σ = [some (.ref x), some (.ref d), some (.int (lin (pr (gN nk)) ((told kvs).take i))), some (.int t.1), some (.str t.2), some (.int (t.1 * pL (gN nk) (t.2.cps.toList.take j))), v6] ∧ H' = H2)
        ⟨_, by simp [pL]; rfl, rfl⟩ ?_ ?_⟩
      · rintro j c σ H3 hj ⟨v6, rfl, rfl⟩
        obtain ⟨c0, c1⟩ := tl c (List.mem_of_getElem? hj)
        have dg : DGet H3 d (.str ⟨#[c]⟩) (some (.int (gN nk c))) := by
          have q := DGet.k (k := .inr ⟨#[c]⟩) (s1 _ _ hd)
          rw [nok.has c c0 c1] at q
          exact q
        have h0 := nok.lo c
        have h1 := nok.hi c
        have h2 : (2 : Int) ^ 20 < 2 ^ 64 := by decide
        refine ⟨_, rfl, _, rfl, _, rfl, d, _, rfl, dg, _, _, rfl, rfl, .inr ⟨by omega, by omega⟩, ?_⟩
        have ep : t.1 * pL (gN nk) (t.2.cps.toList.take (j + 1)) = t.1 * pL (gN nk) (t.2.cps.toList.take j) * gN nk c := by
          rw [List.take_add_one, hj, pL_app]
          simp [pL, Int.mul_assoc]
        exact ⟨some (.str ⟨#[c]⟩), by rw [ep]; rfl, rfl⟩
      · rintro σ H3 ⟨v6, rfl, rfl⟩
        refine ⟨_, rfl, _, rfl, _, _, rfl, rfl, ?_⟩
        rw [List.take_length]
        have ep : lin (pr (gN nk)) ((told kvs).take (i + 1)) = lin (pr (gN nk)) ((told kvs).take i) + t.1 * pL (gN nk) t.2.cps.toList := by
          rw [List.take_add_one, et]
          unfold lin
          rw [su_app]
          simp [su, pr]
        exact ⟨some (.int t.1), some (.str t.2), some (.int (t.1 * pL (gN nk) t.2.cps.toList)), v6, by rw [ep]; rfl, rfl⟩
    · rintro σ H2 ⟨v3, v4, v5, v6, rfl, rfl⟩
      rw [hl1, List.take_length]
      exact ⟨_, rfl, q _ s1⟩
end
end Cr

namespace Cr
open PySem L2
def lessT (kvs : List (Key × V)) (n : Int) : List Tm := (told kvs).filter (fun t => neE t.2) ++ [(gI kvs "" - n, ("" : Str))]
section
variable {P : Program} {w : World} {K : PySem.W.Frag} {mg : Str → Option Value} {base : Heap}
def spLess (K : PySem.W.Frag) (C D : Addr) : Sp := fun vs H Q E => ∃ (x : Addr) (kvs : List (Key × V)) (n : Int), vs = [.ref x, .int n] ∧ SzAt C H x kvs ∧ KvOk kvs ∧
  (n ≤ gI kvs "" → TsOk (lessT kvs n) ∧ ∀ (z : Addr) (H' : Hp), Same H H' → H z = none → SzAt C H' z (tab (lessT kvs n)) → Q (.ref z) H') ∧
  (gI kvs "" < n → ∀ (d : Addr) (H' : Hp), Same H H' → H d = none → H' d = some (.xd (xfs (.str "less") (.int n) (.int (gI kvs "")))) → E (.ref D) (some d) H')
theorem ok_Size_less (T : Tx K mg) : FnOk P w K mg base (L2.CX P w) 3 T.Size_less.f T.Size_less.fd ["self", "count"] (spLess K T.C T.D) := by
  refine T.Size_less.F.okX sc_Size_less (fun vs H Q E h => ?_) (fun cdv A outer s H vs Q E hr h => ?_)
  · obtain ⟨x, kvs, n, rfl, _⟩ := h
    rfl
  · obtain ⟨x, kvs, n, rfl, hx, kk, q1, q2⟩ := h
    refine ⟨_, (pss_cons (ps_if (pt_cmpR op_gt (pv 1) (pe_meth0 (pv 0) T.Size.cl T.Size_alone.m (ok_Size_alone T) (hr.mono (by decide)) T.Size_alone.b .nil pass0) (nomark _))
 (pss_one (ps_raise rfl (takes_of rfl rfl rfl rfl) (pmk_x T.tf T.TooFew___init__.m (ok_TooFew___init__ T) (hr.mono (by decide)) T.TooFew___init__.b pass0 (by rfl) T.tfm (pa_cons pe_str (pa_cons (pv 1) (pa_cons (pe_meth0 (pv 0) T.Size.cl T.Size_alone.m (ok_Size_alone T) (hr.mono (by decide)) T.Size_alone.b .nil pass0) pa_nil))))))
 pss_nil)
 (pss_one (ps_ret (pe_make T.Size.mkk (ok_Size___init__ T) (hr.mono (by decide)) (by rfl) T.Size.mg T.Size___init__.b .nil pass0 (pa_cons (pe_op op_cat (pe_lc (own := [("row", 2)]) (g := gName 2) (by rfl) sc_Size_less.nd (pi_list (pe_meth0 (pv 0) T.Size.cl T.Size_terms_told.m (ok_Size_terms_told T) (hr.mono (by decide)) T.Size_terms_told.b .nil pass0)) (blkOk_by (own := [("row", 2)]) (N := N_Size_less) (sc := defScope s_Size_less) (by decide +kernel)) (fun _ _ _ _ _ => (pg_name (i := 2) sc_Size_less.nd rfl (Or.inl rfl))) (fun _ _ _ _ _ => (pts_one (pt_cmpR op_ne (pe_ix (ix_tupK K rfl) (pv 2) pe_int (fun _ _ => rfl)) pe_str (nomark _)))) (fun _ _ _ _ _ => (pv 2))) (pe_lst (pa_cons (pe_tup (pa_cons (pe_op op_sub (pe_meth0 (pv 0) T.Size.cl T.Size_alone.m (ok_Size_alone T) (hr.mono (by decide)) T.Size_alone.b .nil pass0) (pv 1)) (pa_cons pe_str pa_nil))) pa_nil))) pa_nil))))), ?_⟩
    obtain ⟨dx, d, hxi, hd⟩ := id hx
    refine ⟨_, rfl, _, rfl, x, dx, _, rfl, hxi, rfl, x, kvs, rfl, hx, kk, _, _, rfl, rfl, _, rfl, ?_⟩
    refine ite2 (fun hn => ?_) (fun hn => ?_)
    · have hn : gI kvs "" < n := by simpa using hn
      have q2 := q2 hn
      refine ⟨_, rfl, _, rfl, x, dx, _, rfl, hxi, rfl, x, kvs, rfl, hx, kk, by show 3 ≤ 1000; decide, fun a na => ?_⟩
      refine ⟨a, _, _, _, rfl, upd_same, fun d1 H' nd ne st ea ed => ⟨rfl, d1, _, ea, ed, ?_, ?_⟩⟩
      · rw [upd_ne ne] at nd; exact nd
      · rw [upd_ne ne] at nd
        refine q2 d1 _ (fun b o eb => ?_) nd upd_same
        have hba : b ≠ a := ne_of_none eb na
        have hbd : b ≠ d1 := ne_of_none eb nd
        rw [upd_ne hbd, del_ne hba, st b hba hbd, upd_ne hba]
        exact eb
    · have hn : n ≤ gI kvs "" := by
        have : ¬ gI kvs "" < n := by simpa using hn
        omega
      obtain ⟨tok, q1⟩ := q1 hn
      refine ⟨_, rfl, x, dx, _, rfl, hxi, rfl, x, kvs, rfl, hx, kk, fun p xs H1 s1 np hp hxs => ?_⟩
      have hl1 : xs.length = (told kvs).length := by rw [dpLen hxs, List.length_map]
      refine ⟨p, rfl, ⟨_, ofL hp⟩, fun D nD => ?_⟩
      refine lc_list (K := K) (a := p) (xs := xs) (fun i H2 => ∃ zs : List V, Same H1 H2 ∧ H2 D = some (.lst zs) ∧ DpAll K H1 zs ((((told kvs).take i).filter fun t => neE t.2).map tmD)) ⟨[], same_up nD, upd_same, .nil⟩ (fun i H2 _ ⟨_, h, _⟩ => ofL (h _ _ hp)) ?_ ?_
      · rintro i v H2 hi ⟨zs, s2, hD, hzs⟩
        obtain ⟨dd, hdd, hv⟩ := dpGet hxs hi
        rw [List.getElem?_map] at hdd
        obtain ⟨t, et, rfl⟩ := Option.map_eq_some_iff.mp hdd
        obtain ⟨b, rfl, hb⟩ := tm_at hv
        refine ⟨rfl, _, rfl, b, _, 1, .str t.2, rfl, rfl, Same.sqT s2 hb, rfl, rfl, _, rfl, ?_⟩
        refine ite2 (fun hne => ?_) (fun he => ?_)
        · have hz : neE t.2 = true := by simpa [neE] using hne
          have hlz : zs.length ≤ 41 := by
            rw [dpLen hzs, List.length_map]
            exact Nat.le_trans (List.length_filter_le _ _) (by rw [List.length_take]; have := told_len kk; omega)
          refine ⟨_, rfl, zs, hD, by rw [sizeLine_eq]; omega, zs ++ [.ref b], fun a o e => by rw [upd_ne (ne_of_none e nD)]; exact s2 _ _ e, upd_same, ?_⟩
          rw [filter_take_yes et hz, List.map_append]
          exact dpApp hzs (.cons hv .nil)
        · have hz : neE t.2 = false := by simpa [neE] using he
          refine ⟨zs, s2, hD, ?_⟩
          rw [filter_take_no et hz]
          exact hzs
      · rintro H2 ⟨zs, s2, hD, hzs⟩
        rw [hl1, List.take_length] at hzs
        have hx2 := hx.up (s1.trans s2)
        obtain ⟨dx2, d2, hxi2, hd2⟩ := id hx2
        refine ⟨_, rfl, x, dx2, _, rfl, hxi2, rfl, x, kvs, rfl, hx2, kk, _, rfl, _, _, rfl, rfl, by show 2 ≤ sizeLine; decide, fun tp ntp => ?_⟩
        refine ⟨by show 1 ≤ sizeLine; decide, fun p1 np1 => ?_⟩
        have nDt : D ≠ tp := ne_of_none hD ntp
        have hD' : (upd (upd H2 tp (.tup [.int (gI kvs "" - n), .str ""])) p1 (.lst [.ref tp])) D = some (.lst zs) := by
          rw [upd_ne (ne_of_none (by rw [upd_ne nDt]; exact hD) np1), upd_ne nDt]; exact hD
        have htp : (upd (upd H2 tp (.tup [.int (gI kvs "" - n), .str ""])) p1 (.lst [.ref tp])) tp = some (.tup [.int (gI kvs "" - n), .str ""]) := by
          rw [upd_ne (fun e => by rw [← e, upd_same] at np1; cases np1), upd_same]
        have s3 : Same H2 (upd (upd H2 tp (.tup [.int (gI kvs "" - n), .str ""])) p1 (.lst [.ref tp])) := (same_up ntp).trans (same_up np1)
        have hp1 : (upd (upd H2 tp (.tup [.int (gI kvs "" - n), .str ""])) p1 (.lst [.ref tp])) p1 = some (.lst [.ref tp]) := upd_same
        generalize upd (upd H2 tp (.tup [.int (gI kvs "" - n), .str ""])) p1 (.lst [.ref tp]) = H3 at hD' htp s3 hp1
        have hlz : zs.length ≤ 41 := by
          rw [dpLen hzs, List.length_map]
          exact Nat.le_trans (List.length_filter_le _ _) (told_len kk)
        refine ⟨D, p1, zs, _, rfl, rfl, hD', hp1, by show zs.length + 1 ≤ sizeLine; rw [sizeLine_eq]; omega, fun p2 np2 => ?_⟩
        have s4 : Same H3 (upd H3 p2 (.lst (zs ++ [.ref tp]))) := same_up np2
        refine mk_sz (ts := lessT kvs n) (ofL upd_same) ?_ tok fun z H' sz nz hz => q1 z H' ((s1.trans s2).trans ((s3.trans s4).trans sz)) ((s1.trans (s2.trans (s3.trans s4))).free nz) hz
        unfold lessT
        rw [List.map_append]
        exact dpUps s4 (dpApp (dpUps (s2.trans s3) hzs) (.cons (.tup (ofT htp) (.cons (.int _) (.cons (.str _) .nil))) .nil))
end
end Cr

namespace Cr
open PySem L2
def sumK (A B : List (Key × V)) : List (Key × V) := (entT B).foldl stepK A
theorem ent_get {kvs : List (Key × V)} {i : Nat} {z : Str} {n : Int} (e : kvs[i]? = some (.inr z, .int n)) : (entT kvs)[i]? = some (n, z) := by
  unfold entT
  rw [List.getElem?_map, e]
  rfl
theorem fold_get {kvs A : List (Key × V)} {i : Nat} {z : Str} {n : Int} (e : kvs[i]? = some (.inr z, .int n)) : ((entT kvs).take (i + 1)).foldl stepK A = stepK (((entT kvs).take i).foldl stepK A) (n, z) := by
  rw [List.take_add_one, ent_get e, List.foldl_append]
  rfl
/-- any part of positive small terms makes a good table -/
theorem part_ok {A : List (Key × V)} {ts : List Tm} {m : Nat} {C : Int} (hA : TabOk m C A) (hl : A.length ≤ 5) (hC : 0 < C) (hC2 : C ≤ 2 ^ 204) (hm : m ≤ 12) (ht : ts.length ≤ 25) (h : ∀ t ∈ ts, 0 ≤ t.1 ∧ t.1 < C ∧ t.2.length ≤ m ∧ lets t.2) :
    TabOk 12 BT (ts.foldl stepK A) ∧ (ts.foldl stepK A).length ≤ 30 := by
  obtain ⟨a, b⟩ := fold_ok (m := m) (C := C) hC ts A C hA hC h
  refine ⟨a.wide hm ?_, by omega⟩
  have e : (2 : Int) ^ 240 = 2 ^ 204 * 68719476736 := by decide
  have : (0 : Int) < 2 ^ 204 := by decide
  have h1 : C * (ts.length : Int) ≤ 2 ^ 204 * 25 := Int.le_trans (Int.mul_le_mul_of_nonneg_right hC2 (Int.natCast_nonneg _)) (Int.mul_le_mul_of_nonneg_left (by omega) (by decide))
  show C + C * (ts.length : Int) ≤ (2 : Int) ^ 240
  rw [e]
  omega
section
variable {P : Program} {w : World} {K : PySem.W.Frag} {mg : Str → Option Value} {base : Heap}
def spSum : Sp := fun vs H Q _ => ∃ (a b : Addr) (A B : List (Key × V)), vs = [.ref a, .ref b] ∧ H a = some (.dK A) ∧ H b = some (.dK B) ∧ KvS A ∧ KvS B ∧
  ∀ (p : Addr) (H' : Hp), Same H H' → H p = none → H' p = some (.dK (sumK A B)) → Q (.ref p) H'
theorem ok__law_sum (T : Tx K mg) : FnOk P w K mg base CX0 1 T._law_sum.f T._law_sum.fd ["_law_one", "_law_more_size"] spSum := by
  refine T._law_sum.F.ok sc__law_sum (fun vs H Q E h => ?_) (fun cdv A outer s H vs Q E hr h => ?_)
  · obtain ⟨a, b, A, B, rfl, _⟩ := h
    rfl
  · obtain ⟨a, b, A, B, rfl, ha, hb, kA, kB, q⟩ := h
    have hu := hu_of hr
    refine ⟨_, (pss_cons (ps_set (i := 2) sc__law_sum.nd rfl (Or.inl rfl) (pe_callTy call_dictD (by rfl) T.b_dict (by decide +kernel) (pa_cons (pv 0) pa_nil)))
 (pss_cons (ps_lock (ps_for PassesOwn.never rfl (pi_keys (pv 1)) (pg_name (i := 3) sc__law_sum.nd rfl (Or.inl rfl))
 (pss_one (ps_dput hu (pv 2) (pv 3) (pe_op op_add (pe_dget2 hu (pv 2) (pv 3) pe_int ⟨rfl, rfl, rfl, rfl⟩) (pe_dget hu (pv 1) (pv 3) (fun _ _ => rfl))) rfl))))
 (pss_one (ps_ret (pv 2))))), ?_⟩
    refine ⟨_, rfl, a, A, rfl, .inl ha, fun p np => ?_⟩
    have s1 : Same H (upd H p (.dK A)) := same_up np
    have hp1 : (upd H p (.dK A)) p = some (.dK A) := upd_same
    generalize upd H p (.dK A) = H1 at s1 hp1
    have hb1 := s1 _ _ hb
    have npb : p ≠ b := fun e => by rw [e, hb] at np; cases np
    refine ⟨b, _, hb1, trivial, fun ob => ?_⟩
    have hb2 : (upd H1 b (.frz ob (.dK B))) b = some (.frz ob (.dK B)) := upd_same
    have s2 : ∀ c o, c ≠ b → H1 c = some o → (upd H1 b (.frz ob (.dK B))) c = some o := fun c o n e => by rw [upd_ne n]; exact e
    generalize upd H1 b (.frz ob (.dK B)) = H2 at hb2 s2
    have part : ∀ i, TabOk 12 BT (((entT B).take i).foldl stepK A) ∧ (((entT B).take i).foldl stepK A).length ≤ 30 := fun i =>
      part_ok kA.ok kA.len (by decide) (by decide) (by decide) (by rw [List.length_take]; unfold entT; rw [List.length_map]; have := kB.len; omega) fun t ht => by
        obtain ⟨x1, x2, x3, x4⟩ := kB.ent (List.mem_of_mem_take ht)
        exact ⟨by omega, x2, x3, x4⟩
    refine ⟨_, rfl, b, ob, rfl, .inl ⟨B, hb2, for_keys (fun i σ H' => ∃ v3, σ = [some (.ref a), some (.ref b), some (.ref p), v3] ∧ (∀ c o, c ≠ b → c ≠ p → H1 c = some o → H' c = some o) ∧ H' b = some (.frz ob (.dK B)) ∧ H' p = some (.dK (((entT B).take i).foldl stepK A)))
      ⟨none, rfl, fun c o n _ e => s2 c o n e, hb2, s2 _ _ npb hp1⟩ (fun i σ H' _ ⟨_, _, _, e, _⟩ => e) ?_ ?_⟩⟩
    · rintro i k v σ H3 hi ⟨v3, rfl, st, hb3, hp3⟩
      have hmem := List.mem_of_getElem? hi
      obtain ⟨z, n, ekv, n0, n1, zl, zo⟩ := kB.ok.each _ hmem
      obtain ⟨rfl, rfl⟩ : k = .inr z ∧ v = .int n := by cases ekv; exact ⟨rfl, rfl⟩
      have sz : srt z = z := kB.srtd _ hmem
      obtain ⟨ok, ol⟩ := part i
      have hv : valV B (.inr z) = some (.int n) := val_nodup kB.ok.nd _ hmem
      refine ⟨_, rfl, p, rfl, .inl ⟨_, .inl hp3⟩, _, rfl, _, DGet.k (k := .inr z) hp3, ?_⟩
      rw [getD_gI ok]
      refine ⟨_, rfl, _, rfl, b, _, rfl, dg_frz (k := .inr z) hb3 hv, _, _, rfl, rfl, _, rfl, _, rfl, p, _, rfl, DPut.k (k := .inr z) hp3 (by rw [sizeLine_eq]; omega), ?_⟩
      refine ⟨_, rfl, fun c o n' n'' e => by rw [upd_ne n'']; exact st c o n' n'' e, by rw [upd_ne npb.symm]; exact hb3, ?_⟩
      rw [upd_same, fold_get hi]
      unfold stepK
      rw [sz]
    · rintro σ H3 ⟨v3, rfl, st, hb3, hp3⟩
      have el : (entT B).length = B.length := by unfold entT; rw [List.length_map]
      rw [← el, List.take_length] at hp3
      refine ⟨hb3, _, rfl, ?_⟩
      refine q p _ (fun c o e => ?_) np (by rw [upd_ne npb]; exact hp3)
      have ncp : c ≠ p := ne_of_none e np
      by_cases hc : c = b
      · subst hc
        rw [hb] at e
        rw [upd_same]; exact e
      · rw [upd_ne hc]; exact st c o hc ncp (s1 _ _ e)
end
end Cr

namespace Cr
open PySem L2
def mulT (t y : Tm) : Tm := (t.1 * y.1, t.2 ++ y.2)
section
variable {P : Program} {w : World} {K : PySem.W.Frag} {mg : Str → Option Value} {base : Heap}
def spProd : Sp := fun vs H Q _ => ∃ (a b : Addr) (A B : List (Key × V)), vs = [.ref a, .ref b] ∧ a ≠ b ∧ H a = some (.dK A) ∧ H b = some (.dK B) ∧ KvS A ∧ KvS B ∧
  ∀ (p : Addr) (H' : Hp), Same H H' → H p = none → H' p = some (.dK (tab0 (prodT (entT A) (entT B)))) → Q (.ref p) H'
theorem ok__law_product (T : Tx K mg) : FnOk P w K mg base CX0 1 T._law_product.f T._law_product.fd ["_law_one", "_law_more_size"] spProd := by
  refine T._law_product.F.ok sc__law_product (fun vs H Q E h => ?_) (fun cdv A outer s H vs Q E hr h => ?_)
  · obtain ⟨a, b, A, B, rfl, _⟩ := h
    rfl
  · obtain ⟨a, b, A, B, rfl, nab, ha, hb, kA, kB, q⟩ := h
    have hu := hu_of hr
    refine ⟨_, (pss_cons (ps_set (i := 2) sc__law_product.nd rfl (Or.inl rfl) pe_dnewK)
 (pss_cons (ps_lock (ps_for PassesOwn.never rfl (pi_keys (pv 0)) (pg_name (i := 3) sc__law_product.nd rfl (Or.inl rfl))
 (pss_one (ps_lock (ps_for PassesOwn.never rfl (pi_keys (pv 1)) (pg_name (i := 4) sc__law_product.nd rfl (Or.inl rfl))
 (pss_cons (ps_set (i := 5) sc__law_product.nd rfl (Or.inl rfl) (pe_join pe_str (pe_callB (call_sortedT (by rfl)) (by rfl) T.b_sorted (by decide +kernel) (pa_cons (pe_op op_add_str (pv 3) (pv 4)) pa_nil))))
 (pss_one (ps_dput hu (pv 2) (pv 5) (pe_op op_add (pe_dget2 hu (pv 2) (pv 5) pe_int ⟨rfl, rfl, rfl, rfl⟩) (pe_op op_mulW (pe_dget hu (pv 0) (pv 3) (fun _ _ => rfl)) (pe_dget hu (pv 1) (pv 4) (fun _ _ => rfl)))) rfl))))))))
 (pss_one (ps_ret (pv 2))))), ?_⟩
    intro p np
    have s1 : Same H (upd H p (.dK [])) := same_up np
    have hp1 : (upd H p (.dK [])) p = some (.dK []) := upd_same
    generalize upd H p (.dK []) = H1 at s1 hp1
    have ha1 := s1 _ _ ha
    have hb1 := s1 _ _ hb
    have npa : p ≠ a := fun e => by rw [e, ha] at np; cases np
    have npb : p ≠ b := fun e => by rw [e, hb] at np; cases np
    have lA : (entT A).length = A.length := by unfold entT; rw [List.length_map]
    have lB : (entT B).length = B.length := by unfold entT; rw [List.length_map]
    have bA := kA.len
    have bB := kB.len
    have good : ∀ (i j : Nat) (t : Tm), t ∈ entT A → i < 5 → ∀ u ∈ prodT ((entT A).take i) (entT B) ++ ((entT B).take j).map (mulT t), 0 ≤ u.1 ∧ u.1 < 2 ^ 204 ∧ u.2.length ≤ 12 ∧ lets u.2 := fun i j t ht _ u hu => by
      have key : ∀ x ∈ entT A, ∀ y ∈ entT B, 0 ≤ (mulT x y).1 ∧ (mulT x y).1 < 2 ^ 204 ∧ (mulT x y).2.length ≤ 12 ∧ lets (mulT x y).2 := fun x hx y hy => by
        have q1 := (ts_prod (xs := [x]) (ys := [y]) (by show 1 ≤ 5; decide) (by show 1 ≤ 5; decide) (fun t ht => by rw [List.mem_singleton.mp ht]; exact kA.ent hx) (fun t ht => by rw [List.mem_singleton.mp ht]; exact kB.ent hy))
        have hm : mulT x y ∈ prodT [x] [y] := by simp [prodT, mulT]
        obtain ⟨c1, c2, c3, c4⟩ := q1.1.each _ hm
        obtain ⟨a1, a2, a3, a4⟩ := kA.ent hx
        obtain ⟨b1, b2, b3, b4⟩ := kB.ent hy
        refine ⟨c1, ?_, c3, c4⟩
        show x.1 * y.1 < 2 ^ 204
        rw [show (2 : Int) ^ 204 = 2 ^ 102 * 2 ^ 102 by decide]
        exact Int.lt_of_lt_of_le (Int.mul_lt_mul_of_pos_right a2 b1) (Int.mul_le_mul_of_nonneg_left (Int.le_of_lt b2) (by decide))
      rcases List.mem_append.mp hu with hu | hu
      · obtain ⟨x, hx, y, hy, rfl⟩ := mem_prod hu
        exact key x (List.mem_of_mem_take hx) y hy
      · obtain ⟨y, hy, rfl⟩ := List.mem_map.mp hu
        exact key t ht y (List.mem_of_mem_take hy)
    have part : ∀ (i j : Nat) (t : Tm), t ∈ entT A → i < 5 → j ≤ 5 → i < A.length → TabOk 12 BT ((prodT ((entT A).take i) (entT B) ++ ((entT B).take j).map (mulT t)).foldl stepK []) ∧ ((prodT ((entT A).take i) (entT B) ++ ((entT B).take j).map (mulT t)).foldl stepK []).length ≤ 30 := fun i j t ht hi hj hiA =>
      part_ok (C := 2 ^ 204) .nil (by show 0 ≤ 5; decide) (by decide) (Int.le_refl _) (Nat.le_refl 12) (by
        rw [List.length_append, prod_len, List.length_map, List.length_take, List.length_take, lA, lB]
        have : min i A.length * B.length ≤ 4 * 5 := Nat.mul_le_mul (by omega) bB
        omega) (good i j t ht hi)
    refine ⟨a, _, ha1, trivial, fun oa => ?_⟩
    have ha2 : (upd H1 a (.frz oa (.dK A))) a = some (.frz oa (.dK A)) := upd_same
    have s2 : ∀ c o, c ≠ a → H1 c = some o → (upd H1 a (.frz oa (.dK A))) c = some o := fun c o n e => by rw [upd_ne n]; exact e
    generalize upd H1 a (.frz oa (.dK A)) = H2 at ha2 s2
    refine ⟨_, rfl, a, oa, rfl, .inl ⟨A, ha2, for_keys (fun i σ H' => ∃ v3 v4 v5, σ = [some (.ref a), some (.ref b), some (.ref p), v3, v4, v5] ∧ (∀ c o, c ≠ a → c ≠ p → H1 c = some o → H' c = some o) ∧ H' a = some (.frz oa (.dK A)) ∧ H' p = some (.dK ((prodT ((entT A).take i) (entT B)).foldl stepK [])))
      ⟨none, none, none, rfl, fun c o n _ e => s2 c o n e, ha2, by rw [List.take_zero]; exact s2 _ _ npa hp1⟩ (fun i σ H' _ ⟨_, _, _, _, _, e, _⟩ => e) ?_ ?_⟩⟩
    · rintro i k v σ H3 hi ⟨v3, v4, v5, rfl, st, ha3, hp3⟩
      have hmem := List.mem_of_getElem? hi
      have hiA : i < A.length := (List.getElem?_eq_some_iff.mp hi).1
      obtain ⟨z, n, ekv, n0, n1, zl, zo⟩ := kA.ok.each _ hmem
      obtain ⟨rfl, rfl⟩ : k = .inr z ∧ v = .int n := by cases ekv; exact ⟨rfl, rfl⟩
      have hv : valV A (.inr z) = some (.int n) := val_nodup kA.ok.nd _ hmem
      have et := ent_get hi
      have tm : (n, z) ∈ entT A := List.mem_of_getElem? et
      have hb3 := st b _ nab.symm npb.symm hb1
      refine ⟨b, _, hb3, trivial, fun ob => ?_⟩
      have hb4 : (upd H3 b (.frz ob (.dK B))) b = some (.frz ob (.dK B)) := upd_same
      have s4 : ∀ c o, c ≠ b → H3 c = some o → (upd H3 b (.frz ob (.dK B))) c = some o := fun c o n e => by rw [upd_ne n]; exact e
      generalize upd H3 b (.frz ob (.dK B)) = H4 at hb4 s4
      refine ⟨_, rfl, b, ob, rfl, .inl ⟨B, hb4, for_keys (fun j σ H' => ∃ v4 v5, σ = [some (.ref a), some (.ref b), some (.ref p), some (.str z), v4, v5] ∧ (∀ c o, c ≠ b → c ≠ p → H3 c = some o → H' c = some o) ∧ H' b = some (.frz ob (.dK B)) ∧
          H' p = some (.dK ((prodT ((entT A).take i) (entT B) ++ ((entT B).take j).map (mulT (n, z))).foldl stepK [])))
        ⟨_, _, rfl, fun c o n _ e => s4 c o n e, hb4, by rw [List.take_zero, List.map_nil, List.append_nil]; exact s4 _ _ npb hp3⟩ (fun j σ H' _ ⟨_, _, _, _, e, _⟩ => e) ?_ ?_⟩⟩
      · rintro j k v σ H5 hj ⟨v4, v5, rfl, st5, hb5, hp5⟩
        have hmem2 := List.mem_of_getElem? hj
        have hjB : j < B.length := (List.getElem?_eq_some_iff.mp hj).1
        obtain ⟨y, m, ekv, m0, m1, yl, yo⟩ := kB.ok.each _ hmem2
        obtain ⟨rfl, rfl⟩ : k = .inr y ∧ v = .int m := by cases ekv; exact ⟨rfl, rfl⟩
        have hv2 : valV B (.inr y) = some (.int m) := val_nodup kB.ok.nd _ hmem2
        have eu := ent_get hj
        obtain ⟨ok, ol⟩ := part i j (n, z) tm (by omega) (by omega) hiA
        have ha5 := st5 a _ nab npa.symm ha3
        refine ⟨⟨_, rfl⟩, _, rfl, _, rfl, _, _, rfl, rfl, by rw [sizeLine_eq]; omega, z ++ y, rfl, by rw [app_len]; omega, fun ys sp pm so nsp => ?_⟩
        refine ⟨_, sp, ys, rfl, rfl, .inl (ofL upd_same), join_room pm (by rw [app_len]; omega), ?_⟩
        rw [join_srt pm so]
        have s6 : Same H5 (upd H5 sp (.lst (ys.map V.str))) := same_up nsp
        generalize upd H5 sp (.lst (ys.map V.str)) = H6 at s6
        have hp6 := s6 _ _ hp5
        refine ⟨_, rfl, p, rfl, .inl ⟨_, .inl hp6⟩, _, rfl, _, DGet.k (k := .inr (srt (z ++ y))) hp6, ?_⟩
        rw [getD_gI ok]
        have bt : ∀ n : Int, 0 ≤ n → n < 2 ^ 102 → n.natAbs < 2 ^ 102 := fun n h0 h1 => by
          have e : (2 : Int) ^ 102 = ((2 ^ 102 : Nat) : Int) := by decide
          rw [e] at h1
          omega
        refine ⟨_, rfl, _, rfl, a, _, rfl, dg_frz (k := .inr z) (s6 _ _ ha5) hv, _, rfl, _, rfl, b, _, rfl, dg_frz (k := .inr y) (s6 _ _ hb5) hv2, _, _, rfl, rfl, wide_mul (bt _ n0 n1) (bt _ m0 m1) (by decide) (by decide) (by decide), _, _, rfl, rfl, _, rfl, _, rfl, p, _, rfl, DPut.k (k := .inr (srt (z ++ y))) hp6 (by rw [sizeLine_eq]; omega), ?_⟩
        refine ⟨_, _, rfl, fun c o n' n'' e => by rw [upd_ne n'']; exact s6 _ _ (st5 c o n' n'' e), by rw [upd_ne npb.symm]; exact s6 _ _ hb5, ?_⟩
        have ej : prodT ((entT A).take i) (entT B) ++ ((entT B).take (j + 1)).map (mulT (n, z)) = (prodT ((entT A).take i) (entT B) ++ ((entT B).take j).map (mulT (n, z))) ++ [mulT (n, z) (m, y)] := by
          rw [List.take_add_one, eu]
          simp
        have ek : (prodT ((entT A).take i) (entT B) ++ ((entT B).take (j + 1)).map (mulT (n, z))).foldl stepK [] = stepK ((prodT ((entT A).take i) (entT B) ++ ((entT B).take j).map (mulT (n, z))).foldl stepK []) (mulT (n, z) (m, y)) := by
          rw [ej, List.foldl_append]
          rfl
        rw [upd_same, ek]
        rfl
      · rintro σ H5 ⟨v4, v5, rfl, st5, hb5, hp5⟩
        rw [← lB, List.take_length] at hp5
        refine ⟨hb5, _, _, _, rfl, fun c o n1 n2 e => ?_, ?_, ?_⟩
        · by_cases hc : c = b
          · subst hc
            rw [hb1] at e
            rw [upd_same]; exact e
          · rw [upd_ne hc]; exact st5 c o hc n2 (st c o n1 n2 e)
        · rw [upd_ne nab]; exact st5 a _ nab npa.symm ha3
        · rw [upd_ne npb, prod_take et]; exact hp5
    · rintro σ H3 ⟨v3, v4, v5, rfl, st, ha3, hp3⟩
      rw [← lA, List.take_length] at hp3
      refine ⟨ha3, _, rfl, ?_⟩
      refine q p _ (fun c o e => ?_) np (by rw [upd_ne npa]; exact hp3)
      have ncp : c ≠ p := ne_of_none e np
      by_cases hc : c = a
      · subst hc
        rw [ha] at e
        rw [upd_same]; exact e
      · rw [upd_ne hc]; exact st c o hc ncp (s1 _ _ e)
/-! ### _law_worth -/
def spLWorth : Sp := fun vs H Q _ => ∃ (a d : Addr) (A nk : List (Key × V)), vs = [.ref a, .ref d] ∧ a ≠ d ∧ H a = some (.dK A) ∧ KvOk A ∧ H d = some (.dK nk) ∧ NumOk nk ∧ ∀ H' : Hp, Same H H' → Q (.int (lin (pr (gN nk)) (entT A))) H'
theorem ok__law_worth (T : Tx K mg) : FnOk P w K mg base CX0 1 T._law_worth.f T._law_worth.fd ["_law_table_here", "_law_here"] spLWorth := by
  refine T._law_worth.F.ok sc__law_worth (fun vs H Q E h => ?_) (fun cdv A outer s H vs Q E hr h => ?_)
  · obtain ⟨a, d, A, nk, rfl, _⟩ := h
    rfl
  · obtain ⟨a, d, A, nk, rfl, nad, ha, kA, hd, nok, q⟩ := h
    have hu := hu_of hr
    have lA : (entT A).length = A.length := by unfold entT; rw [List.length_map]
    refine ⟨_, (pss_cons (ps_set (i := 2) sc__law_worth.nd rfl (Or.inl rfl) pe_int)
 (pss_cons (ps_lock (ps_for PassesOwn.never rfl (pi_keys (pv 0)) (pg_name (i := 3) sc__law_worth.nd rfl (Or.inl rfl))
 (pss_cons (ps_set (i := 4) sc__law_worth.nd rfl (Or.inl rfl) (pe_dget hu (pv 0) (pv 3) (fun _ _ => rfl)))
 (pss_cons (ps_for PassesOwn.never rfl (pi_str (pv 3)) (pg_name (i := 5) sc__law_worth.nd rfl (Or.inl rfl))
 (pss_one (ps_set (i := 4) sc__law_worth.nd rfl (Or.inl rfl) (pe_op op_mul (pv 4) (pe_dget hu (pv 1) (pv 5) (fun _ _ => rfl))))))
 (pss_one (ps_set (i := 2) sc__law_worth.nd rfl (Or.inl rfl) (pe_op op_add (pv 2) (pv 4))))))))
 (pss_one (ps_ret (pv 2))))), ?_⟩
    refine ⟨a, _, ha, trivial, fun oa => ?_⟩
    have ha2 : (upd H a (.frz oa (.dK A))) a = some (.frz oa (.dK A)) := upd_same
    have hd2 : (upd H a (.frz oa (.dK A))) d = some (.dK nk) := by rw [upd_ne nad.symm]; exact hd
    have s2 : ∀ c o, c ≠ a → H c = some o → (upd H a (.frz oa (.dK A))) c = some o := fun c o n e => by rw [upd_ne n]; exact e
    generalize upd H a (.frz oa (.dK A)) = H2 at ha2 hd2 s2
    refine ⟨_, rfl, a, oa, rfl, .inl ⟨A, ha2, for_keys (fun i σ H' => ∃ v3 v4 v5, σ = [some (.ref a), some (.ref d), some (.int (lin (pr (gN nk)) ((entT A).take i))), v3, v4, v5] ∧ H' = H2)
      ⟨none, none, none, rfl, rfl⟩ (fun i σ H' _ ⟨_, _, _, _, e⟩ => by rw [e]; exact ha2) ?_ ?_⟩⟩
    · rintro i k v σ H3 hi ⟨v3, v4, v5, rfl, rfl⟩
      have hmem := List.mem_of_getElem? hi
      obtain ⟨z, n, ekv, n0, n1, zl, zo⟩ := kA.ok.each _ hmem
      obtain ⟨rfl, rfl⟩ : k = .inr z ∧ v = .int n := by cases ekv; exact ⟨rfl, rfl⟩
      have hv : valV A (.inr z) = some (.int n) := val_nodup kA.ok.nd _ hmem
      refine ⟨_, rfl, _, rfl, a, _, rfl, dg_frz (k := .inr z) ha2 hv, ?_⟩
      have e0 : n * pL (gN nk) (z.cps.toList.take 0) = n := by simp [pL]
      refine ⟨_, rfl, z, rfl, for_str (z := z) (fun j σ H' => ∃ v5, σ = [some (.ref a), some (.ref d), some (.int (lin (pr (gN nk)) ((entT A).take i))), some (.str z), some (.int (n * pL (gN nk) (z.cps.toList.take j))), v5] ∧ H' = H3)
        ⟨v5, by rw [e0]; rfl, rfl⟩ ?_ ?_⟩
      · rintro j c σ H4 hj ⟨v5, rfl, rfl⟩
        obtain ⟨c0, c1⟩ := zo c (List.mem_of_getElem? hj)
        have dg : DGet H4 d (.str ⟨#[c]⟩) (some (.int (gN nk c))) := by
          have q := DGet.k (k := .inr ⟨#[c]⟩) hd2
          rw [nok.has c c0 c1] at q
          exact q
        have h0 := nok.lo c
        have h1 := nok.hi c
        have h2 : (2 : Int) ^ 20 < 2 ^ 64 := by decide
        refine ⟨_, rfl, _, rfl, _, rfl, d, _, rfl, dg, _, _, rfl, rfl, .inr ⟨by omega, by omega⟩, ?_⟩
        have ep : n * pL (gN nk) (z.cps.toList.take (j + 1)) = n * pL (gN nk) (z.cps.toList.take j) * gN nk c := by
          rw [List.take_add_one, hj, pL_app]
          simp [pL, Int.mul_assoc]
        exact ⟨some (.str ⟨#[c]⟩), by rw [ep]; rfl, rfl⟩
      · rintro σ H4 ⟨v5, rfl, rfl⟩
        refine ⟨_, rfl, _, rfl, _, _, rfl, rfl, ?_⟩
        rw [List.take_length]
        have ep : lin (pr (gN nk)) ((entT A).take (i + 1)) = lin (pr (gN nk)) ((entT A).take i) + n * pL (gN nk) z.cps.toList := by
          rw [List.take_add_one, ent_get hi]
          unfold lin
          rw [su_app]
          simp [su, pr]
        exact ⟨some (.str z), some (.int (n * pL (gN nk) z.cps.toList)), v5, by rw [ep]; rfl, rfl⟩
    · rintro σ H3 ⟨v3, v4, v5, rfl, rfl⟩
      rw [← lA, List.take_length]
      refine ⟨ha2, _, rfl, q _ (same_lock ha s2)⟩
/-! ### _law_number -/
def spNumber : Sp := fun vs H Q _ => ∃ (G : Hp) (f c : Addr) (k : Nat), vs = [.ref f] ∧ Wo G H f c k ∧ k < 536870912 ∧ ∀ (n : Int) (H' : Hp), 0 ≤ n → n < 1000000 → Wo G H' f c (k + 3) → Q (.int n) H'
theorem ok__law_number (T : Tx K mg) : FnOk P w K mg base CX0 3 T._law_number.f T._law_number.fd ["_law_feed_here"] spNumber := by
  refine T._law_number.F.ok sc__law_number (fun vs H Q E h => ?_) (fun cdv A outer s H vs Q E hr h => ?_)
  · obtain ⟨G, f, c, k, rfl, _⟩ := h
    rfl
  · obtain ⟨G, f, c, k, rfl, W, kb, q⟩ := h
    refine ⟨_, (pss_one (ps_ret (pe_call (ok__law_of T) (hr.mono (by decide)) (by rfl) T._law_of.mg T._law_of.F.kp T._law_of.b .nil pass0 (pa_cons (pv 0) (pa_cons (pe_lst (pa_cons pe_int (pa_cons pe_int (pa_cons (pe_call (ok__law_draw T) (hr.mono (by decide)) (by rfl) T._law_draw.mg T._law_draw.F.kp T._law_draw.b .nil pass0 (pa_cons (pv 0) (pa_cons pe_int pa_nil))) (pa_cons (pe_call (ok__law_draw T) (hr.mono (by decide)) (by rfl) T._law_draw.mg T._law_draw.F.kp T._law_draw.b .nil pass0 (pa_cons (pv 0) (pa_cons (pe_op op_pow pe_int pe_int) pa_nil))) pa_nil))))) pa_nil))))), ?_⟩
    refine ⟨_, rfl, _, rfl, G, f, c, _, 9, rfl, by decide, by decide, W, by omega, fun d9 H1 a0 a1 W1 => ?_⟩
    refine ⟨_, rfl, _, _, rfl, rfl, ⟨by decide, by decide, by decide⟩, G, f, c, _, _, rfl, by decide, by decide, W1, by omega, fun dk H2 b0 b1 W2 => ?_⟩
    refine ⟨by show 4 ≤ sizeLine; decide, fun pl npl => ?_⟩
    refine ⟨_, f, c, _, _, _, rfl, .inl ⟨pl, rfl, ofL upd_same⟩, by show 0 < 4; decide, by show 4 < 1000000; decide, W2.new npl, by omega, fun vm H3 hv W3 => ?_⟩
    have W3 := W3.sub (same_up (W2.same.free npl)) W.cells
    have e6 : (10 : Int) ^ (6 : Int).toNat = 1000000 := by decide
    rw [e6] at b1
    rcases List.mem_cons.mp hv with rfl | hv
    · exact q 0 H3 (by decide) (by decide) W3
    rcases List.mem_cons.mp hv with rfl | hv
    · exact q 1 H3 (by decide) (by decide) W3
    rcases List.mem_cons.mp hv with rfl | hv
    · exact q d9 H3 (by omega) (by omega) W3
    rcases List.mem_cons.mp hv with rfl | hv
    · exact q dk H3 (by omega) (by omega) W3
    · cases hv
end
end Cr

namespace Cr
open PySem L2
section
variable {P : Program} {w : World} {K : PySem.W.Frag} {mg : Str → Option Value} {base : Heap}
theorem kw_less {f : Addr} {fd : FuncData} (F : Fun K "less" "Size.less" s_Size_less f fd) : KBn K fd ["self", "count"] 1 ["count"] (fun us ws => us ++ ws) (fun vs zs => vs ++ zs) :=
  kbn_all F fun _ _ _ _ _ _ us ws l1 l2 => match us, ws, l1, l2 with | [_], [_], _, _ => rfl
theorem kw_plus {f : Addr} {fd : FuncData} (F : Fun K "plus" "Size.plus" s_Size_plus f fd) : KBn K fd ["self", "other"] 1 ["other"] (fun us ws => us ++ ws) (fun vs zs => vs ++ zs) :=
  kbn_all F fun _ _ _ _ _ _ us ws l1 l2 => match us, ws, l1, l2 with | [_], [_], _, _ => rfl
theorem kw_times {f : Addr} {fd : FuncData} (F : Fun K "times" "Size.times" s_Size_times f fd) : KBn K fd ["self", "other"] 1 ["other"] (fun us ws => us ++ ws) (fun vs zs => vs ++ zs) :=
  kbn_all F fun _ _ _ _ _ _ us ws l1 l2 => match us, ws, l1, l2 with | [_], [_], _, _ => rfl
theorem kw_worth {f : Addr} {fd : FuncData} (F : Fun K "worth" "Size.worth" s_Size_worth f fd) : KBn K fd ["self", "numbers"] 1 ["numbers"] (fun us ws => us ++ ws) (fun vs zs => vs ++ zs) :=
  kbn_all F fun _ _ _ _ _ _ us ws l1 l2 => match us, ws, l1, l2 with | [_], [_], _, _ => rfl
def spLLess (K : PySem.W.Frag) (C : Addr) : Sp := fun vs H Q _ => ∃ (x : Addr) (kvs : List (Key × V)) (n : Int), vs = [.ref x, .int n] ∧ SzAt C H x kvs ∧ KvOk kvs ∧
  (n ≤ gI kvs "" → TsOk (lessT kvs n) ∧ ∀ (z : Addr) (H' : Hp), Same H H' → H z = none → SzAt C H' z (tab (lessT kvs n)) → Q (.ref z) H') ∧
  (gI kvs "" < n → ∀ (p : Addr) (H' : Hp), Same H H' → H p = none → H' p = some (.tup [.str "less", .int n, .int (gI kvs "")]) → Q (.ref p) H')
theorem ok__law_less (T : Tx K mg) : FnOk P w K mg base CX0 4 T._law_less.f T._law_less.fd ["_law_size", "_law_many"] (spLLess K T.C) := by
  refine T._law_less.F.ok sc__law_less (fun vs H Q E h => ?_) (fun cdv A outer s H vs Q E hr h => ?_)
  · obtain ⟨x, kvs, n, rfl, _⟩ := h
    rfl
  · obtain ⟨x, kvs, n, rfl, hx, kk, q1, q2⟩ := h
    refine ⟨_, (pss_cons (ps_asg (pe_tup (pa_cons pe_non (pa_cons pe_non pa_nil))) (pg_tup rfl (pgs_cons (pg_name (i := 2) sc__law_less.nd rfl (Or.inl rfl)) (pgs_cons (pg_name (i := 3) sc__law_less.nd rfl (Or.inl rfl)) pgs_nil))))
 (pss_cons (ps_try_keep (i := 4) rfl rfl rfl sc__law_less.nd rfl rfl ⟨rfl, by decide, .inl T.tfm⟩ (fun W pn xe tk _ => (pss_one (ps_set (i := 3) sc__law_less.nd rfl (Or.inl rfl) (pe_methK (pv 0) T.Size.cl T.Size_less.m (ok_Size_less T) (hr.mono (by decide)) (kw_less T.Size_less.F) (fun σ => passAt tk σ) (pk_cons (pv 1) pk_nil))))) (fun a oe pn => (pss_one (ps_set (i := 2) sc__law_less.nd rfl (Or.inl rfl) (pv 4)))))
 (pss_cons (ps_if (pt_cmpR op_isN (pv 2) pe_non (nomark _))
 (pss_one (ps_ret (pv 3)))
 pss_nil)
 (pss_cons (ps_if (pt_val (pe_callB (call_isXT T.tf) (by rfl) T.b_isinstance (by decide +kernel) (pa_cons (pv 2) (pa_cons (pe_tup (pa_cons (pe_glob (v := V.ref T.cEmpty) (by rfl) T.mEmpty rfl) (pa_cons (pe_glob (v := V.ref T.cNoAxis) (by rfl) T.mNoAxis rfl) (pa_cons (pe_glob (v := V.ref T.cNoCell) (by rfl) T.mNoCell rfl) (pa_cons (pe_glob (v := V.ref T.cNoName) (by rfl) T.mNoName rfl) (pa_cons (pe_glob (v := V.ref T.cNoText) (by rfl) T.mNoText rfl) (pa_cons (pe_bltn (v := V.ty "KeyError") (by rfl) T.b_KeyError (by decide +kernel) rfl) (pa_cons (pe_bltn (v := V.ty "IndexError") (by rfl) T.b_IndexError (by decide +kernel) rfl) (pa_cons (pe_bltn (v := V.ty "ValueError") (by rfl) T.b_ValueError (by decide +kernel) rfl) pa_nil))))))))) pa_nil))))
 (pss_one (ps_ret pe_str))
 pss_nil)
 (pss_cons (ps_if (pt_not (pt_val (pe_callB (call_isX T.tf) (by rfl) T.b_isinstance (by decide +kernel) (pa_cons (pv 2) (pa_cons (pe_bltn (v := V.ty "LookupError") (by rfl) T.b_LookupError (by decide +kernel) rfl) pa_nil)))))
 (pss_one (ps_ret pe_str))
 pss_nil)
 (pss_one (ps_ret (pe_tup (pa_cons (pe_xk T.tf T.nW (pv 2)) (pa_cons (pe_xk T.tf T.nA (pv 2)) (pa_cons (pe_xk T.tf T.nS (pv 2)) pa_nil))))))))))), ?_⟩
    refine ⟨by show 2 ≤ sizeLine; decide, fun p0 np0 => ?_⟩
    refine ⟨p0, _, rfl, ofT upd_same, rfl, _, _, rfl, _, _, rfl, rfl, ?_⟩
    have s0 : Same H (upd H p0 (.tup [.non, .non])) := same_up np0
    generalize upd H p0 (.tup [.non, .non]) = H0 at s0
    have hx := hx.up s0
    obtain ⟨dx, d, hxi, hd⟩ := id hx
    refine ⟨_, rfl, x, dx, _, rfl, hxi, rfl, _, rfl, rfl, x, kvs, n, rfl, hx, kk, fun hn => ?_, fun hn => ?_⟩
    · obtain ⟨tok, q1⟩ := q1 hn
      refine ⟨tok, fun z H' sz nz hz => ?_⟩
      refine ⟨_, rfl, rfl, _, rfl, ?_⟩
      exact ⟨_, rfl, q1 z H' (s0.trans sz) (s0.free nz) hz⟩
    · intro d1 H' s1 nd hd1
      refine ⟨T.tfs, fun a na => ?_⟩
      refine ⟨_, rfl, ?_⟩
      have nda : d1 ≠ a := ne_of_none hd1 na
      have xk : XkAt (upd H' a (ExK a (.ref T.D) (some d1))) a T.D (xfs (.str "less") (.int n) (.int (gI kvs ""))) := ⟨d1, upd_same, by rw [upd_ne nda]; exact hd1⟩
      have s2 : Same H' (upd H' a (ExK a (.ref T.D) (some d1))) := same_up na
      refine ⟨_, rfl, rfl, _, rfl, ?_⟩
      -- isinstance(error, (..))
      refine ⟨_, rfl, by show 8 ≤ sizeLine; decide, fun tp ntp => ?_⟩
      have s3 := same_up (o := .tup [.ref T.cEmpty, .ref T.cNoAxis, .ref T.cNoCell, .ref T.cNoName, .ref T.cNoText, .ty "KeyError", .ty "IndexError", .ty "ValueError"]) ntp
      refine ⟨a, tp, _, _, _, false, rfl, xk.up s3, upd_same, .cons (.own _) (.cons (.own _) (.cons (.own _) (.cons (.own _) (.cons (.own _) (.cons (.ty _) (.cons (.ty _) (.cons (.ty _) .nil))))))), T.isO, _, rfl, ?_⟩
      have xk := xk.up s3
      -- not isinstance(error, LookupError)
      refine ⟨_, rfl, a, _, _, _, true, rfl, xk, .ty _, T.isL, _, rfl, ?_⟩
      -- the fields
      refine ⟨_, rfl, a, _, _, rfl, xk, rfl, _, rfl, a, _, _, rfl, xk, rfl, _, rfl, a, _, _, rfl, xk, rfl, by show 3 ≤ sizeLine; decide, fun p np => ?_⟩
      exact q2 hn p _ (s0.trans (s1.trans (s2.trans (s3.trans (same_up np))))) ((s0.trans (s1.trans (s2.trans s3))).free np) upd_same
end
end Cr

namespace Cr
open PySem L2
/-! ### plain: the term without letters -/
theorem lin_part (c : Str → Int) : ∀ l : List Tm, lin c l = lin c (l.filter fun t => neE t.2) + c "" * lin (fun y => if y = "" then 1 else 0) l
  | [] => by simp [lin, su]
  | t :: r => by
    have ih := lin_part c r
    have e1 : lin c (t :: r) = t.1 * c t.2 + lin c r := rfl
    have e2 : lin (fun y => if y = "" then (1 : Int) else 0) (t :: r) = t.1 * (if t.2 = "" then 1 else 0) + lin (fun y => if y = "" then (1 : Int) else 0) r := rfl
    rw [e1, e2, List.filter_cons]
    by_cases h : t.2 = ""
    · rw [if_neg (by simp [neE, h]), if_pos h, ih, h, Int.mul_add, Int.mul_one, Int.mul_comm t.1]
      omega
    · rw [if_pos (by simp [neE, h]), if_neg h, ih]
      have e3 : lin c (t :: r.filter fun t => neE t.2) = t.1 * c t.2 + lin c (r.filter fun t => neE t.2) := rfl
      rw [e3, Int.mul_add]
      simp
      omega
def leftK (kvs : List (Key × V)) (n : Int) : List (Key × V) := putK kvs (.inr "") (.int (gI kvs "" - n))
theorem less_lin {kvs : List (Key × V)} (h : KvOk kvs) (n : Int) (c : Str → Int) : lin c (lessT kvs n) = lin c (entT (leftK kvs n)) := by
  unfold leftK
  rw [lin_put c _ _ h.plain, ← lin_told h c, lin_part c (told kvs)]
  have e : lin (fun y => if y = "" then (1 : Int) else 0) (told kvs) = gI kvs "" := by
    rw [lin_told h, ← gI_lin h.plain]
  rw [e]
  unfold lessT
  have e1 : ∀ a b : List Tm, lin c (a ++ b) = lin c a + lin c b := fun a b => su_app _ a b
  have e2 : ∀ t : Tm, lin c [t] = t.1 * c t.2 := fun t => by simp [lin, su]
  rw [e1, e2]
  show _ + (gI kvs "" - n) * c "" = _
  rw [Int.mul_comm (c "") (gI kvs "")]
  simp only [Int.sub_mul]
  omega
theorem lets_e : lets "" := by unfold lets; decide +kernel
theorem small_ok {ts : List Tm} (hl : ts.length ≤ 40) (h : ∀ t ∈ ts, 0 ≤ t.1 ∧ t.1 < 2 ^ 102 ∧ t.2.length ≤ 5 ∧ lets t.2) : TsOk ts := ⟨hl, fun t ht => by
  obtain ⟨a, b, c, d⟩ := h t ht
  exact ⟨a, Int.lt_trans b (by decide), by omega, d⟩⟩
theorem less_ok {kvs : List (Key × V)} (h : KvS kvs) {n : Int} (n0 : 0 ≤ n) (n1 : n ≤ gI kvs "") : TsOk (lessT kvs n) := by
  obtain ⟨g0, g1⟩ := gI_rng h.ok (by decide) ""
  refine small_ok ?_ fun t ht => ?_
  · unfold lessT
    rw [List.length_append]
    have := List.length_filter_le (fun t : Tm => neE t.2) (told kvs)
    have := h.lenTold
    show _ + 1 ≤ 40
    omega
  · rcases List.mem_append.mp ht with ht | ht
    · obtain ⟨a, b, c, d⟩ := h.inTold (List.mem_filter.mp ht).1
      exact ⟨by omega, b, c, d⟩
    · rw [List.mem_singleton.mp ht]
      exact ⟨by show 0 ≤ gI kvs "" - n; omega, by show gI kvs "" - n < 2 ^ 102; omega, by show ("" : Str).length ≤ 5; rw [e0len]; omega, lets_e⟩
theorem left_tab {kvs : List (Key × V)} (h : KvS kvs) {n : Int} (n0 : 0 ≤ n) (n1 : n ≤ gI kvs "") : TabOk 5 (2 ^ 102) (leftK kvs n) ∧ (leftK kvs n).length ≤ 6 := by
  obtain ⟨g0, g1⟩ := gI_rng h.ok (by decide) ""
  refine ⟨h.ok.put (by omega) (by omega) (by rw [e0len]; omega) lets_e, ?_⟩
  have := putK_len kvs (.inr "") (.int (gI kvs "" - n))
  have := h.len
  unfold leftK
  omega
theorem left_ok {kvs : List (Key × V)} (h : KvS kvs) {n : Int} (n0 : 0 ≤ n) (n1 : n ≤ gI kvs "") : TsOk (entT (leftK kvs n)) := by
  obtain ⟨a, b⟩ := left_tab h n0 n1
  refine small_ok (by unfold entT; rw [List.length_map]; omega) fun t ht => ?_
  obtain ⟨p, hp, rfl⟩ := List.mem_map.mp ht
  obtain ⟨z, m, rfl, m0, m1, zl, zo⟩ := a.each p hp
  exact ⟨m0, m1, zl, zo⟩
theorem less_txt {kvs : List (Key × V)} (h : KvS kvs) {n : Int} (n0 : 0 ≤ n) (n1 : n ≤ gI kvs "") : txt (tab (lessT kvs n)) = txt (tab (entT (leftK kvs n))) := by
  have a := less_ok h n0 n1
  have b := left_ok h n0 n1
  refine txt_ext a.kv b.kv fun z => ?_
  rw [tab_gI a, tab_gI b, less_lin h.kv]
/-! ### the ghost part grows by what stands -/
theorem same_grow {G H : Hp} {p : Addr} {o : HO} (s : Same G H) (h : H p = some o) : Same G (upd G p o) := fun b u e => by
  by_cases hb : b = p
  · subst hb
    rw [upd_same, ← h]
    exact s _ _ e
  · rw [upd_ne hb]; exact e
theorem Wo.grow {G H : Hp} {f c p : Addr} {k : Nat} {o : HO} (W : Wo G H f c k) (h : H p = some o) (hf : f ≠ p) : Wo (upd G p o) H f c k := by
  obtain ⟨ns, hc⟩ := W.cells
  exact ⟨Same.add W.same h, by rw [upd_ne hf]; exact W.nf, ⟨ns, same_grow W.same h _ _ hc⟩, W.feed⟩
/-- a Size and its table into the ghost part -/
theorem Wo.growSz {C : Addr} {G H : Hp} {f c z : Addr} {k : Nat} {kvs : List (Key × V)} (W : Wo G H f c k) (h : SzAt C H z kvs) (kk : KvOk kvs) : ∃ G', Wo G' H f c k ∧ Same G G' ∧ SzAt C G' z kvs ∧ ∀ p, H p = none → G' p = none := by
  obtain ⟨dz, d, e1, e2⟩ := h
  obtain ⟨a, l, ef, _⟩ := id W.feed
  have n1 : f ≠ z := ne_of ef e1 (by intro q; cases q)
  have n2 : f ≠ d := fun q => by
    rw [q, e2] at ef
    have e : kvs = fdK c a l := HO.dK.inj (Option.some.inj ef)
    have hm : ((Sum.inr ("cells" : Str) : Key), V.ref c) ∈ kvs := by rw [e]; exact List.mem_cons_self
    obtain ⟨y, n, q2, _⟩ := kk.ok.each _ hm
    cases q2
  have nzd : z ≠ d := ne_of e1 e2 (by intro q; cases q)
  have W1 := W.grow e1 n1
  have W2 := W1.grow e2 n2
  refine ⟨_, W2, (same_grow W.same e1).trans (same_grow W1.same e2), ⟨dz, d, by rw [upd_ne nzd, upd_same], upd_same⟩, fun p hp => W2.same.free hp⟩
section
variable {P : Program} {w : World} {K : PySem.W.Frag} {mg : Str → Option Value} {base : Heap}
def spLR (K : PySem.W.Frag) (C : Addr) : Sp := fun vs H Q _ => ∃ (G : Hp) (f c : Addr) (k : Nat) (x t : Addr) (kvs : List (Key × V)), vs = [.ref f, .ref x, .ref t] ∧ Wo G H f c k ∧ k < 536870912 ∧ SzAt C G x kvs ∧ G t = some (.dK kvs) ∧ KvS kvs ∧
  ∀ H' : Hp, Wo G H' f c (k + 1) → Q (.bl true) H'
theorem ok__law_less_right (T : Tx K mg) : FnOk P w K mg base CX0 5 T._law_less_right.f T._law_less_right.fd ["_law_feed_here", "_law_size", "_law_table_here"] (spLR K T.C) := by
  refine T._law_less_right.F.ok sc__law_less_right (fun vs H Q E h => ?_) (fun cdv A outer s H vs Q E hr h => ?_)
  · obtain ⟨G, f, c, k, x, t, kvs, rfl, _⟩ := h
    rfl
  · obtain ⟨G, f, c, k, x, t, kvs, rfl, W, kb, gx, gt, ks, q⟩ := h
    have hu := hu_of hr
    refine ⟨_, (pss_cons (ps_set (i := 3) sc__law_less_right.nd rfl (Or.inl rfl) (pe_dget2 hu (pv 2) pe_str pe_int ⟨rfl, rfl, rfl, rfl⟩))
 (pss_cons (ps_for PassesOwn.never rfl (pi_list (pe_lst (pa_cons pe_int (pa_cons (pv 3) (pa_cons (pe_op op_add (pv 3) pe_int) (pa_cons (pe_callB (call_max2 rfl) (by rfl) T.b_max (by decide +kernel) (pa_cons pe_int (pa_cons (pe_op op_sub (pv 3) pe_int) pa_nil))) (pa_cons (pe_call (ok__law_draw T) (hr.mono (by decide)) (by rfl) T._law_draw.mg T._law_draw.F.kp T._law_draw.b .nil pass0 (pa_cons (pv 0) (pa_cons pe_int pa_nil))) (pa_cons (pe_op op_add (pv 3) (pe_op op_pow pe_int pe_int)) pa_nil)))))))) (pg_name (i := 4) sc__law_less_right.nd rfl (Or.inl rfl))
 (pss_cons (ps_set (i := 5) sc__law_less_right.nd rfl (Or.inl rfl) (pe_call (ok__law_less T) (hr.mono (by decide)) (by rfl) T._law_less.mg T._law_less.F.kp T._law_less.b .nil pass0 (pa_cons (pv 1) (pa_cons (pv 4) pa_nil))))
 (pss_one (ps_if (pt_cmpR op_gt (pv 4) (pv 3) (nomark _))
 (pss_one (ps_if (pt_cmpR (op_neD hr.units) (pv 5) (pe_tup (pa_cons pe_str (pa_cons (pv 4) (pa_cons (pv 3) pa_nil)))) (nomark _))
 (pss_one (ps_ret pe_bl))
 pss_nil))
 (pss_cons (ps_set (i := 6) sc__law_less_right.nd rfl (Or.inr rfl) (pe_callTy call_dictD (by rfl) T.b_dict (by decide +kernel) (pa_cons (pv 2) pa_nil)))
 (pss_cons (ps_dput hu (pv 6) pe_str (pe_op op_sub (pv 3) (pv 4)) rfl)
 (pss_cons (ps_set (i := 7) sc__law_less_right.nd rfl (Or.inl rfl) (pe_call (ok__law_table T) (hr.mono (by decide)) (by rfl) T._law_table.mg T._law_table.F.kp T._law_table.b .nil pass0 (pa_cons (pe_lock (pe_lc (own := [("_law_key", 8)]) (g := gName 8) (by rfl) sc__law_less_right.nd (pi_keys (pv 6)) (blkOk_by (own := [("_law_key", 8)]) (N := N__law_less_right) (sc := defScope s__law_less_right) (by decide +kernel)) (fun _ _ _ _ _ => (pg_name (i := 8) sc__law_less_right.nd rfl (Or.inl rfl))) (fun _ _ _ _ _ => pts_nil) (fun _ _ _ _ _ => (pe_tup (pa_cons (pe_dget hu (pv 6) (pv 8) (fun _ _ => rfl)) (pa_cons (pv 8) pa_nil)))))) pa_nil)))
 (pss_one (ps_if (PW.pt (pw_or (pt_not (pt_val (pe_callB call_isi (by rfl) T.b_isinstance (by decide +kernel) (pa_cons (pv 5) (pa_cons (pe_glob (v := V.ref T.C) (by rfl) T.Size.mg rfl) pa_nil))))) (pw_or (pt_cmpR op_ne (pe_callTy (call_strO T.Size___str__.m.at_ T.Size___str__.m.fn (ok_Size___str__ T) T.Size___str__.b (hr.mono (by decide))) (by rfl) T.b_str (by decide +kernel) (pa_cons (pv 5) pa_nil)) (pe_call (ok__law_text T) (hr.mono (by decide)) (by rfl) T._law_text.mg T._law_text.F.kp T._law_text.b .nil pass0 (pa_cons (pv 7) pa_nil)) (nomark _)) (pw_or1 (pt_cmpR op_ne (pe_callTy (call_strO T.Size___str__.m.at_ T.Size___str__.m.fn (ok_Size___str__ T) T.Size___str__.b (hr.mono (by decide))) (by rfl) T.b_str (by decide +kernel) (pa_cons (pv 1) pa_nil)) (pe_call (ok__law_text T) (hr.mono (by decide)) (by rfl) T._law_text.mg T._law_text.F.kp T._law_text.b .nil pass0 (pa_cons (pv 2) pa_nil)) (nomark _))))))
 (pss_one (ps_ret pe_bl))
 pss_nil)))))))))
 (pss_one (ps_ret pe_bl)))), ?_⟩
    have kk := ks.kv
    obtain ⟨g0, g1⟩ := gI_rng ks.ok (by decide) ""
    refine ⟨_, rfl, t, rfl, .inl ⟨_, .inl (W.same _ _ gt)⟩, _, DGet.k (k := .inr "") (W.same _ _ gt), ?_⟩
    rw [getD_gI kk.ok]
    generalize hal : gI kvs "" = al at g0 g1
    -- the list
    refine ⟨_, rfl, _, rfl, _, _, rfl, rfl, _, rfl, _, _, rfl, rfl, _, _, rfl, ?_⟩
    refine ⟨_, rfl, G, f, c, k, 1000, rfl, by decide, by decide, W, by omega, fun d H1 d0 d1 W1 => ?_⟩
    refine ⟨_, rfl, _, _, rfl, rfl, ⟨by decide, by decide, by decide⟩, _, _, rfl, rfl, by show 6 ≤ sizeLine; decide, fun l nl => ?_⟩
    have e20 : (10 : Int) ^ (20 : Int).toNat = 100000000000000000000 := by decide
    rw [e20]
    generalize hL : ([.int 0, .int al, .int (al + 1), .int (if al - 1 > 0 then al - 1 else 0), .int d, .int (al + 100000000000000000000)] : List V) = L
    have hLn : ∀ y ∈ L, ∃ n : Int, y = .int n ∧ 0 ≤ n := by
      rw [← hL]
      intro y hy
      rcases List.mem_cons.mp hy with rfl | hy
      · exact ⟨_, rfl, by decide⟩
      rcases List.mem_cons.mp hy with rfl | hy
      · exact ⟨_, rfl, g0⟩
      rcases List.mem_cons.mp hy with rfl | hy
      · exact ⟨_, rfl, by omega⟩
      rcases List.mem_cons.mp hy with rfl | hy
      · exact ⟨_, rfl, by split <;> omega⟩
      rcases List.mem_cons.mp hy with rfl | hy
      · exact ⟨_, rfl, d0⟩
      · rw [List.mem_singleton.mp hy]; exact ⟨_, rfl, by omega⟩
    have gl : G l = none := W1.same.free nl
    have W2 := W1.new (o := .lst L) nl
    have s1 : Same G (upd G l (.lst L)) := same_up gl
    have hl : (upd G l (.lst L)) l = some (.lst L) := upd_same
    generalize hG1 : upd G l (.lst L) = G1 at W2 s1 hl
    generalize upd H1 l (.lst L) = H2 at W2
    have gx1 := gx.up s1
    have gt1 := s1 _ _ gt
    refine ⟨l, rfl, ⟨_, ofL (W2.same _ _ hl)⟩, for_list (K := K) (a := l) (xs := L) (fun i σ H' => ∃ v4 v5 v6 v7 v8, σ = [some (.ref f), some (.ref x), some (.ref t), some (.int al), v4, v5, v6, v7, v8] ∧ Wo G1 H' f c (k + 1))
      ⟨none, none, none, none, none, rfl, W2⟩ (fun i σ H' _ ⟨_, _, _, _, _, _, W⟩ => ofL (W.same _ _ hl)) ?_ ?_⟩
    · rintro i y σ H3 hi ⟨v4, v5, v6, v7, v8, rfl, W3⟩
      obtain ⟨n, rfl, n0⟩ := hLn y (List.mem_of_getElem? hi)
      refine ⟨_, rfl, _, rfl, x, kvs, n, rfl, gx1.up W3.same, kk, fun hn => ⟨less_ok ks n0 hn, fun z H4 s4 nz hz => ?_⟩, fun hn p H4 s4 np hp => ?_⟩
      · have hn' : n ≤ al := by rw [← hal]; exact hn
        have W4 := W3.keep s4
        refine ⟨_, rfl, _, rfl, _, _, rfl, rfl, _, rfl, ?_⟩
        refine ite2 (fun e => absurd hn' (Int.not_le.mpr (by simpa using e))) (fun _ => ?_)
        have tokL := less_ok ks n0 hn
        have tokR := left_ok ks n0 hn
        obtain ⟨lt1, lt2⟩ := left_tab ks n0 hn
        obtain ⟨G2, W4, sg2, gz, _⟩ := W4.growSz hz tokL.kv
        have gx2 := gx1.up sg2
        have gt2 := sg2 _ _ gt1
        have hl2 := sg2 _ _ hl
        -- left = dict(table_here); left[''] = alone - many
        refine ⟨_, rfl, t, kvs, rfl, .inl (W4.same _ _ gt2), fun pl npl => ?_⟩
        have W5 := W4.fresh (o := .dK kvs) npl
        have gpl : G2 pl = none := W4.same.free npl
        have nfpl : f ≠ pl := W4.ne npl
        have hpl : (upd H4 pl (.dK kvs)) pl = some (.dK kvs) := upd_same
        generalize upd H4 pl (.dK kvs) = H5 at W5 hpl
        refine ⟨_, rfl, _, rfl, _, _, rfl, rfl, _, rfl, pl, _, rfl, DPut.k (k := .inr "") hpl (by have := ks.len; rw [sizeLine_eq]; omega), ?_⟩
        rw [show putK kvs (.inr "") (.int (al - n)) = leftK kvs n by unfold leftK; rw [hal]]
        have W6 := W5.put (o := .dK (leftK kvs n)) gpl nfpl
        have hp6 : (upd H5 pl (.dK (leftK kvs n))) pl = some (.dK (leftK kvs n)) := upd_same
        generalize upd H5 pl (.dK (leftK kvs n)) = H6 at W6 hp6
        -- [(left[key], key) for key in left]
        refine ⟨pl, _, hp6, trivial, fun od => ?_⟩
        have W7 := W6.put (o := .frz od (.dK (leftK kvs n))) gpl nfpl
        have hp7 : (upd H6 pl (.frz od (.dK (leftK kvs n)))) pl = some (.frz od (.dK (leftK kvs n))) := upd_same
        generalize upd H6 pl (.frz od (.dK (leftK kvs n))) = H7 at W7 hp7
        refine ⟨_, rfl, pl, od, rfl, .inl ⟨_, hp7, fun D nD => ?_⟩⟩
        have nplD : pl ≠ D := ne_of_none hp7 nD
        have nfD : f ≠ D := W7.ne nD
        refine lc_keys (Pv := fun j H8 => ∃ (G8 : Hp) (zs : List V), Wo G8 H8 f c (k + 1) ∧ Same G2 G8 ∧ G8 D = none ∧ G8 pl = none ∧ H8 pl = some (.frz od (.dK (leftK kvs n))) ∧ H8 D = some (.lst zs) ∧ DpAll K G8 zs (((entT (leftK kvs n)).take j).map tmD))
          ⟨G2, [], W7.fresh nD, Same.refl _, W7.same.free nD, gpl, by rw [upd_ne nplD]; exact hp7, upd_same, .nil⟩ (fun j H8 _ ⟨_, _, _, _, _, _, e, _⟩ => e) ?_ ?_
        · rintro j k1 v1 H8 hj ⟨G8, zs, W8, sg8, gD8, gp8, hp8, hD8, hzs⟩
          have hmem := List.mem_of_getElem? hj
          obtain ⟨y, m, ekv, m0, m1, yl, yo⟩ := lt1.each _ hmem
          obtain ⟨rfl, rfl⟩ : k1 = .inr y ∧ v1 = .int m := by cases ekv; exact ⟨rfl, rfl⟩
          have hv : valV (leftK kvs n) (.inr y) = some (.int m) := val_nodup lt1.nd _ hmem
          have ej := ent_get hj
          refine ⟨rfl, _, rfl, _, rfl, pl, _, rfl, dg_frz (k := .inr y) hp8 hv, _, rfl, by show 2 ≤ sizeLine; decide, fun tp ntp => ?_⟩
          have nDt : D ≠ tp := ne_of_none hD8 ntp
          have npt : pl ≠ tp := ne_of_none hp8 ntp
          have hlz : zs.length ≤ 6 := by
            rw [dpLen hzs, List.length_map, List.length_take]
            have : (entT (leftK kvs n)).length ≤ 6 := by unfold entT; rw [List.length_map]; exact lt2
            omega
          have g8t : G8 tp = none := W8.same.free ntp
          refine ⟨zs, by rw [upd_ne nDt]; exact hD8, by rw [sizeLine_eq]; omega, upd G8 tp (.tup [.int m, .str y]), zs ++ [.ref tp], (W8.new ntp).put (by rw [upd_ne nDt]; exact gD8) nfD, sg8.trans (same_up g8t), by rw [upd_ne nDt]; exact gD8, by rw [upd_ne npt]; exact gp8, by rw [upd_ne nplD, upd_ne npt]; exact hp8, upd_same, ?_⟩
          rw [List.take_add_one, ej, List.map_append]
          exact dpApp (dpUps (same_up g8t) hzs) (.cons (.tup (ofT upd_same) (.cons (.int _) (.cons (.str _) .nil))) .nil)
        · rintro H8 ⟨G8, zs, W8, sg8, gD8, gp8, hp8, hD8, hzs⟩
          have el : (entT (leftK kvs n)).length = (leftK kvs n).length := by unfold entT; rw [List.length_map]
          rw [← el, List.take_length] at hzs
          have W9 := W8.put (o := .dK (leftK kvs n)) gp8 nfpl
          have hD9 : (upd H8 pl (.dK (leftK kvs n))) D = some (.lst zs) := by rw [upd_ne nplD.symm]; exact hD8
          refine ⟨hp8, ?_⟩
          generalize upd H8 pl (.dK (leftK kvs n)) = H9 at W9 hD9
          refine ⟨D, zs, _, rfl, ofL hD9, dpUps W9.same hzs, tokR, fun due H10 s10 ndue hdue => ?_⟩
          have W10 := W9.keep s10
          have gz10 := gz.up (sg8.trans W10.same)
          have gx10 := gx2.up (sg8.trans W10.same)
          obtain ⟨dz, d2, e1, _⟩ := id gz10
          -- the tests
          refine ⟨_, rfl, _, _, _, _, true, rfl, .own T.C, T.ot.ty e1, by simp [PySem.W.kitOne], _, rfl, ?_⟩
          refine ⟨_, rfl, z, dz, _, rfl, e1, z, _, rfl, gz10, tokL.kv, fun H11 u1 => ⟨_, rfl, ?_⟩⟩
          have W11 := W10.keep u1
          refine ⟨_, rfl, due, _, rfl, u1 _ _ hdue, tokR.kv, fun H12 u2 => ?_⟩
          have W12 := W11.keep u2
          rw [less_txt ks n0 hn]
          refine ⟨rfl, _, rfl, ite2 (fun e => by simp at e) (fun _ => ?_)⟩
          have gx12 := gx2.up (sg8.trans W12.same)
          obtain ⟨dx, d3, e3, _⟩ := id gx12
          refine ⟨_, rfl, x, dx, _, rfl, e3, x, _, rfl, gx12, kk, fun H13 u3 => ⟨_, rfl, ?_⟩⟩
          have W13 := W12.keep u3
          refine ⟨_, rfl, t, _, rfl, W13.same _ _ (sg8 _ _ gt2), kk, fun H14 u4 => ?_⟩
          have W14 := W13.keep u4
          refine ⟨rfl, _, rfl, ite2 (fun e => by simp at e) (fun _ => ?_)⟩
          exact ⟨_, _, _, _, _, rfl, W14.sub (sg2.trans sg8) W2.cells⟩
      · rw [hal] at hn hp
        have W4 := W3.keep s4
        refine ⟨_, rfl, _, rfl, _, _, rfl, rfl, _, rfl, ?_⟩
        refine ite2 (fun _ => ?_) (fun e => absurd hn (by simpa using e))
        refine ⟨_, rfl, _, rfl, _, rfl, by show 3 ≤ sizeLine; decide, fun p2 np2 => ?_⟩
        have W5 := W4.fresh (o := .tup [.str "less", .int n, .int al]) np2
        have hp2 : (upd H4 p2 (.tup [.str "less", .int n, .int al])) p2 = some (.tup [.str "less", .int n, .int al]) := upd_same
        have hp' : (upd H4 p2 (.tup [.str "less", .int n, .int al])) p = some (.tup [.str "less", .int n, .int al]) := by rw [upd_ne (ne_of_none hp np2)]; exact hp
        generalize upd H4 p2 (.tup [.str "less", .int n, .int al]) = H5 at W5 hp2 hp'
        have dd : ∀ b : Addr, H5 b = some (.tup [.str "less", .int n, .int al]) → Dp K H5 (.ref b) (.tuple [.str "less", .int n, .int al]) := fun b e => .tup (ofT e) (.cons (.str _) (.cons (.int _) (.cons (.int _) .nil)))
        have cl : PyData.canLay0 (.tuple [.str "less", .int n, .int al]) = true := by
          simp [PyData.canLay0, PyData.canLayAll0]
          decide +kernel
        have sh : SeqAt.shaped (.tuple [.str "less", .int n, .int al]) = true := by
          unfold SeqAt.shaped
          rw [cl]
          simp [PyData.depth, PyData.depthAll]
        refine ⟨.tuple [.str "less", .int n, .int al], .tuple [.str "less", .int n, .int al], dd _ hp', dd _ hp2, sh, sh, _, rfl, ?_⟩
        rw [PySem.SeqAt.eqv_refl _ cl]
        exact ⟨_, _, _, _, _, rfl, W5⟩
    · rintro σ H3 ⟨v4, v5, v6, v7, v8, rfl, W3⟩
      exact q H3 (W3.sub s1 W.cells)
end
end Cr

namespace Cr
open PySem L2
theorem op_neDK {X : Cx} (hu : X.A.units < cLine) : OpR X (compareOp .NotEq) (fun x y H Q => ∃ a b ks ls, x = .ref a ∧ y = .ref b ∧ H a = some (.dK ks) ∧ H b = some (.dK ls) ∧ (∀ p ∈ ks, flatV p.2 = true) ∧ (∀ p ∈ ls, flatV p.2 = true) ∧ Q (.bl (!dEq ks ls)) H) := by
  intro pins s σ H x y v u Q I rx ry h
  obtain ⟨a, b, ks, ls, rfl, rfl, ea, eb, f1, f2, q⟩ := h
  cases rx
  cases ry
  obtain ⟨_, ya, va, ra, da⟩ := dk_of I.hok ea
  obtain ⟨_, yb, vb, rb, db⟩ := dk_of I.hok eb
  refine PySem.W.keq_ne (knd := L2.mixKind X.prog X.w) ya yb da db hu (fun _ => hits_any rb f2 ra f1) ⟨.bl (!dEq ks ls), H, I, ?_, q⟩
  show Value.bool _ = Value.bool _
  rw [← ra.length, ← rb.length]
  rfl
theorem dpRev {K : PySem.W.Frag} {G : Hp} : ∀ {vs : List V} {ds : List PyData}, DpAll K G vs ds → DpAll K G vs.reverse ds.reverse
  | _, _, .nil => .nil
  | _, _, .cons a b => by
    rw [List.reverse_cons, List.reverse_cons]
    exact dpApp (dpRev b) (.cons a .nil)
theorem paired_mapR {α β γ : Type} {F : α → β → Prop} {E : α → γ → Prop} {g : β → γ} (h : ∀ a b, F a b → E a (g b)) : ∀ {xs : List α} {ys : List β}, Paired F xs ys → Paired E xs (ys.map g)
  | _, _, .nil => .nil
  | _, _, .cons a b => .cons (h _ _ a) (paired_mapR h b)
theorem log_lt {n : Int} {a : Nat} (h0 : 0 < a) (h : n.natAbs < 2 ^ a) : n.natAbs.log2 < a := PySem.Flt.log2_lt_of h0 h
/-! ### the text of a short list of numbers -/
theorem from_le : ∀ (ts : List Str) (k : Nat) (acc : Str), (PySem.textFrom k acc ts).length ≤ acc.length + (ts.map fun t => t.length + 2).sum
  | [], k, acc => by simp [PySem.textFrom]
  | t :: r, k, acc => by
    have ih := from_le r (k + 1) (acc ++ Str.ofString (if k > 0 then ", " else "") ++ t)
    have e : (Str.ofString (if k > 0 then ", " else "")).length ≤ 2 := by
      split
      · decide +kernel
      · decide +kernel
    rw [PySem.textFrom]
    refine Nat.le_trans ih ?_
    rw [app_len, app_len, List.map_cons, List.sum_cons]
    omega
/-! ### sums and products of tables -/
theorem sum_ok {A B : List (Key × V)} (hA : KvS A) (hB : KvS B) : KvOk (sumK A B) ∧ Srtd (sumK A B) := by
  have lB : (entT B).length ≤ 5 := by unfold entT; rw [List.length_map]; exact hB.len
  obtain ⟨a, b⟩ := part_ok hA.ok hA.len (by decide) (by decide) (by decide) (by omega : (entT B).length ≤ 25) fun t ht => by
    obtain ⟨x1, x2, x3, x4⟩ := hB.ent ht
    exact ⟨by omega, x2, x3, x4⟩
  exact ⟨⟨a, by unfold sumK; omega, fold_pos (entT B) hA.kv.plain hA.pos fun t ht => (hB.ent ht).1⟩, Srtd.fold _ hA.srtd⟩
theorem lin_app (c : Str → Int) (a b : List Tm) : lin c (a ++ b) = lin c a + lin c b := su_app _ a b
theorem sum_txt {A B : List (Key × V)} (hA : KvS A) (hB : KvS B) : txt (tab (told A ++ told B)) = txt (sumK A B) := by
  obtain ⟨k1, s1⟩ := sum_ok hA hB
  have t := ts_app hA hB
  refine txt_ext t.kv k1 fun z => ?_
  rw [tab_gI t, lin_app, lin_told hA.kv, lin_told hB.kv, gI_cf k1.plain s1]
  exact ((lin_fold (cf_srt z) (entT B) A hA.kv.plain).1).symm
theorem plus_eq {A B : List (Key × V)} (hA : KvS A) (hB : KvS B) : dEq (tab (told A ++ told B)) (tab (told B ++ told A)) = true := by
  have t := ts_app hA hB
  have u := ts_app hB hA
  refine dEq_ext t.kv u.kv fun z => ?_
  rw [tab_gI t, tab_gI u, lin_app, lin_app]
  omega
theorem ent_len {A : List (Key × V)} (hA : KvS A) : (entT A).length ≤ 5 := by unfold entT; rw [List.length_map]; exact hA.len
theorem prodE {A B : List (Key × V)} (hA : KvS A) (hB : KvS B) : TsOk (prodT (entT A) (entT B)) ∧ ∀ t ∈ prodT (entT A) (entT B), 0 < t.1 := ts_prod (ent_len hA) (ent_len hB) (fun _ h => hA.ent h) (fun _ h => hB.ent h)
theorem prodTd {A B : List (Key × V)} (hA : KvS A) (hB : KvS B) : TsOk (prodT (told A) (told B)) := (ts_prod hA.lenTold hB.lenTold (fun _ h => hA.inTold h) (fun _ h => hB.inTold h)).1
theorem prod_gI {A B : List (Key × V)} (hA : KvS A) (hB : KvS B) (z : Str) : gI (tab (prodT (told B) (told A))) z = gI (tab (prodT (entT A) (entT B))) z ∧ gI (tab (prodT (told A) (told B))) z = gI (tab (prodT (entT A) (entT B))) z := by
  rw [tab_gI (prodTd hB hA), tab_gI (prodTd hA hB), tab_gI (prodE hA hB).1]
  have e1 : lin (cf z) (prodT (told A) (told B)) = lin (cf z) (prodT (entT A) (entT B)) := prod_perm _ (told_perm hA.kv) (told_perm hB.kv)
  exact ⟨(prod_swap (cf_swap z) _ _).trans e1, e1⟩
theorem prod_txt {A B : List (Key × V)} (hA : KvS A) (hB : KvS B) : txt (tab (prodT (told B) (told A))) = txt (tab (prodT (entT A) (entT B))) := txt_ext (prodTd hB hA).kv (prodE hA hB).1.kv fun z => (prod_gI hA hB z).1
theorem times_eq {A B : List (Key × V)} (hA : KvS A) (hB : KvS B) : dEq (tab (prodT (told B) (told A))) (tab (prodT (told A) (told B))) = true := dEq_ext (prodTd hB hA).kv (prodTd hA hB).kv fun z => by rw [(prod_gI hA hB z).1, (prod_gI hA hB z).2]
/-! ### worths -/
theorem w_plus {A B : List (Key × V)} (hA : KvS A) (hB : KvS B) (ρ : Nat → Int) : lin (pr ρ) (told (tab (told A ++ told B))) = lin (pr ρ) (entT A) + lin (pr ρ) (entT B) := by
  have t := ts_app hA hB
  rw [lin_told t.kv, lin_tab t (pr_srt ρ), lin_app, lin_told hA.kv, lin_told hB.kv]
theorem w_times {A B : List (Key × V)} (hA : KvS A) (hB : KvS B) (ρ : Nat → Int) : lin (pr ρ) (told (tab (prodT (told B) (told A)))) = lin (pr ρ) (entT A) * lin (pr ρ) (entT B) := by
  have t := prodTd hB hA
  rw [lin_told t.kv, lin_tab t (pr_srt ρ), prod_lin (pr_app ρ), lin_told hA.kv, lin_told hB.kv, Int.mul_comm]
theorem pL_bd {nk : List (Key × V)} (h : NumOk nk) : ∀ l : List Nat, 0 ≤ pL (gN nk) l ∧ pL (gN nk) l ≤ (2 : Int) ^ (20 * l.length)
  | [] => by simp [pL]
  | c :: r => by
    obtain ⟨a, b⟩ := pL_bd h r
    have h0 := h.lo c
    have h1 := h.hi c
    refine ⟨Int.mul_nonneg h0 a, ?_⟩
    have e : (2 : Int) ^ (20 * (c :: r).length) = 2 ^ 20 * 2 ^ (20 * r.length) := by
      rw [List.length_cons, Nat.mul_succ, Nat.add_comm, Int.pow_add]
    rw [e]
    exact Int.le_trans (Int.mul_le_mul_of_nonneg_right (Int.le_of_lt h1) a) (Int.mul_le_mul_of_nonneg_left b (by decide))
theorem w_bd {A nk : List (Key × V)} (hA : KvS A) (h : NumOk nk) : 0 ≤ lin (pr (gN nk)) (entT A) ∧ lin (pr (gN nk)) (entT A) < 2 ^ 205 := by
  have each : ∀ t ∈ entT A, 0 ≤ t.1 * pr (gN nk) t.2 ∧ t.1 * pr (gN nk) t.2 ≤ 2 ^ 202 := fun t ht => by
    obtain ⟨a, b, c, d⟩ := hA.ent ht
    obtain ⟨p0, p1⟩ := pL_bd h t.2.cps.toList
    have hl : t.2.cps.toList.length ≤ 5 := by
      have : t.2.cps.toList.length = t.2.length := by simp [Str.length]
      omega
    have p2 : pr (gN nk) t.2 ≤ 2 ^ 100 := Int.le_trans p1 (by
      have : (2 : Int) ^ (20 * t.2.cps.toList.length) ≤ 2 ^ 100 := by
        have := Nat.pow_le_pow_right (n := 2) (by decide) (show 20 * t.2.cps.toList.length ≤ 100 by omega)
        exact_mod_cast this
      exact this)
    refine ⟨Int.mul_nonneg (by omega) p0, ?_⟩
    rw [show (2 : Int) ^ 202 = 2 ^ 102 * 2 ^ 100 by decide]
    exact Int.le_trans (Int.mul_le_mul_of_nonneg_right (Int.le_of_lt b) p0) (Int.mul_le_mul_of_nonneg_left p2 (by decide))
  refine ⟨su_nonneg fun t ht => (each t ht).1, ?_⟩
  have := su_le fun t ht => (each t ht).2
  have hl := ent_len hA
  have e : (2 : Int) ^ 205 = 2 ^ 202 * 8 := by decide
  have : (0 : Int) < 2 ^ 202 := by decide
  unfold lin
  rw [e]
  omega
/-! ### the numbers of the letters -/
abbrev abc : Str := "abcdefghijklmnopqrstuvwxyz"
theorem abc_list : abc.cps.toList = List.range' 97 26 := by decide +kernel
def numK (hs : List (Nat × Int)) : List (Key × V) := hs.map fun q => ((.inr ⟨#[q.1]⟩ : Key), V.int q.2)
theorem num_tab {hs : List (Nat × Int)} (h1 : hs.map (·.1) = abc.cps.toList) (h2 : ∀ q ∈ hs, 0 ≤ q.2 ∧ q.2 < 1000000) : TabOk 1 (2 ^ 20) (numK hs) := by
  refine ⟨fun p hp => ?_, ?_⟩
  · obtain ⟨q, hq, rfl⟩ := List.mem_map.mp hp
    obtain ⟨n0, n1⟩ := h2 q hq
    have hc : q.1 ∈ List.range' 97 26 := by rw [← abc_list, ← h1]; exact List.mem_map.mpr ⟨q, hq, rfl⟩
    have hc := List.mem_range'.mp hc
    refine ⟨⟨#[q.1]⟩, q.2, rfl, n0, by omega, by show 1 ≤ 1; decide, fun d hd => ?_⟩
    have : d = q.1 := by simpa using hd
    obtain ⟨i, hi, e⟩ := hc
    omega
  · unfold numK
    rw [List.map_map]
    have e : (hs.map ((fun p : Key × V => p.1) ∘ fun q : Nat × Int => ((.inr ⟨#[q.1]⟩ : Key), V.int q.2))) = (hs.map (·.1)).map fun c => (.inr ⟨#[c]⟩ : Key) := by rw [List.map_map]; rfl
    rw [e, h1, abc_list]
    refine List.Pairwise.map _ (fun a b hab e => hab ?_) (List.nodup_range' : (List.range' 97 26).Nodup)
    have e : (⟨#[a]⟩ : Str) = ⟨#[b]⟩ := Sum.inr.inj e
    simpa using congrArg (fun z : Str => z.cps.toList) e
theorem num_ok {hs : List (Nat × Int)} (h1 : hs.map (·.1) = abc.cps.toList) (h2 : ∀ q ∈ hs, 0 ≤ q.2 ∧ q.2 < 1000000) : NumOk (numK hs) := by
  have t := num_tab h1 h2
  refine ⟨fun c c0 c1 => ?_, fun c => (gI_rng t (by decide) _).1, fun c => (gI_rng t (by decide) _).2⟩
  have hc : c ∈ hs.map (·.1) := by
    rw [h1, abc_list]
    exact List.mem_range'.mpr ⟨c - 97, by omega, by omega⟩
  obtain ⟨q, hq, rfl⟩ := List.mem_map.mp hc
  have e : valV (numK hs) (.inr ⟨#[q.1]⟩) = some (.int q.2) := val_nodup t.nd _ (List.mem_map.mpr ⟨q, hq, rfl⟩)
  rw [e]
  unfold gN gI
  rw [e]
theorem num_refl {hs : List (Nat × Int)} (t : TabOk 1 (2 ^ 20) (numK hs)) : dEq (numK hs) (numK hs) = true := by
  unfold dEq
  rw [Bool.and_eq_true]
  refine ⟨by simp, List.all_eq_true.mpr fun p hp => ?_⟩
  obtain ⟨z, n, rfl, _⟩ := t.each p hp
  rw [show valV (numK hs) (.inr z) = some (.int n) from val_nodup t.nd _ hp]
  simp [eqV]
/-- a comprehension over a text -/
theorem lcs {z : Str} {Hs : Hp} {Fin : Hp → Prop} {Body : V → Hp → (Hp → Prop) → Prop} (Pv : Nat → Hp → Prop) (h0 : Pv 0 Hs) (hs : ∀ i c H, z.cps.toList[i]? = some c → Pv i H → Body (.str ⟨#[c]⟩) H (Pv (i + 1))) (hd : ∀ H, Pv z.cps.toList.length H → Fin H) :
    ∃ W : Nat → Nat → Hp → Prop, (∃ m, W 0 m Hs) ∧ ∀ i m H, W i m H → ((Its z).stop i H ∧ Fin H) ∨ ((Its z).go i H ∧ ∃ Nx : Hp → Prop, (∀ H', Nx H' → ∃ m', m' < m ∧ W (i + 1) m' H') ∧ ∀ x H', (Its z).yld i H x H' → Body x H' Nx) := by
  have hz : z.cps.size = z.cps.toList.length := by simp
  refine ⟨fun i m H => m + i = z.cps.toList.length ∧ Pv i H, ⟨z.cps.toList.length, rfl, h0⟩, fun i m H ⟨em, p⟩ => ?_⟩
  by_cases c : i < z.cps.toList.length
  · refine .inr ⟨show i < z.cps.size by omega, Pv (i + 1), fun H' p' => ⟨m - 1, by omega, by omega, p'⟩, fun x H' y => ?_⟩
    obtain ⟨rfl, d, ed, rfl⟩ := y
    exact hs i d _ (by rw [Array.getElem?_toList]; exact ed) p
  · obtain rfl : i = z.cps.toList.length := by omega
    exact .inl ⟨show z.cps.size ≤ z.cps.toList.length by omega, hd H p⟩
/-! ### four numbers told -/
def four (x y : Int) : PyData := .list [.int x, .int y, .int (x + y), .int (x * y)]
theorem four_ok {x y : Int} (x0 : 0 ≤ x) (x1 : x < 2 ^ 205) (y0 : 0 ≤ y) (y1 : y < 2 ^ 205) : (four x y).showable = true ∧ (four x y).hasDict = false ∧ (four x y).depth ≤ 64 ∧ (four x y).shown.length ≤ sizeLine ∧ CMulW x y := by
  have e : (2 : Int) ^ 205 = ((2 ^ 205 : Nat) : Int) := by decide
  have xb : x.natAbs < 2 ^ 205 := by rw [e] at x1; omega
  have yb : y.natAbs < 2 ^ 205 := by rw [e] at y1; omega
  have sb : (x + y).natAbs < 2 ^ 206 := by
    have : (2 : Nat) ^ 206 = 2 ^ 205 + 2 ^ 205 := by decide
    omega
  have pb : (x * y).natAbs < 2 ^ (205 + 205) := wide_lt xb yb
  have l1 := log_lt (by decide) xb
  have l2 := log_lt (by decide) yb
  have l3 := log_lt (by decide) sb
  have l4 := log_lt (by decide) pb
  have t62 : (2 : Int) ^ 205 < 10 ^ 62 := by decide
  have q1 : (Str.ofString (toString x)).length ≤ 62 := PyProof.Rows.toString_length_le x0 (by decide) (Int.lt_trans x1 t62)
  have q2 : (Str.ofString (toString y)).length ≤ 62 := PyProof.Rows.toString_length_le y0 (by decide) (Int.lt_trans y1 t62)
  have q3 : (Str.ofString (toString (x + y))).length ≤ 63 := PyProof.Rows.toString_length_le (by omega) (by decide) (by
    have : (10 : Int) ^ 63 = 10 * 10 ^ 62 := by decide
    rw [this]; omega)
  have q4 : (Str.ofString (toString (x * y))).length ≤ 124 := PyProof.Rows.toString_length_le (Int.mul_nonneg x0 y0) (by decide) (by
    have : (10 : Int) ^ 124 = 10 ^ 62 * 10 ^ 62 := by decide
    rw [this]
    exact Int.lt_of_le_of_lt (Int.mul_le_mul_of_nonneg_right (Int.le_of_lt (Int.lt_trans x1 t62)) y0) (Int.mul_lt_mul_of_pos_left (Int.lt_trans y1 t62) (by decide)))
  refine ⟨?_, rfl, by simp [four, PyData.depth, PyData.depthAll], ?_, wide_mul xb yb (by decide) (by decide) (by decide)⟩
  · simp [four, PyData.showable, PyData.showableAll]
    omega
  · have h := from_le [Str.ofString (toString x), Str.ofString (toString y), Str.ofString (toString (x + y)), Str.ofString (toString (x * y))] 0 (Str.ofString "[")
    show (PySem.textFrom 0 (Str.ofString "[") [Str.ofString (toString x), Str.ofString (toString y), Str.ofString (toString (x + y)), Str.ofString (toString (x * y))] ++ Str.ofString "]").length ≤ sizeLine
    rw [app_len, sizeLine_eq]
    have b1 : (Str.ofString "[").length = 1 := by decide +kernel
    have b2 : (Str.ofString "]").length = 1 := by decide +kernel
    simp only [List.map_cons, List.map_nil, List.sum_cons, List.sum_nil] at h
    omega
end Cr

set_option maxHeartbeats 0
namespace Cr
open PySem L2
theorem units66 {A : Around} {k : Nat} (hr : Room k A) : A.units + 66 < cLine := by have := hr.un; omega
theorem okT_wide {t : Tm} (h : okT 5 (2 ^ 99) t) : okT 12 (2 ^ 230) t := ⟨h.1, Int.lt_trans h.2.1 (by decide), by have := h.2.2.1; omega, h.2.2.2⟩
section
variable {P : Program} {w : World} {K : PySem.W.Frag} {mg : Str → Option Value} {base : Heap}
def spLaw (K : PySem.W.Frag) : Sp := fun vs H Q _ => ∃ (a : Addr) (ns : List Int), vs = [.ref a] ∧ SqL K H a (ns.map V.int) ∧ ∀ H', Q (.bl true) H'
theorem ok_law (T : Tx K mg) {f : Addr} {fd : FuncData} (F : Fun K "law" "law" s_law f fd) : FnG P w K mg base CX0 6 f fd ["_law_script"] (spLaw K) := by
  refine okG F sc_law (fun vs H Q E h => ?_) (fun cdv A outer s H vs Q E hr hg h => ?_)
  · obtain ⟨a, ns, rfl, _⟩ := h
    rfl
  · obtain ⟨a, ns, rfl, hS, q⟩ := h
    have hu := hu_of hr
    have hu66 := units66 hr
    refine ⟨_, (pss_cons (ps_set (i := 1) sc_law.nd rfl (Or.inr rfl) (pe_call (ok__law_feed T) (hr.mono (by decide)) (by rfl) T._law_feed.mg T._law_feed.F.kp T._law_feed.b .nil pass0 (pa_cons (pv 0) pa_nil)))
 (pss_cons (ps_set (i := 2) sc_law.nd rfl (Or.inl rfl) pe_str)
 (pss_cons (ps_for PassesOwn.never rfl (pi_range1 (by rfl) T.b_range (pa_cons pe_int pa_nil)) (pg_name (i := 3) sc_law.nd rfl (Or.inl rfl))
 (pss_cons (ps_set (i := 4) sc_law.nd rfl (Or.inl rfl) (pe_call (ok__law_terms T) (hr.mono (by decide)) (by rfl) T._law_terms.mg T._law_terms.F.kp T._law_terms.b .nil pass0 (pa_cons (pv 1) (pa_cons pe_int pa_nil))))
 (pss_cons (ps_set (i := 5) sc_law.nd rfl (Or.inl rfl) (pe_call (ok__law_of T) (hr.mono (by decide)) (by rfl) T._law_of.mg T._law_of.F.kp T._law_of.b .nil pass0 (pa_cons (pv 1) (pa_cons (pe_lst (pa_cons (pe_call (ok__law_terms T) (hr.mono (by decide)) (by rfl) T._law_terms.mg T._law_terms.F.kp T._law_terms.b .nil pass0 (pa_cons (pv 1) (pa_cons pe_int pa_nil))) (pa_cons (pe_revL (pv 4)) (pa_cons (pe_lst pa_nil) (pa_cons (pe_lst (pa_cons (pe_tup (pa_cons pe_int (pa_cons pe_str pa_nil))) pa_nil)) pa_nil))))) pa_nil))))
 (pss_cons (ps_par (i := 6) (j := 7) (by rfl) sc_law.nd rfl rfl (by decide) rfl rfl (pa_cons (pe_make T.Size.mkk (ok_Size___init__ T) (hr.mono (by decide)) (by rfl) T.Size.mg T.Size___init__.b .nil pass0 (pa_cons (pv 4) pa_nil)) (pa_cons (pe_make T.Size.mkk (ok_Size___init__ T) (hr.mono (by decide)) (by rfl) T.Size.mg T.Size___init__.b .nil pass0 (pa_cons (pv 5) pa_nil)) pa_nil)) (by rfl))
 (pss_cons (ps_par (i := 8) (j := 9) (by rfl) sc_law.nd rfl rfl (by decide) rfl rfl (pa_cons (pe_call (ok__law_table T) (hr.mono (by decide)) (by rfl) T._law_table.mg T._law_table.F.kp T._law_table.b .nil pass0 (pa_cons (pv 4) pa_nil)) (pa_cons (pe_call (ok__law_table T) (hr.mono (by decide)) (by rfl) T._law_table.mg T._law_table.F.kp T._law_table.b .nil pass0 (pa_cons (pv 5) pa_nil)) pa_nil)) (by rfl))
 (pss_cons (ps_par (i := 10) (j := 11) (by rfl) sc_law.nd rfl rfl (by decide) rfl rfl (pa_cons (pe_meth (pv 6) T.Size.cl T.Size_plus.m (ok_Size_plus T) (hr.mono (by decide)) T.Size_plus.b .nil pass0 (pa_cons (pv 7) pa_nil)) (pa_cons (pe_methK (E := fun _ => E0) (pv 7) T.Size.cl T.Size_times.m (ok_Size_times T) (hr.mono (by decide)) (kw_times T.Size_times.F) (fun σ => at0 σ) (pk_cons (pv 6) pk_nil)) pa_nil)) (by rfl))
 (pss_cons (ps_if (PW.pt (pw_or (pt_cmpR op_ne (pe_callTy (call_strO T.Size___str__.m.at_ T.Size___str__.m.fn (ok_Size___str__ T) T.Size___str__.b (hr.mono (by decide))) (by rfl) T.b_str (by decide +kernel) (pa_cons (pv 10) pa_nil)) (pe_call (ok__law_text T) (hr.mono (by decide)) (by rfl) T._law_text.mg T._law_text.F.kp T._law_text.b .nil pass0 (pa_cons (pe_call (ok__law_sum T) (hr.mono (by decide)) (by rfl) T._law_sum.mg T._law_sum.F.kp T._law_sum.b .nil pass0 (pa_cons (pv 8) (pa_cons (pv 9) pa_nil))) pa_nil)) (nomark _)) (pw_or1 (pt_cmpR (op_neO T.ow (ok_Size___eq__ T) T.Size___eq__.b (hr.mono (by decide))) (pv 10) (pe_methK (E := fun _ => E0) (pv 7) T.Size.cl T.Size_plus.m (ok_Size_plus T) (hr.mono (by decide)) (kw_plus T.Size_plus.F) (fun σ => at0 σ) (pk_cons (pv 6) pk_nil)) (nomark _)))))
 (pss_one (ps_ret pe_bl))
 pss_nil)
 (pss_cons (ps_if (PW.pt (pw_or (pt_cmpR op_ne (pe_callTy (call_strO T.Size___str__.m.at_ T.Size___str__.m.fn (ok_Size___str__ T) T.Size___str__.b (hr.mono (by decide))) (by rfl) T.b_str (by decide +kernel) (pa_cons (pv 11) pa_nil)) (pe_call (ok__law_text T) (hr.mono (by decide)) (by rfl) T._law_text.mg T._law_text.F.kp T._law_text.b .nil pass0 (pa_cons (pe_call (ok__law_product T) (hr.mono (by decide)) (by rfl) T._law_product.mg T._law_product.F.kp T._law_product.b .nil pass0 (pa_cons (pv 8) (pa_cons (pv 9) pa_nil))) pa_nil)) (nomark _)) (pw_or1 (pt_cmpR (op_neO T.ow (ok_Size___eq__ T) T.Size___eq__.b (hr.mono (by decide))) (pv 11) (pe_meth (pv 6) T.Size.cl T.Size_times.m (ok_Size_times T) (hr.mono (by decide)) T.Size_times.b .nil pass0 (pa_cons (pv 7) pa_nil)) (nomark _)))))
 (pss_one (ps_ret pe_bl))
 pss_nil)
 (pss_cons (ps_set (i := 12) sc_law.nd rfl (Or.inl rfl) (pe_callTy (call_dictP rfl) (by rfl) T.b_dict (by decide +kernel) (pa_cons (pe_lc (own := [("_law_letter", 16)]) (g := gName 16) (by rfl) sc_law.nd (pi_str (pv 2)) (blkOk_by (own := [("_law_letter", 16)]) (N := N_law) (sc := defScope s_law) (by decide +kernel)) (fun _ _ _ _ _ => (pg_name (i := 16) sc_law.nd rfl (Or.inl rfl))) (fun _ _ _ _ _ => pts_nil) (fun _ _ _ _ _ => (pe_tup (pa_cons (pv 16) (pa_cons (pe_call (ok__law_number T) (hr.mono (by decide)) (by rfl) T._law_number.mg T._law_number.F.kp T._law_number.b .nil pass0 (pa_cons (pv 1) pa_nil)) pa_nil))))) pa_nil)))
 (pss_cons (ps_set (i := 13) sc_law.nd rfl (Or.inl rfl) (pe_callTy call_dictD (by rfl) T.b_dict (by decide +kernel) (pa_cons (pv 12) pa_nil)))
 (pss_cons (ps_set (i := 14) sc_law.nd rfl (Or.inl rfl) (pe_lst (pa_cons (pe_meth (pv 6) T.Size.cl T.Size_worth.m (ok_Size_worth T) (hr.mono (by decide)) T.Size_worth.b .nil pass0 (pa_cons (pv 12) pa_nil)) (pa_cons (pe_methK (E := fun _ => E0) (pv 7) T.Size.cl T.Size_worth.m (ok_Size_worth T) (hr.mono (by decide)) (kw_worth T.Size_worth.F) (fun σ => at0 σ) (pk_cons (pv 12) pk_nil)) pa_nil))))
 (pss_cons (ps_set (i := 14) sc_law.nd rfl (Or.inl rfl) (pe_op op_cat (pv 14) (pe_lst (pa_cons (pe_meth (pv 10) T.Size.cl T.Size_worth.m (ok_Size_worth T) (hr.mono (by decide)) T.Size_worth.b .nil pass0 (pa_cons (pv 12) pa_nil)) (pa_cons (pe_meth (pv 11) T.Size.cl T.Size_worth.m (ok_Size_worth T) (hr.mono (by decide)) T.Size_worth.b .nil pass0 (pa_cons (pv 12) pa_nil)) pa_nil)))))
 (pss_cons (ps_set (i := 15) sc_law.nd rfl (Or.inl rfl) (pe_lst (pa_cons (pe_call (ok__law_worth T) (hr.mono (by decide)) (by rfl) T._law_worth.mg T._law_worth.F.kp T._law_worth.b .nil pass0 (pa_cons (pv 8) (pa_cons (pv 13) pa_nil))) (pa_cons (pe_call (ok__law_worth T) (hr.mono (by decide)) (by rfl) T._law_worth.mg T._law_worth.F.kp T._law_worth.b .nil pass0 (pa_cons (pv 9) (pa_cons (pv 13) pa_nil))) pa_nil))))
 (pss_cons (ps_set (i := 15) sc_law.nd rfl (Or.inl rfl) (pe_op op_cat (pv 15) (pe_lst (pa_cons (pe_op op_add (pe_ix ix_list (pv 15) pe_int (fun _ _ => rfl)) (pe_ix ix_list (pv 15) pe_int (fun _ _ => rfl))) (pa_cons (pe_op op_mulW (pe_ix ix_list (pv 15) pe_int (fun _ _ => rfl)) (pe_ix ix_list (pv 15) pe_int (fun _ _ => rfl))) pa_nil)))))
 (pss_cons (ps_if (PW.pt (pw_or (pt_cmpR op_ne (pe_callB (call_reprD hg hu66) (by rfl) T.b_repr (by decide +kernel) (pa_cons (pv 14) pa_nil)) (pe_callB (call_reprD hg hu66) (by rfl) T.b_repr (by decide +kernel) (pa_cons (pv 15) pa_nil)) (nomark _)) (pw_or1 (pt_cmpR (op_neDK hr.units0) (pv 12) (pv 13) (nomark _)))))
 (pss_one (ps_ret pe_bl))
 pss_nil)
 (pss_cons (ps_if (pt_not (pt_val (pe_call (ok__law_less_right T) (hr.mono (by decide)) (by rfl) T._law_less_right.mg T._law_less_right.F.kp T._law_less_right.b .nil pass0 (pa_cons (pv 1) (pa_cons (pv 6) (pa_cons (pv 8) pa_nil))))))
 (pss_one (ps_ret pe_bl))
 pss_nil)
 (pss_one (ps_if (PW.pt (pw_or (pt_cmpR op_ne (pe_callTy (call_strO T.Size___str__.m.at_ T.Size___str__.m.fn (ok_Size___str__ T) T.Size___str__.b (hr.mono (by decide))) (by rfl) T.b_str (by decide +kernel) (pa_cons (pv 6) pa_nil)) (pe_call (ok__law_text T) (hr.mono (by decide)) (by rfl) T._law_text.mg T._law_text.F.kp T._law_text.b .nil pass0 (pa_cons (pv 8) pa_nil)) (nomark _)) (pw_or1 (pt_cmpR op_ne (pe_callTy (call_strO T.Size___str__.m.at_ T.Size___str__.m.fn (ok_Size___str__ T) T.Size___str__.b (hr.mono (by decide))) (by rfl) T.b_str (by decide +kernel) (pa_cons (pv 7) pa_nil)) (pe_call (ok__law_text T) (hr.mono (by decide)) (by rfl) T._law_text.mg T._law_text.F.kp T._law_text.b .nil pass0 (pa_cons (pv 9) pa_nil)) (nomark _)))))
 (pss_one (ps_ret pe_bl))
 pss_nil))))))))))))))))))
 (pss_one (ps_ret pe_bl))))), ?_⟩
    refine ⟨_, rfl, a, ns, rfl, hS, fun f c G H1 s0 nf W0 => ?_⟩
    refine ⟨6, rfl, by decide, by decide, for_range (lo := 0) (n := 6) (fun i σ H' => ∃ (G : Hp) (v3 v4 v5 v6 v7 v8 v9 v10 v11 v12 v13 v14 v15 v16 : Option V), σ = [some (.ref a), some (.ref f), some (.str abc), v3, v4, v5, v6, v7, v8, v9, v10, v11, v12, v13, v14, v15, v16] ∧ Wo G H' f c (500 * i))
      ⟨G, none, none, none, none, none, none, none, none, none, none, none, none, none, none, rfl, W0⟩ ?_ ?_⟩
    · rintro i σ H2 hi ⟨G, v3, v4, v5, v6, v7, v8, v9, v10, v11, v12, v13, v14, v15, v16, rfl, W⟩
      refine ⟨_, rfl, G, f, c, _, 6, rfl, by decide, by decide, W, by omega, fun p xs ts G1 H3 s1 W1 np hp hxs tl tok => ?_⟩
      have tl : ts.length ≤ 5 := by omega
      -- more
      refine ⟨_, rfl, _, rfl, G1, f, c, _, 6, rfl, by decide, by decide, W1, by omega, fun p2 xs2 ts2 G2 H4 s2 W2 np2 hp2 hxs2 tl2 tok2 => ?_⟩
      have tl2 : ts2.length ≤ 5 := by omega
      have gp := s2 _ _ hp
      have gxs := dpUps s2 hxs
      refine ⟨_, rfl, p, xs, rfl, ofL (W2.same _ _ gp), fun p3 np3 => ?_⟩
      have s3 : Same G2 (upd G2 p3 (.lst xs.reverse)) := same_up (W2.same.free np3)
      have hp3 : (upd G2 p3 (.lst xs.reverse)) p3 = some (.lst xs.reverse) := upd_same
      have W3 := W2.new (o := .lst xs.reverse) np3
      generalize upd G2 p3 (.lst xs.reverse) = G3 at W3 s3 hp3
      generalize upd H4 p3 (.lst xs.reverse) = H5 at W3
      refine ⟨Nat.zero_le _, fun p4 np4 => ?_⟩
      have s4 : Same G3 (upd G3 p4 (.lst [])) := same_up (W3.same.free np4)
      have hp4 : (upd G3 p4 (.lst [])) p4 = some (.lst []) := upd_same
      have W4 := W3.new (o := .lst []) np4
      generalize upd G3 p4 (.lst []) = G4 at W4 s4 hp4
      generalize upd H5 p4 (.lst []) = H6 at W4
      refine ⟨by show 2 ≤ sizeLine; decide, fun tq ntq => ?_⟩
      have s5 : Same G4 (upd G4 tq (.tup [.int 1, .str ""])) := same_up (W4.same.free ntq)
      have htq : (upd G4 tq (.tup [.int 1, .str ""])) tq = some (.tup [.int 1, .str ""]) := upd_same
      have W5 := W4.new (o := .tup [.int 1, .str ""]) ntq
      generalize upd G4 tq (.tup [.int 1, .str ""]) = G5 at W5 s5 htq
      generalize upd H6 tq (.tup [.int 1, .str ""]) = H7 at W5
      refine ⟨by show 1 ≤ sizeLine; decide, fun p5 np5 => ?_⟩
      have s6 : Same G5 (upd G5 p5 (.lst [.ref tq])) := same_up (W5.same.free np5)
      have hp5 : (upd G5 p5 (.lst [.ref tq])) p5 = some (.lst [.ref tq]) := upd_same
      have W6 := W5.new (o := .lst [.ref tq]) np5
      generalize upd G5 p5 (.lst [.ref tq]) = G6 at W6 s6 hp5
      generalize upd H7 p5 (.lst [.ref tq]) = H8 at W6
      refine ⟨by show 4 ≤ sizeLine; decide, fun p6 np6 => ?_⟩
      refine ⟨_, f, c, _, _, _, rfl, .inl ⟨p6, rfl, ofL upd_same⟩, by show 0 < 4; decide, by show 4 < 1000000; decide, W6.new np6, by omega, fun vm H9 hv W7 => ?_⟩
      have W7 := W7.sub (same_up (W6.same.free np6)) W6.cells
      have sg6 : Same G2 G6 := (s3.trans s4).trans (s5.trans s6)
      obtain ⟨q1, ys, us, rfl, gq, gys, ul, uok⟩ : ∃ (q1 : Addr) (ys : List V) (us : List Tm), vm = .ref q1 ∧ G6 q1 = some (.lst ys) ∧ DpAll K G6 ys (us.map tmD) ∧ us.length ≤ 5 ∧ ∀ t ∈ us, okT 5 (2 ^ 99) t := by
        rcases List.mem_cons.mp hv with rfl | hv
        · exact ⟨p2, xs2, ts2, rfl, sg6 _ _ hp2, dpUps sg6 hxs2, tl2, tok2⟩
        rcases List.mem_cons.mp hv with rfl | hv
        · exact ⟨p3, xs.reverse, ts.reverse, rfl, s6 _ _ (s5 _ _ (s4 _ _ hp3)), by rw [List.map_reverse]; exact dpRev (dpUps sg6 gxs), by rw [List.length_reverse]; exact tl, fun t ht => tok t (List.mem_reverse.mp ht)⟩
        rcases List.mem_cons.mp hv with rfl | hv
        · exact ⟨p4, [], [], rfl, s6 _ _ (s5 _ _ hp4), .nil, by decide, fun t ht => (nomatch ht)⟩
        · rw [List.mem_singleton.mp hv]
          refine ⟨p5, [.ref tq], [(1, "")], rfl, hp5, .cons (.tup (ofT (s6 _ _ htq)) (.cons (.int _) (.cons (.str _) .nil))) .nil, by decide, fun t ht => ?_⟩
          rw [List.mem_singleton.mp ht]
          exact ⟨by show (0 : Int) ≤ 1; decide, by show (1 : Int) < 2 ^ 99; decide, by show ("" : Str).length ≤ 5; rw [e0len]; decide, lets_e⟩
      have gp := sg6 _ _ gp
      have gxs := dpUps sg6 gxs
      have tA : TsOk ts := ⟨by omega, fun t ht => okT_wide (tok t ht)⟩
      have tB : TsOk us := ⟨by omega, fun t ht => okT_wide (uok t ht)⟩
      have kA := kvS_tab tl tok
      have kB := kvS_tab ul uok
      clear hv W W1 W2 W3 W4 W5 W6 s1 s2 s3 s4 s5 s6 hp2 hxs2
      -- one, more_size
      refine ⟨_, rfl, mk_wo W7 (ofL (W7.same _ _ gp)) (dpUps W7.same gxs) tA fun o1 Ga Ha sa sha no1 Wa z1 _ => ?_⟩
      refine ⟨_, rfl, mk_wo Wa (ofL (Wa.same _ _ (sa _ _ gq))) (dpUps (sa.trans Wa.same) gys) tB fun o2 Gb Hb sb shb no2 Wb z2 _ => ?_⟩
      have z1 := z1.up sb
      have sab := sa.trans sb
      have gp := sab _ _ gp
      have gq := sab _ _ gq
      have gxs := dpUps sab gxs
      have gys := dpUps sab gys
      clear W7
      -- the tables
      refine ⟨_, _, rfl, _, rfl, p, xs, ts, rfl, ofL (Wb.same _ _ gp), dpUps Wb.same gxs, tA, fun t1 Hc sc nt1 ht1 => ?_⟩
      have Wc := (Wb.keep sc).add ht1 (Wb.ne nt1) (Wb.same.free nt1)
      have s5 : Same Gb (upd Gb t1 (.dK (tab ts))) := same_up (Wb.same.free nt1)
      have gt1 : (upd Gb t1 (.dK (tab ts))) t1 = some (.dK (tab ts)) := upd_same
      generalize upd Gb t1 (.dK (tab ts)) = Gc at Wc s5 gt1
      refine ⟨_, rfl, q1, ys, us, rfl, ofL (Wc.same _ _ (s5 _ _ gq)), dpUps (s5.trans Wc.same) gys, tB, fun t2 Hd sd nt2 ht2 => ?_⟩
      have nt12 : t1 ≠ t2 := ne_of_none (Wc.same _ _ gt1) nt2
      have Wd := (Wc.keep sd).add ht2 (Wc.ne nt2) (Wc.same.free nt2)
      have s6 : Same Gc (upd Gc t2 (.dK (tab us))) := same_up (Wc.same.free nt2)
      have gt2 : (upd Gc t2 (.dK (tab us))) t2 = some (.dK (tab us)) := upd_same
      generalize upd Gc t2 (.dK (tab us)) = Gd at Wd s6 gt2
      have gt1 := s6 _ _ gt1
      have z1 := z1.up (s5.trans s6)
      have z2 := z2.up (s5.trans s6)
      clear Wb Wc
      generalize hA : tab ts = A at gt1 z1 kA
      generalize hB : tab us = B at gt2 z2 kB
      have kA' := kA.kv
      have kB' := kB.kv
      -- both, often
      obtain ⟨dx1, d1, e1, _⟩ := id z1
      obtain ⟨dx2, d2, e2, _⟩ := id z2
      refine ⟨_, _, rfl, _, rfl, o1, dx1, _, rfl, Wd.same _ _ e1, rfl, _, rfl, o1, o2, A, B, rfl, z1.up Wd.same, z2.up Wd.same, kA', kB', ts_app kA kB, fun b1 He se nb1 zb => ?_⟩
      obtain ⟨Ge, We, sge, zb, _⟩ := (Wd.keep se).growSz zb (ts_app kA kB).kv
      refine ⟨_, rfl, o2, dx2, _, rfl, We.same _ _ (sge _ _ e2), rfl, _, rfl, rfl, o2, o1, B, A, rfl, z2.up (sge.trans We.same), z1.up (sge.trans We.same), kB', kA', prodTd kB kA, fun b2 Hf sf nb2 zo => ?_⟩
      obtain ⟨Gf, Wf, sgf, zo, _⟩ := (We.keep sf).growSz zo (prodTd kB kA).kv
      have zb := zb.up sgf
      have sgf := sge.trans sgf
      have z1 := z1.up sgf
      have z2 := z2.up sgf
      have gt1 := sgf _ _ gt1
      have gt2 := sgf _ _ gt2
      obtain ⟨dx1, d1, e1, _⟩ := id z1
      obtain ⟨dx2, d2, e2, _⟩ := id z2
      obtain ⟨dxb, d3, e3, _⟩ := id zb
      obtain ⟨dxo, d4, e4, _⟩ := id zo
      clear Wd We
      -- str(both) != text(sum(..)) or both != more_size.plus(other = one)
      refine ⟨_, _, rfl, _, rfl, b1, dxb, _, rfl, Wf.same _ _ e3, b1, _, rfl, zb.up Wf.same, (ts_app kA kB).kv, fun H20 u1 => ⟨_, rfl, ?_⟩⟩
      have W := Wf.keep u1
      refine ⟨_, rfl, _, rfl, t1, t2, A, B, rfl, W.same _ _ gt1, W.same _ _ gt2, kA, kB, fun ps H21 u2 nps hps => ?_⟩
      have W := W.keep u2
      refine ⟨ps, _, rfl, hps, (sum_ok kA kB).1, fun H22 u3 => ?_⟩
      have W := W.keep u3
      rw [sum_txt kA kB]
      refine ⟨rfl, _, rfl, ite2 (fun e => by simp at e) (fun _ => ?_)⟩
      refine ⟨_, rfl, _, rfl, o2, dx2, _, rfl, W.same _ _ e2, rfl, _, rfl, rfl, o2, o1, B, A, rfl, z2.up W.same, z1.up W.same, kB', kA', ts_app kB kA, fun bz H23 u4 nbz zz => ?_⟩
      have W := W.keep u4
      obtain ⟨dxz, d5, e5, _⟩ := id zz
      refine ⟨b1, dxb, _, _, rfl, W.same _ _ e3, T.ot.ty e5, nf_own _, b1, _, _, rfl, zb.up W.same, (ts_app kA kB).kv, .inl ⟨bz, _, rfl, zz, (ts_app kB kA).kv, ⟨_, rfl, ?_⟩⟩⟩
      rw [plus_eq kA kB]
      refine ⟨_, rfl, ?_⟩
      -- str(often) != text(product(..)) or often != one.times(more_size)
      refine ⟨_, rfl, b2, dxo, _, rfl, W.same _ _ e4, b2, _, rfl, zo.up W.same, (prodTd kB kA).kv, fun H24 u5 => ⟨_, rfl, ?_⟩⟩
      have W := W.keep u5
      refine ⟨_, rfl, _, rfl, t1, t2, A, B, rfl, nt12, W.same _ _ gt1, W.same _ _ gt2, kA, kB, fun pq H25 u6 npq hpq => ?_⟩
      have W := W.keep u6
      rw [tab0_tab (prodE kA kB).2] at hpq
      refine ⟨pq, _, rfl, hpq, (prodE kA kB).1.kv, fun H26 u7 => ?_⟩
      have W := W.keep u7
      rw [prod_txt kA kB]
      refine ⟨rfl, _, rfl, ite2 (fun e => by simp at e) (fun _ => ?_)⟩
      refine ⟨_, rfl, _, rfl, o1, dx1, _, rfl, W.same _ _ e1, rfl, _, rfl, o1, o2, A, B, rfl, z1.up W.same, z2.up W.same, kA', kB', prodTd kA kB, fun bw H27 u8 nbw zw => ?_⟩
      have W := W.keep u8
      obtain ⟨dxw, d6, e6, _⟩ := id zw
      refine ⟨b2, dxo, _, _, rfl, W.same _ _ e4, T.ot.ty e6, nf_own _, b2, _, _, rfl, zo.up W.same, (prodTd kB kA).kv, .inl ⟨bw, _, rfl, zw, (prodTd kA kB).kv, ⟨_, rfl, ?_⟩⟩⟩
      rw [times_eq kA kB]
      refine ⟨_, rfl, ?_⟩
      clear Wf
      -- here = dict([(letter, number(feed)) for letter in letters])
      refine ⟨_, rfl, abc, rfl, fun D nD => ?_⟩
      have gD : Gf D = none := W.same.free nD
      have nfD : f ≠ D := W.ne nD
      refine lcs (z := abc) (fun j H' => ∃ (Gi : Hp) (ps : List Addr) (hs : List (Nat × Int)), Wo Gi H' f c (500 * i + 200 + 200 + 1 + 3 * j) ∧ Same Gf Gi ∧ Gi D = none ∧ H' D = some (.lst (ps.map V.ref)) ∧ Paired (fun p (q : Nat × Int) => Gi p = some (.tup [.str ⟨#[q.1]⟩, .int q.2])) ps hs ∧ hs.map (·.1) = abc.cps.toList.take j ∧ ∀ q ∈ hs, 0 ≤ q.2 ∧ q.2 < 1000000)
        ⟨Gf, [], [], W.fresh nD, Same.refl _, gD, upd_same, .nil, rfl, fun q hq => (nomatch hq)⟩ ?_ ?_
      · rintro j ch H30 hj ⟨Gi, ps, hs, Wi, sgi, giD, hD, hps, hhs, hbd⟩
        have hj26 : j < 26 := by
          have := (List.getElem?_eq_some_iff.mp hj).1
          rw [abc_list, List.length_range'] at this
          exact this
        have hpl : ps.length ≤ 26 := by
          rw [Paired.length hps, ← List.length_map (f := fun q : Nat × Int => q.1), hhs, List.length_take]; omega
        have WD : Wo (upd Gi D (.lst (ps.map V.ref))) H30 f c _ := Wi.add hD nfD giD
        refine ⟨rfl, _, rfl, _, rfl, _, f, c, _, rfl, WD, by omega, fun n H31 n0 n1 Wn => ?_⟩
        have hD1 : H31 D = some (.lst (ps.map V.ref)) := Wn.same _ _ upd_same
        have Wn := Wn.sub (same_up giD) Wi.cells
        refine ⟨by show 2 ≤ sizeLine; decide, fun tp ntp => ?_⟩
        have nDt : D ≠ tp := ne_of_none hD1 ntp
        have git : Gi tp = none := Wn.same.free ntp
        refine ⟨_, by rw [upd_ne nDt]; exact hD1, by rw [List.length_map, sizeLine_eq]; omega, upd Gi tp (.tup [.str ⟨#[ch]⟩, .int n]), ps ++ [tp], hs ++ [(ch, n)], ((Wn.new ntp).put (by rw [upd_ne nDt]; exact giD) nfD).mono (by omega), sgi.trans (same_up git), by rw [upd_ne nDt]; exact giD, by rw [upd_same, List.map_append]; rfl, ?_, ?_, ?_⟩
        · exact paired_app (Paired.mapP hps fun p q e => by rw [upd_ne (ne_of_none e git)]; exact e) (.cons upd_same .nil)
        · rw [List.map_append, hhs, List.take_add_one, hj]; rfl
        · intro q hq
          rcases List.mem_append.mp hq with hq | hq
          · exact hbd q hq
          · rw [List.mem_singleton.mp hq]; exact ⟨n0, n1⟩
      · rintro H30 ⟨Gi, ps, hs, W, sgi, giD, hD, hps, hhs, hbd⟩
        rw [List.take_length] at hhs
        have l26 : abc.cps.toList.length = 26 := by rw [abc_list, List.length_range']
        rw [l26] at W
        have nt := num_tab hhs hbd
        have nok := num_ok hhs hbd
        refine ⟨D, ps, numK hs, rfl, ofL hD, paired_mapR (E := fun p (kv : Key × V) => SqT K H30 p [kV kv.1, kv.2]) (g := fun q : Nat × Int => ((.inr ⟨#[q.1]⟩ : Key), V.int q.2)) (fun p q e => ofT (W.same _ _ e)) hps, fun ph nph => ?_⟩
        rw [merge_new nt.nd]
        have z1 := z1.up sgi
        have z2 := z2.up sgi
        have zb := zb.up sgi
        have zo := zo.up sgi
        have gt1 := sgi _ _ gt1
        have gt2 := sgi _ _ gt2
        clear hps hD
        have nr := num_refl nt
        generalize hnk : numK hs = nk at nt nok nr
        have nf : ∀ p ∈ nk, flatV p.2 = true := fun p hp => by
          obtain ⟨z, n, rfl, _⟩ := nt.each p hp
          rfl
        have gph : (upd Gi ph (.dK nk)) ph = some (.dK nk) := upd_same
        have sj : Same Gi (upd Gi ph (.dK nk)) := same_up (W.same.free nph)
        have W := W.new (o := .dK nk) nph
        generalize upd Gi ph (.dK nk) = Gj at W sj gph
        generalize upd H30 ph (.dK nk) = H31 at W
        -- kept = dict(here)
        refine ⟨_, rfl, ph, nk, rfl, .inl (W.same _ _ gph), fun pk npk => ?_⟩
        have nt1k : t1 ≠ pk := ne_of_none (W.same _ _ (sj _ _ gt1)) npk
        have nt2k : t2 ≠ pk := ne_of_none (W.same _ _ (sj _ _ gt2)) npk
        have gpk : (upd Gj pk (.dK nk)) pk = some (.dK nk) := upd_same
        have sk : Same Gj (upd Gj pk (.dK nk)) := same_up (W.same.free npk)
        have W := W.new (o := .dK nk) npk
        generalize upd Gj pk (.dK nk) = Gk at W sk gpk
        generalize upd H31 pk (.dK nk) = H32 at W
        have sjk := sj.trans sk
        have gph := sk _ _ gph
        have z1 := z1.up sjk
        have z2 := z2.up sjk
        have zb := zb.up sjk
        have zo := zo.up sjk
        have gt1 := sjk _ _ gt1
        have gt2 := sjk _ _ gt2
        obtain ⟨dx1, d1, e1, _⟩ := id z1
        obtain ⟨dx2, d2, e2, _⟩ := id z2
        obtain ⟨dxb, d3, e3, _⟩ := id zb
        obtain ⟨dxo, d4, e4, _⟩ := id zo
        obtain ⟨x0, x1⟩ := w_bd kA nok
        obtain ⟨y0, y1⟩ := w_bd kB nok
        have wa := lin_told kA' (pr (gN nk))
        have wb := lin_told kB' (pr (gN nk))
        have wc := w_plus kA kB (gN nk)
        have wd := w_times kA kB (gN nk)
        generalize ex : lin (pr (gN nk)) (entT A) = x at x0 x1 wa wc wd
        generalize ey : lin (pr (gN nk)) (entT B) = y at y0 y1 wb wc wd
        obtain ⟨f1, f2, f3, f4, f5⟩ := four_ok x0 x1 y0 y1
        -- found
        refine ⟨_, rfl, o1, dx1, _, rfl, W.same _ _ e1, rfl, _, rfl, o1, ph, A, nk, rfl, z1.up W.same, kA', W.same _ _ gph, nok, fun H33 u1 => ?_⟩
        rw [wa]
        have W := W.keep u1
        refine ⟨_, rfl, o2, dx2, _, rfl, W.same _ _ e2, rfl, _, rfl, rfl, o2, ph, B, nk, rfl, z2.up W.same, kB', W.same _ _ gph, nok, fun H34 u2 => ?_⟩
        rw [wb]
        have W := W.keep u2
        refine ⟨by show 2 ≤ sizeLine; decide, fun l1 nl1 => ?_⟩
        have gl1 : (upd Gk l1 (.lst [.int x, .int y])) l1 = some (.lst [.int x, .int y]) := upd_same
        have sl : Same Gk (upd Gk l1 (.lst [.int x, .int y])) := same_up (W.same.free nl1)
        have W := W.new (o := .lst [.int x, .int y]) nl1
        generalize upd Gk l1 (.lst [.int x, .int y]) = Gl at W sl gl1
        generalize upd H34 l1 (.lst [.int x, .int y]) = H35 at W
        have gph := sl _ _ gph
        have gpk := sl _ _ gpk
        have e3 := sl _ _ e3
        have e4 := sl _ _ e4
        have zb := zb.up sl
        have zo := zo.up sl
        -- found + [both.worth(here), often.worth(here)]
        refine ⟨_, rfl, _, rfl, b1, dxb, _, rfl, W.same _ _ e3, rfl, _, rfl, b1, ph, _, nk, rfl, zb.up W.same, (ts_app kA kB).kv, W.same _ _ gph, nok, fun H36 u3 => ?_⟩
        rw [wc]
        have W := W.keep u3
        refine ⟨_, rfl, b2, dxo, _, rfl, W.same _ _ e4, rfl, _, rfl, b2, ph, _, nk, rfl, zo.up W.same, (prodTd kB kA).kv, W.same _ _ gph, nok, fun H37 u4 => ?_⟩
        rw [wd]
        have W := W.keep u4
        refine ⟨by show 2 ≤ sizeLine; decide, fun l2 nl2 => ?_⟩
        have W := W.fresh (o := .lst [.int (x + y), .int (x * y)]) nl2
        have hl2 : (upd H37 l2 (.lst [.int (x + y), .int (x * y)])) l2 = some (.lst [.int (x + y), .int (x * y)]) := upd_same
        generalize upd H37 l2 (.lst [.int (x + y), .int (x * y)]) = H38 at W hl2
        refine ⟨l1, l2, _, _, rfl, rfl, W.same _ _ gl1, hl2, by show 4 ≤ sizeLine; decide, fun l3 nl3 => ?_⟩
        have gl3 : (upd Gl l3 (.lst ([.int x, .int y] ++ [.int (x + y), .int (x * y)]))) l3 = some (.lst ([.int x, .int y] ++ [.int (x + y), .int (x * y)])) := upd_same
        have sm : Same Gl (upd Gl l3 (.lst ([.int x, .int y] ++ [.int (x + y), .int (x * y)]))) := same_up (W.same.free nl3)
        have W := W.new (o := .lst ([.int x, .int y] ++ [.int (x + y), .int (x * y)])) nl3
        generalize upd Gl l3 (.lst ([.int x, .int y] ++ [.int (x + y), .int (x * y)])) = Gm at W sm gl3
        generalize upd H38 l3 (.lst ([.int x, .int y] ++ [.int (x + y), .int (x * y)])) = H39 at W
        have slm := sl.trans sm
        have gpk := sm _ _ gpk
        have gph := sm _ _ gph
        have gt1 := slm _ _ gt1
        have gt2 := slm _ _ gt2
        have z1 := z1.up slm
        have z2 := z2.up slm
        obtain ⟨dx1, d1, e1, _⟩ := id z1
        obtain ⟨dx2, d2, e2, _⟩ := id z2
        -- worths
        refine ⟨_, rfl, _, rfl, t1, pk, A, nk, rfl, nt1k, W.same _ _ gt1, kA', W.same _ _ gpk, nok, fun H40 u5 => ?_⟩
        rw [ex]
        have W := W.keep u5
        refine ⟨_, rfl, _, rfl, t2, pk, B, nk, rfl, nt2k, W.same _ _ gt2, kB', W.same _ _ gpk, nok, fun H41 u6 => ?_⟩
        rw [ey]
        have W := W.keep u6
        refine ⟨by show 2 ≤ sizeLine; decide, fun l4 nl4 => ?_⟩
        have W := W.fresh (o := .lst [.int x, .int y]) nl4
        have hl4 : (upd H41 l4 (.lst [.int x, .int y])) l4 = some (.lst [.int x, .int y]) := upd_same
        generalize upd H41 l4 (.lst [.int x, .int y]) = H42 at W hl4
        refine ⟨_, rfl, _, rfl, l4, _, _, _, rfl, rfl, ofL hl4, rfl, _, rfl, l4, _, _, _, rfl, rfl, ofL hl4, rfl, _, _, rfl, rfl, ?_⟩
        refine ⟨_, rfl, l4, _, _, _, rfl, rfl, ofL hl4, rfl, _, rfl, l4, _, _, _, rfl, rfl, ofL hl4, rfl, _, _, rfl, rfl, f5, by show 2 ≤ sizeLine; decide, fun l5 nl5 => ?_⟩
        have W := W.fresh (o := .lst [.int (x + y), .int (x * y)]) nl5
        have hl5 : (upd H42 l5 (.lst [.int (x + y), .int (x * y)])) l5 = some (.lst [.int (x + y), .int (x * y)]) := upd_same
        have hl4 : (upd H42 l5 (.lst [.int (x + y), .int (x * y)])) l4 = some (.lst [.int x, .int y]) := by rw [upd_ne (ne_of_none hl4 nl5)]; exact hl4
        generalize upd H42 l5 (.lst [.int (x + y), .int (x * y)]) = H43 at W hl5 hl4
        refine ⟨l4, l5, _, _, rfl, rfl, hl4, hl5, by show 4 ≤ sizeLine; decide, fun l6 nl6 => ?_⟩
        have W := W.fresh (o := .lst ([.int x, .int y] ++ [.int (x + y), .int (x * y)])) nl6
        have hl6 : (upd H43 l6 (.lst ([.int x, .int y] ++ [.int (x + y), .int (x * y)]))) l6 = some (.lst ([.int x, .int y] ++ [.int (x + y), .int (x * y)])) := upd_same
        generalize upd H43 l6 (.lst ([.int x, .int y] ++ [.int (x + y), .int (x * y)])) = H44 at W hl6
        have d4 : ∀ b : Addr, H44 b = some (.lst ([.int x, .int y] ++ [.int (x + y), .int (x * y)])) → Dp K H44 (.ref b) (four x y) := fun b e => .lst (ofL e) (.cons (.int _) (.cons (.int _) (.cons (.int _) (.cons (.int _) .nil))))
        -- repr(found) != repr(worths) or here != kept
        refine ⟨_, rfl, l3, four x y, rfl, d4 _ (W.same _ _ gl3), f1, f2, f3, f4, ?_⟩
        refine ⟨_, rfl, l6, four x y, rfl, d4 _ hl6, f1, f2, f3, f4, ?_⟩
        refine ⟨rfl, _, rfl, ite2 (fun e => by simp at e) (fun _ => ?_)⟩
        refine ⟨_, rfl, _, rfl, ph, pk, nk, nk, rfl, rfl, W.same _ _ gph, W.same _ _ gpk, nf, nf, ?_⟩
        rw [nr]
        refine ⟨_, rfl, ?_⟩
        -- not less_right(feed, one, table_here)
        refine ⟨_, rfl, _, rfl, _, rfl, Gm, f, c, _, o1, t1, A, rfl, W, by omega, z1, gt1, kA, fun H45 W => ?_⟩
        refine ⟨_, rfl, ?_⟩
        -- str(one) != text(table_here) or str(more_size) != text(beside)
        refine ⟨_, rfl, o1, dx1, _, rfl, W.same _ _ e1, o1, _, rfl, z1.up W.same, kA', fun H46 u7 => ⟨_, rfl, ?_⟩⟩
        have W := W.keep u7
        refine ⟨_, rfl, t1, _, rfl, W.same _ _ gt1, kA', fun H47 u8 => ?_⟩
        have W := W.keep u8
        refine ⟨rfl, _, rfl, ite2 (fun e => by simp at e) (fun _ => ?_)⟩
        refine ⟨_, rfl, o2, dx2, _, rfl, W.same _ _ e2, o2, _, rfl, z2.up W.same, kB', fun H48 u9 => ⟨_, rfl, ?_⟩⟩
        have W := W.keep u9
        refine ⟨_, rfl, t2, _, rfl, W.same _ _ gt2, kB', fun H49 u10 => ?_⟩
        have W := W.keep u10
        refine ⟨rfl, _, rfl, ite2 (fun e => by simp at e) (fun _ => ?_)⟩
        exact ⟨Gm, _, _, _, _, _, _, _, _, _, _, _, _, _, _, rfl, W.mono (by omega)⟩
    · rintro σ H2 ⟨G, v3, v4, v5, v6, v7, v8, v9, v10, v11, v12, v13, v14, v15, v16, rfl, W⟩
      exact q _
end
end Cr

namespace Cr
open PySem L2
theorem kit_yes {K : PySem.W.Frag} {C : Addr} (h1 : PySem.W.isClsIn K C = true) (h2 : PySem.W.typeIn K (.ref C) = some (.type "type")) : ((PySem.W.clsIn K C).isSome && PySem.W.typeIn K (.ref C) == some (.type "type")) = true := by
  unfold PySem.W.isClsIn at h1
  rw [h1, h2]
  rfl
theorem all_mk {l : PySem.W.OpenLaw} {w : World} {K : PySem.W.Frag} {h : Heap} {mg : Str → Option Value} {fa : Addr} (X : K.In h) (G : h.Ns mainGlobals mg) (hfa : mg "law" = some (.ref fa))
    {f0 : Addr} {od0 an0 : Option Addr} {sl0 : Array (Option Value)} {oc0 kV0 dc0 pm0 cd0 ct0 : Value}
    {f1 : Addr} {od1 an1 : Option Addr} {sl1 : Array (Option Value)} {oc1 kV1 dc1 pm1 cd1 ct1 : Value}
    {f2 : Addr} {od2 an2 : Option Addr} {sl2 : Array (Option Value)} {oc2 kV2 dc2 pm2 cd2 ct2 : Value}
    {f3 : Addr} {od3 an3 : Option Addr} {sl3 : Array (Option Value)} {oc3 kV3 dc3 pm3 cd3 ct3 : Value}
    {f4 : Addr} {od4 an4 : Option Addr} {sl4 : Array (Option Value)} {oc4 kV4 dc4 pm4 cd4 ct4 : Value}
    {f5 : Addr} {od5 an5 : Option Addr} {sl5 : Array (Option Value)} {oc5 kV5 dc5 pm5 cd5 ct5 : Value}
    {f6 : Addr} {od6 an6 : Option Addr} {sl6 : Array (Option Value)} {oc6 kV6 dc6 pm6 cd6 ct6 : Value}
    {f7 : Addr} {od7 an7 : Option Addr} {sl7 : Array (Option Value)} {oc7 kV7 dc7 pm7 cd7 ct7 : Value}
    {f8 : Addr} {od8 an8 : Option Addr} {sl8 : Array (Option Value)} {oc8 kV8 dc8 pm8 cd8 ct8 : Value}
    {f9 : Addr} {od9 an9 : Option Addr} {sl9 : Array (Option Value)} {oc9 kV9 dc9 pm9 cd9 ct9 : Value}
    {f10 : Addr} {od10 an10 : Option Addr} {sl10 : Array (Option Value)} {oc10 kV10 dc10 pm10 cd10 ct10 : Value}
    {f11 : Addr} {od11 an11 : Option Addr} {sl11 : Array (Option Value)} {oc11 kV11 dc11 pm11 cd11 ct11 : Value}
    {f12 : Addr} {od12 an12 : Option Addr} {sl12 : Array (Option Value)} {oc12 kV12 dc12 pm12 cd12 ct12 : Value}
    {f13 : Addr} {od13 an13 : Option Addr} {sl13 : Array (Option Value)} {oc13 kV13 dc13 pm13 cd13 ct13 : Value}
    {C_Empty : Addr}
    {C_NoAxis : Addr}
    {C_NoCell : Addr}
    {C_NoName : Addr}
    {C_NoText : Addr}
    {C_Size : Addr}
    {f14 : Addr} {od14 an14 : Option Addr} {sl14 : Array (Option Value)} {oc14 kV14 dc14 pm14 cd14 ct14 : Value}
    {f15 : Addr} {od15 an15 : Option Addr} {sl15 : Array (Option Value)} {oc15 kV15 dc15 pm15 cd15 ct15 : Value}
    {f16 : Addr} {od16 an16 : Option Addr} {sl16 : Array (Option Value)} {oc16 kV16 dc16 pm16 cd16 ct16 : Value}
    {f17 : Addr} {od17 an17 : Option Addr} {sl17 : Array (Option Value)} {oc17 kV17 dc17 pm17 cd17 ct17 : Value}
    {f18 : Addr} {od18 an18 : Option Addr} {sl18 : Array (Option Value)} {oc18 kV18 dc18 pm18 cd18 ct18 : Value}
    {f19 : Addr} {od19 an19 : Option Addr} {sl19 : Array (Option Value)} {oc19 kV19 dc19 pm19 cd19 ct19 : Value}
    {f20 : Addr} {od20 an20 : Option Addr} {sl20 : Array (Option Value)} {oc20 kV20 dc20 pm20 cd20 ct20 : Value}
    {f21 : Addr} {od21 an21 : Option Addr} {sl21 : Array (Option Value)} {oc21 kV21 dc21 pm21 cd21 ct21 : Value}
    {f22 : Addr} {od22 an22 : Option Addr} {sl22 : Array (Option Value)} {oc22 kV22 dc22 pm22 cd22 ct22 : Value}
    {C_TooFew : Addr}
    {f23 : Addr} {od23 an23 : Option Addr} {sl23 : Array (Option Value)} {oc23 kV23 dc23 pm23 cd23 ct23 : Value}
    (a0 : PySem.W.nsIn K mainGlobals "term_text" = some (some (.ref f0)))
    (l0 : K.lookup f0 = some ⟨oc0, od0, .func (PySem.W.fnOf "term_text" "term_text" (defArgs s_term_text) (defBody s_term_text) (defScope s_term_text) .none kV0 dc0 pm0 an0 cd0 ct0), sl0⟩)
    (c0 : PySem.W.codeIn K cd0 "term_text" = true)
    (k0 : PySem.W.keepIn K (.ref f0) = true)
    (a1 : PySem.W.nsIn K mainGlobals "_law_feed" = some (some (.ref f1)))
    (l1 : K.lookup f1 = some ⟨oc1, od1, .func (PySem.W.fnOf "_law_feed" "_law_feed" (defArgs s__law_feed) (defBody s__law_feed) (defScope s__law_feed) .none kV1 dc1 pm1 an1 cd1 ct1), sl1⟩)
    (c1 : PySem.W.codeIn K cd1 "_law_feed" = true)
    (k1 : PySem.W.keepIn K (.ref f1) = true)
    (a2 : PySem.W.nsIn K mainGlobals "_law_draw" = some (some (.ref f2)))
    (l2 : K.lookup f2 = some ⟨oc2, od2, .func (PySem.W.fnOf "_law_draw" "_law_draw" (defArgs s__law_draw) (defBody s__law_draw) (defScope s__law_draw) .none kV2 dc2 pm2 an2 cd2 ct2), sl2⟩)
    (c2 : PySem.W.codeIn K cd2 "_law_draw" = true)
    (k2 : PySem.W.keepIn K (.ref f2) = true)
    (a3 : PySem.W.nsIn K mainGlobals "_law_of" = some (some (.ref f3)))
    (l3 : K.lookup f3 = some ⟨oc3, od3, .func (PySem.W.fnOf "_law_of" "_law_of" (defArgs s__law_of) (defBody s__law_of) (defScope s__law_of) .none kV3 dc3 pm3 an3 cd3 ct3), sl3⟩)
    (c3 : PySem.W.codeIn K cd3 "_law_of" = true)
    (k3 : PySem.W.keepIn K (.ref f3) = true)
    (a4 : PySem.W.nsIn K mainGlobals "_law_terms" = some (some (.ref f4)))
    (l4 : K.lookup f4 = some ⟨oc4, od4, .func (PySem.W.fnOf "_law_terms" "_law_terms" (defArgs s__law_terms) (defBody s__law_terms) (defScope s__law_terms) .none kV4 dc4 pm4 an4 cd4 ct4), sl4⟩)
    (c4 : PySem.W.codeIn K cd4 "_law_terms" = true)
    (k4 : PySem.W.keepIn K (.ref f4) = true)
    (a5 : PySem.W.nsIn K mainGlobals "_law_table" = some (some (.ref f5)))
    (l5 : K.lookup f5 = some ⟨oc5, od5, .func (PySem.W.fnOf "_law_table" "_law_table" (defArgs s__law_table) (defBody s__law_table) (defScope s__law_table) .none kV5 dc5 pm5 an5 cd5 ct5), sl5⟩)
    (c5 : PySem.W.codeIn K cd5 "_law_table" = true)
    (k5 : PySem.W.keepIn K (.ref f5) = true)
    (a6 : PySem.W.nsIn K mainGlobals "_law_text" = some (some (.ref f6)))
    (l6 : K.lookup f6 = some ⟨oc6, od6, .func (PySem.W.fnOf "_law_text" "_law_text" (defArgs s__law_text) (defBody s__law_text) (defScope s__law_text) .none kV6 dc6 pm6 an6 cd6 ct6), sl6⟩)
    (c6 : PySem.W.codeIn K cd6 "_law_text" = true)
    (k6 : PySem.W.keepIn K (.ref f6) = true)
    (a7 : PySem.W.nsIn K mainGlobals "_law_sum" = some (some (.ref f7)))
    (l7 : K.lookup f7 = some ⟨oc7, od7, .func (PySem.W.fnOf "_law_sum" "_law_sum" (defArgs s__law_sum) (defBody s__law_sum) (defScope s__law_sum) .none kV7 dc7 pm7 an7 cd7 ct7), sl7⟩)
    (c7 : PySem.W.codeIn K cd7 "_law_sum" = true)
    (k7 : PySem.W.keepIn K (.ref f7) = true)
    (a8 : PySem.W.nsIn K mainGlobals "_law_product" = some (some (.ref f8)))
    (l8 : K.lookup f8 = some ⟨oc8, od8, .func (PySem.W.fnOf "_law_product" "_law_product" (defArgs s__law_product) (defBody s__law_product) (defScope s__law_product) .none kV8 dc8 pm8 an8 cd8 ct8), sl8⟩)
    (c8 : PySem.W.codeIn K cd8 "_law_product" = true)
    (k8 : PySem.W.keepIn K (.ref f8) = true)
    (a9 : PySem.W.nsIn K mainGlobals "_law_worth" = some (some (.ref f9)))
    (l9 : K.lookup f9 = some ⟨oc9, od9, .func (PySem.W.fnOf "_law_worth" "_law_worth" (defArgs s__law_worth) (defBody s__law_worth) (defScope s__law_worth) .none kV9 dc9 pm9 an9 cd9 ct9), sl9⟩)
    (c9 : PySem.W.codeIn K cd9 "_law_worth" = true)
    (k9 : PySem.W.keepIn K (.ref f9) = true)
    (a10 : PySem.W.nsIn K mainGlobals "_law_number" = some (some (.ref f10)))
    (l10 : K.lookup f10 = some ⟨oc10, od10, .func (PySem.W.fnOf "_law_number" "_law_number" (defArgs s__law_number) (defBody s__law_number) (defScope s__law_number) .none kV10 dc10 pm10 an10 cd10 ct10), sl10⟩)
    (c10 : PySem.W.codeIn K cd10 "_law_number" = true)
    (k10 : PySem.W.keepIn K (.ref f10) = true)
    (a11 : PySem.W.nsIn K mainGlobals "_law_less" = some (some (.ref f11)))
    (l11 : K.lookup f11 = some ⟨oc11, od11, .func (PySem.W.fnOf "_law_less" "_law_less" (defArgs s__law_less) (defBody s__law_less) (defScope s__law_less) .none kV11 dc11 pm11 an11 cd11 ct11), sl11⟩)
    (c11 : PySem.W.codeIn K cd11 "_law_less" = true)
    (k11 : PySem.W.keepIn K (.ref f11) = true)
    (a12 : PySem.W.nsIn K mainGlobals "_law_less_right" = some (some (.ref f12)))
    (l12 : K.lookup f12 = some ⟨oc12, od12, .func (PySem.W.fnOf "_law_less_right" "_law_less_right" (defArgs s__law_less_right) (defBody s__law_less_right) (defScope s__law_less_right) .none kV12 dc12 pm12 an12 cd12 ct12), sl12⟩)
    (c12 : PySem.W.codeIn K cd12 "_law_less_right" = true)
    (k12 : PySem.W.keepIn K (.ref f12) = true)
    (a13 : PySem.W.nsIn K mainGlobals "law" = some (some (.ref f13)))
    (l13 : K.lookup f13 = some ⟨oc13, od13, .func (PySem.W.fnOf "law" "law" (defArgs s_law) (defBody s_law) (defScope s_law) .none kV13 dc13 pm13 an13 cd13 ct13), sl13⟩)
    (c13 : PySem.W.codeIn K cd13 "law" = true)
    (k13 : PySem.W.keepIn K (.ref f13) = true)
    (a_Empty : PySem.W.nsIn K mainGlobals "Empty" = some (some (.ref C_Empty)))
    (a_NoAxis : PySem.W.nsIn K mainGlobals "NoAxis" = some (some (.ref C_NoAxis)))
    (a_NoCell : PySem.W.nsIn K mainGlobals "NoCell" = some (some (.ref C_NoCell)))
    (a_NoName : PySem.W.nsIn K mainGlobals "NoName" = some (some (.ref C_NoName)))
    (a_NoText : PySem.W.nsIn K mainGlobals "NoText" = some (some (.ref C_NoText)))
    (a_Size : PySem.W.nsIn K mainGlobals "Size" = some (some (.ref C_Size)))
    (a14 : PySem.W.findIn K (.ref C_Size) "__init__" = some (some (.ref f14)))
    (i14 : PySem.W.isFn K (.ref f14) = true)
    (l14 : K.lookup f14 = some ⟨oc14, od14, .func (PySem.W.fnOf "__init__" "Size.__init__" (defArgs s_Size___init__) (defBody s_Size___init__) (defScope s_Size___init__) .none kV14 dc14 pm14 an14 cd14 ct14), sl14⟩)
    (c14 : PySem.W.codeIn K cd14 "Size.__init__" = true)
    (k14 : PySem.W.keepIn K (.ref f14) = true)
    (a15 : PySem.W.findIn K (.ref C_Size) "__eq__" = some (some (.ref f15)))
    (i15 : PySem.W.isFn K (.ref f15) = true)
    (l15 : K.lookup f15 = some ⟨oc15, od15, .func (PySem.W.fnOf "__eq__" "Size.__eq__" (defArgs s_Size___eq__) (defBody s_Size___eq__) (defScope s_Size___eq__) .none kV15 dc15 pm15 an15 cd15 ct15), sl15⟩)
    (c15 : PySem.W.codeIn K cd15 "Size.__eq__" = true)
    (k15 : PySem.W.keepIn K (.ref f15) = true)
    (a16 : PySem.W.findIn K (.ref C_Size) "__str__" = some (some (.ref f16)))
    (i16 : PySem.W.isFn K (.ref f16) = true)
    (l16 : K.lookup f16 = some ⟨oc16, od16, .func (PySem.W.fnOf "__str__" "Size.__str__" (defArgs s_Size___str__) (defBody s_Size___str__) (defScope s_Size___str__) .none kV16 dc16 pm16 an16 cd16 ct16), sl16⟩)
    (c16 : PySem.W.codeIn K cd16 "Size.__str__" = true)
    (k16 : PySem.W.keepIn K (.ref f16) = true)
    (a17 : PySem.W.findIn K (.ref C_Size) "terms_told" = some (some (.ref f17)))
    (i17 : PySem.W.isFn K (.ref f17) = true)
    (l17 : K.lookup f17 = some ⟨oc17, od17, .func (PySem.W.fnOf "terms_told" "Size.terms_told" (defArgs s_Size_terms_told) (defBody s_Size_terms_told) (defScope s_Size_terms_told) .none kV17 dc17 pm17 an17 cd17 ct17), sl17⟩)
    (c17 : PySem.W.codeIn K cd17 "Size.terms_told" = true)
    (k17 : PySem.W.keepIn K (.ref f17) = true)
    (a18 : PySem.W.findIn K (.ref C_Size) "alone" = some (some (.ref f18)))
    (i18 : PySem.W.isFn K (.ref f18) = true)
    (l18 : K.lookup f18 = some ⟨oc18, od18, .func (PySem.W.fnOf "alone" "Size.alone" (defArgs s_Size_alone) (defBody s_Size_alone) (defScope s_Size_alone) .none kV18 dc18 pm18 an18 cd18 ct18), sl18⟩)
    (c18 : PySem.W.codeIn K cd18 "Size.alone" = true)
    (k18 : PySem.W.keepIn K (.ref f18) = true)
    (a19 : PySem.W.findIn K (.ref C_Size) "plus" = some (some (.ref f19)))
    (i19 : PySem.W.isFn K (.ref f19) = true)
    (l19 : K.lookup f19 = some ⟨oc19, od19, .func (PySem.W.fnOf "plus" "Size.plus" (defArgs s_Size_plus) (defBody s_Size_plus) (defScope s_Size_plus) .none kV19 dc19 pm19 an19 cd19 ct19), sl19⟩)
    (c19 : PySem.W.codeIn K cd19 "Size.plus" = true)
    (k19 : PySem.W.keepIn K (.ref f19) = true)
    (a20 : PySem.W.findIn K (.ref C_Size) "times" = some (some (.ref f20)))
    (i20 : PySem.W.isFn K (.ref f20) = true)
    (l20 : K.lookup f20 = some ⟨oc20, od20, .func (PySem.W.fnOf "times" "Size.times" (defArgs s_Size_times) (defBody s_Size_times) (defScope s_Size_times) .none kV20 dc20 pm20 an20 cd20 ct20), sl20⟩)
    (c20 : PySem.W.codeIn K cd20 "Size.times" = true)
    (k20 : PySem.W.keepIn K (.ref f20) = true)
    (a21 : PySem.W.findIn K (.ref C_Size) "less" = some (some (.ref f21)))
    (i21 : PySem.W.isFn K (.ref f21) = true)
    (l21 : K.lookup f21 = some ⟨oc21, od21, .func (PySem.W.fnOf "less" "Size.less" (defArgs s_Size_less) (defBody s_Size_less) (defScope s_Size_less) .none kV21 dc21 pm21 an21 cd21 ct21), sl21⟩)
    (c21 : PySem.W.codeIn K cd21 "Size.less" = true)
    (k21 : PySem.W.keepIn K (.ref f21) = true)
    (a22 : PySem.W.findIn K (.ref C_Size) "worth" = some (some (.ref f22)))
    (i22 : PySem.W.isFn K (.ref f22) = true)
    (l22 : K.lookup f22 = some ⟨oc22, od22, .func (PySem.W.fnOf "worth" "Size.worth" (defArgs s_Size_worth) (defBody s_Size_worth) (defScope s_Size_worth) .none kV22 dc22 pm22 an22 cd22 ct22), sl22⟩)
    (c22 : PySem.W.codeIn K cd22 "Size.worth" = true)
    (k22 : PySem.W.keepIn K (.ref f22) = true)
    (pg_Size : PySem.W.plainGet K C_Size Str.empty = true)
    (hd_Size : PySem.W.hasDictIn K C_Size = true)
    (po_Size : PySem.W.plainOver K C_Size = true)
    (sa_Size : PySem.W.findIn K (.ref C_Size) "__setattr__" = some (some (.builtin "object.__setattr__")))
    (mk_Size : PySem.W.makesIn K C_Size = true)
    (kp_Size : PySem.W.keepIn K (.ref C_Size) = true)
    (ne_Size : PySem.W.findIn K (.ref C_Size) "__ne__" = some (some (.builtin "object.__ne__")))
    (ob_Size : PySem.W.mroIn K C_Size (.type "object") = some true)
    (nolist_Size : PySem.W.mroIn K C_Size (.type "list") = some false)
    (notuple_Size : PySem.W.mroIn K C_Size (.type "tuple") = some false)
    (nodict_Size : PySem.W.mroIn K C_Size (.type "dict") = some false)
    (nostr_Size : PySem.W.mroIn K C_Size (.type "str") = some false)
    (noint_Size : PySem.W.mroIn K C_Size (.type "int") = some false)
    (nobool_Size : PySem.W.mroIn K C_Size (.type "bool") = some false)
    (noNoneType_Size : PySem.W.mroIn K C_Size (.type "NoneType") = some false)
    (ca_Size : PySem.W.findIn K (.ref C_Size) "__class__" = some (some (.builtin "object.__class__")))
    (cn_Size : PySem.W.specialIn K (.builtin "object.__class__") "__get__" = some (some (.builtin "getset_descriptor.__get__")))
    (ct_Size : PySem.W.takesIn K (.builtin "object.__class__") = some true)
    (ci_Size : PySem.W.isClsIn K C_Size = true)
    (ti_Size : PySem.W.typeIn K (.ref C_Size) = some (.type "type"))
    (nC_Size : PySem.W.findIn K (.ref C_Size) "counts" = some none)
    (a_TooFew : PySem.W.nsIn K mainGlobals "TooFew" = some (some (.ref C_TooFew)))
    (a23 : PySem.W.findIn K (.ref C_TooFew) "__init__" = some (some (.ref f23)))
    (i23 : PySem.W.isFn K (.ref f23) = true)
    (l23 : K.lookup f23 = some ⟨oc23, od23, .func (PySem.W.fnOf "__init__" "TooFew.__init__" (defArgs s_TooFew___init__) (defBody s_TooFew___init__) (defScope s_TooFew___init__) .none kV23 dc23 pm23 an23 cd23 ct23), sl23⟩)
    (c23 : PySem.W.codeIn K cd23 "TooFew.__init__" = true)
    (k23 : PySem.W.keepIn K (.ref f23) = true)
    (ii_TooFew : PySem.W.excInitIn K C_TooFew tlLookup "LookupError.__new__" = true)
    (ov_TooFew : PySem.W.excOver K C_TooFew tlLookup = true)
    (hd_TooFew : PySem.W.hasDictIn K C_TooFew = true)
    (sa_TooFew : PySem.W.findIn K (.ref C_TooFew) "__setattr__" = some (some (.builtin "object.__setattr__")))
    (ga_TooFew : PySem.W.findIn K (.ref C_TooFew) "__getattribute__" = some (some (.builtin "BaseException.__getattribute__")))
    (gt_TooFew : PySem.W.findIn K (.ref C_TooFew) "__getattr__" = some none)
    (ex_TooFew : PySem.W.subIn K (.ref C_TooFew) (.type "BaseException") = some true)
    (kp_TooFew : PySem.W.keepIn K (.ref C_TooFew) = true)
    (ob_TooFew : PySem.W.mroIn K C_TooFew (.type "object") = some true)
    (sf_TooFew : PySem.W.subIn K (.ref C_TooFew) (.ref C_TooFew) = some true)
    (isL_TooFew : PySem.W.kitOne K (.ref C_TooFew) (.type "LookupError") = some true)
    (isO_TooFew : PySem.W.kitAny K (.ref C_TooFew) [.ref C_Empty, .ref C_NoAxis, .ref C_NoCell, .ref C_NoName, .ref C_NoText, .type "KeyError", .type "IndexError", .type "ValueError"] = some false)
    (nW_TooFew : PySem.W.findIn K (.ref C_TooFew) "word" = some none)
    (nA_TooFew : PySem.W.findIn K (.ref C_TooFew) "asked" = some none)
    (nS_TooFew : PySem.W.findIn K (.ref C_TooFew) "size" = some none)
    (ca_TooFew : PySem.W.findIn K (.ref C_TooFew) "__class__" = some (some (.builtin "object.__class__")))
    (cn_TooFew : PySem.W.specialIn K (.builtin "object.__class__") "__get__" = some (some (.builtin "getset_descriptor.__get__")))
    (ct_TooFew : PySem.W.takesIn K (.builtin "object.__class__") = some true)
    (ci_TooFew : PySem.W.isClsIn K C_TooFew = true)
    (ti_TooFew : PySem.W.typeIn K (.ref C_TooFew) = some (.type "type"))
    (z_len : PySem.W.nsIn K mainGlobals "len" = some none)
    (z_list : PySem.W.nsIn K mainGlobals "list" = some none)
    (z_range : PySem.W.nsIn K mainGlobals "range" = some none)
    (z_sorted : PySem.W.nsIn K mainGlobals "sorted" = some none)
    (z_dict : PySem.W.nsIn K mainGlobals "dict" = some none)
    (z_str : PySem.W.nsIn K mainGlobals "str" = some none)
    (z_int : PySem.W.nsIn K mainGlobals "int" = some none)
    (z_isinstance : PySem.W.nsIn K mainGlobals "isinstance" = some none)
    (z_repr : PySem.W.nsIn K mainGlobals "repr" = some none)
    (z_max : PySem.W.nsIn K mainGlobals "max" = some none)
    (z_LookupError : PySem.W.nsIn K mainGlobals "LookupError" = some none)
    (z_KeyError : PySem.W.nsIn K mainGlobals "KeyError" = some none)
    (z_IndexError : PySem.W.nsIn K mainGlobals "IndexError" = some none)
    (z_ValueError : PySem.W.nsIn K mainGlobals "ValueError" = some none)
    (fiL : PySem.W.findCls K (.type "LookupError") (.type "type") "__init__" = some (.val (.builtin "LookupError.__init__"))) :
    ∃ fd : FuncData, (∀ (s : Shared) (v : Value), BindsTo s fd ⟨[v], []⟩ [("_law_script", v)]) ∧ ∀ base : Heap, K.In base → base.Ns mainGlobals mg → FnG l.prog w K mg base CX0 6 fa fd ["_law_script"] (spLaw K) := by
  have e := hfa.symm.trans (PySem.W.mg_of X G a13)
  cases e
  have cl : Cls K C_Size := ⟨pg_Size, hd_Size, po_Size, sa_Size⟩
  let init : MtAt K C_Size "__init__" "Size.__init__" s_Size___init__ ["self", "terms"] := ⟨f14, _, (fun_mk (st := s_Size___init__) l14 c14 k14), (fun_mk (st := s_Size___init__) l14 c14 k14).binds (ps := ["self", "terms"]) fun _ _ _ _ _ _ us hl => match us, hl with | [_, _], _ => rfl, ⟨a14, i14, k14⟩⟩
  let eqm : MtAt K C_Size "__eq__" "Size.__eq__" s_Size___eq__ ["self", "other"] := ⟨f15, _, (fun_mk (st := s_Size___eq__) l15 c15 k15), (fun_mk (st := s_Size___eq__) l15 c15 k15).binds (ps := ["self", "other"]) fun _ _ _ _ _ _ us hl => match us, hl with | [_, _], _ => rfl, ⟨a15, i15, k15⟩⟩
  have T : Tx K mg := {
    C := C_Size
    term_text := ⟨f0, _, (fun_mk (st := s_term_text) l0 c0 k0), (fun_mk (st := s_term_text) l0 c0 k0).binds (ps := ["many", "letters"]) fun _ _ _ _ _ _ us hl => match us, hl with | [_, _], _ => rfl, PySem.W.mg_of X G a0⟩
    Size___init__ := init
    Size___eq__ := eqm
    Size___str__ := ⟨f16, _, (fun_mk (st := s_Size___str__) l16 c16 k16), (fun_mk (st := s_Size___str__) l16 c16 k16).binds (ps := ["self"]) fun _ _ _ _ _ _ us hl => match us, hl with | [_], _ => rfl, ⟨a16, i16, k16⟩⟩
    Size_terms_told := ⟨f17, _, (fun_mk (st := s_Size_terms_told) l17 c17 k17), (fun_mk (st := s_Size_terms_told) l17 c17 k17).binds (ps := ["self"]) fun _ _ _ _ _ _ us hl => match us, hl with | [_], _ => rfl, ⟨a17, i17, k17⟩⟩
    Size_alone := ⟨f18, _, (fun_mk (st := s_Size_alone) l18 c18 k18), (fun_mk (st := s_Size_alone) l18 c18 k18).binds (ps := ["self"]) fun _ _ _ _ _ _ us hl => match us, hl with | [_], _ => rfl, ⟨a18, i18, k18⟩⟩
    Size_plus := ⟨f19, _, (fun_mk (st := s_Size_plus) l19 c19 k19), (fun_mk (st := s_Size_plus) l19 c19 k19).binds (ps := ["self", "other"]) fun _ _ _ _ _ _ us hl => match us, hl with | [_, _], _ => rfl, ⟨a19, i19, k19⟩⟩
    Size_times := ⟨f20, _, (fun_mk (st := s_Size_times) l20 c20 k20), (fun_mk (st := s_Size_times) l20 c20 k20).binds (ps := ["self", "other"]) fun _ _ _ _ _ _ us hl => match us, hl with | [_, _], _ => rfl, ⟨a20, i20, k20⟩⟩
    Size_less := ⟨f21, _, (fun_mk (st := s_Size_less) l21 c21 k21), (fun_mk (st := s_Size_less) l21 c21 k21).binds (ps := ["self", "count"]) fun _ _ _ _ _ _ us hl => match us, hl with | [_, _], _ => rfl, ⟨a21, i21, k21⟩⟩
    Size_worth := ⟨f22, _, (fun_mk (st := s_Size_worth) l22 c22 k22), (fun_mk (st := s_Size_worth) l22 c22 k22).binds (ps := ["self", "numbers"]) fun _ _ _ _ _ _ us hl => match us, hl with | [_, _], _ => rfl, ⟨a22, i22, k22⟩⟩
    Size := ⟨⟨mk_Size, init.m.at_, init.m.fn, kp_Size⟩, cl, PySem.W.mg_of X G a_Size⟩
    ow := ⟨eqm.m.at_, eqm.m.fn, ne_Size, ob_Size, nolist_Size, notuple_Size, nodict_Size, nostr_Size, noint_Size, nobool_Size, noNoneType_Size⟩
    ot := ⟨cl, fun h => .base (.ins h cl ca_Size cn_Size ct_Size ob_Size)⟩
    nC := nC_Size
    D := C_TooFew
    TooFew___init__ := ⟨f23, _, (fun_mk (st := s_TooFew___init__) l23 c23 k23), (fun_mk (st := s_TooFew___init__) l23 c23 k23).binds (ps := ["self", "word", "asked", "size"]) fun _ _ _ _ _ _ us hl => match us, hl with | [_, _, _, _], _ => rfl, ⟨a23, i23, k23⟩⟩
    tf := ⟨PySem.F.excBase_LookupError, PySem.F.store_LookupError, ii_TooFew, ov_TooFew, hd_TooFew, sa_TooFew, ga_TooFew, ⟨_, gt_TooFew⟩, ex_TooFew, ti_TooFew, kp_TooFew, ci_TooFew, ca_TooFew, cn_TooFew, ct_TooFew, ob_TooFew⟩
    tfm := PySem.W.mg_of X G a_TooFew
    tfs := PySem.W.exm_ref ex_TooFew hd_TooFew ti_TooFew sf_TooFew
    nW := nW_TooFew
    nA := nA_TooFew
    nS := nS_TooFew
    bE := ⟨by decide +kernel, by kernel_rfl, by decide +kernel, fiL, by decide +kernel⟩
    cEmpty := C_Empty
    cNoAxis := C_NoAxis
    cNoCell := C_NoCell
    cNoName := C_NoName
    cNoText := C_NoText
    mEmpty := PySem.W.mg_of X G a_Empty
    mNoAxis := PySem.W.mg_of X G a_NoAxis
    mNoCell := PySem.W.mg_of X G a_NoCell
    mNoName := PySem.W.mg_of X G a_NoName
    mNoText := PySem.W.mg_of X G a_NoText
    isO := isO_TooFew
    isL := isL_TooFew
    _law_feed := ⟨f1, _, (fun_mk (st := s__law_feed) l1 c1 k1), (fun_mk (st := s__law_feed) l1 c1 k1).binds (ps := ["_law_script"]) fun _ _ _ _ _ _ us hl => match us, hl with | [_], _ => rfl, PySem.W.mg_of X G a1⟩
    _law_draw := ⟨f2, _, (fun_mk (st := s__law_draw) l2 c2 k2), (fun_mk (st := s__law_draw) l2 c2 k2).binds (ps := ["_law_feed_here", "_law_many"]) fun _ _ _ _ _ _ us hl => match us, hl with | [_, _], _ => rfl, PySem.W.mg_of X G a2⟩
    _law_of := ⟨f3, _, (fun_mk (st := s__law_of) l3 c3 k3), (fun_mk (st := s__law_of) l3 c3 k3).binds (ps := ["_law_feed_here", "_law_some"]) fun _ _ _ _ _ _ us hl => match us, hl with | [_, _], _ => rfl, PySem.W.mg_of X G a3⟩
    _law_terms := ⟨f4, _, (fun_mk (st := s__law_terms) l4 c4 k4), (fun_mk (st := s__law_terms) l4 c4 k4).binds (ps := ["_law_feed_here", "_law_most"]) fun _ _ _ _ _ _ us hl => match us, hl with | [_, _], _ => rfl, PySem.W.mg_of X G a4⟩
    _law_table := ⟨f5, _, (fun_mk (st := s__law_table) l5 c5 k5), (fun_mk (st := s__law_table) l5 c5 k5).binds (ps := ["_law_terms_here"]) fun _ _ _ _ _ _ us hl => match us, hl with | [_], _ => rfl, PySem.W.mg_of X G a5⟩
    _law_text := ⟨f6, _, (fun_mk (st := s__law_text) l6 c6 k6), (fun_mk (st := s__law_text) l6 c6 k6).binds (ps := ["_law_table_here"]) fun _ _ _ _ _ _ us hl => match us, hl with | [_], _ => rfl, PySem.W.mg_of X G a6⟩
    _law_sum := ⟨f7, _, (fun_mk (st := s__law_sum) l7 c7 k7), (fun_mk (st := s__law_sum) l7 c7 k7).binds (ps := ["_law_one", "_law_more_size"]) fun _ _ _ _ _ _ us hl => match us, hl with | [_, _], _ => rfl, PySem.W.mg_of X G a7⟩
    _law_product := ⟨f8, _, (fun_mk (st := s__law_product) l8 c8 k8), (fun_mk (st := s__law_product) l8 c8 k8).binds (ps := ["_law_one", "_law_more_size"]) fun _ _ _ _ _ _ us hl => match us, hl with | [_, _], _ => rfl, PySem.W.mg_of X G a8⟩
    _law_worth := ⟨f9, _, (fun_mk (st := s__law_worth) l9 c9 k9), (fun_mk (st := s__law_worth) l9 c9 k9).binds (ps := ["_law_table_here", "_law_here"]) fun _ _ _ _ _ _ us hl => match us, hl with | [_, _], _ => rfl, PySem.W.mg_of X G a9⟩
    _law_number := ⟨f10, _, (fun_mk (st := s__law_number) l10 c10 k10), (fun_mk (st := s__law_number) l10 c10 k10).binds (ps := ["_law_feed_here"]) fun _ _ _ _ _ _ us hl => match us, hl with | [_], _ => rfl, PySem.W.mg_of X G a10⟩
    _law_less := ⟨f11, _, (fun_mk (st := s__law_less) l11 c11 k11), (fun_mk (st := s__law_less) l11 c11 k11).binds (ps := ["_law_size", "_law_many"]) fun _ _ _ _ _ _ us hl => match us, hl with | [_, _], _ => rfl, PySem.W.mg_of X G a11⟩
    _law_less_right := ⟨f12, _, (fun_mk (st := s__law_less_right) l12 c12 k12), (fun_mk (st := s__law_less_right) l12 c12 k12).binds (ps := ["_law_feed_here", "_law_size", "_law_table_here"]) fun _ _ _ _ _ _ us hl => match us, hl with | [_, _, _], _ => rfl, PySem.W.mg_of X G a12⟩
    b_len := PySem.W.mg_none_of X G z_len
    b_list := PySem.W.mg_none_of X G z_list
    b_range := PySem.W.mg_none_of X G z_range
    b_sorted := PySem.W.mg_none_of X G z_sorted
    b_dict := PySem.W.mg_none_of X G z_dict
    b_str := PySem.W.mg_none_of X G z_str
    b_int := PySem.W.mg_none_of X G z_int
    b_isinstance := PySem.W.mg_none_of X G z_isinstance
    b_repr := PySem.W.mg_none_of X G z_repr
    b_max := PySem.W.mg_none_of X G z_max
    b_LookupError := PySem.W.mg_none_of X G z_LookupError
    b_KeyError := PySem.W.mg_none_of X G z_KeyError
    b_IndexError := PySem.W.mg_none_of X G z_IndexError
    b_ValueError := PySem.W.mg_none_of X G z_ValueError
    kc := kit_yes ci_Size ti_Size }
  exact ⟨PySem.W.fnOf "law" "law" (defArgs s_law) (defBody s_law) (defScope s_law) .none kV13 dc13 pm13 an13 cd13 ct13, fun s v => .of_eq rfl, fun base _ _ => ok_law T (fun_mk (st := s_law) l13 c13 k13)⟩
theorem walk {l : PySem.W.OpenLaw} {q : Program} {loose : List Str} {XP : (Str → Option Value) → Heap → Prop} {YP : World → Heap → Prop} {d : DefRec} {K : Params → PySem.W.Frag} (hn : l.most = some 63) (hdf : d.params.defaults = [])
    (hY : ∀ (w : World) (h : Heap), YP w h → (K w.params).In h)
    (F : ∀ (w : World) (mg : Str → Option Value) (fa : Addr) (h : Heap), (K w.params).In h → h.Ns mainGlobals mg → mg d.name = some (.ref fa) →
      ∃ fd : FuncData, (∀ (s : Shared) (u : Value), BindsTo s fd ⟨[u], []⟩ [("_law_script", u)]) ∧ ∀ base : Heap, (K w.params).In base → base.Ns mainGlobals mg → FnG l.prog w (K w.params) mg base CX0 6 fa fd ["_law_script"] (spLaw (K w.params))) :
    PySem.W.WalkO q loose XP YP l.row.toRowW d [] (fun f vs => PySem.call f vs) :=
  endG (n := 63) (k := 6) (x := "_law_script") (sp := fun w => spLaw (K w.params)) hn (by decide) hdf ⟨rfl, by decide, by decide⟩ hY F fun w H a ns hl _ hS => ⟨a, ns, rfl, hS, fun _ => rfl⟩
end Cr
open PySem PySem.W PyProof.Rows in
set_option maxRecDepth 100000 in
set_option maxHeartbeats 0 in
theorem PySem.Challenge.cw_cellranks_k24_sizes_put_together_holds : PySem.Challenge.rw_cellranks_k24_sizes_put_together.Holds := by
  w_on; o_law; k_head; (case hw => w_witness2)
  k_fill
  refine Cr.walk (l := PySem.Challenge.rw_cellranks_k24_sizes_put_together) rfl rfl (fun w h Y => PySem.W.kIn_of Y) ?F
  case F =>
    intro w mg fa h KX G hmg
    refine' Cr.all_mk KX G hmg ?a0 ?l0 ?c0 ?k0 ?a1 ?l1 ?c1 ?k1 ?a2 ?l2 ?c2 ?k2 ?a3 ?l3 ?c3 ?k3 ?a4 ?l4 ?c4 ?k4 ?a5 ?l5 ?c5 ?k5 ?a6 ?l6 ?c6 ?k6 ?a7 ?l7 ?c7 ?k7 ?a8 ?l8 ?c8 ?k8 ?a9 ?l9 ?c9 ?k9 ?a10 ?l10 ?c10 ?k10 ?a11 ?l11 ?c11 ?k11 ?a12 ?l12 ?c12 ?k12 ?a13 ?l13 ?c13 ?k13 ?a_Empty ?a_NoAxis ?a_NoCell ?a_NoName ?a_NoText ?a_Size ?a14 ?i14 ?l14 ?c14 ?k14 ?a15 ?i15 ?l15 ?c15 ?k15 ?a16 ?i16 ?l16 ?c16 ?k16 ?a17 ?i17 ?l17 ?c17 ?k17 ?a18 ?i18 ?l18 ?c18 ?k18 ?a19 ?i19 ?l19 ?c19 ?k19 ?a20 ?i20 ?l20 ?c20 ?k20 ?a21 ?i21 ?l21 ?c21 ?k21 ?a22 ?i22 ?l22 ?c22 ?k22 ?pg_Size ?hd_Size ?po_Size ?sa_Size ?mk_Size ?kp_Size ?ne_Size ?ob_Size ?nolist_Size ?notuple_Size ?nodict_Size ?nostr_Size ?noint_Size ?nobool_Size ?noNoneType_Size ?ca_Size ?cn_Size ?ct_Size ?ci_Size ?ti_Size ?nC_Size ?a_TooFew ?a23 ?i23 ?l23 ?c23 ?k23 ?ii_TooFew ?ov_TooFew ?hd_TooFew ?sa_TooFew ?ga_TooFew ?gt_TooFew ?ex_TooFew ?kp_TooFew ?ob_TooFew ?sf_TooFew ?isL_TooFew ?isO_TooFew ?nW_TooFew ?nA_TooFew ?nS_TooFew ?ca_TooFew ?cn_TooFew ?ct_TooFew ?ci_TooFew ?ti_TooFew ?z_len ?z_list ?z_range ?z_sorted ?z_dict ?z_str ?z_int ?z_isinstance ?z_repr ?z_max ?z_LookupError ?z_KeyError ?z_IndexError ?z_ValueError ?fiL
    (case a0 => k_is)
    (case l0 => k_is)
    (case c0 => k_is)
    (case k0 => k_is)
    (case a1 => k_is)
    (case l1 => k_is)
    (case c1 => k_is)
    (case k1 => k_is)
    (case a2 => k_is)
    (case l2 => k_is)
    (case c2 => k_is)
    (case k2 => k_is)
    (case a3 => k_is)
    (case l3 => k_is)
    (case c3 => k_is)
    (case k3 => k_is)
    (case a4 => k_is)
    (case l4 => k_is)
    (case c4 => k_is)
    (case k4 => k_is)
    (case a5 => k_is)
    (case l5 => k_is)
    (case c5 => k_is)
    (case k5 => k_is)
    (case a6 => k_is)
    (case l6 => k_is)
    (case c6 => k_is)
    (case k6 => k_is)
    (case a7 => k_is)
    (case l7 => k_is)
    (case c7 => k_is)
    (case k7 => k_is)
    (case a8 => k_is)
    (case l8 => k_is)
    (case c8 => k_is)
    (case k8 => k_is)
    (case a9 => k_is)
    (case l9 => k_is)
    (case c9 => k_is)
    (case k9 => k_is)
    (case a10 => k_is)
    (case l10 => k_is)
    (case c10 => k_is)
    (case k10 => k_is)
    (case a11 => k_is)
    (case l11 => k_is)
    (case c11 => k_is)
    (case k11 => k_is)
    (case a12 => k_is)
    (case l12 => k_is)
    (case c12 => k_is)
    (case k12 => k_is)
    (case a13 => k_is)
    (case l13 => k_is)
    (case c13 => k_is)
    (case k13 => k_is)
    (case a_Empty => k_is)
    (case a_NoAxis => k_is)
    (case a_NoCell => k_is)
    (case a_NoName => k_is)
    (case a_NoText => k_is)
    (case a_Size => k_is)
    (case a14 => k_is)
    (case i14 => k_is)
    (case l14 => k_is)
    (case c14 => k_is)
    (case k14 => k_is)
    (case a15 => k_is)
    (case i15 => k_is)
    (case l15 => k_is)
    (case c15 => k_is)
    (case k15 => k_is)
    (case a16 => k_is)
    (case i16 => k_is)
    (case l16 => k_is)
    (case c16 => k_is)
    (case k16 => k_is)
    (case a17 => k_is)
    (case i17 => k_is)
    (case l17 => k_is)
    (case c17 => k_is)
    (case k17 => k_is)
    (case a18 => k_is)
    (case i18 => k_is)
    (case l18 => k_is)
    (case c18 => k_is)
    (case k18 => k_is)
    (case a19 => k_is)
    (case i19 => k_is)
    (case l19 => k_is)
    (case c19 => k_is)
    (case k19 => k_is)
    (case a20 => k_is)
    (case i20 => k_is)
    (case l20 => k_is)
    (case c20 => k_is)
    (case k20 => k_is)
    (case a21 => k_is)
    (case i21 => k_is)
    (case l21 => k_is)
    (case c21 => k_is)
    (case k21 => k_is)
    (case a22 => k_is)
    (case i22 => k_is)
    (case l22 => k_is)
    (case c22 => k_is)
    (case k22 => k_is)
    (case pg_Size => k_is)
    (case hd_Size => k_is)
    (case po_Size => k_is)
    (case sa_Size => k_is)
    (case mk_Size => k_is)
    (case kp_Size => k_is)
    (case ne_Size => k_is)
    (case ob_Size => k_is)
    (case nolist_Size => k_is)
    (case notuple_Size => k_is)
    (case nodict_Size => k_is)
    (case nostr_Size => k_is)
    (case noint_Size => k_is)
    (case nobool_Size => k_is)
    (case noNoneType_Size => k_is)
    (case ca_Size => k_is)
    (case cn_Size => k_is)
    (case ct_Size => k_is)
    (case ci_Size => k_is)
    (case ti_Size => k_is)
    (case nC_Size => k_is)
    (case a_TooFew => k_is)
    (case a23 => k_is)
    (case i23 => k_is)
    (case l23 => k_is)
    (case c23 => k_is)
    (case k23 => k_is)
    (case ii_TooFew => kx_is)
    (case ov_TooFew => kx_is)
    (case hd_TooFew => k_is)
    (case sa_TooFew => k_is)
    (case ga_TooFew => k_is)
    (case gt_TooFew => k_is)
    (case ex_TooFew => k_is)
    (case kp_TooFew => k_is)
    (case ob_TooFew => k_is)
    (case sf_TooFew => k_is)
    (case isL_TooFew => kit_is)
    (case isO_TooFew => kit_is)
    (case nW_TooFew => k_is)
    (case nA_TooFew => k_is)
    (case nS_TooFew => k_is)
    (case ca_TooFew => k_is)
    (case cn_TooFew => k_is)
    (case ct_TooFew => k_is)
    (case ci_TooFew => k_is)
    (case ti_TooFew => k_is)
    (case z_len => k_is)
    (case z_list => k_is)
    (case z_range => k_is)
    (case z_sorted => k_is)
    (case z_dict => k_is)
    (case z_str => k_is)
    (case z_int => k_is)
    (case z_isinstance => k_is)
    (case z_repr => k_is)
    (case z_max => k_is)
    (case z_LookupError => k_is)
    (case z_KeyError => k_is)
    (case z_IndexError => k_is)
    (case z_ValueError => k_is)
    (case fiL => k_is)
