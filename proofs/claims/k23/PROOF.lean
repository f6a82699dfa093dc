import PyProof.Rows.All
import Wide.All
import OpenK.AllK
import Wide.FinOn
import HandS.ForMost
import HandS.Flow
import HandS.Style
import HandS.MakeKwOnly
import HandS.DictComp
import HandS.FStr
import HandS.IsInst
import HandS.OwnEq
import HandS.RaiseMore
import HandS.EndBits
import HandS.Evl
import PyProof.Rows.StrRev
import PyProof.ReprRoads
import PyProof.CollectStr
import PySem.Challenge.RW_cellranks_k23_sizes_in_letters
set_option Elab.async false
set_option linter.all false
set_option maxRecDepth 100000
set_option maxHeartbeats 4000000
/-! Cr0: what every law here uses: defs by place, the ghost part of the heap. -/
namespace Cr
open PySem L2

structure FnAt (K : PySem.W.Frag) (mg : Str → Option Value) (x qual : Str) (st : Stmt) (ps : List Str) where
  f : Addr
  fd : FuncData
  F : Fun K x qual st f fd
  b : Binds K fd ps []
  mg : mg x = some (.ref f)
structure MtAt (K : PySem.W.Frag) (C : Addr) (x qual : Str) (st : Stmt) (ps : List Str) where
  f : Addr
  fd : FuncData
  F : Fun K x qual st f fd
  b : Binds K fd ps []
  m : Meth K C x f
structure ClAt (K : PySem.W.Frag) (mg : Str → Option Value) (x : Str) (C fI : Addr) : Prop where
  mkk : Mk K C fI
  cl : Cls K C
  mg : mg x = some (.ref C)

/-! ### the ghost part: G stands in H -/
theorem Same.new {G H : Hp} {p : Addr} {o : HO} (s : Same G H) (h : H p = none) : Same G (upd H p o) := fun a u e => by
  rw [upd_ne (ne_of_none (s a u e) h)]
  exact s a u e
theorem Same.put {G H : Hp} {p : Addr} {o : HO} (s : Same G H) (h : G p = none) : Same G (upd H p o) := fun a u e => by
  rw [upd_ne (ne_of_none e h)]
  exact s a u e
theorem Same.add {G H : Hp} {p : Addr} {o : HO} (s : Same G H) (h : H p = some o) : Same (upd G p o) H := fun a u e => by
  by_cases q : a = p
  · subst q
    rw [upd_same] at e
    cases e
    exact h
  · rw [upd_ne q] at e
    exact s a u e
theorem Same.two {G H : Hp} {p : Addr} {o : HO} (s : Same G H) : Same (upd G p o) (upd H p o) := fun a u e => by
  by_cases q : a = p
  · subst q
    rw [upd_same] at e ⊢
    exact e
  · rw [upd_ne q] at e ⊢
    exact s a u e
theorem same_up {G : Hp} {p : Addr} {o : HO} (h : G p = none) : Same G (upd G p o) := fun a u e => by
  rw [upd_ne (ne_of_none e h)]
  exact e
theorem Same.lst {G H : Hp} {a : Addr} {u : HO} (s : Same G H) (h : Rd G a u) : Rd H a u := by
  rcases h with h | ⟨o, h⟩
  · exact .inl (s _ _ h)
  · exact .inr ⟨o, s _ _ h⟩
theorem Same.sqL {K : PySem.W.Frag} {G H : Hp} {a : Addr} {xs : List V} (s : Same G H) (h : SqL K G a xs) : SqL K H a xs := s.seq h
theorem Same.sqT {K : PySem.W.Frag} {G H : Hp} {a : Addr} {xs : List V} (s : Same G H) (h : SqT K G a xs) : SqT K H a xs := by
  rcases h with h | h
  · exact .inl (Same.lst s h)
  · exact .inr h
theorem pss_cut {X : Cx} {st : Stmt} {rest : List Stmt} {t u : TS} (h1 : PS X st t) (h2 : PSs X rest u) : PSs X (st :: rest) (Evl.tCut t u) := Evl.pss_cut h1 h2
theorem dpInts {K : PySem.W.Frag} {H : Hp} : ∀ ns : List Int, DpAll K H (ns.map V.int) (ns.map PyData.int)
  | [] => .nil
  | n :: r => .cons (.int n) (dpInts r)
theorem canInts : ∀ ns : List Int, PyData.canLayAll0 (ns.map PyData.int) = true
  | [] => rfl
  | n :: r => by simp [PyData.canLayAll0, PyData.canLay0, canInts r]
theorem depInts : ∀ ns : List Int, PyData.depthAll (ns.map PyData.int) ≤ 1
  | [] => by simp [PyData.depthAll]
  | n :: r => by have := depInts r; simp [PyData.depthAll, PyData.depth]; omega
theorem shInts (ns : List Int) : SeqAt.shaped (.list (ns.map PyData.int)) = true := by
  have h1 := canInts ns
  have h2 := depInts ns
  unfold SeqAt.shaped
  rw [show PyData.canLay0 (.list (ns.map PyData.int)) = true by rw [PyData.canLay0]; exact h1]
  simp [PyData.depth]
  omega
theorem fmod_rng (x : Int) {n : Int} (h : 0 < n) : 0 ≤ x.fmod n ∧ x.fmod n < n := ⟨Int.fmod_nonneg_of_pos _ h, Int.fmod_lt_of_pos _ h⟩
theorem ofL {K : PySem.W.Frag} {H : Hp} {a : Addr} {xs : List V} (h : H a = some (.lst xs)) : SqL K H a xs := .inl (.inl h)
theorem ofT {K : PySem.W.Frag} {H : Hp} {a : Addr} {xs : List V} (h : H a = some (.tup xs)) : SqT K H a xs := .inl (.inl h)
end Cr

/-! Cr1: rules that the layer lacks. -/
namespace Cr
open PySem PySem.Spec PyProof.Rows L2

/-! ### s[::-1] -/
def revS (z : Str) : Str := ⟨z.cps.toList.reverse.toArray⟩
theorem revS_length (z : Str) : (revS z).length = z.length := by simp [revS, Str.length]
def tRevS (te : TE) : TE := fun σ H Q => te σ H fun x H1 => ∃ z : Str, x = .str z ∧ z.length ≤ sizeLine ∧ Q (.str (revS z)) H1
theorem rev_picked (z : Str) : ((Builtin.Str.strSliceIndices none none (-1) z.length).filterMap (z.cps[·]?)).toArray = z.cps.toList.reverse.toArray := by
  rw [picked_rev]
  have e : z.length = z.cps.size := rfl
  rw [e, PySem.W.krv_range, List.filterMap_reverse, PySem.W.krv_all]
theorem pe_revS {X : Cx} {e : Expr} {te : TE} {k : Nat} {p1 p2 p3 pos : Pos} (he : PE X e te) : PE X (.Subscript e (.Slice none none (some (.UnaryOp .USub (.Constant (.int 1) k p1) p2)) p3) pos) (tRevS te) := by
  refine ⟨fun pins s σ H Q I h => ?_⟩
  refine Subscript_ (thn (he.run pins s σ H _ I h) fun v s1 ⟨x, H1, I1, r1, q1⟩ => ?_)
  obtain ⟨z, ex, hz, q⟩ := q1
  subst ex
  obtain ⟨t, rfl⟩ := r1
  have hst : PO X (some (.UnaryOp .USub (.Constant (.int 1) k p1) p2)) (tPart (tUn (rU fun i => .int (-i)) (tC (.int 1)))) := po_some (pe_un un_neg pe_int)
  refine wpAny_Slice (thn (po_none.run pins s1 σ H1 (fun o H2 => o = none ∧ H2 = H1) I1 ⟨rfl, rfl⟩) fun vl s2 ⟨l, H2, I2, pl, el, e2⟩ => ?_)
  subst el e2
  refine thn (po_none.run pins s2 σ H2 (fun o H3 => o = none ∧ H3 = H2) I2 ⟨rfl, rfl⟩) fun vu s3 ⟨u, H3, I3, pu, eu, e3⟩ => ?_
  subst eu e3
  refine thn (hst.run pins s3 σ H3 (fun o H4 => o = some (-1) ∧ H4 = H3) I3 ⟨1, rfl, -1, rfl, rfl, rfl⟩) fun vs s4 ⟨o, H4, I4, ps, eo, e4⟩ => ?_
  subst eo e4
  have I5 : Inv X pins σ H4 { s4 with heap := s4.heap.push { cls := .type "slice", data := .fields #[vl, vu, vs] } } := I4.kept (t' := s4.toks) fun b ob q => Heap.get?_push_of_some _ q
  obtain ⟨l, rfl, hl⟩ := IsPart.raw pl
  obtain ⟨u, rfl, hu⟩ := IsPart.raw pu
  obtain ⟨st, rfl, hst'⟩ := IsPart.raw ps
  have hl0 : l.map (·.1) = none := hl
  have hu0 : u.map (·.1) = none := hu
  have hs0 : st.map (·.1) = some (-1) := hst'
  show wpAny (model X.prog X.w) X.A (subscriptTail e (.Slice none none (some (.UnaryOp .USub (.Constant (.int 1) k p1) p2)) p3) (.str z t) (.ref s4.heap.objs.size)) (EP X pins σ Q) X.xe { s4 with heap := s4.heap.push { cls := .type "slice", data := .fields #[partValue l, partValue u, partValue st] } }
  refine tail_any (ops := [.str z t, .ref s4.heap.objs.size]) (typeIs_str _ _ _) F.slot_str_getitem.lookup ?_ (by with_unfolding_all rfl)
  refine wpAny_getItem_str_slice (l := l) (u := u) (st := st) ⟨_, Heap.get?_push_size _ rfl, rfl, rfl⟩ (by rw [hs0]; rfl) ?_
  have key : Made.post (if (((st.map (·.1)).getD 1 == 1) && (Builtin.Str.strSliceIndices (l.map (·.1)) (u.map (·.1)) ((st.map (·.1)).getD 1) z.length).length == z.length) = true then Made.val (.str z t)
    else Made.str ⟨((Builtin.Str.strSliceIndices (l.map (·.1)) (u.map (·.1)) ((st.map (·.1)).getD 1) z.length).filterMap (z.cps[·]?)).toArray⟩) (EP X pins σ Q) { s4 with heap := s4.heap.push { cls := .type "slice", data := .fields #[partValue l, partValue u, partValue st] } } := by
    rw [hl0, hu0, hs0]
    rw [if_neg (by rw [show (((some (-1) : Option Int)).getD 1 == 1) = false from rfl, Bool.false_and]; exact Bool.false_ne_true)]
    show Made.post (Made.str ⟨((Builtin.Str.strSliceIndices none none (-1) z.length).filterMap (z.cps[·]?)).toArray⟩) _ _
    rw [rev_picked]
    exact ⟨by have := revS_length z; unfold revS at this; rw [this]; exact hz, .str _, H4, I5.tok _, ⟨_, rfl⟩, q⟩
  exact key

/-! ### sorted(text) -/
def signs (z : Str) : List Str := z.cps.toList.map fun c => ⟨#[c]⟩
theorem signs_len (z : Str) : (signs z).length = z.length := by simp [signs, Str.length]
theorem call_sortedT {X : Cx} (hcalm : X.calm = true) : CallR X (.builtin "sorted") (fun xs H Q => ∃ z : Str, xs = [.str z] ∧ z.length < 64 ∧
    ∀ ys p, ys.Perm (signs z) → sortedS ys = true → H p = none → Q (.ref p) (upd H p (.lst (ys.map V.str)))) := by
  intro pins s σ H xs us Q I r q
  obtain ⟨z, ex, h64, q⟩ := q
  subst ex
  obtain ⟨u, eu, rx⟩ := vals1 r
  subst eu
  obtain ⟨t, rfl⟩ := rx
  have hsz : z.cps.size ≤ sizeLine := by
    have : z.length = z.cps.size := rfl
    rw [← this, sizeLine_eq]; omega
  refine Calls.call_function_entry PyProof.Rows.kind_sorted PyProof.Rows.plain_sorted PyProof.Rows.entry_sorted (PyProof.Rows.args_sorted1 _) ?_
  unfold Builtin.«sorted»
  refine wpAny_bind (m := checkCount "sorted" 1 1 _) (wpAny_pure ?_)
  refine wpAny_bind (PySem.wpAny_collect_str (A := X.A.in1) (I.ok.hd hcalm) z t (fun s' acc hk hg hd ho hacc => ?_) hsz)
  have hal : acc.toList.length = (signs z).length := by rw [Array.length_toList, hacc.1, signs_len]; rfl
  have hS : StrsAre acc.toList (signs z) := strs_at hal fun j v e => by
    obtain ⟨c, x, e1, e2⟩ := hacc.2 j v (by rw [← Array.getElem?_toList]; exact e)
    refine ⟨⟨#[c]⟩, x, ?_, e2⟩
    unfold signs
    rw [List.getElem?_map, Array.getElem?_toList, e1]
    rfl
  obtain ⟨h', g', d', tk, os'⟩ := s'
  have e0 : os' = s.os := ho
  have e1 : g' = s.gens := hg
  have e2 : d' = s.drawn := hd
  subst e0 e1 e2
  have I1 : Inv X pins σ H ⟨h', s.gens, s.drawn, tk, s.os⟩ := I.kept hk
  refine wpAny_bind (wpAny_newList ?_ (by rw [hal, signs_len, sizeLine_eq]; omega))
  have hoL : (h'.push (seqObj "list" acc.toList.toArray 0)).get? h'.objs.size = some (seqObj "list" acc.toList.toArray 0) := Heap.get?_push_size _ rfl
  show wpAny _ _ _ _ _ ⟨h'.push (seqObj "list" acc.toList.toArray 0), s.gens, s.drawn, tk, s.os⟩
  refine wpAny_bind (wpAny_holding (wpAny_call_entry PyProof.Rows.slot_list_sort ⟨_, hoL, rfl⟩ PyProof.Rows.entry_list_sort
    (list_sort_treeK strKind_oneLt (s := ⟨h'.push (seqObj "list" acc.toList.toArray 0), s.gens, s.drawn, tk, s.os⟩) hoL hS.keysOf (fun v₁ v₂ rest e => keyKind_strs (by rw [← e]; exact hS)) (by rw [hal, signs_len]; exact h64) fun st' hp hs => ⟨_, rfl, ?_⟩)
    (PyProof.Rows.args_list_sort _)))
  obtain ⟨ys, g1, g2, g3⟩ := sorted_out_str hS hp hs
  obtain ⟨e', he'⟩ := PyProof.Rows.sortedHeap_at (vs := acc.toList) (out := (arrOf st').map (·.2)) hoL
  have hlen : (ys.map V.str).length ≤ sizeLine := by
    rw [List.length_map, g2.length_eq, signs_len]
    exact Nat.le_trans (Nat.le_of_lt h64) (by decide)
  refine wpAny_pure ⟨_, rfl, .ref h'.objs.size, upd H h'.objs.size (.lst (ys.map V.str)), I1.laid (t' := tk) (fun b u e => ?_) (Nat.le_refl _)
    (show ObjOk X.prog X.w _ _ _ (.lst (ys.map V.str)) from ⟨hlen, ((arrOf st').map (·.2)).toList, e', vals_of_strs g1, by rw [Array.toArray_toList]; exact he'⟩), rfl, q ys _ g2 g3 (I1.hok.fresh (Nat.le_refl _))⟩
  have hb : b < h'.objs.size := Heap.lt_size e
  rw [PyProof.Rows.sortedHeap_old (Nat.ne_of_lt hb) (by rw [size_push']; exact Nat.lt_succ_of_lt hb)]
  exact Heap.get?_push_of_some _ e

/-! ### repr(data), where no repr runs around -/
theorem call_reprD {X : Cx} (hg : X.A.guards = some []) (hu : X.A.units + 66 < cLine) : CallR X (.builtin "repr") (fun xs H Q => ∃ (a : Addr) (d : PyData), xs = [.ref a] ∧ Dp X.K H (.ref a) d ∧ d.showable = true ∧ d.hasDict = false ∧ d.depth ≤ 64 ∧ d.shown.length ≤ sizeLine ∧ Q (.str d.shown) H) := by
  intro pins s σ H xs us Q I r h
  obtain ⟨a, d, ex, hd, hs, hnd, hdep, hsz, q⟩ := h
  subst ex
  obtain ⟨u, eu, rx⟩ := vals1 r
  subst eu
  cases rx
  obtain ⟨as, r1⟩ := Dp.reads I d _ _ hd rfl
  refine repr_of_reads' r1 hs (fun z => by rw [hnd] at z; cases z) hg (by omega) (fun b o e => e) (fun h' u tk hk => ⟨.str d.shown, H, I.kept (t' := tk) hk, ⟨u, rfl⟩, q⟩) hsz

/-! ### defs that are only run where no repr runs around -/
structure FnG (P : Program) (w : World) (K : PySem.W.Frag) (mg : Str → Option Value) (base : Heap) (CX : CXT) (k : Nat) (f : Addr) (fd : FuncData) (ps : List Str) (sp : Sp) : Prop where
  len : ∀ vs H Q E, sp vs H Q E → vs.length = ps.length
  run : ∀ (A : Around) (outer : List Env) (s : Shared) (H : Hp) (args : Args) (us : List Value) (vs : List V) (Q : VK) (E : XK), Room k A → A.guards = some [] → Env0 P w K mg base A outer s H → BindsTo s fd args (ps.zip us) → Vals vs us → sp vs H Q E →
    codeAny (model P w) A (.call (.ref f) args) (CR CX outer P w H s Q E) s
/-- what a body's end says of the call -/
theorem CE.of {X : Cx} {σ' : L2.St} {H' : Hp} {v : V} {u : Value} {s' : Shared} {Q : VK} (J : Inv X [] σ' H' s') (h0 : X.fs = frs X.outer) (hx : X.ex = []) (rv : RelV v u) (q : Q v H') : CE X.outer X.prog X.w X.H_0 X.s_0 Q u s' := by
  have b := J.base
  rw [hx] at b
  exact ⟨v, H', J.os, J.bare, b, J.hok, rv, q⟩
theorem okG {P : Program} {w : World} {K : PySem.W.Frag} {mg : Str → Option Value} {base : Heap} {x qual : Str} {st : Stmt} {f : Addr} {fd : FuncData} {N ps : List Str} {k : Nat} {sp : Sp}
    (F : Fun K x qual st f fd) (S : FnScope N ps (defScope st)) (hlen : ∀ vs H Q E, sp vs H Q E → vs.length = ps.length)
    (body : ∀ cdv A outer s H vs Q E, Room k (A.deeper (envOfC qual (defScope st) s.heap.objs.size f cdv)) → A.guards = some [] → sp vs H Q E →
      ∃ t, PSs (cxOf CX0 P w K mg base N qual (defScope st) f cdv A outer s H E).nox (defBody st) t ∧ t ⟨fun _ H' => Q .non H', Q, fun _ _ => False, fun _ _ => False⟩ (start N vs) H) :
    FnG P w K mg base CX0 (k + 1) f fd ps sp := by
  obtain ⟨oc, od, kV, doc, pm, an, cd, ct, osl, rfl, look, hc⟩ := F.ex
  refine ⟨hlen, fun A outer s H args us vs Q E room grd env bind rel want => ?_⟩
  have keep : ∀ b o, base.get? b = some o → s.heap.get? b = some o := fun b o e => (env.bs b o e).1
  have KX := env.mod.kin.keeps keep
  have par : ∀ y ∈ ps.zip us, (defScope st).names.lookup y.1 = some .local ∨
      ((defScope st).names.lookup y.1 = some .cell ∧ ((cellsFrom (s.heap.objs.size + 1) (defScope st).names []).lookup y.1).isSome = true) := by
    rintro ⟨n, v⟩ hy
    exact (S.par n (List.of_mem_zip hy).1).imp id fun q => ⟨q, PySem.W.cellsFrom_some _ _ _ (.inl q)⟩
  refine codeAny_call_function room.depth (KX _ _ look) rfl S.co S.gen rfl (PySem.W.codeRec_of KX hc) (bind _ _ _ _ ?_)
  refine wpAny_newFunctionEnv_cells S.kind par fun e he s1 x1 => ?_
  subst he
  obtain ⟨t, d, q⟩ := body cd A outer s H vs Q E (room.deeper _) grd want
  refine ⟨(env.mod.nolimit.keeps keep).keeps x1.toInCall.keep, codeAny_func (wpAny_mono (d.nox.run [] s1 _ H _ (inv_start S room.hd env (hlen _ _ _ _ want) rel x1) q) (fun fl s' hs => ?_) fun _ _ z => z)⟩
  cases fl with
  | ret u => let ⟨_, _, _, J, rv, z⟩ := hs; exact CE.of J rfl rfl rv z
  | next => let ⟨_, _, J, z⟩ := hs; exact CE.of (v := V.non) J rfl rfl rfl z
  | brk => exact hs.elim fun _ z => z.elim fun _ z => z.2.elim
  | cont => exact hs.elim fun _ z => z.elim fun _ z => z.2.elim
theorem FnG.of {P : Program} {w : World} {K : PySem.W.Frag} {mg : Str → Option Value} {base : Heap} {CX : CXT} {k : Nat} {f : Addr} {fd : FuncData} {ps : List Str} {sp : Sp} (F : FnOk P w K mg base CX k f fd ps sp) : FnG P w K mg base CX k f fd ps sp :=
  ⟨F.len, fun A outer s H args us vs Q E hr _ => F.run A outer s H args us vs Q E hr⟩

/-! ### the law's end by FnG: the script is tracked, locked, unless it is one of the written things -/
section
variable {P : Program} {w : World} {K : PySem.W.Frag} {a : Addr} {vs : List Value} {ns : List Int} {h : Heap}
def scrO (vs : List Value) : Obj := { cls := .type "list", data := .seq vs.toArray }
def scr (K : PySem.W.Frag) (a : Addr) (vs : List Value) (ns : List Int) : Hp := fun b => if b = a ∧ K.lookup a = none then some (.frz (scrO vs) (.lst (ns.map V.int))) else none
theorem scr_some {b : Addr} {u : HO} (e : scr K a vs ns b = some u) : b = a ∧ K.lookup a = none ∧ u = .frz (scrO vs) (.lst (ns.map V.int)) := by
  unfold scr at e
  split at e
  · next c => cases e; exact ⟨c.1, c.2, rfl⟩
  · cases e
theorem scr_only : Only (scr K a vs ns) := fun b => by
  cases e : scr K a vs ns b with
  | none => exact .inl rfl
  | some u => obtain ⟨_, _, rfl⟩ := scr_some e; exact .inr ⟨_, _, rfl⟩
theorem scr_ok (ha : h.get? a = some (scrO vs)) (hi : IntsAre vs ns) (hl : ns.length ≤ sizeLine) : HOk P w (scr K a vs ns) h := fun b u e => by
  obtain ⟨rfl, _, rfl⟩ := scr_some e
  exact ⟨ha, by rw [List.length_map]; exact hl, vs, _, vals_ints hi, ha⟩
theorem scr_sq (KX : K.In h) (ha : h.get? a = some (scrO vs)) (hi : IntsAre vs ns) (hl : ns.length ≤ sizeLine) : SqL K (scr K a vs ns) a (ns.map V.int) := by
  cases e : K.lookup a with
  | none => exact .inl (.inr ⟨scrO vs, if_pos ⟨rfl, e⟩⟩)
  | some o =>
    obtain rfl : scrO vs = o := Option.some.inj (ha.symm.trans (KX a o e))
    exact .inr ⟨_, vs.toArray, _, e, rfl, rfl, rfl, by rw [List.size_toArray, hi.length]; exact hl, by simpa using vals_ints hi⟩
theorem scr_dict {b : Addr} {o : Obj} {es : Array DictEntry} {ep : Nat} (ha : h.get? a = some (scrO vs)) (e : h.get? b = some o) (d : o.data = .dict es ep) : scr K a vs ns b = none := by
  cases q : scr K a vs ns b with
  | none => rfl
  | some u =>
    obtain ⟨rfl, _⟩ := scr_some q
    obtain rfl := Option.some.inj (ha.symm.trans e)
    cases d
theorem scr_free (b : Addr) (o : Obj) (e : K.lookup b = some o) : scr K a vs ns b = none := by
  cases q : scr K a vs ns b with
  | none => rfl
  | some u =>
    obtain ⟨rfl, n, _⟩ := scr_some q
    rw [n] at e
    cases e
theorem endG {l : PySem.W.OpenLaw} {n k : Nat} {q : Program} {loose : List Str} {XP : (Str → Option Value) → Heap → Prop} {YP : World → Heap → Prop} {d : DefRec} {K : Params → PySem.W.Frag} {sp : World → Sp} {x : Str}
    (hn : l.most = some n) (hn2 : n ≤ sizeLine) (hdf : d.params.defaults = []) (room : Room k callerA) (hY : ∀ w h, YP w h → (K w.params).In h)
    (F : ∀ w mg fa h, (K w.params).In h → h.Ns mainGlobals mg → mg d.name = some (.ref fa) →
      ∃ fd : FuncData, (∀ s u, BindsTo s fd ⟨[u], []⟩ [(x, u)]) ∧ ∀ base : Heap, (K w.params).In base → base.Ns mainGlobals mg → FnG l.prog w (K w.params) mg base CX0 k fa fd [x] (sp w))
    (hsp : ∀ (w : World) (H : Hp) (a : Addr) (ns : List Int), ns.length ≤ n → Only H → SqL (K w.params) H a (ns.map V.int) → sp w [.ref a] H (fun v _ => v = .bl true) fun _ _ _ => False) :
    PySem.W.WalkO q loose XP YP l.row.toRowW d [] (fun f vs => PySem.call f vs) := by
  refine Att.attach_callB hn hdf fun w s₀ s₁ mg mb fa o pm cd doc a vs ns G Y ho hd hcd hmg hobj hints hlen _ hg => ?_
  have KX := hY w _ Y
  have hl : ns.length ≤ sizeLine := Nat.le_trans hlen hn2
  obtain ⟨fd, hb, hF⟩ := F w mg fa _ KX G.T.g hmg
  have hobj : s₁.heap.get? a = some (scrO vs) := hobj
  generalize hH : scr (K w.params) a vs ns = H
  have ns' : ∀ {b : Addr} {m : Str → Option Value}, s₁.heap.Ns b m → (hidT s₁.heap H).Ns b m := fun ⟨o, es, ep, e, d, r⟩ => ⟨o, es, ep, hidT_get e (hH ▸ scr_dict hobj e d), d, r⟩
  have kin : (K w.params).In (hidT s₁.heap H) := fun b o e => hidT_get (KX b o e) (hH ▸ scr_free b o e)
  have okH : HOk l.prog w H s₁.heap := hH ▸ scr_ok hobj hints hl
  have only : Only H := hH ▸ scr_only
  have env : Env0 l.prog w (K w.params) mg (hidT s₁.heap H) callerA [] s₁ H := by
    refine ⟨rfl, ⟨kin, ns' G.T.g, ⟨mb, ns' G.T.b, G.T.builtins⟩, ?_⟩, fun b o e => of_hidT e, Nat.le_of_eq (hidT_size _ _), trivial, fun b z => (nomatch z), okH, .of_eq hg⟩
    obtain ⟨mc, h1, h2⟩ := G.T.nolimit
    exact ⟨mc, ns' h1, h2⟩
  have sq : SqL (K w.params) H a (ns.map V.int) := hH ▸ scr_sq KX hobj hints hl
  refine codeAny_mono ((hF _ kin (ns' G.T.g)).run callerA [] s₁ H ⟨[.ref a], []⟩ [.ref a] [.ref a] _ _ room rfl env (hb s₁ (.ref a)) (.cons rfl .nil) (hsp w H a ns hlen only sq)) fun r s' z => ?_
  match r, z with
  | .error _, z => exact False.elim z
  | .ok .next, z => exact False.elim z
  | .ok .brk, z => exact False.elim z
  | .ok .cont, z => exact False.elim z
  | .ok (.ret u), ⟨v, H', os, bare, un, ok', rel, qv⟩ =>
    have ev : v = .bl true := qv
    subst ev
    obtain rfl : u = Value.bool true := rel
    refine ⟨rfl, OldK.of_keep fun b o e => ?_, os, bare⟩
    rcases only b with z | ⟨ob, xs, z⟩
    · exact un.keep b o e z (fun y => nomatch y) (fun y => nomatch y)
    · have z2 := un.frzs b ob _ z
      have e1 := (okH b _ z).1
      rw [e] at e1
      cases e1
      exact (ok' b _ z2).1
end

/-- e.f, the written part named -/
theorem pe_fldK {X : Cx} (K : PySem.W.Frag) (hK : X.K = K) {e : Expr} {f : Str} {pos : Pos} {ta : TE} (he : PE X e ta) (hb : attributeBase e f X.env (eval e X.env) = eval e X.env) : PE X (.Attribute e f pos) (tFld K ta f) := by
  subst hK
  exact pe_fld he hb
end Cr

/-! Cr2: == and != where an own __eq__ answers, str() by an own __str__. -/
namespace Cr
open PySem PySem.Spec PyProof.Rows L2

/-- what the text says of a class with an own ==: f the def; ne the inherited != -/
structure OwnE (K : PySem.W.Frag) (C f : Addr) : Prop where
  eq : PySem.W.findIn K (.ref C) "__eq__" = some (some (.ref f))
  fn : PySem.W.isFn K (.ref f) = true
  ne : PySem.W.findIn K (.ref C) "__ne__" = some (some (.builtin "object.__ne__"))
  ob : PySem.W.mroIn K C (.type "object") = some true
  noL : PySem.W.mroIn K C (.type "list") = some false
  noT : PySem.W.mroIn K C (.type "tuple") = some false
  noD : PySem.W.mroIn K C (.type "dict") = some false
  noS : PySem.W.mroIn K C (.type "str") = some false
  noI : PySem.W.mroIn K C (.type "int") = some false
  noB : PySem.W.mroIn K C (.type "bool") = some false
  noN : PySem.W.mroIn K C (.type "NoneType") = some false

section
variable {prog : Program} {w : World} {A : Around} {E : Value → Shared → Prop} {s : Shared} {K : PySem.W.Frag} {x C f : Addr} {ox : Obj} {od : Option Obj}
/-- T's own == declines, then the instance's is asked -/
theorem rc_back {y : Value} {T ide : String} {Q : Value → Shared → Prop} (hu : A.units < cLine) (ty : s.TypeIs y T) (X : K.In s.heap) (J : PySem.W.InstAt s.heap x ox C od) (hsub : PySem.W.mroIn K C (.type T) = some false)
    (slot : Slot T "__eq__" ide) (hs : PySem.W.findIn K (.ref C) "__eq__" = some (some (.ref f))) (hf : PySem.W.isFn K (.ref f) = true)
    (dec : ∀ Q' : Value → Shared → Prop, Q' .notImplemented s → wpAny (model prog w) A (call (.builtin ide) [y, .ref x]) Q' E s)
    (h : wpAny (model prog w) A (call (.ref f) [.ref x, y]) (PySem.W.CmpBack Q) E s) : wpAny (model prog w) A (richCompare .Eq y (.ref x)) Q E s := by
  have two : wpAny (model prog w) A (tryCompare (.ref x) "__eq__" y) (fun r s' => ∃ v, r = some v ∧ Q v s') E s := by
    unfold tryCompare
    refine wpAny_bind (PySem.W.ifBound_K X J hs hf (wpAny_mono h (fun v s' hv => ?_) fun _ _ e => e))
    cases v <;> first | exact hv.elim | exact wpAny_pure ⟨_, rfl, hv⟩
  unfold richCompare
  rw [ty.oneThing_none]
  refine wpAny_holding (wpAny_bind (wpAny_cRoomFor hu ?_))
  refine wpAny_bind (wpAny_typeOf ty (wpAny_bind (J.type.here ?_)))
  rw [show (Value.type T != Value.ref C) = true from rfl, if_pos rfl]
  refine wpAny_bind ((PySem.W.looks_mroIn X hsub).here ?_)
  simp only [Bool.false_eq_true, if_false, Bool.not_false, if_true]
  refine wpAny_bind (m := tryCompare y _ (.ref x)) (wpAny_tryCompare_declines ty slot (dec _ ⟨rfl, ?_⟩))
  refine wpAny_bind (m := tryCompare (.ref x) _ y) (wpAny_mono two (fun r s' z => ?_) fun _ _ e => e)
  obtain ⟨v, rfl, hq⟩ := z
  exact wpAny_pure hq

/-! the built-in types' own == declines -/
theorem dec_none {Q' : Value → Shared → Prop} (h : Q' .notImplemented s) : wpAny (model prog w) A (call (.builtin "NoneType.__eq__") [.none, .ref x]) Q' E s := by
  refine GQ.call_here F.slot_NoneType_eq rfl F.entry_NoneType_eq (F.args_NoneType_eq_2 _ _) ?_
  wp_walk
  exact h
theorem dec_list {a : Addr} {Q' : Value → Shared → Prop} (ty : s.TypeIs (.ref a) "list") (X : K.In s.heap) (J : PySem.W.InstAt s.heap x ox C od) (hsub : PySem.W.mroIn K C (.type "list") = some false) (h : Q' .notImplemented s) :
    wpAny (model prog w) A (call (.builtin "list.__eq__") [.ref a, .ref x]) Q' E s := by
  refine GQ.call_here F.slot_list_eq ty F.entry_list_eq (F.args_list_eq_2 _ _) ?_
  have hi : PySem.W.Looks (model prog w) s.heap (isInstance (.ref x) (.type "list")) false := J.type.andThen (PySem.W.looks_mroIn X hsub)
  wp_walk using hi.here
  exact h
theorem dec_tuple {a : Addr} {Q' : Value → Shared → Prop} (ty : s.TypeIs (.ref a) "tuple") (X : K.In s.heap) (J : PySem.W.InstAt s.heap x ox C od) (hsub : PySem.W.mroIn K C (.type "tuple") = some false) (h : Q' .notImplemented s) :
    wpAny (model prog w) A (call (.builtin "tuple.__eq__") [.ref a, .ref x]) Q' E s := by
  refine GQ.call_here F.slot_tuple_eq ty F.entry_tuple_eq (F.args_tuple_eq_2 _ _) ?_
  have hi : PySem.W.Looks (model prog w) s.heap (isInstance (.ref x) (.type "tuple")) false := J.type.andThen (PySem.W.looks_mroIn X hsub)
  wp_walk using hi.here
  exact h
theorem dec_dict {a : Addr} {Q' : Value → Shared → Prop} (ty : s.TypeIs (.ref a) "dict") (X : K.In s.heap) (J : PySem.W.InstAt s.heap x ox C od) (hsub : PySem.W.mroIn K C (.type "dict") = some false) (h : Q' .notImplemented s) :
    wpAny (model prog w) A (call (.builtin "dict.__eq__") [.ref a, .ref x]) Q' E s := by
  refine GQ.call_here F.slot_dict_eq ty F.entry_dict_eq (F.args_dict_eq_2 _ _) ?_
  have hi : PySem.W.Looks (model prog w) s.heap (isInstance (.ref x) (.type "dict")) false := J.type.andThen (PySem.W.looks_mroIn X hsub)
  wp_walk using hi.here
  exact h
theorem dec_str {z : Str} {t : Tok} {Q' : Value → Shared → Prop} (hx : s.heap.get? x = some ox) (hp : ox.data = .plain) (h : Q' .notImplemented s) :
    wpAny (model prog w) A (call (.builtin "str.__eq__") [.str z t, .ref x]) Q' E s := by
  obtain ⟨oc, odd, dt, sl⟩ := ox
  simp only at hp
  subst hp
  refine GQ.call_here F.slot_str_eq rfl F.entry_str_eq (F.args_str_eq_2 _ _) ?_
  wp_walk
  exact h
theorem dec_int {i : Int} {t : Tok} {Q' : Value → Shared → Prop} (hx : s.heap.get? x = some ox) (hp : ox.data = .plain) (h : Q' .notImplemented s) :
    wpAny (model prog w) A (call (.builtin "int.__eq__") [.int i t, .ref x]) Q' E s := by
  obtain ⟨oc, odd, dt, sl⟩ := ox
  simp only at hp
  subst hp
  refine GQ.call_here F.slot_int_eq rfl F.entry_int_eq (F.args_int_eq_2 _ _) ?_
  wp_walk
  exact h
theorem bound_B {name : Str} {id : String} {args : List Value} {Q : Option Value → Shared → Prop} (X : K.In s.heap) (J : PySem.W.InstAt s.heap x ox C od) (hs : PySem.W.findIn K (.ref C) name = some (some (.builtin id)))
    (hb : ∀ self, bindSpecial (.builtin id) self = pure (.builtin id, [self])) (h : wpAny (model prog w) A (call (.builtin id) (.ref x :: args)) (fun v => Q (some v)) E s) : wpAny (model prog w) A (callSpecialIfBound? (.ref x) name args) Q E s := by
  have go : ∀ (T : Sem (Option (Value × List Value))), T = (do return some (← bindSpecial (.builtin id) (.ref x))) → wpAny (model prog w) A T (fun r s' => r = some (.builtin id, [.ref x]) ∧ s' = s) E s := by
    rintro T rfl
    exact wpAny_bind ((PySem.W.Looks.of_pure (hb _)).here (wpAny_pure ⟨rfl, rfl⟩))
  simp only [callSpecialIfBound?, bindSpecialIfBound?]
  refine wpAny_holding (wpAny_bind (wpAny_bind (wpAny_bind (J.type.here ((PySem.W.looks_findIn X hs).here ?_)))))
  refine wpAny_bind (wpAny_askSetting (wpAny_ite ?_))
  have fin : wpAny (model prog w) A (call (.builtin id) ([.ref x] ++ args) >>= fun v => pure (some v)) Q E s := wpAny_bind (wpAny_mono h (fun v s' z => wpAny_pure z) fun _ _ z => z)
  split
  · exact wpAny_mono (go _ rfl) (fun r s' ⟨a, b⟩ => by subst a b; exact fin) fun _ _ z => z
  · exact wpAny_tryCatch (wpAny_bind ((PySem.W.Looks.of_pure (hb _)).here (wpAny_pure (by exact fin))))
/-- x != y by the inherited !=, which asks the own == -/
theorem rc_ne {y ty : Value} {Q : Value → Shared → Prop} (hu : A.units + 1 < cLine) (X : K.In s.heap) (J : PySem.W.InstAt s.heap x ox C od) (O : OwnE K C f) (hb : PySem.W.Looks (model prog w) s.heap (typeOf y) ty) (hn : PySem.W.notFirst K C ty = true)
    (h : wpAny (model prog w) A.in1 (call (.ref f) [.ref x, y]) (fun v s' => ∃ b, v = .bool b ∧ Q (.bool (!b)) s') E s) : wpAny (model prog w) A (richCompare .NotEq (.ref x) y) Q E s := by
  have ne : ∀ Q' : Value → Shared → Prop, (∀ v s', (∃ b, v = .bool (!b) ∧ Q (.bool (!b)) s') → Q' v s') → wpAny (model prog w) A (call (.builtin "object.__ne__") [.ref x, y]) Q' E s := by
    intro Q' hQ
    refine wpAny_call (codeAny_call_builtin F.slot_object_ne.plain F.entry_object_ne (PySem.W.check_slot (i := "object.__ne__") (owner := "object") (n := "__ne__") (by decide +kernel) (by decide +kernel) (J.type.andThen (PySem.W.looks_mroIn X O.ob)) (F.args_object_ne_2 _ _) ?_))
    unfold Builtin.«object.__ne__»
    refine wpAny_bind (m := slotArgs "__ne__" 1 _) (wpAny_pure ?_)
    refine wpAny_bind (m := cRoomFor _ _) (wpAny_cRoomFor (by show A.units + 1 < cLine; exact hu) ?_)
    refine wpAny_bind (m := callSpecialIfBound? (.ref x) (Str.ofString "__eq__") _) (PySem.W.ifBound_K X J O.eq O.fn (wpAny_mono h (fun r s' hq => ?_) fun _ _ z => z))
    obtain ⟨b, rfl, hq⟩ := hq
    refine wpAny_bind (wpAny_truthy_bool (wpAny_pure ?_))
    exact hQ _ _ ⟨b, rfl, hq⟩
  have one : wpAny (model prog w) A (tryCompare (.ref x) "__ne__" y) (fun r s' => ∃ v, r = some v ∧ Q v s') E s := by
    unfold tryCompare
    refine wpAny_bind (bound_B X J O.ne F.slot_object_ne.bind (ne _ fun v s' z => ?_))
    obtain ⟨b, rfl, q⟩ := z
    exact wpAny_pure ⟨_, rfl, q⟩
  unfold richCompare
  rw [oneThing_ref]
  refine wpAny_holding (wpAny_bind (wpAny_cRoomFor (by omega) ?_))
  refine wpAny_bind (J.type.here (wpAny_bind (hb.here ?_)))
  by_cases e : ty = .ref C
  · subst e
    rw [if_neg (by simp)]
    refine wpAny_bind (wpAny_pure ?_)
    simp only [Bool.false_eq_true, if_false]
    refine wpAny_bind (wpAny_mono one (fun r s' z => ?_) fun _ _ z => z)
    obtain ⟨v, rfl, q⟩ := z
    exact wpAny_pure q
  · have e1 : PySem.W.subIn K ty (.ref C) = some false := by
      rcases Bool.or_eq_true_iff.mp hn with z | z
      · exact absurd (beq_iff_eq.mp z) e
      · exact beq_iff_eq.mp z
    rw [if_pos (by simp [bne, beq_iff_eq]; exact fun z => e z.symm)]
    refine wpAny_bind ((PySem.W.looks_subIn X e1).here ?_)
    simp only [Bool.false_eq_true, if_false]
    refine wpAny_bind (wpAny_mono one (fun r s' z => ?_) fun _ _ z => z)
    obtain ⟨v, rfl, q⟩ := z
    exact wpAny_pure q
end

/-! ### in, index: the list read anew at each turn -/
section
variable {prog : Program} {w : World} {A : Around} {R : Result → Shared → Prop} {E : Value → Shared → Prop}
def ReadsL (I : Nat → Shared → Prop) (l : Addr) (N : Nat) (T : Nat → Value → Shared → Prop) : Prop :=
  ∀ i s, I i s → ∃ (items : Array Value) (n : Nat), s.heap.get? l = some { cls := .type "list", data := .seq items n } ∧ items.size = N ∧ ∀ h : i < items.size, T i items[i] s
theorem contains_loopG (l : Addr) (x : Value) (N : Nat) (I : Nat → Shared → Prop)
    (hl : ReadsL I l N fun i y s => wpAny (model prog w) A.in1 (eqBool y x) (fun r s' => if r = true then R (.ok (.ret (.bool true))) s' else I (i + 1) s') (fun e s' => R (.error e) s') s)
    (fin : ∀ s, I N s → R (.ok (.ret (.bool false))) s) : ∀ k i : Nat, N - i = k → i ≤ N → ∀ s, I i s →
      wpAny (model prog w) A.in1 (Builtin.«list.__contains__.loop» ⟨[.ref l, x, rawInt i], []⟩) (GQ.FinOf prog w A R) (fun e s' => R (.error e) s') s := by
  intro k
  induction k with
  | zero =>
    intro i hk hi s h
    obtain ⟨items, n, hl1, hs1, _⟩ := hl _ _ h
    have ei : i = N := by omega
    have hR := fin s (ei ▸ h)
    have hnone : items[((i : Nat) : Int).toNat]? = none := by simp; omega
    obtain ⟨hp, g, d, tk, os⟩ := s
    wp_walk using AutoSeq1.wpAny_loadPart' hl1
    rw [hnone]
    wp_walk
    exact hR
  | succ k ih =>
    intro i hk hi s h
    obtain ⟨items, n, hl1, hs1, turn⟩ := hl _ _ h
    have hlt : i < items.size := by omega
    have ht := turn hlt
    have hsome : items[((i : Nat) : Int).toNat]? = some items[i] := by simp [hlt]
    have hc : ((i : Int) + 1) = ((i + 1 : Nat) : Int) := by omega
    obtain ⟨hp, g, d, tk, os⟩ := s
    wp_walk using AutoSeq1.wpAny_loadPart' hl1
    rw [hsome]
    refine wpAny_bind (wpAny_mono ht (fun r s2 h2 => ?_) fun _ _ z => z)
    cases r with
    | true =>
      rw [if_pos rfl] at h2 ⊢
      exact wpAny_pure h2
    | false =>
      rw [if_neg Bool.false_ne_true] at h2 ⊢
      have hrec := ih (i + 1) (by omega) (by omega) s2 h2
      rw [hc]
      refine wpAny_pure ⟨plainId_quiet MeetsSeq.plain_contains_loop _, codeAny_builtin MeetsSeq.entry_contains_loop (by
        rw [Around.under_plainId MeetsSeq.plain_contains_loop _]
        exact hrec)⟩
theorem index_loopG (l : Addr) (x : Value) (N : Nat) (upto : Int) (hN : (N : Int) < upto) (I : Nat → Shared → Prop)
    (hl : ReadsL I l N fun i y s => wpAny (model prog w) A.in1 (eqBool y x) (fun r s' => if r = true then (∀ t k, R (.ok (.ret (.int i t))) { s' with toks := k }) else I (i + 1) s') (fun e s' => R (.error e) s') s)
    (fin : ∀ s, I N s → False) : ∀ k i : Nat, N - i = k → i ≤ N → ∀ s, I i s →
      wpAny (model prog w) A.in1 (Builtin.«list.index.loop» ⟨[.ref l, x, rawInt i, rawInt upto], []⟩) (GQ.FinOf prog w A R) (fun e s' => R (.error e) s') s := by
  intro k
  induction k with
  | zero =>
    intro i hk hi s h
    have ei : i = N := by omega
    exact (fin s (ei ▸ h)).elim
  | succ k ih =>
    intro i hk hi s h
    obtain ⟨items, n, hl1, hs1, turn⟩ := hl _ _ h
    have hlt : i < items.size := by omega
    have ht := turn hlt
    have hsome : (if (i : Int) < upto then items[((i : Nat) : Int).toNat]? else none) = some items[i] := by
      rw [if_pos (by omega)]
      simp [hlt]
    have hc : ((i : Int) + 1) = ((i + 1 : Nat) : Int) := by omega
    obtain ⟨hp, g, d, tk, os⟩ := s
    wp_walk using AutoSeq1.wpAny_loadPart' hl1
    rw [hsome]
    refine wpAny_bind (wpAny_mono ht (fun r s2 h2 => ?_) fun _ _ z => z)
    cases r with
    | true =>
      rw [if_pos rfl] at h2 ⊢
      obtain ⟨hp2, g2, d2, tk2, os2⟩ := s2
      wp_walk
      exact h2 _ _
    | false =>
      rw [if_neg Bool.false_ne_true] at h2 ⊢
      have hrec := ih (i + 1) (by omega) (by omega) s2 h2
      rw [hc]
      refine wpAny_pure ⟨plainId_quiet MeetsSeq.plain_index_loop _, codeAny_builtin MeetsSeq.entry_index_loop (by
        rw [Around.under_plainId MeetsSeq.plain_index_loop _]
        exact hrec)⟩
end

/-! ### over the layer -/
section
variable {X : Cx} {CX : CXT} {k : Nat} {f C : Addr} {fd : FuncData} {ps : List Str} {sp : Sp}
theorem run_at {A : Around} {E : XK} {pins : List (Addr × Obj)} {σ : L2.St} {H : Hp} {s : Shared} {Q : VK} {us : List Value} {vs : List V} (F : FnOk X.prog X.w X.K X.mg X.base CX k f fd ps sp) (room : Room k A) (fr : A.frames = X.A.frames)
    (hb : Binds X.K fd ps []) (hx : Passes CX X E) (I : Inv X pins σ H s) (r : Vals vs us) (h : sp vs H Q E) : wpAny (model X.prog X.w) A (call (.ref f) us) (EP X pins σ Q) X.xe s := by
  have hl : us.length = ps.length := r.length.symm.trans (F.len _ _ _ _ h)
  have e := I.env0
  have b := hb s us I.kIn (by rw [List.append_nil]; exact hl)
  rw [List.append_nil] at b
  refine wpAny_call (codeAny_mono (F.run A X.stack s H ⟨us, []⟩ us vs Q E room ⟨fr.trans e.frames, e.mod, e.bs, e.bsz, e.funs, e.frf, e.hok, e.bare⟩ b r h) fun r s' q => ?_)
  match r, q with
  | .error e, q => exact hx pins σ H s e s' I q
  | .ok (.ret u), q => exact I.after q
/-- an own == answers b, and K of it -/
def OwnB (K : Bool → Hp → Prop) : VK := fun v H' => ∃ r, v = .bl r ∧ K r H'
theorem inst_at {pins : List (Addr × Obj)} {σ : L2.St} {H : Hp} {s : Shared} {a dx : Addr} {fs : List (Str × V)} (I : Inv X pins σ H s) (h : H a = some (.ins C dx fs)) :
    ∃ od, PySem.W.InstAt s.heap a (PySem.W.instObj C dx) C od := by
  obtain ⟨mA, J, _⟩ := ins_get I.hok h
  obtain ⟨od, J, _⟩ := J.look
  exact ⟨od, J⟩
theorem eq_run {A : Around} {pins : List (Addr × Obj)} {σ : L2.St} {H : Hp} {s : Shared} {a dx : Addr} {fs : List (Str × V)} {y : V} {u t : Value} {K : Bool → Hp → Prop} (O : OwnE X.K C f) (F : FnOk X.prog X.w X.K X.mg X.base CX0 k f fd ps sp)
    (hb : Binds X.K fd ps []) (room : Room k A) (fr : A.frames = X.A.frames) (I : Inv X pins σ H s) (ha : H a = some (.ins C dx fs)) (ry : RelV y u) (ty : TyX X.K H y t) (hn : PySem.W.notFirst X.K C t = true) (h : sp [.ref a, y] H (OwnB K) E0) :
    wpAny (model X.prog X.w) A (richCompare .Eq (.ref a) u) (fun v s' => ∃ b H', v = .bool b ∧ Inv X pins σ H' s' ∧ K b H') X.xe s := by
  obtain ⟨od, J⟩ := inst_at I ha
  obtain ⟨P, Z, p, _⟩ := kit_of I ry ty
  obtain ⟨m, hF⟩ := I.fr
  refine PySem.W.cmp_K (op := .Eq) room.units0 hF I.ok.mod.kin J (Z.ty _ _ I.kIn p) hn O.eq O.fn ?_
  refine wpAny_mono (run_at F room fr hb pass0 I (vs := [.ref a, y]) (us := [.ref a, u]) (.cons rfl (.cons ry .nil)) h) (fun v s' z => ?_) fun _ _ z => z
  obtain ⟨w, H', I', rw', b, rfl, q⟩ := z
  obtain rfl : v = .bool b := rw'
  exact ⟨b, H', rfl, I', q⟩
/-- x == y, x an instance of the class with an own == -/
theorem op_eqO (O : OwnE X.K C f) (F : FnOk X.prog X.w X.K X.mg X.base CX0 k f fd ps sp) (hb : Binds X.K fd ps []) (room : Room k X.A) :
    OpR X (compareOp .Eq) (fun x y H Q => ∃ a dx fs t, x = .ref a ∧ H a = some (.ins C dx fs) ∧ TyX X.K H y t ∧ PySem.W.notFirst X.K C t = true ∧ sp [.ref a, y] H (OwnB fun r H' => Q (.bl r) H') E0) := by
  intro pins s σ H x y v u Q I rx ry h
  obtain ⟨a, dx, fs, t, rfl, ha, ty, hn, h⟩ := h
  cases rx
  show wpAny _ _ (richCompare .Eq (.ref a) u) _ _ _
  refine wpAny_mono (eq_run O F hb room rfl I ha ry ty hn h) (fun v s' z => ?_) fun _ _ z => z
  obtain ⟨b, H', rfl, I', q⟩ := z
  exact ⟨.bl b, H', I', rfl, q⟩
theorem op_neO (O : OwnE X.K C f) (F : FnOk X.prog X.w X.K X.mg X.base CX0 k f fd ps sp) (hb : Binds X.K fd ps []) (room : Room (k + 1) X.A) :
    OpR X (compareOp .NotEq) (fun x y H Q => ∃ a dx fs t, x = .ref a ∧ H a = some (.ins C dx fs) ∧ TyX X.K H y t ∧ PySem.W.notFirst X.K C t = true ∧ sp [.ref a, y] H (OwnB fun r H' => Q (.bl (!r)) H') E0) := by
  intro pins s σ H x y v u Q I rx ry h
  obtain ⟨a, dx, fs, t, rfl, ha, ty, hn, h⟩ := h
  cases rx
  show wpAny _ _ (richCompare .NotEq (.ref a) u) _ _ _
  obtain ⟨od, J⟩ := inst_at I ha
  obtain ⟨P, Z, p, _⟩ := kit_of I ry ty
  refine rc_ne (by have := room.un; omega) I.kIn J O (Z.ty _ _ I.kIn p) hn (wpAny_mono (run_at F room.in1 rfl hb pass0 I (vs := [.ref a, y]) (us := [.ref a, u]) (.cons rfl (.cons ry .nil)) h) (fun v s' z => ?_) fun _ _ z => z)
  obtain ⟨w, H', I', rw', b, rfl, q⟩ := z
  obtain rfl : v = .bool b := rw'
  exact ⟨b, rfl, .bl (!b), H', I', rfl, q⟩
/-- what stands left of == : its own == declines -/
inductive Bk (K : PySem.W.Frag) (H : Hp) : V → Prop where
  | non : Bk K H .non
  | int (i : Int) : Bk K H (.int i)
  | str (z : Str) : Bk K H (.str z)
  | lst {a : Addr} {xs : List V} (h : SqL K H a xs) : Bk K H (.ref a)
  | tup {a : Addr} {xs : List V} (h : SqT K H a xs) : Bk K H (.ref a)
  | dK {a : Addr} {kvs : List (Key × V)} (h : H a = some (.dK kvs)) : Bk K H (.ref a)
theorem op_eqB (O : OwnE X.K C f) (F : FnOk X.prog X.w X.K X.mg X.base CX0 k f fd ps sp) (hb : Binds X.K fd ps []) (room : Room k X.A) :
    OpR X (compareOp .Eq) (fun x y H Q => ∃ a dx fs, y = .ref a ∧ H a = some (.ins C dx fs) ∧ Bk X.K H x ∧ sp [.ref a, x] H (OwnB fun r H' => Q (.bl r) H') E0) := by
  intro pins s σ H x y v u Q I rx ry h
  obtain ⟨a, dx, fs, rfl, ha, bk, h⟩ := h
  cases ry
  show wpAny _ _ (richCompare .Eq v (.ref a)) _ _ _
  obtain ⟨od, J⟩ := inst_at I ha
  have go : wpAny (model X.prog X.w) X.A (call (.ref f) [.ref a, v]) (PySem.W.CmpBack (EP X pins σ Q)) X.xe s := by
    refine wpAny_mono (run_at F room rfl hb pass0 I (vs := [.ref a, x]) (us := [.ref a, v]) (.cons rfl (.cons rx .nil)) h) (fun v s' z => ?_) fun _ _ z => z
    obtain ⟨w, H', I', rw', b, rfl, q⟩ := z
    obtain rfl : v = .bool b := rw'
    exact ⟨.bl b, H', I', rfl, q⟩
  have kin := I.kIn
  have hu := room.units0
  cases bk with
  | non =>
    cases rx
    exact rc_back hu rfl kin J O.noN PySem.F.slot_NoneType_eq O.eq O.fn (fun Q' q => dec_none q) go
  | int i =>
    obtain ⟨t, rfl⟩ := rx
    exact rc_back hu rfl kin J O.noI PySem.F.slot_int_eq O.eq O.fn (fun Q' q => dec_int J.at_ rfl q) go
  | str z =>
    obtain ⟨t, rfl⟩ := rx
    exact rc_back hu rfl kin J O.noS PySem.F.slot_str_eq O.eq O.fn (fun Q' q => dec_str J.at_ rfl q) go
  | lst hs =>
    cases rx
    obtain ⟨its, r, pl, hz⟩ := I.list hs
    exact rc_back hu pl.isList.typeIs kin J O.noL PySem.F.slot_list_eq O.eq O.fn (fun Q' q => dec_list pl.isList.typeIs kin J O.noL q) go
  | tup hs =>
    cases rx
    obtain ⟨its, r, ⟨o, ho, hc, _⟩, hz⟩ := I.tuple hs
    have ty : s.TypeIs (.ref _) "tuple" := ⟨o, ho, hc⟩
    exact rc_back hu ty kin J O.noT PySem.F.slot_tuple_eq O.eq O.fn (fun Q' q => dec_tuple ty kin J O.noT q) go
  | dK hd =>
    cases rx
    obtain ⟨_, _, vs, _, dd⟩ := dk_of I.hok hd
    exact rc_back hu dd.typeIs kin J O.noD PySem.F.slot_dict_eq O.eq O.fn (fun Q' q => dec_dict dd.typeIs kin J O.noD q) go

/-- == inside a list, of two instances -/
def eqW (sp : Sp) (C : Addr) (z x : V) (H : Hp) (K : Bool → Hp → Prop) : Prop :=
  ∃ a b dx dy fs gs, z = .ref a ∧ x = .ref b ∧ H a = some (.ins C dx fs) ∧ H b = some (.ins C dy gs) ∧ (a = b → K true H) ∧ (a ≠ b → sp [.ref a, .ref b] H (OwnB K) E0)
theorem eqW_run {A : Around} {pins : List (Addr × Obj)} {σ : L2.St} {H : Hp} {s : Shared} {z x : V} {u v : Value} {K : Bool → Hp → Prop} (O : OwnE X.K C f) (cl : Cls X.K C) (tyO : ∀ {H : Hp} {b dy : Addr} {gs : List (Str × V)}, H b = some (.ins C dy gs) → TyX X.K H (.ref b) (.ref C))
    (F : FnOk X.prog X.w X.K X.mg X.base CX0 k f fd ps sp) (hb : Binds X.K fd ps []) (room : Room k A) (fr : A.frames = X.A.frames) (I : Inv X pins σ H s) (rz : RelV z u) (rx : RelV x v) (h : eqW sp C z x H K) :
    wpAny (model X.prog X.w) A (eqBool u v) (fun r s' => ∃ H', Inv X pins σ H' s' ∧ K r H') X.xe s := by
  obtain ⟨a, b, dx, dy, fs, gs, rfl, rfl, ha, hb', h1, h2⟩ := h
  cases rz
  cases rx
  by_cases e : a = b
  · subst e
    exact SeqAt.EqAt.same (A := A) (s := s) (.ref a) X.prog X.w X.xe _ ⟨H, I, h1 rfl⟩
  · refine GQ.eqBool_refG e (wpAny_mono (eq_run O F hb room fr I ha (y := .ref b) rfl (tyO hb') (by simp [PySem.W.notFirst]) (h2 e)) (fun w s' q => ?_) fun _ _ q => q)
    obtain ⟨r, H', rfl, I', q⟩ := q
    exact ⟨r, rfl, H', I', q⟩
end
end Cr

/-! Cr3: in and index by an own ==, str() by an own __str__, == of dicts. -/
namespace Cr
open PySem PySem.Spec PyProof.Rows L2

section
variable {X : Cx} {CX : CXT} {k : Nat} {f C : Addr} {fd : FuncData} {ps : List Str} {sp : Sp}
/-- z in all, from the items that are left -/
def inW (sp : Sp) (C l : Addr) (all : List V) (x : V) : List V → Hp → VK → Prop
  | [], H, Q => Q (.bl false) H
  | z :: r, H, Q => eqW sp C z x H fun b H' => (b = true → Q (.bl true) H') ∧ (b = false → H' l = some (.lst all) ∧ inW sp C l all x r H' Q)
/-- the place of x in all: j items were passed -/
def ixW (sp : Sp) (C l : Addr) (all : List V) (x : V) : Nat → List V → Hp → VK → Prop
  | _, [], _, _ => False
  | j, z :: r, H, Q => eqW sp C z x H fun b H' => (b = true → Q (.int j) H') ∧ (b = false → H' l = some (.lst all) ∧ ixW sp C l all x (j + 1) r H' Q)
/-- the class's facts for a type told by an instance -/
structure OwnT (K : PySem.W.Frag) (C : Addr) : Prop where
  cl : Cls K C
  ty : ∀ {H : Hp} {b dy : Addr} {gs : List (Str × V)}, H b = some (.ins C dy gs) → TyX K H (.ref b) (.ref C)
theorem op_inO (O : OwnE X.K C f) (T : OwnT X.K C) (F : FnOk X.prog X.w X.K X.mg X.base CX0 k f fd ps sp) (hb : Binds X.K fd ps []) (room : Room (k + 2) X.A) :
    OpR X (compareOp .In) (fun x y H Q => ∃ l all, y = .ref l ∧ H l = some (.lst all) ∧ inW sp C l all x all H Q) := by
  intro pins s σ H x y v u Q I rx ry h
  obtain ⟨l, all, rfl, hl, h⟩ := h
  cases ry
  obtain ⟨z0, its0, n0, r0, e0⟩ := (show ObjOk X.prog X.w H s.heap l (.lst all) from I.hok l _ hl)
  have ty : s.TypeIs (.ref l) "list" := ⟨_, e0, rfl⟩
  show wpAny (model X.prog X.w) X.A (do return Value.bool (← contains (.ref l) v)) (EP X pins σ Q) X.xe s
  refine wpAny_bind (wpAny_contains_slot ty PySem.F.slot_list_contains (Q := fun b s' => wpAny (model X.prog X.w) X.A (pure (Value.bool b)) (EP X pins σ Q) X.xe s') ?_)
  refine GQ.call_here PySem.F.slot_list_contains ty PySem.F.entry_list_contains (PySem.F.args_list_contains_2 _ _) ?_
  have key : ∀ (b : Bool) (H' : Hp) (s' : Shared), Inv X pins σ H' s' → Q (.bl b) H' →
      wants (fun r s' => wpAny (model X.prog X.w) X.A (truthy r) (fun b s' => wpAny (model X.prog X.w) X.A (pure (Value.bool b)) (EP X pins σ Q) X.xe s') X.xe s') X.xe (.ok (.ret (.bool b))) s' := by
    intro b H' s' I' q
    exact wpAny_truthy_bool (wpAny_pure ⟨.bl b, H', I', rfl, q⟩)
  have loop := contains_loopG (prog := X.prog) (w := X.w) (A := X.A) (R := wants (fun r s' => wpAny (model X.prog X.w) X.A (truthy r) (fun b s' => wpAny (model X.prog X.w) X.A (pure (Value.bool b)) (EP X pins σ Q) X.xe s') X.xe s') X.xe) l v all.length
    (fun i s' => ∃ H', Inv X pins σ H' s' ∧ H' l = some (.lst all) ∧ inW sp C l all x (all.drop i) H' Q)
    (fun i s' ⟨H', I', hl', h'⟩ => by
      obtain ⟨z1, its, n1, r1, e1⟩ := (show ObjOk X.prog X.w H' s'.heap l (.lst all) from I'.hok l _ hl')
      refine ⟨its.toArray, n1, e1, by rw [List.size_toArray, ← r1.length], fun hi => ?_⟩
      have hi' : i < all.length := by rw [r1.length]; simpa using hi
      obtain ⟨u, hu, ru⟩ := r1.get (List.getElem?_eq_getElem hi')
      have eu : its.toArray[i] = u := by
        have hi2 : i < its.length := by simpa using hi
        rw [List.getElem?_eq_getElem hi2] at hu
        simpa using hu
      rw [eu]
      rw [List.drop_eq_getElem_cons hi'] at h'
      refine wpAny_mono (eqW_run O T.cl (fun h => T.ty h) F hb (Room.mono room.in1 (by omega)) rfl I' ru rx h') (fun r s2 q => ?_) fun _ _ q => q
      obtain ⟨H2, I2, q1, q2⟩ := q
      cases r with
      | true => rw [if_pos rfl]; exact key true H2 s2 I2 (q1 rfl)
      | false =>
        rw [if_neg Bool.false_ne_true]
        obtain ⟨a1, a2⟩ := q2 rfl
        exact ⟨H2, I2, a1, a2⟩)
    (fun s' ⟨H', I', hl', h'⟩ => by
      rw [List.drop_length] at h'
      exact key false H' s' I' h') all.length 0 (by omega) (Nat.zero_le _) s ⟨H, I, hl, by rw [List.drop_zero]; exact h⟩
  obtain ⟨hp, g, d, tk, os⟩ := s
  wp_walk using AutoSeq1.wpAny_loadPart' e0
  exact ⟨plainId_quiet MeetsSeq.plain_contains_loop _, codeAny_builtin MeetsSeq.entry_contains_loop (by
    rw [Around.under_plainId MeetsSeq.plain_contains_loop _]
    exact loop)⟩
theorem mt_indexO (O : OwnE X.K C f) (T : OwnT X.K C) (F : FnOk X.prog X.w X.K X.mg X.base CX0 k f fd ps sp) (hb : Binds X.K fd ps []) (room : Room (k + 2) X.A) :
    MtR X "list.index" (fun o xs H Q => ∃ l all x, o = .ref l ∧ xs = [x] ∧ H l = some (.lst all) ∧ ixW sp C l all x 0 all H Q) := by
  intro pins s σ H o xs v us Q I ro rxs h
  obtain ⟨l, all, x, rfl, rfl, hl, h⟩ := h
  cases ro
  obtain ⟨vx, rfl, rx⟩ := vals1 rxs
  obtain ⟨z0, its0, n0, r0, e0⟩ := (show ObjOk X.prog X.w H s.heap l (.lst all) from I.hok l _ hl)
  have ty : s.TypeIs (.ref l) "list" := ⟨_, e0, rfl⟩
  refine GQ.call_here PySem.F.slot_list_index ty PySem.F.entry_list_index (PySem.F.args_list_index_2 _ _) ?_
  have hN : (all.length : Int) < 2 ^ 63 - 1 := by rw [sizeLine_eq] at z0; omega
  have loop := index_loopG (prog := X.prog) (w := X.w) (A := X.A) (R := wants (EP X pins σ Q) X.xe) l vx all.length (2 ^ 63 - 1) hN
    (fun i s' => ∃ H', Inv X pins σ H' s' ∧ H' l = some (.lst all) ∧ ixW sp C l all x i (all.drop i) H' Q)
    (fun i s' ⟨H', I', hl', h'⟩ => by
      obtain ⟨z1, its, n1, r1, e1⟩ := (show ObjOk X.prog X.w H' s'.heap l (.lst all) from I'.hok l _ hl')
      refine ⟨its.toArray, n1, e1, by rw [List.size_toArray, ← r1.length], fun hi => ?_⟩
      have hi' : i < all.length := by rw [r1.length]; simpa using hi
      obtain ⟨u, hu, ru⟩ := r1.get (List.getElem?_eq_getElem hi')
      have eu : its.toArray[i] = u := by
        have hi2 : i < its.length := by simpa using hi
        rw [List.getElem?_eq_getElem hi2] at hu
        simpa using hu
      rw [eu]
      rw [List.drop_eq_getElem_cons hi'] at h'
      refine wpAny_mono (eqW_run O T.cl (fun h => T.ty h) F hb (Room.mono room.in1 (by omega)) rfl I' ru rx h') (fun r s2 q => ?_) fun _ _ q => q
      obtain ⟨H2, I2, q1, q2⟩ := q
      cases r with
      | true => rw [if_pos rfl]; exact fun t kk => ⟨.int i, H2, I2.tok kk, ⟨t, rfl⟩, q1 rfl⟩
      | false =>
        rw [if_neg Bool.false_ne_true]
        obtain ⟨a1, a2⟩ := q2 rfl
        exact ⟨H2, I2, a1, a2⟩)
    (fun s' ⟨H', I', hl', h'⟩ => by
      rw [List.drop_length] at h'
      exact h') all.length 0 (by omega) (Nat.zero_le _) s ⟨H, I, hl, by rw [List.drop_zero]; exact h⟩
  obtain ⟨hp, g, d, tk, os⟩ := s
  wp_walk using AutoSeq1.wpAny_loadPart' e0
  have a1 : ((fun i : Int => if i < 0 then max 0 (i + (its0.toArray.size : Int)) else i) ((none : Option Int).getD 0)) = ((0 : Nat) : Int) := by simp
  have a2 : ((fun i : Int => if i < 0 then max 0 (i + (its0.toArray.size : Int)) else i) ((none : Option Int).getD (2 ^ 63 - 1))) = 2 ^ 63 - 1 := by simp
  rw [a1, a2]
  exact ⟨plainId_quiet MeetsSeq.plain_index_loop _, codeAny_builtin MeetsSeq.entry_index_loop (by
    rw [Around.under_plainId MeetsSeq.plain_index_loop _]
    exact loop)⟩
/-- str(o) by an own __str__ -/
theorem call_strO (hs : PySem.W.findIn X.K (.ref C) "__str__" = some (some (.ref f))) (hf : PySem.W.isFn X.K (.ref f) = true) (F : FnOk X.prog X.w X.K X.mg X.base CX0 k f fd ps sp) (hb : Binds X.K fd ps []) (room : Room (k + 2) X.A) :
    CallR X (.type "str") (fun xs H Q => ∃ a dx fs, xs = [.ref a] ∧ H a = some (.ins C dx fs) ∧ sp [.ref a] H (fun v H' => ∃ z, v = .str z ∧ Q (.str z) H') E0) := by
  intro pins s σ H xs us Q I r h
  obtain ⟨a, dx, fs, rfl, ha, h⟩ := h
  obtain ⟨u, rfl, ru⟩ := vals1 r
  cases ru
  obtain ⟨od, J⟩ := inst_at I ha
  refine PySem.W.kso_call (by have := room.un; show X.A.units + 1 + 1 < cLine; omega) I.kIn J hs hf ?_
  refine wpAny_mono (run_at F (room.in1.in1.mono (by omega)) rfl hb pass0 I (vs := [.ref a]) (us := [.ref a]) (.cons rfl .nil) h) (fun v s' z => ?_) fun _ _ z => z
  obtain ⟨w, H', I', rw', b, rfl, q⟩ := z
  obtain ⟨t, rfl⟩ : ∃ t, v = .str b t := rw'
  exact ⟨.str b, H', I', ⟨t, rfl⟩, q⟩
end

/-! ### d == e of dicts with flat values -/
def dEq (ks ls : List (Key × V)) : Bool := ks.length == ls.length && ks.all fun p => match valV ls p.1 with
  | some v => eqV p.2 v
  | none => false
theorem hits_any {A : Around} {s : Shared} {ls : List (Key × V)} {vb : List (Key × Value)} (rb : KV ls vb) (fl : ∀ p ∈ ls, flatV p.2 = true) {ks : List (Key × V)} {va : List (Key × Value)} (ra : KV ks va) :
    (∀ p ∈ ks, flatV p.2 = true) → PySem.W.KeqHits A s vb va (ks.all fun p => match valV ls p.1 with | some v => eqV p.2 v | none => false) := by
  unfold KV at ra
  induction ra with
  | nil => intro _; exact .nil
  | @cons p q ps qs h t ih =>
    intro hp
    obtain ⟨h1, h2⟩ := h
    obtain ⟨k, v⟩ := q
    have h1' : p.1 = k := h1
    have ih' := ih fun p' hm => hp p' (List.mem_cons_of_mem _ hm)
    rw [List.all_cons]
    have rr : RelO (valV ls p.1) (valueAt vb p.1) := rb.val p.1
    cases e : valV ls p.1 with
    | none =>
      rw [e] at rr
      cases e2 : valueAt vb p.1 with
      | none =>
        rw [h1'] at e2
        exact .miss e2
      | some y => rw [e2] at rr; exact rr.elim
    | some y =>
      rw [e] at rr
      obtain ⟨z, hz, rz⟩ := rr.some_of
      rw [h1'] at hz
      have fy : flatV y = true := by
        unfold valV at e
        obtain ⟨kv, hkv, rfl⟩ := Option.map_eq_some_iff.mp e
        exact fl kv (List.mem_of_find?_eq_some hkv)
      exact .hit hz (eqAt_V h2 rz (hp p List.mem_cons_self) fy) ih'
theorem op_eqDK {X : Cx} (hu : X.A.units < cLine) : OpR X (compareOp .Eq) (fun x y H Q => ∃ a b ks ls, x = .ref a ∧ y = .ref b ∧ H a = some (.dK ks) ∧ H b = some (.dK ls) ∧ (∀ p ∈ ks, flatV p.2 = true) ∧ (∀ p ∈ ls, flatV p.2 = true) ∧ Q (.bl (dEq ks ls)) H) := by
  intro pins s σ H x y v u Q I rx ry h
  obtain ⟨a, b, ks, ls, rfl, rfl, ea, eb, f1, f2, q⟩ := h
  cases rx
  cases ry
  obtain ⟨_, ya, va, ra, da⟩ := dk_of I.hok ea
  obtain ⟨_, yb, vb, rb, db⟩ := dk_of I.hok eb
  refine PySem.W.keq_eq (knd := mixKind X.prog X.w) ya yb da db hu (fun _ => hits_any rb f2 ra f1) ⟨.bl (dEq ks ls), H, I, ?_, q⟩
  show Value.bool _ = Value.bool _
  rw [← ra.length, ← rb.length]
  rfl
end Cr

/-! CrT: texts: joins, sorted signs. -/
namespace Cr
open PySem L2
theorem str_ext {x y : Str} (h : x.cps.toList = y.cps.toList) : x = y := by
  cases x; cases y
  simp at h
  simp [h]
theorem glue_fold (g : Str) : ∀ (r : List Str) (acc : Array Nat), (r.foldl (fun acc p => acc ++ g.cps ++ p.cps) acc).toList = acc.toList ++ (r.map fun p => g.cps.toList ++ p.cps.toList).flatten
  | [], acc => by simp
  | p :: r, acc => by
    rw [List.foldl_cons, glue_fold g r]
    simp
theorem join_list (g : Str) (x : Str) (r : List Str) : (Txt.join g (x :: r)).cps.toList = x.cps.toList ++ (r.map fun p => g.cps.toList ++ p.cps.toList).flatten := by
  exact glue_fold g r x.cps
theorem empty_cps : ("" : Str).cps = #[] := by decide +kernel
theorem join0 : ∀ ys : List Str, (Txt.join "" ys).cps.toList = (ys.map (·.cps.toList)).flatten
  | [] => by decide +kernel
  | x :: r => by
    rw [join_list, empty_cps]
    simp
theorem join0_len (ys : List Str) (n : Nat) (h : ∀ y ∈ ys, y.length = 1) (hn : ys.length = n) : (Txt.join "" ys).length = n := by
  have e : (Txt.join "" ys).length = (Txt.join "" ys).cps.toList.length := by simp [Str.length]
  rw [e, join0, List.length_flatten]
  subst hn
  clear e
  induction ys with
  | nil => rfl
  | cons y r ih =>
    have h1 := h y List.mem_cons_self
    have h2 := ih fun z hz => h z (List.mem_cons_of_mem _ hz)
    simp only [List.map_cons, List.sum_cons, List.length_cons]
    rw [h2]
    have : y.cps.toList.length = 1 := by simpa [Str.length] using h1
    omega
/-- small letters -/
def lets (z : Str) : Prop := ∀ c ∈ z.cps.toList, 97 ≤ c ∧ c ≤ 122
theorem lets_join {ys : List Str} (h : ∀ y ∈ ys, lets y) : lets (Txt.join "" ys) := by
  intro c hc
  rw [join0] at hc
  obtain ⟨l, hl, hcl⟩ := List.mem_flatten.mp hc
  obtain ⟨y, hy, rfl⟩ := List.mem_map.mp hl
  exact h y hy c hcl
theorem lets_rev {z : Str} (h : lets z) : lets (revS z) := fun c hc => h c (by simpa [revS] using hc)
theorem lets_ok {z : Str} (h : lets z) : PyData.strOk z = true := by
  unfold PyData.strOk
  rw [Array.all_eq_true']
  intro x hx
  have := h x (by simpa using hx)
  simp only [decide_eq_true_eq]
  omega
/-! ### the one sorted list -/
def leS (a b : Str) : Prop := ¬ b.cps.toList < a.cps.toList
theorem leS_trans {a b c : Str} (h1 : leS a b) (h2 : leS b c) : leS a c := List.le_trans (α := Nat) h1 h2
theorem leS_antisymm {a b : Str} (h1 : leS a b) (h2 : leS b a) : a = b := str_ext (List.le_antisymm (α := Nat) h1 h2)
open PyProof.Rows in
theorem pw_rising : ∀ (r : List Str) (x : Str), risingS x r = true → (x :: r).Pairwise leS
  | [], x, _ => by simp
  | y :: r, x, h => by
    unfold risingS at h
    rw [Bool.and_eq_true, ltCps_eq] at h
    have hx : leS x y := by
      unfold leS
      simpa using h.1
    have ih := pw_rising r y h.2
    refine List.pairwise_cons.mpr ⟨fun z hz => ?_, ih⟩
    rcases List.mem_cons.mp hz with rfl | hz
    · exact hx
    · exact leS_trans hx ((List.pairwise_cons.mp ih).1 z hz)
open PyProof.Rows in
theorem pw_sorted {l : List Str} (h : sortedS l = true) : l.Pairwise leS := by
  cases l with
  | nil => exact List.Pairwise.nil
  | cons x r => exact pw_rising r x h
theorem sorted_one {l m : List Str} (hl : l.Pairwise leS) (hm : m.Pairwise leS) (p : l.Perm m) : l = m :=
  List.Perm.eq_of_pairwise (fun a b _ _ h1 h2 => leS_antisymm h1 h2) hl hm p
/-- a fixed way to sort: by insertion -/
def insS (x : Str) : List Str → List Str
  | [] => [x]
  | y :: r => if y.cps.toList < x.cps.toList then y :: insS x r else x :: y :: r
def srtL : List Str → List Str
  | [] => []
  | x :: r => insS x (srtL r)
theorem insS_perm (x : Str) : ∀ l : List Str, (insS x l).Perm (x :: l)
  | [] => List.Perm.refl _
  | y :: r => by
    unfold insS
    split
    · exact ((insS_perm x r).cons y).trans (List.Perm.swap x y r)
    · exact List.Perm.refl _
theorem srtL_perm : ∀ l : List Str, (srtL l).Perm l
  | [] => List.Perm.refl _
  | x :: r => (insS_perm x (srtL r)).trans ((srtL_perm r).cons x)
theorem insS_pw (x : Str) : ∀ l : List Str, l.Pairwise leS → (insS x l).Pairwise leS
  | [], _ => by simp [insS]
  | y :: r, h => by
    obtain ⟨h1, h2⟩ := List.pairwise_cons.mp h
    unfold insS
    split
    · next c =>
      refine List.pairwise_cons.mpr ⟨fun z hz => ?_, insS_pw x r h2⟩
      rcases List.mem_cons.mp ((insS_perm x r).mem_iff.mp hz) with rfl | hz
      · exact List.lt_asymm c
      · exact h1 z hz
    · next c =>
      refine List.pairwise_cons.mpr ⟨fun z hz => ?_, h⟩
      rcases List.mem_cons.mp hz with rfl | hz
      · exact c
      · exact leS_trans c (h1 z hz)
theorem srtL_pw : ∀ l : List Str, (srtL l).Pairwise leS
  | [] => List.Pairwise.nil
  | x :: r => insS_pw x _ (srtL_pw r)
open PyProof.Rows in
theorem sorted_is {ys l : List Str} (p : ys.Perm l) (h : sortedS ys = true) : ys = srtL l :=
  sorted_one (pw_sorted h) (srtL_pw l) (p.trans (srtL_perm l).symm)
theorem srtL_filter (f : Str → Bool) (l : List Str) : (srtL l).filter f = srtL (l.filter f) :=
  sorted_one ((srtL_pw l).filter f) (srtL_pw _) (((srtL_perm l).filter f).trans (srtL_perm _).symm)
/-- a text's signs in order -/
def srt (z : Str) : Str := Txt.join "" (srtL (signs z))
theorem sign_len {z y : Str} (h : y ∈ signs z) : y.length = 1 := by
  obtain ⟨c, _, rfl⟩ := List.mem_map.mp h
  rfl
theorem srt_len (z : Str) : (srt z).length = z.length :=
  join0_len _ _ (fun y hy => sign_len ((srtL_perm _).mem_iff.mp hy)) (by rw [(srtL_perm _).length_eq, signs_len])
theorem srt_lets {z : Str} (h : lets z) : lets (srt z) := lets_join fun y hy => by
  obtain ⟨c, hc, rfl⟩ := List.mem_map.mp ((srtL_perm _).mem_iff.mp hy)
  intro d hd
  have : d = c := by simpa using hd
  subst this
  exact h d hc
end Cr

/-! Cr4: comprehensions over a locked dict's keys. -/
namespace Cr
open PySem L2
section
variable {d : Addr} {o : Obj} {kvs : List (Key × V)} {g : TG} {tt : TT} {te tk tv : TE} {vs : List Nat} {σ : L2.St} {H1 : Hp} {D : Addr} {Qd : Hp → Prop}
theorem lc_keys (Pv : Nat → Hp → Prop) (h0 : Pv 0 (upd H1 D (.lst []))) (hl : ∀ i H, i ≤ kvs.length → Pv i H → H d = some (.frz o (.dK kvs)))
    (hs : ∀ i k v H, kvs[i]? = some (k, v) → Pv i H → g (kV k) (wipe σ vs) H fun σ2 H2 => wipe σ2 vs = wipe σ vs ∧ tt σ2 H2 fun b H3 =>
      if b = true then te σ2 H3 fun y H4 => ∃ acc, H4 D = some (.lst acc) ∧ acc.length < sizeLine ∧ Pv (i + 1) (upd H4 D (.lst (acc ++ [y]))) else Pv (i + 1) H3) (hd : ∀ H, Pv kvs.length H → Qd H) :
    ∃ W : Nat → Nat → Hp → Prop, (∃ m, W 0 m (upd H1 D (.lst []))) ∧ ∀ i m H, W i m H → ((Itk d o kvs).stop i H ∧ Qd H) ∨ ((Itk d o kvs).go i H ∧ ∃ Nx : Hp → Prop, (∀ H', Nx H' → ∃ m', m' < m ∧ W (i + 1) m' H') ∧
      ∀ x H', (Itk d o kvs).yld i H x H' → g x (wipe σ vs) H' fun σ2 H2 => wipe σ2 vs = wipe σ vs ∧ tt σ2 H2 fun b H3 =>
        if b = true then te σ2 H3 fun y H4 => ∃ acc, H4 D = some (.lst acc) ∧ acc.length < sizeLine ∧ Nx (upd H4 D (.lst (acc ++ [y]))) else Nx H3) := by
  refine ⟨fun i m H => m + i = kvs.length ∧ Pv i H, ⟨kvs.length, rfl, h0⟩, fun i m H ⟨em, p⟩ => ?_⟩
  have q := hl i H (by omega) p
  by_cases c : i < kvs.length
  · refine .inr ⟨⟨q, c⟩, Pv (i + 1), fun H' p' => ⟨m - 1, by omega, by omega, p'⟩, fun x H' y => ?_⟩
    obtain ⟨rfl, k, v, e, rfl⟩ := y
    exact hs i k v _ e p
  · obtain rfl : i = kvs.length := by omega
    exact .inl ⟨⟨q, Nat.le_refl _⟩, hd H p⟩
theorem dc_keys (Pv : Nat → Hp → Prop) (h0 : Pv 0 (upd H1 D (.dK []))) (hl : ∀ i H, i ≤ kvs.length → Pv i H → H d = some (.frz o (.dK kvs)))
    (hs : ∀ i k v H, kvs[i]? = some (k, v) → Pv i H → g (kV k) (wipe σ vs) H fun σ2 H2 => wipe σ2 vs = wipe σ vs ∧ tt σ2 H2 fun b H3 =>
      if b = true then tk σ2 H3 fun y H4 => tv σ2 H4 fun z H5 => ∃ ls k, y = kV k ∧ H5 D = some (.dK ls) ∧ ls.length < sizeLine ∧ Pv (i + 1) (upd H5 D (.dK (putK ls k z))) else Pv (i + 1) H3) (hd : ∀ H, Pv kvs.length H → Qd H) :
    ∃ W : Nat → Nat → Hp → Prop, (∃ m, W 0 m (upd H1 D (.dK []))) ∧ ∀ i m H, W i m H → ((Itk d o kvs).stop i H ∧ Qd H) ∨ ((Itk d o kvs).go i H ∧ ∃ Nx : Hp → Prop, (∀ H', Nx H' → ∃ m', m' < m ∧ W (i + 1) m' H') ∧
      ∀ x H', (Itk d o kvs).yld i H x H' → g x (wipe σ vs) H' fun σ2 H2 => wipe σ2 vs = wipe σ vs ∧ tt σ2 H2 fun b H3 =>
        if b = true then tk σ2 H3 fun y H4 => tv σ2 H4 fun z H5 => ∃ ls k, y = kV k ∧ H5 D = some (.dK ls) ∧ ls.length < sizeLine ∧ Nx (upd H5 D (.dK (putK ls k z))) else Nx H3) := by
  refine ⟨fun i m H => m + i = kvs.length ∧ Pv i H, ⟨kvs.length, rfl, h0⟩, fun i m H ⟨em, p⟩ => ?_⟩
  have q := hl i H (by omega) p
  by_cases c : i < kvs.length
  · refine .inr ⟨⟨q, c⟩, Pv (i + 1), fun H' p' => ⟨m - 1, by omega, by omega, p'⟩, fun x H' y => ?_⟩
    obtain ⟨rfl, k, v, e, rfl⟩ := y
    exact hs i k v _ e p
  · obtain rfl : i = kvs.length := by omega
    exact .inl ⟨⟨q, Nat.le_refl _⟩, hd H p⟩
end
/-- a locked dict is read -/
theorem dg_frz {H : Hp} {d : Addr} {o : Obj} {kvs : List (Key × V)} {k : Key} {v : V} (h : H d = some (.frz o (.dK kvs))) (e : valV kvs k = some v) : DGet H d (kV k) (some v) := .inl ⟨kvs, k, .inr ⟨o, h⟩, rfl, e.symm⟩
/-- what stands but for the locked d stands again behind the lock -/
theorem same_lock {H H' : Hp} {d : Addr} {u : HO} (hd : H d = some u) (h : ∀ a x, a ≠ d → H a = some x → H' a = some x) : Same H (upd H' d u) := fun a x e => by
  by_cases c : a = d
  · subst c
    rw [hd] at e
    rw [upd_same]
    exact e
  · rw [upd_ne c]
    exact h a x c e
theorem filter_take_yes {α : Type} {l : List α} {f : α → Bool} {i : Nat} {x : α} (e : l[i]? = some x) (h : f x = true) : (l.take (i + 1)).filter f = (l.take i).filter f ++ [x] := by
  rw [List.take_add_one, e, List.filter_append]
  simp [h]
theorem filter_take_no {α : Type} {l : List α} {f : α → Bool} {i : Nat} {x : α} (e : l[i]? = some x) (h : f x = false) : (l.take (i + 1)).filter f = (l.take i).filter f := by
  rw [List.take_add_one, e, List.filter_append]
  simp [h]
end Cr

/-! K23m: tables of terms, plain. -/
namespace Cr
open PySem L2
abbrev Tm := Int × Str
def gI (kvs : List (Key × V)) (z : Str) : Int := match valV kvs (.inr z) with
  | some (.int n) => n
  | _ => 0
def stepK (kvs : List (Key × V)) (t : Tm) : List (Key × V) := putK kvs (.inr (srt t.2)) (.int (gI kvs (srt t.2) + t.1))
def tab0 (ts : List Tm) : List (Key × V) := ts.foldl stepK []
def posV : V → Bool
  | .int n => decide (0 < n)
  | _ => false
def tab (ts : List Tm) : List (Key × V) := (tab0 ts).filter fun p => posV p.2
/-- a table: texts of at most m signs, numbers below B -/
structure TabOk (m : Nat) (B : Int) (kvs : List (Key × V)) : Prop where
  each : ∀ p ∈ kvs, ∃ (z : Str) (n : Int), p = (.inr z, .int n) ∧ 0 ≤ n ∧ n < B ∧ z.length ≤ m ∧ lets z
  nd : (kvs.map (·.1)).Nodup
theorem TabOk.nil {m : Nat} {B : Int} : TabOk m B [] := ⟨fun _ h => (nomatch h), List.nodup_nil⟩
theorem TabOk.mono {m : Nat} {B C : Int} {kvs : List (Key × V)} (h : TabOk m B kvs) (hB : B ≤ C) : TabOk m C kvs := ⟨fun p hp => by
  obtain ⟨z, n, e, n0, n1, r⟩ := h.each p hp
  exact ⟨z, n, e, n0, by omega, r⟩, h.nd⟩
theorem TabOk.sub {m : Nat} {B : Int} {kvs ls : List (Key × V)} (h : TabOk m B kvs) (hs : ls.Sublist kvs) : TabOk m B ls :=
  ⟨fun p hp => h.each p (hs.subset hp), h.nd.sublist (hs.map _)⟩
theorem gI_rng {m : Nat} {B : Int} {kvs : List (Key × V)} (h : TabOk m B kvs) (hB : 0 < B) (z : Str) : 0 ≤ gI kvs z ∧ gI kvs z < B := by
  unfold gI
  cases e : valV kvs (.inr z) with
  | none => exact ⟨Int.le_refl _, hB⟩
  | some v =>
    unfold valV at e
    obtain ⟨kv, hkv, rfl⟩ := Option.map_eq_some_iff.mp e
    obtain ⟨y, n, rfl, n0, n1, _⟩ := h.each kv (List.mem_of_find?_eq_some hkv)
    exact ⟨n0, n1⟩
/-- what get gives -/
theorem getD_gI {m : Nat} {B : Int} {kvs : List (Key × V)} (h : TabOk m B kvs) (z : Str) : (valV kvs (.inr z)).getD (.int 0) = .int (gI kvs z) := by
  unfold gI
  cases e : valV kvs (.inr z) with
  | none => rfl
  | some v =>
    unfold valV at e
    obtain ⟨kv, hkv, rfl⟩ := Option.map_eq_some_iff.mp e
    obtain ⟨y, n, rfl, _⟩ := h.each kv (List.mem_of_find?_eq_some hkv)
    rfl
theorem putK_keys (kvs : List (Key × V)) (k : Key) (v : V) : (putK kvs k v).map (·.1) = if (kvs.any fun kv => decide (kv.1 = k)) = true then kvs.map (·.1) else kvs.map (·.1) ++ [k] := by
  unfold putK
  split
  · rw [List.map_map]
    apply List.map_congr_left
    intro p _
    show (if p.1 = k then (p.1, v) else p).1 = p.1
    split <;> rfl
  · rw [List.map_append]; rfl
theorem TabOk.put {m : Nat} {B : Int} {kvs : List (Key × V)} (h : TabOk m B kvs) {z : Str} {n : Int} (n0 : 0 ≤ n) (n1 : n < B) (zl : z.length ≤ m) (zo : lets z) : TabOk m B (putK kvs (.inr z) (.int n)) := by
  refine ⟨fun p hp => ?_, ?_⟩
  · unfold putK at hp
    split at hp
    · obtain ⟨q, hq, rfl⟩ := List.mem_map.mp hp
      obtain ⟨y, n', rfl, r⟩ := h.each q hq
      by_cases e : (Sum.inr y : Key) = .inr z
      · obtain rfl : y = z := Sum.inr.inj e
        exact ⟨y, n, by simp, n0, n1, zl, zo⟩
      · exact ⟨y, n', by simp only [if_neg e], r⟩
    · rcases List.mem_append.mp hp with hp | hp
      · exact h.each p hp
      · rw [List.mem_singleton.mp hp]; exact ⟨z, n, rfl, n0, n1, zl, zo⟩
  · rw [putK_keys]
    split
    · exact h.nd
    · next c =>
      refine nd_snoc h.nd fun hm => c ?_
      obtain ⟨p, hp, e⟩ := List.mem_map.mp hm
      exact List.any_eq_true.mpr ⟨p, hp, decide_eq_true e⟩
theorem step_ok {m : Nat} {B C : Int} {kvs : List (Key × V)} {t : Tm} (h : TabOk m B kvs) (hB : 0 < B) (t0 : 0 ≤ t.1) (t1 : t.1 < C) (tl : t.2.length ≤ m) (to : lets t.2) : TabOk m (B + C) (stepK kvs t) := by
  obtain ⟨g0, g1⟩ := gI_rng h hB (srt t.2)
  exact (h.mono (by omega)).put (by omega) (by omega) (by rw [srt_len]; exact tl) (srt_lets to)
theorem putK_len (kvs : List (Key × V)) (k : Key) (v : V) : (putK kvs k v).length ≤ kvs.length + 1 := by
  unfold putK
  split
  · rw [List.length_map]; omega
  · rw [List.length_append]; exact Nat.le_refl _
theorem fold_ok {m : Nat} {C : Int} (hC : 0 < C) : ∀ (ts : List Tm) (kvs : List (Key × V)) (B : Int), TabOk m B kvs → 0 < B → (∀ t ∈ ts, 0 ≤ t.1 ∧ t.1 < C ∧ t.2.length ≤ m ∧ lets t.2) →
    TabOk m (B + C * ts.length) (ts.foldl stepK kvs) ∧ (ts.foldl stepK kvs).length ≤ kvs.length + ts.length
  | [], kvs, B, h, hB, _ => by simpa using h
  | t :: r, kvs, B, h, hB, ht => by
    obtain ⟨a0, a1, a2, a3⟩ := ht t List.mem_cons_self
    have h1 := step_ok h hB a0 a1 a2 a3
    obtain ⟨r1, r2⟩ := fold_ok hC r (stepK kvs t) (B + C) h1 (by omega) fun u hu => ht u (List.mem_cons_of_mem _ hu)
    rw [List.foldl_cons, List.length_cons]
    refine ⟨r1.mono ?_, ?_⟩
    · have e : C * ((r.length + 1 : Nat) : Int) = C * (r.length : Int) + C := by
        rw [Int.natCast_add, Int.mul_add]; simp
      omega
    · have := putK_len kvs (.inr (srt t.2)) (.int (gI kvs (srt t.2) + t.1))
      unfold stepK at r2 ⊢
      omega
/-- keys that are new, one behind the other, come in their order -/
theorem put_all : ∀ (ls kvs : List (Key × V)), ((kvs ++ ls).map (·.1)).Nodup → ls.foldl (fun acc kv => putK acc kv.1 kv.2) kvs = kvs ++ ls
  | [], kvs, _ => by simp
  | p :: r, kvs, h => by
    have e : putK kvs p.1 p.2 = kvs ++ [p] := by
      unfold putK
      rw [if_neg]
      intro c
      obtain ⟨q, hq, e⟩ := List.any_eq_true.mp c
      rw [List.map_append, List.nodup_append] at h
      exact h.2.2 _ (List.mem_map.mpr ⟨q, hq, rfl⟩) _ (List.mem_map.mpr ⟨p, List.mem_cons_self, rfl⟩) (of_decide_eq_true e)
    rw [List.foldl_cons, e, put_all r (kvs ++ [p]) (by rw [List.append_assoc]; exact h), List.append_assoc]
    rfl
theorem merge_new {ls : List (Key × V)} (h : (ls.map (·.1)).Nodup) : mergeK [] ls = ls := by
  unfold mergeK
  rw [put_all ls [] (by simpa using h)]
  rfl
theorem tab_sub (ts : List Tm) : (tab ts).Sublist (tab0 ts) := List.filter_sublist
end Cr

namespace Cr
open PySem L2
def topS (i : Nat) : Stmt := PySem.Challenge.pw_cellranks_k23_sizes_in_letters.main.body.getD i (.Pass ⟨0, 0, 0, 0⟩)
abbrev s_term_text : Stmt := topS 2
abbrev N_term_text : List Str := ["many", "letters"]
theorem sc_term_text : FnScope N_term_text ["many", "letters"] (defScope s_term_text) := ⟨rfl, rfl, rfl, by decide +kernel, rfl, by decide +kernel, by decide +kernel⟩
abbrev s_Size___init__ : Stmt := inClass (topS 3) 0
abbrev N_Size___init__ : List Str := ["self", "terms", "found", "many", "letters", "key"]
theorem sc_Size___init__ : FnScope N_Size___init__ ["self", "terms"] (defScope s_Size___init__) := ⟨rfl, rfl, rfl, by decide +kernel, rfl, by decide +kernel, by decide +kernel⟩
abbrev s_Size___eq__ : Stmt := inClass (topS 3) 1
abbrev N_Size___eq__ : List Str := ["self", "other"]
theorem sc_Size___eq__ : FnScope N_Size___eq__ ["self", "other"] (defScope s_Size___eq__) := ⟨rfl, rfl, rfl, by decide +kernel, rfl, by decide +kernel, by decide +kernel⟩
abbrev s_Size___str__ : Stmt := inClass (topS 3) 2
abbrev N_Size___str__ : List Str := ["self", "many", "letters"]
theorem sc_Size___str__ : FnScope N_Size___str__ ["self"] (defScope s_Size___str__) := ⟨rfl, rfl, rfl, by decide +kernel, rfl, by decide +kernel, by decide +kernel⟩
abbrev s_Size_terms_told : Stmt := inClass (topS 3) 3
abbrev N_Size_terms_told : List Str := ["self", "keys", "key"]
theorem sc_Size_terms_told : FnScope N_Size_terms_told ["self"] (defScope s_Size_terms_told) := ⟨rfl, rfl, rfl, by decide +kernel, rfl, by decide +kernel, by decide +kernel⟩
abbrev s__law_feed : Stmt := topS 5
abbrev N__law_feed : List Str := ["_law_script"]
theorem sc__law_feed : FnScope N__law_feed ["_law_script"] (defScope s__law_feed) := ⟨rfl, rfl, rfl, by decide +kernel, rfl, by decide +kernel, by decide +kernel⟩
abbrev s__law_draw : Stmt := topS 6
abbrev N__law_draw : List Str := ["_law_feed_here", "_law_many", "_law_found", "_law_at", "_law_cell", "_law_mixed"]
theorem sc__law_draw : FnScope N__law_draw ["_law_feed_here", "_law_many"] (defScope s__law_draw) := ⟨rfl, rfl, rfl, by decide +kernel, rfl, by decide +kernel, by decide +kernel⟩
abbrev s__law_of : Stmt := topS 7
abbrev N__law_of : List Str := ["_law_feed_here", "_law_some"]
theorem sc__law_of : FnScope N__law_of ["_law_feed_here", "_law_some"] (defScope s__law_of) := ⟨rfl, rfl, rfl, by decide +kernel, rfl, by decide +kernel, by decide +kernel⟩
abbrev s__law_terms : Stmt := topS 8
abbrev N__law_terms : List Str := ["_law_feed_here", "_law_most", "_law_alphabet", "_law_found", "_law_turn", "_law_letters", "_law_great", "_law_many", "_law_place"]
theorem sc__law_terms : FnScope N__law_terms ["_law_feed_here", "_law_most"] (defScope s__law_terms) := ⟨rfl, rfl, rfl, by decide +kernel, rfl, by decide +kernel, by decide +kernel⟩
abbrev s__law_table : Stmt := topS 9
abbrev N__law_table : List Str := ["_law_a_terms", "_law_found", "_law_many", "_law_letters", "_law_key"]
theorem sc__law_table : FnScope N__law_table ["_law_a_terms"] (defScope s__law_table) := ⟨rfl, rfl, rfl, by decide +kernel, rfl, by decide +kernel, by decide +kernel⟩
abbrev s__law_text : Stmt := topS 10
abbrev N__law_text : List Str := ["_law_table_here", "_law_words", "_law_key"]
theorem sc__law_text : FnScope N__law_text ["_law_table_here"] (defScope s__law_text) := ⟨rfl, rfl, rfl, by decide +kernel, rfl, by decide +kernel, by decide +kernel⟩
abbrev s__law_near : Stmt := topS 11
abbrev N__law_near : List Str := ["_law_feed_here", "_law_a_terms", "_law_at", "_law_way", "_law_many", "_law_letters", "_law_ahead", "_law_behind"]
theorem sc__law_near : FnScope N__law_near ["_law_feed_here", "_law_a_terms"] (defScope s__law_near) := ⟨rfl, rfl, rfl, by decide +kernel, rfl, by decide +kernel, by decide +kernel⟩
abbrev s_law : Stmt := topS 12
abbrev N_law : List Str := ["_law_script", "_law_feed_here", "_law_turn", "_law_a_terms", "_law_near_here", "_law_handed", "_law_one", "_law_other", "_law_table_here", "_law_beside", "_law_again", "_law_due", "_law_found", "_law_thing"]
theorem sc_law : FnScope N_law ["_law_script"] (defScope s_law) := ⟨rfl, rfl, rfl, by decide +kernel, rfl, by decide +kernel, by decide +kernel⟩

structure Tx (K : PySem.W.Frag) (mg : Str → Option Value) where
  C : Addr
  term_text : FnAt K mg "term_text" "term_text" s_term_text ["many", "letters"]
  Size___init__ : MtAt K C "__init__" "Size.__init__" s_Size___init__ ["self", "terms"]
  Size___eq__ : MtAt K C "__eq__" "Size.__eq__" s_Size___eq__ ["self", "other"]
  Size___str__ : MtAt K C "__str__" "Size.__str__" s_Size___str__ ["self"]
  Size_terms_told : MtAt K C "terms_told" "Size.terms_told" s_Size_terms_told ["self"]
  Size : ClAt K mg "Size" C Size___init__.f
  ow : OwnE K C Size___eq__.f
  ot : OwnT K C
  nC : NoAttr K C "counts"
  _law_feed : FnAt K mg "_law_feed" "_law_feed" s__law_feed ["_law_script"]
  _law_draw : FnAt K mg "_law_draw" "_law_draw" s__law_draw ["_law_feed_here", "_law_many"]
  _law_of : FnAt K mg "_law_of" "_law_of" s__law_of ["_law_feed_here", "_law_some"]
  _law_terms : FnAt K mg "_law_terms" "_law_terms" s__law_terms ["_law_feed_here", "_law_most"]
  _law_table : FnAt K mg "_law_table" "_law_table" s__law_table ["_law_a_terms"]
  _law_text : FnAt K mg "_law_text" "_law_text" s__law_text ["_law_table_here"]
  _law_near : FnAt K mg "_law_near" "_law_near" s__law_near ["_law_feed_here", "_law_a_terms"]
  b_len : mg "len" = none
  b_list : mg "list" = none
  b_range : mg "range" = none
  b_sorted : mg "sorted" = none
  b_dict : mg "dict" = none
  b_str : mg "str" = none
  b_int : mg "int" = none
  b_isinstance : mg "isinstance" = none
  b_repr : mg "repr" = none
  b_tuple : mg "tuple" = none
  kc : ((PySem.W.clsIn K C).isSome && PySem.W.typeIn K (.ref C) == some (.type "type")) = true

/-! ### the feed -/
def fdK (c : Addr) (a l : Int) : List (Key × V) := [(.inr "cells", .ref c), (.inr "at", .int a), (.inr "left", .int l)]
theorem n_ca0 : ¬ ("cells" : Str) = "at" := by decide +kernel
theorem n_cl0 : ¬ ("cells" : Str) = "left" := by decide +kernel
theorem n_al0 : ¬ ("at" : Str) = "left" := by decide +kernel
theorem n_ca : ¬ (Sum.inr ("cells" : Str) : Key) = Sum.inr ("at" : Str) := fun h => n_ca0 (Sum.inr.inj h)
theorem n_cl : ¬ (Sum.inr ("cells" : Str) : Key) = Sum.inr ("left" : Str) := fun h => n_cl0 (Sum.inr.inj h)
theorem n_al : ¬ (Sum.inr ("at" : Str) : Key) = Sum.inr ("left" : Str) := fun h => n_al0 (Sum.inr.inj h)
theorem v_cells (c : Addr) (a l : Int) : valV (fdK c a l) (.inr "cells") = some (.ref c) := valV_pos rfl
theorem v_at (c : Addr) (a l : Int) : valV (fdK c a l) (.inr "at") = some (.int a) := by
  unfold fdK; rw [valV_neg n_ca, valV_pos rfl]
theorem v_left (c : Addr) (a l : Int) : valV (fdK c a l) (.inr "left") = some (.int l) := by
  unfold fdK; rw [valV_neg n_cl, valV_neg n_al, valV_pos rfl]
theorem p_at (c : Addr) (a l x : Int) : putK (fdK c a l) (.inr "at") (.int x) = fdK c x l := by
  unfold putK fdK
  simp [n_ca0, show ¬ ("left" : Str) = "at" from fun h => n_al0 (Eq.symm h)]
theorem p_left (c : Addr) (a l x : Int) : putK (fdK c a l) (.inr "left") (.int x) = fdK c a x := by
  unfold putK fdK
  simp [n_cl0, n_al0]
/-- the feed at f (its cells at c, at most k draws so far), beside the ghost part G -/
structure Wo (G H : Hp) (f c : Addr) (k : Nat) : Prop where
  same : Same G H
  nf : G f = none
  cells : ∃ ns : List Int, G c = some (.lst (ns.map V.int))
  feed : ∃ a l : Int, H f = some (.dK (fdK c a l)) ∧ 0 ≤ a ∧ a ≤ k
theorem Wo.ne {G H : Hp} {f c p : Addr} {k : Nat} (W : Wo G H f c k) (h : H p = none) : f ≠ p := by
  obtain ⟨a, l, e, _⟩ := W.feed
  exact ne_of_none e h
theorem Wo.mono {G H : Hp} {f c : Addr} {k m : Nat} (W : Wo G H f c k) (h : k ≤ m) : Wo G H f c m := by
  obtain ⟨a, l, e, a0, ak⟩ := W.feed
  exact ⟨W.same, W.nf, W.cells, a, l, e, a0, by omega⟩
/-- a new thing, not kept in G -/
theorem Wo.fresh {G H : Hp} {f c p : Addr} {k : Nat} {o : HO} (W : Wo G H f c k) (h : H p = none) : Wo G (upd H p o) f c k := by
  obtain ⟨a, l, e, r⟩ := W.feed
  exact ⟨Same.new W.same h, W.nf, W.cells, a, l, by rw [upd_ne (W.ne h)]; exact e, r⟩
/-- a new thing, kept in G -/
theorem Wo.new {G H : Hp} {f c p : Addr} {k : Nat} {o : HO} (W : Wo G H f c k) (h : H p = none) : Wo (upd G p o) (upd H p o) f c k := by
  obtain ⟨a, l, e, r⟩ := W.feed
  obtain ⟨ns, hc⟩ := W.cells
  refine ⟨Same.two W.same, by rw [upd_ne (W.ne h)]; exact W.nf, ⟨ns, ?_⟩, a, l, by rw [upd_ne (W.ne h)]; exact e, r⟩
  rw [upd_ne (ne_of_none (W.same _ _ hc) h)]
  exact hc
/-- a thing that G does not keep is changed -/
theorem Wo.put {G H : Hp} {f c p : Addr} {k : Nat} {o : HO} (W : Wo G H f c k) (h : G p = none) (hf : f ≠ p) : Wo G (upd H p o) f c k := by
  obtain ⟨a, l, e, r⟩ := W.feed
  exact ⟨Same.put W.same h, W.nf, W.cells, a, l, by rw [upd_ne hf]; exact e, r⟩
/-- G keeps one thing more -/
theorem Wo.add {G H : Hp} {f c p : Addr} {k : Nat} {o : HO} (W : Wo G H f c k) (h : H p = some o) (hf : f ≠ p) (hp : G p = none) : Wo (upd G p o) H f c k := by
  obtain ⟨ns, hc⟩ := W.cells
  exact ⟨Same.add W.same h, by rw [upd_ne hf]; exact W.nf, ⟨ns, by rw [upd_ne (ne_of_none hc hp)]; exact hc⟩, W.feed⟩
/-- G keeps less -/
theorem Wo.sub {G G' H : Hp} {f c : Addr} {k : Nat} (W : Wo G' H f c k) (s : Same G G') (hc : ∃ ns : List Int, G c = some (.lst (ns.map V.int))) : Wo G H f c k :=
  ⟨s.trans W.same, s.free W.nf, hc, W.feed⟩
theorem dg_cells {H : Hp} {f c : Addr} {a l : Int} (h : H f = some (.dK (fdK c a l))) : DGet H f (.str "cells") (some (.ref c)) := by
  have q := DGet.k (k := .inr "cells") h; rw [v_cells] at q; exact q
theorem dg_at {H : Hp} {f c : Addr} {a l : Int} (h : H f = some (.dK (fdK c a l))) : DGet H f (.str "at") (some (.int a)) := by
  have q := DGet.k (k := .inr "at") h; rw [v_at] at q; exact q
theorem dg_left {H : Hp} {f c : Addr} {a l : Int} (h : H f = some (.dK (fdK c a l))) : DGet H f (.str "left") (some (.int l)) := by
  have q := DGet.k (k := .inr "left") h; rw [v_left] at q; exact q
theorem dp_at {H : Hp} {f c : Addr} {a l x : Int} (h : H f = some (.dK (fdK c a l))) : DPut H f (.str "at") (.int x) (upd H f (.dK (fdK c x l))) := by
  have q := DPut.k (k := .inr "at") (v := .int x) h (by show 3 < sizeLine; decide); rw [p_at] at q; exact q
theorem dp_left {H : Hp} {f c : Addr} {a l x : Int} (h : H f = some (.dK (fdK c a l))) : DPut H f (.str "left") (.int x) (upd H f (.dK (fdK c a x))) := by
  have q := DPut.k (k := .inr "left") (v := .int x) h (by show 3 < sizeLine; decide); rw [p_left] at q; exact q

theorem at_of' {α : Type} {xs : List α} {z : Int} {j : Nat} {v : α} (e : z = (j : Int)) (h : xs[j]? = some v) : atI xs z = some v := by
  rw [e]
  exact atI_nat h
section
variable {P : Program} {w : World} {K : PySem.W.Frag} {mg : Str → Option Value} {base : Heap}
def spDraw : Sp := fun vs H Q _ => ∃ (G : Hp) (f c : Addr) (k : Nat) (n : Int), vs = [.ref f, .int n] ∧ 0 < n ∧ n < 1073741824 ∧ Wo G H f c k ∧ k < 1073741824 ∧
  ∀ (d : Int) (H' : Hp), 0 ≤ d → d < n → Wo G H' f c (k + 1) → Q (.int d) H'
theorem ok__law_draw (T : Tx K mg) : FnOk P w K mg base CX0 1 T._law_draw.f T._law_draw.fd ["_law_feed_here", "_law_many"] spDraw := by
  refine T._law_draw.F.ok sc__law_draw (fun vs H Q E h => ?_) (fun cdv A outer s H vs Q E hr h => ?_)
  · obtain ⟨G, f, c, k, n, rfl, _⟩ := h
    rfl
  · obtain ⟨G, f, c, k, n, rfl, n0, n1, ⟨sg, gf, ⟨ns, gc⟩, a, l, hf, a0, ak⟩, kb, q⟩ := h
    have hc := sg _ _ gc
    have hu := hu_of hr
    have nfc : c ≠ f := ne_of hc hf (by intro z; cases z)
    refine ⟨_, (pss_cons (ps_if (pt_cmpR op_gt (pe_dget hu (pv 0) pe_str (fun _ _ => rfl)) pe_int (nomark _))
 (pss_cons (ps_set (i := 2) sc__law_draw.nd rfl (Or.inl rfl) (pe_op op_modN (pe_dget hu (pv 0) pe_str (fun _ _ => rfl)) (pv 1)))
 (pss_cons (ps_dput hu (pv 0) pe_str (pe_op op_fdivN (pe_dget hu (pv 0) pe_str (fun _ _ => rfl)) (pv 1)) rfl)
 (pss_one (ps_ret (pv 2)))))
 pss_nil)
 (pss_cons (ps_set (i := 3) sc__law_draw.nd rfl (Or.inl rfl) (pe_dget hu (pv 0) pe_str (fun _ _ => rfl)))
 (pss_cons (ps_dput hu (pv 0) pe_str (pe_op op_add (pv 3) pe_int) rfl)
 (pss_cons (ps_set (i := 4) sc__law_draw.nd rfl (Or.inl rfl) (pe_op op_add pe_int (pe_op op_mul pe_int (pv 3))))
 (pss_cut (ps_if (pt_cmpR (op_neD hr.units) (pe_dget hu (pv 0) pe_str (fun _ _ => rfl)) (pe_lst pa_nil) (nomark _))
 (pss_one (ps_set (i := 4) sc__law_draw.nd rfl (Or.inl rfl) (pe_ix ix_list (pe_dget hu (pv 0) pe_str (fun _ _ => rfl)) (pe_op op_modN (pv 3) (pe_callB call_len_seq (by rfl) T.b_len (by decide +kernel) (pa_cons (pe_dget hu (pv 0) pe_str (fun _ _ => rfl)) pa_nil))) (fun _ _ => rfl))))
 pss_nil)
 (pss_cut (ps_if (PW.pt (pw_and (pt_cmpR op_ge (pv 4) (pe_op op_pow pe_int pe_int) (nomark _)) (pw_and1 (pt_cmpR op_lt (pv 3) (pe_callB call_len_seq (by rfl) T.b_len (by decide +kernel) (pa_cons (pe_dget hu (pv 0) pe_str (fun _ _ => rfl)) pa_nil)) (nomark _)))))
 (pss_cons (ps_dput hu (pv 0) pe_str (pe_op op_fdivN (pe_op op_sub (pv 4) (pe_op op_pow pe_int pe_int)) (pv 1)) rfl)
 (pss_one (ps_ret (pe_op op_modN (pe_op op_sub (pv 4) (pe_op op_pow pe_int pe_int)) (pv 1)))))
 pss_nil)
 (pss_cons (ps_set (i := 5) sc__law_draw.nd rfl (Or.inl rfl) (pe_op op_mul (pe_op op_add (pe_op op_add (pe_op op_modN (pv 4) pe_int) (pe_op op_mul (pe_op op_mul pe_int (pv 3)) (pv 3))) pe_int) pe_int))
 (pss_cons (ps_set (i := 5) sc__law_draw.nd rfl (Or.inl rfl) (pe_op op_modN (pe_op op_pow (pe_op op_add (pe_op op_modN (pv 5) pe_int) (pe_op op_mul pe_int (pv 3))) pe_int) pe_int))
 (pss_one (ps_ret (pe_op op_modN (pe_op op_fdivN (pe_op op_modN (pe_op op_mul (pv 5) pe_int) pe_int) pe_int) (pv 1)))))))))))), ?_⟩
    refine ⟨_, rfl, f, _, rfl, dg_left hf, _, _, rfl, rfl, _, rfl, ?_⟩
    refine ite2 (fun hl => ?_) (fun hl => ?_)
    · refine ⟨_, rfl, f, _, rfl, dg_left hf, _, rfl, _, _, rfl, rfl, (by omega), ?_⟩
      refine ⟨_, rfl, f, _, rfl, dg_left hf, _, rfl, _, _, rfl, rfl, ⟨by omega, by omega⟩, _, rfl, f, _, rfl, dp_left hf, ?_⟩
      refine ⟨_, rfl, ?_⟩
      obtain ⟨d0, d1⟩ := fmod_rng l n0
      exact q _ _ d0 d1 ⟨Same.put sg gf, gf, ⟨ns, gc⟩, a, _, upd_same, a0, by omega⟩
    · -- at = feed['at']; feed['at'] = at + 1
      refine ⟨_, rfl, f, _, rfl, dg_at hf, ?_⟩
      refine ⟨_, rfl, _, _, rfl, rfl, _, rfl, f, _, rfl, dp_at hf, ?_⟩
      generalize hH1 : upd H f (.dK (fdK c (a + 1) l)) = H1
      have hf1 : H1 f = some (.dK (fdK c (a + 1) l)) := by rw [← hH1]; exact upd_same
      have hc1 : H1 c = some (.lst (ns.map V.int)) := by rw [← hH1, upd_ne nfc]; exact hc
      have sg1 : Same G H1 := by rw [← hH1]; exact Same.put sg gf
      -- cell = 29 + 3 * at
      refine ⟨_, rfl, _, _, rfl, rfl, .inl ⟨by decide, by decide⟩, _, _, rfl, rfl, ?_⟩
      -- if cells != []
      refine ⟨fun σ' H' => ∃ cell : Int, σ' = [some (.ref f), some (.int n), none, some (.int a), some (.int cell), none] ∧ Same G H' ∧ H' f = some (.dK (fdK c (a + 1) l)) ∧ H' c = some (.lst (ns.map V.int)), ?_, ?_⟩
      · refine ⟨_, rfl, f, _, rfl, dg_cells hf1, Nat.zero_le _, fun p hp => ?_⟩
        have sg2 : Same G (upd H1 p (.lst [])) := Same.new sg1 hp
        have hf2 : (upd H1 p (.lst [])) f = some (.dK (fdK c (a + 1) l)) := by rw [upd_ne (ne_of_none hf1 hp)]; exact hf1
        have hc2 : (upd H1 p (.lst [])) c = some (.lst (ns.map V.int)) := by rw [upd_ne (ne_of_none hc1 hp)]; exact hc1
        have hp2 : (upd H1 p (.lst [])) p = some (.lst []) := upd_same
        generalize upd H1 p (.lst []) = H2 at sg2 hf2 hc2 hp2
        refine ⟨.list (ns.map PyData.int), .list [], .lst (ofL hc2) (dpInts ns), .lst (ofL hp2) .nil, shInts ns, (by rfl), _, rfl, ?_⟩
        refine ite2 (fun hn => ?_) (fun _ => ⟨_, rfl, sg2, hf2, hc2⟩)
        have hpos : 0 < ns.length := by
          cases ns with
          | nil => exact absurd hn (by decide)
          | cons _ _ => exact Nat.succ_pos _
        have hL : 0 < (((ns.map V.int).length : Nat) : Int) := by rw [List.length_map]; omega
        obtain ⟨j0, j1⟩ := fmod_rng a hL
        have hlen : (ns.map V.int).length = ns.length := List.length_map ..
        have hj : (a.fmod ((ns.map V.int).length : Nat)).toNat < ns.length := by omega
        refine ⟨_, rfl, f, _, rfl, dg_cells hf2, _, rfl, _, rfl, f, _, rfl, dg_cells hf2, c, _, rfl, .inl (ofL hc2), _, _, rfl, rfl, (by omega), c, _, _, .int ns[(a.fmod ((ns.map V.int).length : Nat)).toNat], rfl, rfl, ofL hc2, at_of (j := (a.fmod ((ns.map V.int).length : Nat)).toNat) (by omega) ?_, ?_⟩
        · rw [List.getElem?_map, List.getElem?_eq_getElem hj]; rfl
        · exact ⟨_, rfl, sg2, hf2, hc2⟩
      · rintro σ' H' ⟨cell, rfl, sg2, hf2, hc2⟩
        have fin : ∀ (d : Int) (l' : Int) (H3 : Hp), 0 ≤ d → d < n → H3 = H' ∨ H3 = upd H' f (.dK (fdK c (a + 1) l')) → Q (.int d) H3 := by
          intro d l' H3 d0 d1 e
          rcases e with e | e
          · subst e
            exact q d _ d0 d1 ⟨sg2, gf, ⟨ns, gc⟩, a + 1, l, hf2, by omega, by omega⟩
          · subst e
            exact q d _ d0 d1 ⟨Same.put sg2 gf, gf, ⟨ns, gc⟩, a + 1, l', upd_same, by omega, by omega⟩
        -- if cell >= 10 ** 18 and at < len(cells)
        refine ⟨fun σ2 H2 => σ2 = [some (.ref f), some (.int n), none, some (.int a), some (.int cell), none] ∧ H2 = H', ?_, ?_⟩
        · refine ⟨_, rfl, _, _, rfl, rfl, ⟨by decide, by decide, by decide⟩, _, _, rfl, rfl, _, rfl, ?_⟩
          refine ite2 (fun h18 => ?_) (fun _ => ⟨rfl, rfl⟩)
          refine ⟨_, rfl, _, rfl, f, _, rfl, dg_cells hf2, c, _, rfl, .inl (ofL hc2), _, _, rfl, rfl, _, rfl, ?_⟩
          refine ite2 (fun _ => ?_) (fun _ => ⟨rfl, rfl⟩)
          refine ⟨_, rfl, _, _, rfl, rfl, ⟨by decide, by decide, by decide⟩, _, _, rfl, rfl, _, rfl, _, _, rfl, rfl, ⟨by omega, by omega⟩, _, rfl, f, _, rfl, dp_left hf2, ?_⟩
          refine ⟨_, rfl, _, _, rfl, rfl, ⟨by decide, by decide, by decide⟩, _, _, rfl, rfl, _, rfl, _, _, rfl, rfl, (by omega), ?_⟩
          obtain ⟨d0, d1⟩ := fmod_rng (cell - 10 ^ 18) n0
          exact fin _ _ _ d0 d1 (.inr rfl)
        · rintro σ2 H2 ⟨rfl, rfl⟩
          refine ⟨_, rfl, _, _, rfl, rfl, (by show (2147483629 : Int) ≠ 0; decide), _, rfl, _, _, rfl, rfl, .inl ⟨by decide, by decide⟩, _, rfl, _, _, rfl, rfl, .inr ⟨by omega, by omega⟩, _, _, rfl, rfl, _, _, rfl, rfl, _, _, rfl, rfl, .inr ⟨by decide, by decide⟩, ?_⟩
          have y := fmod_rng ((cell.fmod 2147483629 + 7919 * a * a + 53) * 48271) (n := 2147483647) (by decide)
          refine ⟨_, rfl, _, _, rfl, rfl, (by show (2147483647 : Int) ≠ 0; decide), _, rfl, _, _, rfl, rfl, .inl ⟨by decide, by decide⟩, _, _, rfl, rfl, _, _, rfl, rfl, ⟨by decide, by decide, by omega⟩, _, _, rfl, rfl, (by show (2147483587 : Int) ≠ 0; decide), ?_⟩
          refine ⟨_, rfl, _, _, rfl, rfl, .inr ⟨by decide, by decide⟩, _, _, rfl, rfl, (by show (2147483563 : Int) ≠ 0; decide), _, _, rfl, rfl, ⟨by decide, by decide⟩, _, rfl, _, _, rfl, rfl, (by omega), ?_⟩
          exact fin _ 0 _ (fmod_rng _ n0).1 (fmod_rng _ n0).2 (.inl rfl)

/-! ### _law_feed -/
theorem fd_merge (c : Addr) : mergeK [] [(.inr "cells", .ref c), (.inr "at", .int 0), (.inr "left", .int 0)] = fdK c 0 0 := by
  unfold mergeK putK fdK
  simp [n_ca0, n_cl0, n_al0]
theorem cut_ints (ns : List Int) (lo hi : Option Int) : ∃ ms : List Int, cutV (ns.map V.int) lo hi = ms.map V.int := by
  unfold cutV
  exact ⟨(ns.drop (HT.sIx (ns.map V.int).length 0 lo)).take (HT.sIx (ns.map V.int).length (ns.map V.int).length hi - HT.sIx (ns.map V.int).length 0 lo), by rw [List.map_take, List.map_drop]⟩
def spFeed (K : PySem.W.Frag) : Sp := fun vs H Q _ => ∃ (a : Addr) (ns : List Int), vs = [.ref a] ∧ SqL K H a (ns.map V.int) ∧
  ∀ (f c : Addr) (G H' : Hp), Same H G → H f = none → Wo G H' f c 0 → Q (.ref f) H'
theorem ok__law_feed (T : Tx K mg) : FnOk P w K mg base CX0 1 T._law_feed.f T._law_feed.fd ["_law_script"] (spFeed K) := by
  refine T._law_feed.F.ok sc__law_feed (fun vs H Q E h => ?_) (fun cdv A outer s H vs Q E hr h => ?_)
  · obtain ⟨a, ns, rfl, _⟩ := h
    rfl
  · obtain ⟨a, ns, rfl, hS, q⟩ := h
    refine ⟨_, (pss_one (ps_ret (pe_disp (pps_cons pe_str (pe_callTy call_list_of (by rfl) T.b_list (by decide +kernel) (pa_cons (pe_slice sl_list (pv 0) po_none (po_some pe_int)) pa_nil)) (pps_cons pe_str pe_int (pps_cons pe_str pe_int pps_nil))) (by rfl) (by rfl) (fun z => by cases z) (by decide)))), ?_⟩
    intro f nf
    have s1 : Same H (upd H f (.dK [])) := same_up nf
    refine ⟨_, rfl, 63, rfl, a, _, rfl, s1.seq hS, fun p np => ?_⟩
    obtain ⟨ms, em⟩ := cut_ints ns none (some 63)
    rw [em]
    have npf : p ≠ f := fun e => by rw [e, upd_same] at np; cases np
    refine ⟨p, _, rfl, .inl (ofL upd_same), fun c nc => ?_⟩
    have ncf : c ≠ f := fun e => by rw [e, upd_ne npf.symm, upd_same] at nc; cases nc
    have ncp : c ≠ p := fun e => by rw [e, upd_same] at nc; cases nc
    have nc0 : H c = none := by rw [upd_ne ncp, upd_ne ncf] at nc; exact nc
    refine ⟨by rw [upd_ne ncf.symm, upd_ne npf.symm, upd_same], [(.inr "cells", .ref c), (.inr "at", .int 0), (.inr "left", .int 0)], rfl, by show 3 ≤ 15; decide, ?_⟩
    rw [fd_merge]
    refine q f c (upd H c (.lst (ms.map V.int))) _ (same_up nc0) nf ⟨fun b o e => ?_, by rw [upd_ne ncf.symm]; exact nf, ⟨ms, upd_same⟩, 0, 0, upd_same, Int.le_refl _, by decide⟩
    by_cases hb : b = c
    · subst hb
      rw [upd_same] at e
      rw [upd_ne ncf, upd_same]
      exact e
    · rw [upd_ne hb] at e
      have np0 : H p = none := by rw [upd_ne npf] at np; exact np
      rw [upd_ne (ne_of_none e nf), upd_ne hb, upd_ne (ne_of_none e np0), upd_ne (ne_of_none e nf)]
      exact e

/-! ### _law_of -/
def signV (z : Str) : List V := z.cps.toList.map fun c => V.str ⟨#[c]⟩
def SeqIn (K : PySem.W.Frag) (G : Hp) (x : V) (ys : List V) : Prop := (∃ a, x = .ref a ∧ SqL K G a ys) ∨ ∃ z : Str, x = .str z ∧ z.length ≤ 100000 ∧ ys = signV z
def spOf (K : PySem.W.Frag) : Sp := fun vs H Q _ => ∃ (G : Hp) (f c : Addr) (k : Nat) (x : V) (ys : List V), vs = [.ref f, x] ∧ SeqIn K G x ys ∧ 0 < ys.length ∧ ys.length < 1000000 ∧ Wo G H f c k ∧ k < 1073741824 ∧
  ∀ (v : V) (H' : Hp), v ∈ ys → Wo G H' f c (k + 1) → Q v H'
theorem ok__law_of (T : Tx K mg) : FnOk P w K mg base CX0 2 T._law_of.f T._law_of.fd ["_law_feed_here", "_law_some"] (spOf K) := by
  refine T._law_of.F.ok sc__law_of (fun vs H Q E h => ?_) (fun cdv A outer s H vs Q E hr h => ?_)
  · obtain ⟨G, f, c, k, x, ys, rfl, _⟩ := h
    rfl
  · obtain ⟨G, f, c, k, x, ys, rfl, hx, y0, y1, W, kb, q⟩ := h
    refine ⟨_, (pss_one (ps_ret (pe_ix ix_seq (pv 1) (pe_call (ok__law_draw T) (hr.mono (by decide)) (by rfl) T._law_draw.mg T._law_draw.F.kp T._law_draw.b .nil pass0 (pa_cons (pv 0) (pa_cons (pe_callB call_len (by rfl) T.b_len (by decide +kernel) (pa_cons (pv 1) pa_nil)) pa_nil))) (fun _ _ => rfl)))), ?_⟩
    have hy : ∀ d : Int, 0 ≤ d → d < (ys.length : Int) → ∃ v, v ∈ ys ∧ ys[d.toNat]? = some v := fun d d0 d1 => by
      have : d.toNat < ys.length := by omega
      exact ⟨ys[d.toNat], List.getElem_mem this, List.getElem?_eq_getElem this⟩
    rcases hx with ⟨a, rfl, ha⟩ | ⟨z, rfl, hz, ey⟩
    · refine ⟨_, rfl, _, rfl, _, rfl, _, ys.length, rfl, .inl ⟨ys, W.same.seq ha, rfl⟩, G, f, c, k, _, rfl, by omega, by omega, W, kb, fun d H' d0 d1 W' => ?_⟩
      obtain ⟨v, hv, ev⟩ := hy d d0 d1
      exact .inl ⟨a, ys, d, v, rfl, rfl, W'.same.seq ha, at_of (j := d.toNat) (by omega) ev, q v H' hv W'⟩
    · have el : ys.length = z.length := by rw [ey]; simp [signV, Str.length]
      refine ⟨_, rfl, _, rfl, _, rfl, _, ys.length, rfl, ⟨Nat.le_trans hz (by decide), el⟩, G, f, c, k, _, rfl, by omega, by omega, W, kb, fun d H' d0 d1 W' => ?_⟩
      obtain ⟨v, hv, ev⟩ := hy d d0 d1
      rw [ey] at ev
      unfold signV at ev
      rw [List.getElem?_map] at ev
      cases e : z.cps.toList[d.toNat]? with
      | none => rw [e] at ev; cases ev
      | some cc =>
        rw [e] at ev
        obtain rfl : V.str ⟨#[cc]⟩ = v := Option.some.inj ev
        exact .inr (.inr ⟨z, d, cc, rfl, rfl, Nat.le_trans hz (by decide), at_of' (by omega) e, q _ H' hv W'⟩)
end
end Cr

namespace Cr
open PySem L2

/-! ### terms as data -/
def tmD (t : Tm) : PyData := .tuple [.int t.1, .str t.2]
def okT (m : Nat) (B : Int) (t : Tm) : Prop := 0 ≤ t.1 ∧ t.1 < B ∧ t.2.length ≤ m ∧ lets t.2
theorem canTms : ∀ ts : List Tm, (∀ t ∈ ts, lets t.2) → PyData.canLayAll0 (ts.map tmD) = true
  | [], _ => rfl
  | t :: r, h => by
    have h1 := lets_ok (h t List.mem_cons_self)
    have h2 := canTms r fun u hu => h u (List.mem_cons_of_mem _ hu)
    simp [PyData.canLayAll0, PyData.canLay0, tmD, h1, h2]
theorem depTms : ∀ ts : List Tm, PyData.depthAll (ts.map tmD) ≤ 2
  | [] => by simp [PyData.depthAll]
  | t :: r => by
    have := depTms r
    simp [PyData.depthAll, PyData.depth, tmD]
    omega
theorem shTms {ts : List Tm} (h : ∀ t ∈ ts, lets t.2) : SeqAt.shaped (.list (ts.map tmD)) = true := by
  have h1 := canTms ts h
  have h2 := depTms ts
  unfold SeqAt.shaped
  rw [show PyData.canLay0 (.list (ts.map tmD)) = true by rw [PyData.canLay0]; exact h1]
  simp [PyData.depth]
  omega
mutual
theorem dpUp {K : PySem.W.Frag} {G G' : Hp} (s : Same G G') : ∀ {v : V} {d : PyData}, Dp K G v d → Dp K G' v d
  | _, _, .non => .non
  | _, _, .bl b => .bl b
  | _, _, .int i => .int i
  | _, _, .str x => .str x
  | _, _, .lst h a => .lst (s.seq h) (dpUps s a)
  | _, _, .tup h a => .tup (Same.sqT s h) (dpUps s a)
theorem dpUps {K : PySem.W.Frag} {G G' : Hp} (s : Same G G') : ∀ {vs : List V} {ds : List PyData}, DpAll K G vs ds → DpAll K G' vs ds
  | _, _, .nil => .nil
  | _, _, .cons h t => .cons (dpUp s h) (dpUps s t)
end
theorem dpApp {K : PySem.W.Frag} {G : Hp} : ∀ {vs ws : List V} {ds es : List PyData}, DpAll K G vs ds → DpAll K G ws es → DpAll K G (vs ++ ws) (ds ++ es)
  | _, _, _, _, .nil, h => h
  | _, _, _, _, .cons a b, h => .cons a (dpApp b h)
theorem dpLen {K : PySem.W.Frag} {G : Hp} : ∀ {vs : List V} {ds : List PyData}, DpAll K G vs ds → vs.length = ds.length
  | _, _, .nil => rfl
  | _, _, .cons _ b => by rw [List.length_cons, List.length_cons, dpLen b]
theorem dpGet {K : PySem.W.Frag} {G : Hp} : ∀ {vs : List V} {ds : List PyData} {i : Nat} {v : V}, DpAll K G vs ds → vs[i]? = some v → ∃ d, ds[i]? = some d ∧ Dp K G v d
  | _, _, _, _, .nil, h => by simp at h
  | _, _, 0, _, .cons a b, h => by
    simp at h
    subst h
    exact ⟨_, rfl, a⟩
  | _, _, i + 1, _, .cons a b, h => by
    obtain ⟨d, e, q⟩ := dpGet (i := i) b (by simpa using h)
    exact ⟨d, by simpa using e, q⟩
theorem dpMem {K : PySem.W.Frag} {G : Hp} {vs : List V} {ds : List PyData} {v : V} (h : DpAll K G vs ds) (hv : v ∈ vs) : ∃ d ∈ ds, Dp K G v d := by
  obtain ⟨i, hi, rfl⟩ := List.getElem_of_mem hv
  obtain ⟨d, e, q⟩ := dpGet h (List.getElem?_eq_getElem hi)
  exact ⟨d, List.mem_of_getElem? e, q⟩
/-- a term at a value -/
theorem tm_at {K : PySem.W.Frag} {G : Hp} {v : V} {t : Tm} (h : Dp K G v (tmD t)) : ∃ a, v = .ref a ∧ SqT K G a [.int t.1, .str t.2] := by
  unfold tmD at h
  cases h with
  | tup h a =>
    cases a with
    | cons a1 b1 =>
      cases a1
      cases b1 with
      | cons a2 b2 =>
        cases a2
        cases b2
        exact ⟨_, rfl, h⟩

section
variable {P : Program} {w : World} {K : PySem.W.Frag} {mg : Str → Option Value} {base : Heap}
theorem alpha_ok {v : V} (h : v ∈ ([.str "abcdefghijklmnopqrstuvwxyz", .str "nmk", .str "z"] : List V)) : ∃ z : Str, v = .str z ∧ lets z ∧ 0 < z.length ∧ z.length ≤ 26 := by
  have k1 : lets "abcdefghijklmnopqrstuvwxyz" := by unfold lets; decide +kernel
  have k2 : lets "nmk" := by unfold lets; decide +kernel
  have k3 : lets "z" := by unfold lets; decide +kernel
  rcases List.mem_cons.mp h with rfl | h
  · exact ⟨_, rfl, k1, by decide +kernel, by decide +kernel⟩
  rcases List.mem_cons.mp h with rfl | h
  · exact ⟨_, rfl, k2, by decide +kernel, by decide +kernel⟩
  rcases List.mem_cons.mp h with rfl | h
  · exact ⟨_, rfl, k3, by decide +kernel, by decide +kernel⟩
  · cases h
theorem sign_of {z : Str} {v : V} (hz : lets z) (h : v ∈ signV z) : ∃ y : Str, v = .str y ∧ y.length = 1 ∧ lets y := by
  obtain ⟨c, hc, rfl⟩ := List.mem_map.mp h
  refine ⟨_, rfl, rfl, fun d hd => ?_⟩
  have : d = c := by simpa using hd
  subst this
  exact hz d hc
def spTerms (K : PySem.W.Frag) : Sp := fun vs H Q _ => ∃ (G : Hp) (f c : Addr) (k : Nat) (m : Int), vs = [.ref f, .int m] ∧ 0 < m ∧ m ≤ 8 ∧ Wo G H f c k ∧ k < 536870912 ∧
  ∀ (p : Addr) (xs : List V) (ts : List Tm) (G' H' : Hp), Same G G' → Wo G' H' f c (k + 200) → G p = none → G' p = some (.lst xs) → DpAll K G' xs (ts.map tmD) → ts.length ≤ 7 → (∀ t ∈ ts, okT 5 (2 ^ 99) t) → Q (.ref p) H'
theorem ok__law_terms (T : Tx K mg) : FnOk P w K mg base CX0 3 T._law_terms.f T._law_terms.fd ["_law_feed_here", "_law_most"] (spTerms K) := by
  refine T._law_terms.F.ok sc__law_terms (fun vs H Q E h => ?_) (fun cdv A outer s H vs Q E hr h => ?_)
  · obtain ⟨G, f, c, k, m, rfl, _⟩ := h
    rfl
  · obtain ⟨G, f, c, k, m, rfl, m0, m1, W, kb, q⟩ := h
    refine ⟨_, (pss_cons (ps_set (i := 2) sc__law_terms.nd rfl (Or.inr rfl) (pe_call (ok__law_of T) (hr.mono (by decide)) (by rfl) T._law_of.mg T._law_of.F.kp T._law_of.b .nil pass0 (pa_cons (pv 0) (pa_cons (pe_lst (pa_cons pe_str (pa_cons pe_str (pa_cons pe_str pa_nil)))) pa_nil))))
 (pss_cons (ps_set (i := 3) sc__law_terms.nd rfl (Or.inl rfl) (pe_lst pa_nil))
 (pss_cons (ps_for PassesOwn.never rfl (pi_range1 (by rfl) T.b_range (pa_cons (pe_call (ok__law_draw T) (hr.mono (by decide)) (by rfl) T._law_draw.mg T._law_draw.F.kp T._law_draw.b .nil pass0 (pa_cons (pv 0) (pa_cons (pv 1) pa_nil))) pa_nil)) (pg_name (i := 4) sc__law_terms.nd rfl (Or.inl rfl))
 (pss_cons (ps_set (i := 5) sc__law_terms.nd rfl (Or.inl rfl) (pe_join pe_str (pe_lc (own := [("_law_place", 8)]) (g := gName 8) (by rfl) sc__law_terms.nd (pi_range1 (by rfl) T.b_range (pa_cons (pe_call (ok__law_draw T) (hr.mono (by decide)) (by rfl) T._law_draw.mg T._law_draw.F.kp T._law_draw.b .nil pass0 (pa_cons (pv 0) (pa_cons pe_int pa_nil))) pa_nil)) (blkOk_by (own := [("_law_place", 8)]) (N := N__law_terms) (sc := defScope s__law_terms) (by decide +kernel)) (fun _ _ _ _ _ => (pg_name (i := 8) sc__law_terms.nd rfl (Or.inl rfl))) (fun _ _ _ _ _ => pts_nil) (fun _ _ _ _ _ => (pe_call (ok__law_of T) (hr.mono (by decide)) (by rfl) T._law_of.mg T._law_of.F.kp T._law_of.b .nil pass0 (pa_cons (pv 0) (pa_cons (pv 2) pa_nil)))))))
 (pss_cons (ps_set (i := 6) sc__law_terms.nd rfl (Or.inl rfl) (pe_op op_add (pe_op op_pow pe_int pe_int) (pe_call (ok__law_draw T) (hr.mono (by decide)) (by rfl) T._law_draw.mg T._law_draw.F.kp T._law_draw.b .nil pass0 (pa_cons (pv 0) (pa_cons (pe_op op_pow pe_int pe_int) pa_nil)))))
 (pss_cons (ps_set (i := 7) sc__law_terms.nd rfl (Or.inl rfl) (pe_call (ok__law_of T) (hr.mono (by decide)) (by rfl) T._law_of.mg T._law_of.F.kp T._law_of.b .nil pass0 (pa_cons (pv 0) (pa_cons (pe_lst (pa_cons pe_int (pa_cons pe_int (pa_cons pe_int (pa_cons (pe_op op_add pe_int (pe_call (ok__law_draw T) (hr.mono (by decide)) (by rfl) T._law_draw.mg T._law_draw.F.kp T._law_draw.b .nil pass0 (pa_cons (pv 0) (pa_cons pe_int pa_nil)))) (pa_cons (pe_call (ok__law_draw T) (hr.mono (by decide)) (by rfl) T._law_draw.mg T._law_draw.F.kp T._law_draw.b .nil pass0 (pa_cons (pv 0) (pa_cons pe_int pa_nil))) (pa_cons (pv 6) pa_nil))))))) pa_nil))))
 (pss_cut (ps_if (PW.pt (pw_and (pt_cmpR (op_neD hr.units) (pv 3) (pe_lst pa_nil) (nomark _)) (pw_and1 (pt_cmpR op_eq (pe_call (ok__law_draw T) (hr.mono (by decide)) (by rfl) T._law_draw.mg T._law_draw.F.kp T._law_draw.b .nil pass0 (pa_cons (pv 0) (pa_cons pe_int pa_nil))) pe_int (nomark _)))))
 (pss_one (ps_set (i := 5) sc__law_terms.nd rfl (Or.inl rfl) (pe_revS (pe_ix ix_tup (pe_call (ok__law_of T) (hr.mono (by decide)) (by rfl) T._law_of.mg T._law_of.F.kp T._law_of.b .nil pass0 (pa_cons (pv 0) (pa_cons (pv 3) pa_nil))) pe_int (fun _ _ => rfl)))))
 pss_nil)
 (pss_one (ps_expr (pe_bm PySem.F.plainAttrs_list PySem.F.slot_list_append PySem.F.type_list_append mt_append (pv 3) (pa_cons (pe_tup (pa_cons (pv 7) (pa_cons (pv 5) pa_nil))) pa_nil)))))))))
 (pss_one (ps_ret (pv 3)))))), ?_⟩
    -- alphabet
    refine ⟨_, rfl, by show 3 ≤ sizeLine; decide, fun p1 np1 => ?_⟩
    refine ⟨_, f, c, k, _, _, rfl, .inl ⟨p1, rfl, ofL upd_same⟩, by show 0 < 3; decide, by show 3 < 1000000; decide, W.new np1, by omega, fun v H1 hv W1' => ?_⟩
    obtain ⟨az, rfl, azl, az0, az1⟩ := alpha_ok hv
    have W1 : Wo G H1 f c (k + 1) := W1'.sub (same_up (W.same.free np1)) W.cells
    -- found = []
    refine ⟨Nat.zero_le _, fun p np => ?_⟩
    have gp : G p = none := W1.same.free np
    have W2 : Wo G (upd H1 p (.lst [])) f c (k + 1) := W1.fresh np
    have hp2 : (upd H1 p (.lst [])) p = some (.lst []) := upd_same
    have nfp : f ≠ p := W1.ne np
    generalize upd H1 p (.lst []) = H2 at W2 hp2
    -- for turn in range(draw(feed, most))
    refine ⟨_, rfl, _, rfl, _, f, c, k + 1, m, rfl, m0, by omega, W2.add hp2 nfp gp, by omega, fun d H3 d0 d1 W3' => ?_⟩
    have hp3 : H3 p = some (.lst []) := W3'.same _ _ upd_same
    have W3 : Wo G H3 f c (k + 2) := W3'.sub (same_up gp) W.cells
    refine ⟨d, rfl, by omega, by omega, for_range (lo := 0) (n := d.toNat) (fun i σ H' => ∃ (Gi : Hp) (ts : List Tm) (xs : List V) (v4 v5 v6 v7 v8 : Option V),
      σ = [some (.ref f), some (.int m), some (.str az), some (.ref p), v4, v5, v6, v7, v8] ∧ Same G Gi ∧ Gi p = none ∧ Wo Gi H' f c (k + 2 + 20 * i) ∧ H' p = some (.lst xs) ∧ DpAll K Gi xs (ts.map tmD) ∧ ts.length ≤ i ∧ ∀ t ∈ ts, okT 5 (2 ^ 99) t)
      ⟨G, [], [], none, none, none, none, none, rfl, Same.refl G, gp, W3, hp3, .nil, Nat.le_refl _, fun t ht => nomatch ht⟩ ?_ ?_⟩
    · rintro i σ H4 hi ⟨Gi, ts, xs, v4, v5, v6, v7, v8, rfl, sg, gip, W4, hp4, hxs, hts, okt⟩
      have hi8 : i < 8 := by omega
      generalize hGp : upd Gi p (.lst xs) = Gp
      have sgp : Same Gi Gp := by rw [← hGp]; exact same_up gip
      have gpp : Gp p = some (.lst xs) := by rw [← hGp]; exact upd_same
      have gcl : ∃ ns : List Int, Gp c = some (.lst (ns.map V.int)) := by
        obtain ⟨ns, e⟩ := W4.cells
        exact ⟨ns, sgp _ _ e⟩
      have W5 : Wo Gp H4 f c (k + 2 + 20 * i) := by rw [← hGp]; exact W4.add hp4 nfp gip
      -- letters = ''.join([of(feed, alphabet) for place in range(draw(feed, 6))])
      refine ⟨⟨_, rfl⟩, _, rfl, Gp, f, c, _, 6, rfl, by decide, by decide, W5, by omega, fun d6 H5 e0 e1 W6 => ?_⟩
      refine ⟨d6, rfl, by omega, by omega, fun D nD => ?_⟩
      have gD : Gp D = none := W6.same.free nD
      have nfD : f ≠ D := W6.ne nD
      refine lc_range (lo := 0) (n := d6.toNat) (fun j H' => ∃ zs : List Str, H' D = some (.lst (zs.map V.str)) ∧ Wo Gp H' f c (k + 3 + 20 * i + j) ∧ zs.length = j ∧ ∀ z ∈ zs, z.length = 1 ∧ lets z)
        ⟨[], upd_same, (W6.fresh nD).mono (by omega), rfl, fun z hz => nomatch hz⟩ ?_ ?_
      · rintro j H6 hj ⟨zs, hD, W7, ez, hz⟩
        refine ⟨rfl, ?_⟩
        have hD7 : Wo (upd Gp D (.lst (zs.map V.str))) H6 f c (k + 3 + 20 * i + j) := W7.add hD nfD gD
        refine ⟨_, rfl, _, rfl, _, f, c, _, _, _, rfl, .inr ⟨az, rfl, by omega, rfl⟩, by simp [signV]; exact az0, by simp [signV]; have : az.cps.size = az.length := rfl; omega, hD7, by omega, fun v H7 hv W8 => ?_⟩
        obtain ⟨y, rfl, y1, yl⟩ := sign_of azl hv
        refine ⟨_, W8.same _ _ upd_same, by rw [List.length_map, sizeLine_eq]; omega, zs ++ [y], by rw [upd_same, List.map_append]; rfl, ?_, by rw [List.length_append, ez]; rfl, ?_⟩
        · exact ((W8.sub (same_up gD) gcl).put gD nfD).mono (by omega)
        · intro z hz'
          rcases List.mem_append.mp hz' with h | h
          · exact hz z h
          · rw [List.mem_singleton.mp h]; exact ⟨y1, yl⟩
      · rintro H6 ⟨zs, hD, W7, ez, hz⟩
        refine ⟨_, D, zs, rfl, rfl, .inl (ofL hD), ?_, ?_⟩
        · have : (zs.map (·.length)).sum ≤ zs.length := by
            clear hD W7 ez
            induction zs with
            | nil => exact Nat.le_refl _
            | cons z r ih =>
              have h1 := (hz z List.mem_cons_self).1
              have h2 := ih fun y hy => hz y (List.mem_cons_of_mem _ hy)
              simp only [List.map_cons, List.sum_cons, List.length_cons]
              omega
          have e0 : ("" : Str).length = 0 := by decide +kernel
          rw [e0]
          omega
        have letL : (Txt.join "" zs).length ≤ 5 := by rw [join0_len zs zs.length (fun y hy => (hz y hy).1) rfl]; omega
        have letO : lets (Txt.join "" zs) := lets_join fun y hy => (hz y hy).2
        generalize Txt.join "" zs = z5 at letL letO
        -- great = 10 ** 29 + draw(feed, 10 ** 6)
        refine ⟨_, _, rfl, rfl, ⟨by decide, by decide, by decide⟩, _, rfl, _, _, rfl, rfl, ⟨by decide, by decide, by decide⟩, Gp, f, c, _, _, rfl, by decide, by decide, W7, by omega, fun dg H7 g0 g1 W8 => ?_⟩
        refine ⟨_, _, rfl, rfl, ?_⟩
        -- many = of(feed, [0, 1, 1, 1 + draw(feed, 9), draw(feed, 1000), great])
        refine ⟨_, rfl, _, rfl, Gp, f, c, _, 9, rfl, by decide, by decide, W8, by omega, fun d9 H8 a0 a1 W9 => ?_⟩
        refine ⟨_, _, rfl, rfl, _, rfl, Gp, f, c, _, 1000, rfl, by decide, by decide, W9, by omega, fun dk H9 b0 b1 W10 => ?_⟩
        refine ⟨_, rfl, by show 6 ≤ sizeLine; decide, fun pl npl => ?_⟩
        refine ⟨_, f, c, _, _, _, rfl, .inl ⟨pl, rfl, ofL upd_same⟩, by show 0 < 6; decide, by show 6 < 1000000; decide, W10.new npl, by omega, fun vm H10 hv W11' => ?_⟩
        have W11 := W11'.sub (same_up (W10.same.free npl)) gcl
        obtain ⟨mn, rfl, mn0, mn1⟩ : ∃ mn : Int, vm = .int mn ∧ 0 ≤ mn ∧ mn < 2 ^ 99 := by
          have big : (10 : Int) ^ 29 + 1000000 < 2 ^ 99 := by decide
          have e29 : (10 : Int) ^ (29 : Int).toNat = 10 ^ 29 := rfl
          have e6 : (10 : Int) ^ (6 : Int).toNat = 1000000 := by decide
          rw [e6] at g1
          rcases List.mem_cons.mp hv with rfl | hv
          · exact ⟨_, rfl, by decide, by decide⟩
          rcases List.mem_cons.mp hv with rfl | hv
          · exact ⟨_, rfl, by decide, by decide⟩
          rcases List.mem_cons.mp hv with rfl | hv
          · exact ⟨_, rfl, by decide, by decide⟩
          rcases List.mem_cons.mp hv with rfl | hv
          · exact ⟨_, rfl, by omega, by omega⟩
          rcases List.mem_cons.mp hv with rfl | hv
          · exact ⟨_, rfl, by omega, by omega⟩
          rcases List.mem_cons.mp hv with rfl | hv
          · exact ⟨_, rfl, by rw [e29]; omega, by rw [e29]; omega⟩
          · cases hv
        -- if found != [] and draw(feed, 4) == 0
        refine ⟨fun σ' H' => ∃ z : Str, σ' = [some (.ref f), some (.int m), some (.str az), some (.ref p), some (.int (0 + (i : Int))), some (.str z), some (.int ((10 : Int) ^ (29 : Int).toNat + dg)), some (.int mn), v8] ∧ z.length ≤ 5 ∧ lets z ∧ Wo Gp H' f c (k + 2 + 20 * (i + 1)), ?_, ?_⟩
        · have W12 : Wo Gp H10 f c (k + 2 + 20 * (i + 1)) := W11.mono (by omega)
          have hp12 : H10 p = some (.lst xs) := W12.same _ _ gpp
          refine ⟨_, rfl, Nat.zero_le _, fun pe npe => ?_⟩
          have hpe : (upd H10 pe (.lst [])) pe = some (.lst []) := upd_same
          have W13 : Wo Gp (upd H10 pe (.lst [])) f c (k + 2 + 20 * i + 15) := (W11.fresh npe).mono (by omega)
          generalize upd H10 pe (.lst []) = H11 at W13 hpe
          refine ⟨.list (ts.map tmD), .list [], .lst (ofL (W13.same _ _ gpp)) (dpUps (sgp.trans W13.same) hxs), .lst (ofL hpe) .nil, shTms fun t ht => (okt t ht).2.2.2, (by rfl), _, rfl, ?_⟩
          refine ite2 (fun hn => ?_) (fun _ => ⟨z5, rfl, letL, letO, W13.mono (by omega)⟩)
          have hx0 : 0 < xs.length := by
            rw [dpLen hxs, List.length_map]
            cases ts with
            | nil => exact absurd hn (by decide)
            | cons _ _ => exact Nat.succ_pos _
          refine ⟨_, rfl, Gp, f, c, _, 4, rfl, by decide, by decide, W13, by omega, fun d4 H12 h0 h1 W14 => ?_⟩
          refine ⟨rfl, _, rfl, ?_⟩
          refine ite2 (fun _ => ?_) (fun _ => ⟨z5, rfl, letL, letO, W14.mono (by omega)⟩)
          refine ⟨_, rfl, _, rfl, Gp, f, c, _, _, xs, rfl, .inl ⟨p, rfl, ofL gpp⟩, hx0, by rw [dpLen hxs, List.length_map]; omega, W14, by omega, fun v H13 hv W15 => ?_⟩
          obtain ⟨dd, hdd, hv'⟩ := dpMem hxs hv
          obtain ⟨t, ht, rfl⟩ := List.mem_map.mp hdd
          obtain ⟨a, rfl, ha⟩ := tm_at hv'
          obtain ⟨t0, t1, t2, t3⟩ := okt t ht
          refine ⟨a, _, 1, .str t.2, rfl, rfl, Same.sqT (sgp.trans W15.same) ha, rfl, t.2, rfl, by rw [sizeLine_eq]; omega, ?_⟩
          exact ⟨revS t.2, rfl, by rw [revS_length]; exact t2, lets_rev t3, W15.mono (by omega)⟩
        · rintro σ' H11 ⟨z, rfl, zl, zo, W12⟩
          have hp12 : H11 p = some (.lst xs) := W12.same _ _ gpp
          refine ⟨_, rfl, .inl ⟨rfl, _, ofL hp12⟩, _, rfl, _, rfl, by show 2 ≤ sizeLine; decide, fun tp ntp => ?_⟩
          have npt : p ≠ tp := ne_of_none hp12 ntp
          have gtp : Gi tp = none := (sgp.trans W12.same).free ntp
          refine ⟨p, xs, _, rfl, rfl, by rw [upd_ne npt]; exact hp12, by rw [dpLen hxs, List.length_map, sizeLine_eq]; omega, ?_⟩
          refine ⟨upd Gi tp (.tup [.int mn, .str z]), ts ++ [(mn, z)], xs ++ [.ref tp], _, _, _, _, _, rfl, sg.trans (same_up gtp), by rw [upd_ne npt]; exact gip, ?_, upd_same, ?_, by rw [List.length_append]; show ts.length + 1 ≤ i + 1; omega, ?_⟩
          · have W13 : Wo Gi H11 f c (k + 2 + 20 * (i + 1)) := W12.sub sgp W4.cells
            exact (W13.new ntp).put (by rw [upd_ne npt]; exact gip) nfp
          · rw [List.map_append]
            exact dpApp (dpUps (same_up gtp) hxs) (.cons (.tup (ofT upd_same) (.cons (.int _) (.cons (.str _) .nil))) .nil)
          · intro t ht
            rcases List.mem_append.mp ht with h | h
            · exact okt t h
            · rw [List.mem_singleton.mp h]; exact ⟨mn0, mn1, zl, zo⟩
    · rintro σ H4 ⟨Gi, ts, xs, v4, v5, v6, v7, v8, rfl, sg, gip, W4, hp4, hxs, hts, okt⟩
      refine ⟨_, rfl, ?_⟩
      exact q p xs ts (upd Gi p (.lst xs)) H4 (sg.trans (same_up gip)) ((W4.add hp4 nfp gip).mono (by omega)) gp upd_same (dpUps (same_up gip) hxs) (by omega) okt
end
end Cr

namespace Cr
open PySem L2
theorem Wo.keep {G H H' : Hp} {f c : Addr} {k : Nat} (W : Wo G H f c k) (s : Same H H') : Wo G H' f c k := by
  obtain ⟨a, l, e, r⟩ := W.feed
  exact ⟨W.same.trans s, W.nf, W.cells, a, l, s _ _ e, r⟩
theorem paired_app {α β : Type} {F : α → β → Prop} : ∀ {xs ys : List α} {us vs : List β}, Paired F xs us → Paired F ys vs → Paired F (xs ++ ys) (us ++ vs)
  | _, _, _, _, .nil, h => h
  | _, _, _, _, .cons a b, h => .cons a (paired_app b h)
/-- bounds of tables of terms of at most 6 signs -/
abbrev BT : Int := 2 ^ 110
structure TsOk (ts : List Tm) : Prop where
  len : ts.length ≤ 9
  each : ∀ t ∈ ts, okT 6 (2 ^ 100) t
theorem TsOk.part {ts : List Tm} (h : TsOk ts) (i : Nat) : TabOk 6 BT ((ts.take i).foldl stepK []) ∧ ((ts.take i).foldl stepK []).length ≤ 9 := by
  have a := fold_ok (m := 6) (C := 2 ^ 100) (by decide) (ts.take i) [] 1 .nil (by decide) fun t ht => h.each t (List.mem_of_mem_take ht)
  have hl : (ts.take i).length ≤ 9 := Nat.le_trans (by rw [List.length_take]; omega) h.len
  refine ⟨a.1.mono ?_, by simpa using Nat.le_trans a.2 (by simpa using hl)⟩
  have e : (2 : Int) ^ 110 = 2 ^ 100 * 1024 := by decide
  show 1 + 2 ^ 100 * ((ts.take i).length : Int) ≤ (2 : Int) ^ 110
  rw [e]
  have : (0 : Int) < 2 ^ 100 := by decide
  omega
theorem TsOk.tab0 {ts : List Tm} (h : TsOk ts) : TabOk 6 BT (tab0 ts) ∧ (tab0 ts).length ≤ 9 := by
  have q := h.part ts.length
  rw [List.take_length] at q
  exact q
theorem take_fold {ts : List Tm} {i : Nat} {t : Tm} (e : ts[i]? = some t) : (ts.take (i + 1)).foldl stepK [] = stepK ((ts.take i).foldl stepK []) t := by
  rw [List.take_add_one, e, List.foldl_append]
  rfl
theorem lens1 : ∀ (ys : List Str), (∀ y ∈ ys, y.length = 1) → (ys.map (·.length)).sum = ys.length
  | [], _ => rfl
  | y :: r, h => by
    have h1 := h y List.mem_cons_self
    have h2 := lens1 r fun z hz => h z (List.mem_cons_of_mem _ hz)
    simp only [List.map_cons, List.sum_cons, List.length_cons, h1, h2]
    omega
theorem e0len : ("" : Str).length = 0 := by decide +kernel
/-- the room that a join of sorted signs asks -/
theorem join_room {ys : List Str} {z : Str} (pm : ys.Perm (signs z)) (hz : z.length < 64) : (ys.map (·.length)).sum + ys.length * ("" : Str).length ≤ 16777216 := by
  rw [lens1 ys fun y hy => sign_len (pm.mem_iff.mp hy), pm.length_eq, signs_len, e0len]
  omega
theorem join_srt {ys : List Str} {z : Str} (pm : ys.Perm (signs z)) (so : PyProof.Rows.sortedS ys = true) : Txt.join "" ys = srt z := by
  rw [sorted_is pm so]
  rfl
section
variable {P : Program} {w : World} {K : PySem.W.Frag} {mg : Str → Option Value} {base : Heap}
def spTable (K : PySem.W.Frag) : Sp := fun vs H Q _ => ∃ (a : Addr) (xs : List V) (ts : List Tm), vs = [.ref a] ∧ SqL K H a xs ∧ DpAll K H xs (ts.map tmD) ∧ TsOk ts ∧
  ∀ (p : Addr) (H' : Hp), Same H H' → H p = none → H' p = some (.dK (tab ts)) → Q (.ref p) H'
theorem ok__law_table (T : Tx K mg) : FnOk P w K mg base CX0 1 T._law_table.f T._law_table.fd ["_law_a_terms"] (spTable K) := by
  refine T._law_table.F.ok sc__law_table (fun vs H Q E h => ?_) (fun cdv A outer s H vs Q E hr h => ?_)
  · obtain ⟨a, xs, ts, rfl, _⟩ := h
    rfl
  · obtain ⟨a, xs, ts, rfl, ha, hxs, tok, q⟩ := h
    have hu := hu_of hr
    refine ⟨_, (pss_cons (ps_set (i := 1) sc__law_table.nd rfl (Or.inr rfl) pe_dnewK)
 (pss_cons (ps_for PassesOwn.never rfl (pi_list (pv 0)) (pg_tup rfl (pgs_cons (pg_name (i := 2) sc__law_table.nd rfl (Or.inl rfl)) (pgs_cons (pg_name (i := 3) sc__law_table.nd rfl (Or.inl rfl)) pgs_nil)))
 (pss_cons (ps_set (i := 4) sc__law_table.nd rfl (Or.inl rfl) (pe_join pe_str (pe_callB (call_sortedT (by rfl)) (by rfl) T.b_sorted (by decide +kernel) (pa_cons (pv 3) pa_nil))))
 (pss_one (ps_dput hu (pv 1) (pv 4) (pe_op op_add (pe_dget2 hu (pv 1) (pv 4) pe_int ⟨rfl, rfl, rfl, rfl⟩) (pv 2)) rfl))))
 (pss_one (ps_ret (pe_callTy (call_dictP rfl) (by rfl) T.b_dict (by decide +kernel) (pa_cons (pe_lock (pe_lc (own := [("_law_key", 4)]) (g := gName 4) (by rfl) sc__law_table.nd (pi_keys (pv 1)) (blkOk_by (own := [("_law_key", 4)]) (N := N__law_table) (sc := defScope s__law_table) (by decide +kernel)) (fun _ _ _ _ _ => (pg_name (i := 4) sc__law_table.nd rfl (Or.inl rfl))) (fun _ _ _ _ _ => (pts_one (pt_cmpR op_gt (pe_dget hu (pv 1) (pv 4) (fun _ _ => rfl)) pe_int (nomark _)))) (fun _ _ _ _ _ => (pe_tup (pa_cons (pv 4) (pa_cons (pe_dget hu (pv 1) (pv 4) (fun _ _ => rfl)) pa_nil)))))) pa_nil)))))), ?_⟩
    intro d nd
    have hlen : xs.length = ts.length := by rw [dpLen hxs, List.length_map]
    refine ⟨_, rfl, a, rfl, ⟨_, (same_up nd).seq ha⟩, for_list (K := K) (a := a) (xs := xs) (fun i σ H' => ∃ v2 v3 v4, σ = [some (.ref a), some (.ref d), v2, v3, v4] ∧ Same H H' ∧ H' d = some (.dK ((ts.take i).foldl stepK [])))
      ⟨none, none, none, rfl, same_up nd, upd_same⟩ (fun i σ H' _ ⟨_, _, _, _, s, _⟩ => s.seq ha) ?_ ?_⟩
    · rintro i x σ H' hi ⟨v2, v3, v4, rfl, s, hd⟩
      obtain ⟨dd, hdd, hx⟩ := dpGet hxs hi
      rw [List.getElem?_map] at hdd
      obtain ⟨t, et, rfl⟩ := Option.map_eq_some_iff.mp hdd
      obtain ⟨b, rfl, hb⟩ := tm_at hx
      obtain ⟨t0, t1, t2, t3⟩ := tok.each t (List.mem_of_getElem? et)
      obtain ⟨ok, ol⟩ := tok.part i
      refine ⟨b, _, rfl, Same.sqT s hb, rfl, _, _, rfl, _, _, rfl, rfl, ?_⟩
      refine ⟨⟨_, rfl⟩, _, rfl, t.2, rfl, by omega, fun ys p pm so np => ?_⟩
      refine ⟨_, p, ys, rfl, rfl, .inl (ofL upd_same), join_room pm (by omega), ?_⟩
      rw [join_srt pm so]
      have hd2 : (upd H' p (.lst (ys.map V.str))) d = some (.dK ((ts.take i).foldl stepK [])) := by rw [upd_ne (ne_of_none hd np)]; exact hd
      have s2 : Same H (upd H' p (.lst (ys.map V.str))) := Same.new s np
      generalize upd H' p (.lst (ys.map V.str)) = H2 at hd2 s2
      refine ⟨_, rfl, d, rfl, .inl ⟨_, .inl hd2⟩, _, rfl, _, DGet.k (k := .inr (srt t.2)) hd2, ?_⟩
      rw [getD_gI ok]
      refine ⟨_, rfl, _, _, rfl, rfl, _, rfl, _, rfl, d, _, rfl, DPut.k (k := .inr (srt t.2)) hd2 (by rw [sizeLine_eq]; omega), ?_⟩
      refine ⟨_, _, _, rfl, Same.put s2 nd, ?_⟩
      rw [upd_same, take_fold et]
      rfl
    · rintro σ H' ⟨v2, v3, v4, rfl, s, hd⟩
      rw [hlen, List.take_length] at hd
      have hd : H' d = some (.dK (tab0 ts)) := hd
      obtain ⟨ok, ol⟩ := tok.tab0
      -- [(key, found[key]) for key in found if found[key] > 0]
      refine ⟨d, _, hd, trivial, fun od => ?_⟩
      have hd1 : (upd H' d (.frz od (.dK (tab0 ts)))) d = some (.frz od (.dK (tab0 ts))) := upd_same
      have s1 : ∀ a x, a ≠ d → H' a = some x → (upd H' d (.frz od (.dK (tab0 ts)))) a = some x := fun a x c e => by rw [upd_ne c]; exact e
      generalize upd H' d (.frz od (.dK (tab0 ts))) = H1 at hd1 s1
      refine ⟨_, rfl, d, od, rfl, .inl ⟨_, hd1, fun D nD => ?_⟩⟩
      have nDd : d ≠ D := ne_of_none hd1 nD
      refine lc_keys (Pv := fun i H2 => (∀ a x, a ≠ d → H' a = some x → H2 a = some x) ∧ H2 d = some (.frz od (.dK (tab0 ts))) ∧ ∃ ps : List Addr, H2 D = some (.lst (ps.map V.ref)) ∧
          Paired (fun p kv => H2 p = some (.tup [kV kv.1, kv.2])) ps (((tab0 ts).take i).filter fun p => posV p.2)) ⟨fun a x c e => ?_, ?_, [], upd_same, .nil⟩ (fun i H2 _ h => h.2.1) ?_ ?_
      · have e1 := s1 a x c e
        rw [upd_ne (ne_of_none e1 nD)]; exact e1
      · rw [upd_ne nDd]; exact hd1
      · rintro i kk v H2 hi ⟨sk, hd2, ps, hD, hps⟩
        obtain ⟨z, n, ekv, n0, n1, zl, zo⟩ := ok.each _ (List.mem_of_getElem? hi)
        obtain ⟨rfl, rfl⟩ : kk = .inr z ∧ v = .int n := by cases ekv; exact ⟨rfl, rfl⟩
        have hv : valV (tab0 ts) (.inr z) = some (.int n) := val_nodup ok.nd _ (List.mem_of_getElem? hi)
        refine ⟨rfl, _, rfl, _, rfl, d, _, rfl, dg_frz (k := .inr z) hd2 hv, _, _, rfl, rfl, _, rfl, ?_⟩
        refine ite2 (fun hpos => ?_) (fun hneg => ?_)
        · refine ⟨_, rfl, _, rfl, _, rfl, d, _, rfl, dg_frz (k := .inr z) hd2 hv, by show 2 ≤ sizeLine; decide, fun tp ntp => ?_⟩
          have nDt : D ≠ tp := ne_of_none hD ntp
          have ndt : d ≠ tp := ne_of_none hd2 ntp
          have hlp : ps.length ≤ 9 := by
            rw [Paired.length hps]
            exact Nat.le_trans (List.length_filter_le _ _) (Nat.le_trans (by rw [List.length_take]; omega) ol)
          refine ⟨_, by rw [upd_ne nDt]; exact hD, by rw [List.length_map, sizeLine_eq]; omega, fun a x c e => ?_, ?_, ps ++ [tp], by rw [upd_same, List.map_append]; rfl, ?_⟩
          · have e1 := sk a x c e
            have naD : a ≠ D := fun q => by
              rw [q] at e
              have e2 := s1 _ _ (q ▸ c) e
              rw [nD] at e2; cases e2
            rw [upd_ne naD, upd_ne (ne_of_none e1 ntp)]
            exact e1
          · rw [upd_ne nDd, upd_ne ndt]; exact hd2
          · rw [filter_take_yes hi (show posV (.int n) = true from hpos)]
            refine paired_app (Paired.mapP hps fun p kv e => ?_) (.cons ?_ .nil)
            · have npD : p ≠ D := ne_of e hD (by intro q; cases q)
              rw [upd_ne npD, upd_ne (ne_of_none e ntp)]
              exact e
            · rw [upd_ne nDt.symm, upd_same]
        · refine ⟨sk, hd2, ps, hD, ?_⟩
          rw [filter_take_no hi (show posV (.int n) = false by simpa [posV] using hneg)]
          exact hps
      · rintro H2 ⟨sk, hd2, ps, hD, hps⟩
        rw [List.take_length] at hps
        have nd1 : (tab ts).map (·.1) |>.Nodup := ok.nd.sublist ((tab_sub ts).map _)
        refine ⟨hd2, D, ps, tab ts, rfl, ofL (by rw [upd_ne nDd.symm]; exact hD), Paired.mapP hps fun p kv e => ofT (by rw [upd_ne (ne_of e hd2 (by intro q; cases q))]; exact e), fun p np => ?_⟩
        rw [merge_new nd1]
        have ss : Same H' (upd H2 d (.dK (tab0 ts))) := same_lock hd sk
        exact q p _ ((s.trans ss).trans (same_up np)) ((s.trans ss).free np) upd_same

/-! ### Size.__init__ -/
def spInit (K : PySem.W.Frag) (C : Addr) : Sp := fun vs H Q _ => ∃ (x dx a : Addr) (xs : List V) (ts : List Tm), vs = [.ref x, .ref a] ∧ H x = some (.ins C dx []) ∧ SqL K H a xs ∧ DpAll K H xs (ts.map tmD) ∧ TsOk ts ∧
  ∀ (p : Addr) (H' : Hp), (∀ b o, b ≠ x → H b = some o → H' b = some o) → H p = none → H' x = some (.ins C dx [("counts", .ref p)]) → H' p = some (.dK (tab ts)) → Q .non H'
theorem ok_Size___init__ (T : Tx K mg) : FnOk P w K mg base CX0 1 T.Size___init__.f T.Size___init__.fd ["self", "terms"] (spInit K T.C) := by
  refine T.Size___init__.F.ok sc_Size___init__ (fun vs H Q E h => ?_) (fun cdv A outer s H vs Q E hr h => ?_)
  · obtain ⟨x, dx, a, xs, ts, rfl, _⟩ := h
    rfl
  · obtain ⟨x, dx, a, xs, ts, rfl, hx0, ha, hxs, tok, q⟩ := h
    have hu := hu_of hr
    refine ⟨_, (pss_cons (ps_set (i := 2) sc_Size___init__.nd rfl (Or.inr rfl) pe_dnewK)
 (pss_cons (ps_for PassesOwn.never rfl (pi_list (pv 1)) (pg_tup rfl (pgs_cons (pg_name (i := 3) sc_Size___init__.nd rfl (Or.inl rfl)) (pgs_cons (pg_name (i := 4) sc_Size___init__.nd rfl (Or.inl rfl)) pgs_nil)))
 (pss_cons (ps_set (i := 5) sc_Size___init__.nd rfl (Or.inl rfl) (pe_join pe_str (pe_callB (call_sortedT (by rfl)) (by rfl) T.b_sorted (by decide +kernel) (pa_cons (pv 4) pa_nil))))
 (pss_one (ps_dput hu (pv 2) (pv 5) (pe_op op_add (pe_dget2 hu (pv 2) (pv 5) pe_int ⟨rfl, rfl, rfl, rfl⟩) (pv 3)) rfl))))
 (pss_one (ps_fld (pv 0) (pe_lock (pe_dc (own := [("key", 5)]) (g := gName 5) (by rfl) sc_Size___init__.nd (pi_keys (pv 2)) (blkOk_by (own := [("key", 5)]) (N := N_Size___init__) (sc := defScope s_Size___init__) (by decide +kernel)) (fun _ _ _ _ _ => (pg_name (i := 5) sc_Size___init__.nd rfl (Or.inl rfl))) (fun _ _ _ _ _ => (pts_one (pt_cmpR op_gt (pe_dget hu (pv 2) (pv 5) (fun _ _ => rfl)) pe_int (nomark _)))) (fun _ _ _ _ _ => (pv 5)) (fun _ _ _ _ _ => (pe_dget hu (pv 2) (pv 5) (fun _ _ => rfl))))) rfl)))), ?_⟩
    intro d nd
    have hlen : xs.length = ts.length := by rw [dpLen hxs, List.length_map]
    refine ⟨_, rfl, a, rfl, ⟨_, (same_up nd).seq ha⟩, for_list (K := K) (a := a) (xs := xs) (fun i σ H' => ∃ v2 v3 v4, σ = [some (.ref x), some (.ref a), some (.ref d), v2, v3, v4] ∧ Same H H' ∧ H' d = some (.dK ((ts.take i).foldl stepK [])))
      ⟨none, none, none, rfl, same_up nd, upd_same⟩ (fun i σ H' _ ⟨_, _, _, _, s, _⟩ => s.seq ha) ?_ ?_⟩
    · rintro i y σ H' hi ⟨v2, v3, v4, rfl, s, hd⟩
      obtain ⟨dd, hdd, hx⟩ := dpGet hxs hi
      rw [List.getElem?_map] at hdd
      obtain ⟨t, et, rfl⟩ := Option.map_eq_some_iff.mp hdd
      obtain ⟨b, rfl, hb⟩ := tm_at hx
      obtain ⟨t0, t1, t2, t3⟩ := tok.each t (List.mem_of_getElem? et)
      obtain ⟨ok, ol⟩ := tok.part i
      refine ⟨b, _, rfl, Same.sqT s hb, rfl, _, _, rfl, _, _, rfl, rfl, ?_⟩
      refine ⟨⟨_, rfl⟩, _, rfl, t.2, rfl, by omega, fun ys p pm so np => ?_⟩
      refine ⟨_, p, ys, rfl, rfl, .inl (ofL upd_same), join_room pm (by omega), ?_⟩
      rw [join_srt pm so]
      have hd2 : (upd H' p (.lst (ys.map V.str))) d = some (.dK ((ts.take i).foldl stepK [])) := by rw [upd_ne (ne_of_none hd np)]; exact hd
      have s2 : Same H (upd H' p (.lst (ys.map V.str))) := Same.new s np
      generalize upd H' p (.lst (ys.map V.str)) = H2 at hd2 s2
      refine ⟨_, rfl, d, rfl, .inl ⟨_, .inl hd2⟩, _, rfl, _, DGet.k (k := .inr (srt t.2)) hd2, ?_⟩
      rw [getD_gI ok]
      refine ⟨_, rfl, _, _, rfl, rfl, _, rfl, _, rfl, d, _, rfl, DPut.k (k := .inr (srt t.2)) hd2 (by rw [sizeLine_eq]; omega), ?_⟩
      refine ⟨_, _, _, rfl, Same.put s2 nd, ?_⟩
      rw [upd_same, take_fold et]
      rfl
    · rintro σ H' ⟨v2, v3, v4, rfl, s, hd⟩
      rw [hlen, List.take_length] at hd
      have hd : H' d = some (.dK (tab0 ts)) := hd
      obtain ⟨ok, ol⟩ := tok.tab0
      -- {key: found[key] for key in found if found[key] > 0}
      refine ⟨d, _, hd, trivial, fun od => ?_⟩
      have hd1 : (upd H' d (.frz od (.dK (tab0 ts)))) d = some (.frz od (.dK (tab0 ts))) := upd_same
      have s1 : ∀ a x, a ≠ d → H' a = some x → (upd H' d (.frz od (.dK (tab0 ts)))) a = some x := fun a x c e => by rw [upd_ne c]; exact e
      generalize upd H' d (.frz od (.dK (tab0 ts))) = H1 at hd1 s1
      refine ⟨_, rfl, d, od, rfl, .inl ⟨_, hd1, fun D nD => ?_⟩⟩
      have nDd : d ≠ D := ne_of_none hd1 nD
      have stay : ∀ a x, a ≠ d → H' a = some x → a ≠ D := fun a x c e q => by
        have e2 := s1 a x c e
        rw [q, nD] at e2; cases e2
      refine dc_keys (Pv := fun i H2 => (∀ a x, a ≠ d → H' a = some x → H2 a = some x) ∧ H2 d = some (.frz od (.dK (tab0 ts))) ∧ H2 D = some (.dK (((tab0 ts).take i).filter fun p => posV p.2)))
          ⟨fun a x c e => ?_, ?_, upd_same⟩ (fun i H2 _ h => h.2.1) ?_ ?_
      · rw [upd_ne (stay a x c e)]; exact s1 a x c e
      · rw [upd_ne nDd]; exact hd1
      · rintro i kk v H2 hi ⟨sk, hd2, hD⟩
        obtain ⟨z, n, ekv, n0, n1, zl, zo⟩ := ok.each _ (List.mem_of_getElem? hi)
        obtain ⟨rfl, rfl⟩ : kk = .inr z ∧ v = .int n := by cases ekv; exact ⟨rfl, rfl⟩
        have hv : valV (tab0 ts) (.inr z) = some (.int n) := val_nodup ok.nd _ (List.mem_of_getElem? hi)
        refine ⟨rfl, _, rfl, _, rfl, d, _, rfl, dg_frz (k := .inr z) hd2 hv, _, _, rfl, rfl, _, rfl, ?_⟩
        refine ite2 (fun hpos => ?_) (fun hneg => ?_)
        · refine ⟨_, rfl, _, rfl, _, rfl, d, _, rfl, dg_frz (k := .inr z) hd2 hv, _, .inr z, rfl, hD, ?_, fun a x c e => ?_, ?_, ?_⟩
          · have : ((((tab0 ts).take i).filter fun p => posV p.2).length) ≤ 9 := Nat.le_trans (List.length_filter_le _ _) (Nat.le_trans (by rw [List.length_take]; omega) ol)
            rw [sizeLine_eq]; omega
          · rw [upd_ne (stay a x c e)]; exact sk a x c e
          · rw [upd_ne nDd]; exact hd2
          · rw [upd_same, filter_take_yes hi (show posV (.int n) = true from hpos)]
            rw [putK_new]
            refine (Option.eq_none_iff_forall_not_mem.mpr fun y hy => ?_)
            have hm := valV_in hy
            obtain ⟨p', hp', e'⟩ := List.mem_map.mp hm
            have hp2 := (List.mem_filter.mp hp').1
            obtain ⟨j, hj, ej⟩ := List.getElem_of_mem hp2
            rw [List.length_take] at hj
            have ej' : (tab0 ts)[j]? = some p' := by
              rw [← ej, List.getElem_take, List.getElem?_eq_getElem]
            have i1 : ((tab0 ts).map (·.1))[j]? = some (.inr z) := by rw [List.getElem?_map, ej']; exact congrArg some e'
            have i2 : ((tab0 ts).map (·.1))[i]? = some (.inr z) := by rw [List.getElem?_map, hi]; rfl
            have := nd_ix ok.nd i1 i2
            omega
        · refine ⟨sk, hd2, ?_⟩
          rw [filter_take_no hi (show posV (.int n) = false by simpa [posV] using hneg)]
          exact hD
      · rintro H2 ⟨sk, hd2, hD⟩
        rw [List.take_length] at hD
        have ss : Same H' (upd H2 d (.dK (tab0 ts))) := same_lock hd sk
        have hx1 := (s.trans ss) _ _ hx0
        have hD2 : (upd H2 d (.dK (tab0 ts))) D = some (.dK (tab ts)) := by rw [upd_ne nDd.symm]; exact hD
        have nDx : D ≠ x := ne_of hD2 hx1 (by intro q; cases q)
        have nD0 : H D = none := by
          cases e : H D with
          | none => rfl
          | some o =>
            have e1 := s1 _ _ nDd.symm (s _ _ e)
            rw [nD] at e1; cases e1
        refine ⟨hd2, _, rfl, x, T.C, dx, [], rfl, hx1, T.Size.cl, T.nC, by show 0 < 1000; decide, ?_⟩
        exact q D _ (fun b o c e => by rw [upd_ne c]; exact (s.trans ss) _ _ e) nD0 upd_same (by rw [upd_ne nDx]; exact hD2)
end
end Cr

namespace Cr
open PySem L2
/-! ### a Size -/
def SzAt (C : Addr) (H : Hp) (x : Addr) (kvs : List (Key × V)) : Prop := ∃ dx d, H x = some (.ins C dx [("counts", .ref d)]) ∧ H d = some (.dK kvs)
theorem SzAt.up {C : Addr} {H H' : Hp} {x : Addr} {kvs : List (Key × V)} (h : SzAt C H x kvs) (s : Same H H') : SzAt C H' x kvs := by
  obtain ⟨dx, d, a, b⟩ := h
  exact ⟨dx, d, s _ _ a, s _ _ b⟩
theorem lk_counts (d : Addr) : ([("counts", V.ref d)] : List (Str × V)).lookup ("counts" : Str) = some (V.ref d) := by
  unfold List.lookup
  rw [show (("counts" : Str) == "counts") = true by decide +kernel]
structure KvOk (kvs : List (Key × V)) : Prop where
  ok : TabOk 6 BT kvs
  len : kvs.length ≤ 9
  pos : ∀ p ∈ kvs, posV p.2 = true
theorem TsOk.kv {ts : List Tm} (h : TsOk ts) : KvOk (tab ts) :=
  ⟨h.tab0.1.sub (tab_sub ts), Nat.le_trans (tab_sub ts).length_le h.tab0.2, fun p hp => (List.mem_filter.mp hp).2⟩
theorem KvOk.flat {kvs : List (Key × V)} (h : KvOk kvs) : ∀ p ∈ kvs, flatV p.2 = true := fun p hp => by
  obtain ⟨z, n, rfl, _⟩ := h.ok.each p hp
  rfl

section
variable {P : Program} {w : World} {K : PySem.W.Frag} {mg : Str → Option Value} {base : Heap}
/-! ### Size.__eq__ -/
def spEq (K : PySem.W.Frag) (C : Addr) : Sp := fun vs H Q _ => ∃ (x : Addr) (y : V) (ks : List (Key × V)), vs = [.ref x, y] ∧ SzAt C H x ks ∧ KvOk ks ∧
  ((∃ (x' : Addr) (ls : List (Key × V)), y = .ref x' ∧ SzAt C H x' ls ∧ KvOk ls ∧ Q (.bl (dEq ks ls)) H) ∨ ∃ t, TyX K H y t ∧ PySem.W.kitOne K t (.ref C) = some false ∧ Q (.bl false) H)
theorem ok_Size___eq__ (T : Tx K mg) : FnOk P w K mg base CX0 1 T.Size___eq__.f T.Size___eq__.fd ["self", "other"] (spEq K T.C) := by
  refine T.Size___eq__.F.ok sc_Size___eq__ (fun vs H Q E h => ?_) (fun cdv A outer s H vs Q E hr h => ?_)
  · obtain ⟨x, y, ks, rfl, _⟩ := h
    rfl
  · obtain ⟨x, y, ks, rfl, ⟨dx, d, hx, hd⟩, kk, h⟩ := h
    refine ⟨_, (pss_one (ps_ret (pe_and (pe_callB call_isi (by rfl) T.b_isinstance (by decide +kernel) (pa_cons (pv 1) (pa_cons (pe_glob (v := V.ref T.C) (by rfl) T.Size.mg rfl) pa_nil))) (pe_one (pe_cmpR (op_eqDK hr.units0) (pe_fld (pv 0) rfl) (pe_fld (pv 1) rfl) (nomark _)))))), ?_⟩
    rcases h with ⟨x', ls, rfl, ⟨dy, e, hy, he⟩, lk, q⟩ | ⟨t, ty, ko, q⟩
    · refine ⟨_, rfl, _, _, _, _, true, rfl, .own T.C, T.ot.ty hy, by simp [PySem.W.kitOne], true, rfl, ?_⟩
      exact ⟨_, rfl, x, T.C, dx, _, _, rfl, hx, T.Size.cl, T.nC, lk_counts d, _, rfl, x', T.C, dy, _, _, rfl, hy, T.Size.cl, T.nC, lk_counts e, d, e, ks, ls, rfl, rfl, hd, he, kk.flat, lk.flat, q⟩
    · exact ⟨_, rfl, _, _, _, _, false, rfl, .own T.C, ty, ko, false, rfl, q⟩

/-! ### Size.terms_told -/
def keyS (p : Key × V) : Str := match p.1 with
  | .inr z => z
  | .inl _ => ""
def neE (z : Str) : Bool := !decide (z = "")
/-- the keys with letters, in order; then the term without letters -/
def toldK (kvs : List (Key × V)) : List Str := srtL ((kvs.map keyS).filter neE) ++ [("" : Str)]
def hasK (kvs : List (Key × V)) (z : Str) : Bool := (valV kvs (.inr z)).isSome
def told (kvs : List (Key × V)) : List Tm := ((toldK kvs).filter (hasK kvs)).map fun z => (gI kvs z, z)
def spTold (K : PySem.W.Frag) (C : Addr) : Sp := fun vs H Q _ => ∃ (x : Addr) (kvs : List (Key × V)), vs = [.ref x] ∧ SzAt C H x kvs ∧ KvOk kvs ∧
  ∀ (p : Addr) (xs : List V) (H' : Hp), Same H H' → H p = none → H' p = some (.lst xs) → DpAll K H' xs ((told kvs).map tmD) → Q (.ref p) H'
theorem ok_Size_terms_told (T : Tx K mg) : FnOk P w K mg base CX0 1 T.Size_terms_told.f T.Size_terms_told.fd ["self"] (spTold K T.C) := by
  refine T.Size_terms_told.F.ok sc_Size_terms_told (fun vs H Q E h => ?_) (fun cdv A outer s H vs Q E hr h => ?_)
  · obtain ⟨x, kvs, rfl, _⟩ := h
    rfl
  · obtain ⟨x, kvs, rfl, ⟨dx, d, hx, hd⟩, kk, q⟩ := h
    have hu := hu_of hr
    refine ⟨_, (pss_cons (ps_set (i := 1) sc_Size_terms_told.nd rfl (Or.inl rfl) (pe_callB cr_sortedS (by rfl) T.b_sorted (by decide +kernel) (pa_cons (pe_lock (pe_lc (own := [("key", 2)]) (g := gName 2) (by rfl) sc_Size_terms_told.nd (pi_keys (pe_fld (pv 0) rfl)) (blkOk_by (own := [("key", 2)]) (N := N_Size_terms_told) (sc := defScope s_Size_terms_told) (by decide +kernel)) (fun _ _ _ _ _ => (pg_name (i := 2) sc_Size_terms_told.nd rfl (Or.inl rfl))) (fun _ _ _ _ _ => (pts_one (pt_cmpR op_ne (pv 2) pe_str (nomark _)))) (fun _ _ _ _ _ => (pv 2)))) pa_nil)))
 (pss_one (ps_ret (pe_lc (own := [("key", 2)]) (g := gName 2) (by rfl) sc_Size_terms_told.nd (pi_list (pe_op op_cat (pv 1) (pe_lst (pa_cons pe_str pa_nil)))) (blkOk_by (own := [("key", 2)]) (N := N_Size_terms_told) (sc := defScope s_Size_terms_told) (by decide +kernel)) (fun _ _ _ _ _ => (pg_name (i := 2) sc_Size_terms_told.nd rfl (Or.inl rfl))) (fun _ _ _ _ _ => (pts_one (pt_cmp (pc_din hu (pv 2) (pe_fldK K rfl (pv 0) rfl))))) (fun _ _ _ _ _ => (pe_tup (pa_cons (pe_dget hu (pe_fldK K rfl (pv 0) rfl) (pv 2) (fun _ _ => rfl)) (pa_cons (pv 2) pa_nil)))))))), ?_⟩
    -- [key for key in self.counts if key != '']
    refine ⟨d, _, hd, trivial, fun od => ?_⟩
    have hd1 : (upd H d (.frz od (.dK kvs))) d = some (.frz od (.dK kvs)) := upd_same
    have s1 : ∀ a y, a ≠ d → H a = some y → (upd H d (.frz od (.dK kvs))) a = some y := fun a y c e => by rw [upd_ne c]; exact e
    have nxd : x ≠ d := ne_of hx hd (by intro z; cases z)
    generalize upd H d (.frz od (.dK kvs)) = H1 at hd1 s1
    refine ⟨_, rfl, x, T.C, dx, _, _, rfl, s1 _ _ nxd hx, T.Size.cl, T.nC, lk_counts d, d, od, rfl, .inl ⟨kvs, hd1, fun D nD => ?_⟩⟩
    have nDd : d ≠ D := ne_of_none hd1 nD
    have stay : ∀ a y, a ≠ d → H a = some y → a ≠ D := fun a y c e q => by
      have e2 := s1 a y c e
      rw [q, nD] at e2; cases e2
    refine lc_keys (Pv := fun i H2 => (∀ a y, a ≠ d → H a = some y → H2 a = some y) ∧ H2 d = some (.frz od (.dK kvs)) ∧ H2 D = some (.lst ((((kvs.take i).map keyS).filter neE).map V.str)))
      ⟨fun a y c e => ?_, ?_, upd_same⟩ (fun i H2 _ h => h.2.1) ?_ ?_
    · rw [upd_ne (stay a y c e)]; exact s1 a y c e
    · rw [upd_ne nDd]; exact hd1
    · rintro i kq v H2 hi ⟨sk, hd2, hD⟩
      obtain ⟨z, n, ekv, n0, n1, zl, zo⟩ := kk.ok.each _ (List.mem_of_getElem? hi)
      obtain ⟨rfl, rfl⟩ : kq = .inr z ∧ v = .int n := by cases ekv; exact ⟨rfl, rfl⟩
      have em : ((kvs.take (i + 1)).map keyS).filter neE = ((kvs.take i).map keyS).filter neE ++ (if neE z = true then [z] else []) := by
        rw [List.take_add_one, hi, List.map_append, List.filter_append]
        show _ ++ ([z].filter neE) = _
        rw [List.filter_cons]
        rfl
      refine ⟨rfl, _, rfl, rfl, _, rfl, ?_⟩
      refine ite2 (fun hne => ?_) (fun he => ?_)
      · have hz : neE z = true := by simpa [neE, kV] using hne
        refine ⟨_, rfl, _, hD, ?_, fun a y c e => ?_, ?_, ?_⟩
        · rw [List.length_map, sizeLine_eq]
          have := List.length_filter_le neE ((kvs.take i).map keyS)
          rw [List.length_map, List.length_take] at this
          have := kk.len
          omega
        · rw [upd_ne (stay a y c e)]; exact sk a y c e
        · rw [upd_ne nDd]; exact hd2
        · rw [upd_same, em, if_pos hz, List.map_append]
          rfl
      · have hz : ¬ neE z = true := by simpa [neE, kV] using he
        refine ⟨sk, hd2, ?_⟩
        rw [em, if_neg hz, List.append_nil]
        exact hD
    · rintro H2 ⟨sk, hd2, hD⟩
      rw [List.take_length] at hD
      have ss : Same H (upd H2 d (.dK kvs)) := same_lock hd sk
      have hD3 : (upd H2 d (.dK kvs)) D = some (.lst (((kvs.map keyS).filter neE).map V.str)) := by rw [upd_ne nDd.symm]; exact hD
      have hlk : ((kvs.map keyS).filter neE).length ≤ 9 := Nat.le_trans (List.length_filter_le _ _) (by rw [List.length_map]; exact kk.len)
      refine ⟨hd2, D, _, rfl, ofL hD3, by omega, fun ys p pm so np => ?_⟩
      rw [sorted_is pm so]
      have ss3 : Same H (upd (upd H2 d (.dK kvs)) p (.lst ((srtL ((kvs.map keyS).filter neE)).map V.str))) := ss.trans (same_up np)
      have hp3 : (upd (upd H2 d (.dK kvs)) p (.lst ((srtL ((kvs.map keyS).filter neE)).map V.str))) p = some (.lst ((srtL ((kvs.map keyS).filter neE)).map V.str)) := upd_same
      have hls : (srtL ((kvs.map keyS).filter neE)).length ≤ 9 := by rw [(srtL_perm _).length_eq]; exact hlk
      generalize upd (upd H2 d (.dK kvs)) p (.lst ((srtL ((kvs.map keyS).filter neE)).map V.str)) = H3 at ss3 hp3
      -- keys + ['']
      refine ⟨_, rfl, by show 1 ≤ sizeLine; decide, fun p1 np1 => ?_⟩
      refine ⟨p, p1, _, _, rfl, rfl, by rw [upd_ne (ne_of_none hp3 np1)]; exact hp3, upd_same, ?_, fun p2 np2 => ?_⟩
      · rw [List.length_map, sizeLine_eq]; show _ + 1 ≤ _; omega
      have ss4 : Same H (upd (upd H3 p1 (.lst [.str ""])) p2 (.lst ((srtL ((kvs.map keyS).filter neE)).map V.str ++ [.str ""]))) := (ss3.trans (same_up np1)).trans (same_up np2)
      have hp4 : (upd (upd H3 p1 (.lst [.str ""])) p2 (.lst ((srtL ((kvs.map keyS).filter neE)).map V.str ++ [.str ""]))) p2 = some (.lst ((toldK kvs).map V.str)) := by
        rw [upd_same]
        unfold toldK
        rw [List.map_append]
        rfl
      have htl : (toldK kvs).length ≤ 10 := by unfold toldK; rw [List.length_append]; show _ + 1 ≤ 10; omega
      generalize upd (upd H3 p1 (.lst [.str ""])) p2 (.lst ((srtL ((kvs.map keyS).filter neE)).map V.str ++ [.str ""])) = H4 at ss4 hp4
      have hx4 := ss4 _ _ hx
      have hd4 := ss4 _ _ hd
      -- [(self.counts[key], key) for key in .. if key in self.counts]
      refine ⟨p2, rfl, ⟨_, ofL hp4⟩, fun D2 nD2 => ?_⟩
      have np2D : p2 ≠ D2 := ne_of_none hp4 nD2
      refine lc_list (K := K) (a := p2) (xs := (toldK kvs).map V.str) (fun i H5 => ∃ (G5 : Hp) (xs : List V), Same H4 G5 ∧ Same G5 H5 ∧ G5 D2 = none ∧ H5 D2 = some (.lst xs) ∧ DpAll K G5 xs ((((toldK kvs).take i).filter (hasK kvs)).map fun z => tmD (gI kvs z, z)))
        ⟨H4, [], Same.refl _, same_up nD2, nD2, upd_same, .nil⟩ (fun i H5 _ ⟨_, _, a, b, _⟩ => ofL (b _ _ (a _ _ hp4))) ?_ ?_
      · rintro i y H5 hi ⟨G5, xs, a5, b5, gD5, hD5, hxs⟩
        have s5 := a5.trans b5
        rw [List.getElem?_map] at hi
        obtain ⟨z, ez, rfl⟩ := Option.map_eq_some_iff.mp hi
        have hx5 := s5 _ _ hx4
        have hd5 := s5 _ _ hd4
        refine ⟨rfl, _, rfl, _, rfl, x, T.C, dx, _, _, rfl, hx5, T.Size.cl, T.nC, lk_counts d, d, _, rfl, DGet.k (k := .inr z) hd5, _, rfl, ?_⟩
        refine ite2 (fun hh => ?_) (fun hh => ?_)
        · have hh' : hasK kvs z = true := hh
          obtain ⟨v, hv⟩ := Option.isSome_iff_exists.mp hh
          have hgi : v = .int (gI kvs z) := by
            have := getD_gI kk.ok z
            rw [hv] at this
            exact this
          subst hgi
          have dg : DGet H5 d (.str z) (some (.int (gI kvs z))) := by
            have q := DGet.k (k := .inr z) hd5
            rw [hv] at q
            exact q
          refine ⟨_, rfl, x, T.C, dx, _, _, rfl, hx5, T.Size.cl, T.nC, lk_counts d, _, rfl, d, _, rfl, dg, _, rfl, by show 2 ≤ sizeLine; decide, fun tp ntp => ?_⟩
          have nDt : D2 ≠ tp := ne_of_none hD5 ntp
          have hlx : xs.length ≤ 10 := by
            rw [dpLen hxs, List.length_map]
            exact Nat.le_trans (List.length_filter_le _ _) (Nat.le_trans (by rw [List.length_take]; omega) htl)
          have gt : G5 tp = none := b5.free ntp
          refine ⟨xs, by rw [upd_ne nDt]; exact hD5, by rw [sizeLine_eq]; omega, upd G5 tp (.tup [.int (gI kvs z), .str z]), xs ++ [.ref tp], a5.trans (same_up gt), Same.put (Same.two b5) (by rw [upd_ne nDt]; exact gD5), by rw [upd_ne nDt]; exact gD5, upd_same, ?_⟩
          rw [filter_take_yes ez hh', List.map_append]
          exact dpApp (dpUps (same_up gt) hxs) (.cons (.tup (ofT upd_same) (.cons (.int _) (.cons (.str _) .nil))) .nil)
        · have hh' : hasK kvs z = false := by simpa [hasK] using hh
          refine ⟨G5, xs, a5, b5, gD5, hD5, ?_⟩
          rw [filter_take_no ez hh']
          exact hxs
      · rintro H5 ⟨G5, xs, a5, b5, gD5, hD5, hxs⟩
        rw [List.length_map, List.take_length] at hxs
        refine q D2 xs H5 (ss4.trans (a5.trans b5)) (ss4.free nD2) hD5 ?_
        unfold told
        rw [List.map_map]
        exact dpUps b5 hxs
end
end Cr

namespace Cr
open PySem L2
theorem log_ok {n : Int} (h0 : 0 ≤ n) (h1 : n < 2 ^ 200) : n.natAbs.log2 < 1920 := by
  have big : ((2 : Int) ^ 200) = ((2 ^ 200 : Nat) : Int) := by decide
  rw [big] at h1
  by_cases e : n.natAbs = 0
  · rw [e]; decide
  · exact Nat.lt_trans ((Nat.log2_lt e).mpr (show n.natAbs < 2 ^ 200 by omega)) (by decide)
abbrev nT (n : Int) : Str := Str.ofString (toString n)
theorem BT_lt : BT < 2 ^ 200 := by decide
theorem BT_ten : BT < 10 ^ 40 := by decide
theorem nT_len {n : Int} (h0 : 0 ≤ n) (h1 : n < BT) : (nT n).length ≤ 40 := PyProof.Rows.toString_length_le h0 (by decide) (Int.lt_trans h1 BT_ten)
theorem nT_pos {n : Int} (h0 : 0 ≤ n) : 0 < (nT n).length := by
  obtain ⟨m, rfl⟩ := Int.eq_ofNat_of_zero_le h0
  rw [PyProof.Rows.ofString_length]
  have := PySem.toDigits_len_ge 10 m
  show 0 < (Nat.repr m).toList.length
  have e : (Nat.repr m).toList.length = (Nat.toDigits 10 m).length := by simp [Nat.repr]
  omega
theorem e_app (y : Str) : ("" : Str) ++ y = y := by
  apply str_ext
  show (("" : Str).cps ++ y.cps).toList = _
  rw [empty_cps]
  simp
theorem e_app' (y : Str) : Str.empty ++ y = y := e_app y
theorem app_len (x y : Str) : (x ++ y).length = x.length + y.length := by
  show (x.cps ++ y.cps).size = _
  rw [Array.size_append]
  rfl
def tT (t : Tm) : Str := if t.2 = "" then nT t.1 else if t.1 = 1 then t.2 else nT t.1 ++ t.2
def txt (kvs : List (Key × V)) : Str := if told kvs = [] then "0" else Txt.join "+" ((told kvs).map tT)
section
variable {P : Program} {w : World} {K : PySem.W.Frag} {mg : Str → Option Value} {base : Heap}
def spTT : Sp := fun vs H Q _ => ∃ t : Tm, vs = [.int t.1, .str t.2] ∧ 0 ≤ t.1 ∧ t.1 < BT ∧ t.2.length ≤ 6 ∧ Q (.str (tT t)) H
theorem ok_term_text (T : Tx K mg) : FnOk P w K mg base CX0 1 T.term_text.f T.term_text.fd ["many", "letters"] spTT := by
  refine T.term_text.F.ok sc_term_text (fun vs H Q E h => ?_) (fun cdv A outer s H vs Q E hr h => ?_)
  · obtain ⟨t, rfl, _⟩ := h
    rfl
  · obtain ⟨⟨n, z⟩, rfl, n0, n1, zl, q⟩ := h
    have n0 : 0 ≤ n := n0
    have n1 : n < BT := n1
    have zl : z.length ≤ 6 := zl
    have lg : n.natAbs.log2 < 1920 := log_ok n0 (Int.lt_trans n1 BT_lt)
    have nl : (Str.ofString (toString n)).length ≤ 40 := nT_len n0 n1
    unfold tT at q
    refine ⟨_, (pss_cons (ps_if (pt_cmpR op_eq (pv 1) pe_str (nomark _))
 (pss_one (ps_ret (pe_callTy call_str_int (by rfl) T.b_str (by decide +kernel) (pa_cons (pv 0) pa_nil))))
 pss_nil)
 (pss_one (ps_ret (pe_ifExp (pt_cmpR op_eq (pv 0) pe_int (nomark _)) (pv 1) (pe_joined (.cons (pe_fmt (pv 0)) (.cons (pe_fmt (pv 1)) .nil))))))), ?_⟩
    refine ⟨_, rfl, rfl, _, rfl, ?_⟩
    refine ite2 (fun h => ?_) (fun h => ?_)
    · have e : z = "" := by simpa using h
      rw [if_pos e] at q
      exact ⟨_, rfl, _, rfl, lg, q⟩
    · have e : ¬ z = "" := by simpa using h
      rw [if_neg e] at q
      refine ⟨_, rfl, rfl, _, rfl, ?_⟩
      refine ite2 (fun h => ?_) (fun h => ?_)
      · have e : n = 1 := by simpa using h
        rw [if_pos e] at q
        exact ⟨_, rfl, q⟩
      · have e : ¬ n = 1 := by simpa using h
        rw [if_neg e] at q
        refine ⟨_, rfl, .inr ⟨n, rfl, lg, _, rfl, by rw [e_app', sizeLine_eq]; omega, _, rfl, .inl ⟨z, rfl, by rw [sizeLine_eq]; omega, _, rfl, by rw [e_app', app_len, sizeLine_eq]; omega, ?_⟩⟩⟩
        show Q (.str ((Str.empty ++ nT n) ++ z)) H
        rw [e_app']
        exact q

/-! ### what terms_told tells -/
theorem mem_toldK {kvs : List (Key × V)} (h : KvOk kvs) {z : Str} (hz : z ∈ toldK kvs) : z.length ≤ 6 := by
  unfold toldK at hz
  rcases List.mem_append.mp hz with hz | hz
  · have hz := (List.mem_filter.mp ((srtL_perm _).mem_iff.mp hz)).1
    obtain ⟨p, hp, rfl⟩ := List.mem_map.mp hz
    obtain ⟨y, n, rfl, _, _, yl, _⟩ := h.ok.each p hp
    exact yl
  · rw [List.mem_singleton.mp hz, e0len]; omega
theorem told_len {kvs : List (Key × V)} (h : KvOk kvs) : (told kvs).length ≤ 10 := by
  unfold told toldK
  rw [List.length_map]
  refine Nat.le_trans (List.length_filter_le _ _) ?_
  rw [List.length_append, (srtL_perm _).length_eq]
  have := List.length_filter_le neE (kvs.map keyS)
  rw [List.length_map] at this
  have := h.len
  show _ + 1 ≤ 10
  omega
theorem told_ok {kvs : List (Key × V)} (h : KvOk kvs) {t : Tm} (ht : t ∈ told kvs) : 0 < t.1 ∧ t.1 < BT ∧ t.2.length ≤ 6 ∧ t.1 = gI kvs t.2 ∧ hasK kvs t.2 = true := by
  unfold told at ht
  obtain ⟨z, hz, rfl⟩ := List.mem_map.mp ht
  obtain ⟨hz, hh⟩ := List.mem_filter.mp hz
  refine ⟨?_, (gI_rng h.ok (by decide) z).2, mem_toldK h hz, rfl, hh⟩
  unfold hasK at hh
  obtain ⟨v, hv⟩ := Option.isSome_iff_exists.mp hh
  have e := getD_gI h.ok z
  rw [hv] at e
  have e : v = .int (gI kvs z) := e
  have hm : ∃ p ∈ kvs, p.2 = v := by
    unfold valV at hv
    obtain ⟨kv, hkv, e⟩ := Option.map_eq_some_iff.mp hv
    exact ⟨kv, List.mem_of_find?_eq_some hkv, e⟩
  obtain ⟨p, hp, ep⟩ := hm
  have hpos := h.pos p hp
  rw [ep, e] at hpos
  simpa [posV] using hpos
theorem tT_len {kvs : List (Key × V)} (h : KvOk kvs) {t : Tm} (ht : t ∈ told kvs) : (tT t).length ≤ 46 ∧ 0 < (tT t).length := by
  obtain ⟨a, b, c, _⟩ := told_ok h ht
  have nl := nT_len (Int.le_of_lt a) b
  have pos : 0 < (nT t.1).length := nT_pos (Int.le_of_lt a)
  unfold tT
  split
  · omega
  · next e =>
    have zp : 0 < t.2.length := by
      refine Nat.pos_of_ne_zero fun q => e ?_
      apply str_ext
      have : t.2.cps.size = 0 := q
      rw [empty_cps, Array.eq_empty_of_size_eq_zero this]
    split
    · omega
    · rw [app_len]; omega
/-! ### Size.__str__ -/
theorem join_len_pos (g x : Str) (r : List Str) (h : 0 < x.length) : 0 < (Txt.join g (x :: r)).length := by
  have e : (Txt.join g (x :: r)).length = (Txt.join g (x :: r)).cps.toList.length := by simp [Str.length]
  rw [e, join_list, List.length_append]
  have : x.cps.toList.length = x.length := by simp [Str.length]
  omega
theorem sum_le (B : Nat) : ∀ ys : List Str, (∀ y ∈ ys, y.length ≤ B) → (ys.map (·.length)).sum ≤ ys.length * B
  | [], _ => by simp
  | y :: r, h => by
    have h1 := h y List.mem_cons_self
    have h2 := sum_le B r fun z hz => h z (List.mem_cons_of_mem _ hz)
    simp only [List.map_cons, List.sum_cons, List.length_cons, Nat.succ_mul]
    omega
theorem join_len_le (g : Str) (ys : List Str) : (Txt.join g ys).length ≤ (ys.map (·.length)).sum + ys.length * g.length := by
  rw [show (Txt.join g ys).length = (ys.map (·.length)).sum + (ys.length - 1) * g.length from PySem.size_glued g ys]
  exact Nat.add_le_add_left (Nat.mul_le_mul_right _ (Nat.sub_le _ _)) _
def spStr (K : PySem.W.Frag) (C : Addr) : Sp := fun vs H Q _ => ∃ (x : Addr) (kvs : List (Key × V)), vs = [.ref x] ∧ SzAt C H x kvs ∧ KvOk kvs ∧ ∀ H' : Hp, Same H H' → Q (.str (txt kvs)) H'
theorem ok_Size___str__ (T : Tx K mg) : FnOk P w K mg base CX0 2 T.Size___str__.f T.Size___str__.fd ["self"] (spStr K T.C) := by
  refine T.Size___str__.F.ok sc_Size___str__ (fun vs H Q E h => ?_) (fun cdv A outer s H vs Q E hr h => ?_)
  · obtain ⟨x, kvs, rfl, _⟩ := h
    rfl
  · obtain ⟨x, kvs, rfl, hx, kk, q⟩ := h
    refine ⟨_, (pss_one (ps_ret (pe_callTy SkE.call_str_str (by rfl) T.b_str (by decide +kernel) (pa_cons (pe_orT (pe_join pe_str (pe_lc (own := [("many", 1), ("letters", 2)]) (g := gTup K 2 (gCons (gName 1) (gCons (gName 2) gNil))) (by rfl) sc_Size___str__.nd (pi_list (pe_meth0 (pv 0) T.Size.cl T.Size_terms_told.m (ok_Size_terms_told T) (hr.mono (by decide)) T.Size_terms_told.b .nil pass0)) (blkOk_by (own := [("many", 1), ("letters", 2)]) (N := N_Size___str__) (sc := defScope s_Size___str__) (by decide +kernel)) (fun _ _ _ _ _ => (pg_tup rfl (pgs_cons (pg_name (i := 1) sc_Size___str__.nd rfl (Or.inl rfl)) (pgs_cons (pg_name (i := 2) sc_Size___str__.nd rfl (Or.inl rfl)) pgs_nil)))) (fun _ _ _ _ _ => pts_nil) (fun _ _ _ _ _ => (pe_call (ok_term_text T) (hr.mono (by decide)) (by rfl) T.term_text.mg T.term_text.F.kp T.term_text.b .nil pass0 (pa_cons (pv 1) (pa_cons (pv 2) pa_nil)))))) (pe_one pe_str)) pa_nil)))), ?_⟩
    obtain ⟨dx, d, hxi, hd⟩ := id hx
    refine ⟨⟨_, rfl⟩, _, rfl, x, dx, _, rfl, hxi, rfl, x, kvs, rfl, hx, kk, fun p xs H1 s1 np hp hxs => ?_⟩
    refine ⟨p, rfl, ⟨_, ofL hp⟩, fun D nD => ?_⟩
    have hl : xs.length = (told kvs).length := by rw [dpLen hxs, List.length_map]
    refine lc_list (K := K) (a := p) (xs := xs) (fun i H2 => Same H1 H2 ∧ H2 D = some (.lst ((((told kvs).take i).map tT).map V.str))) ⟨same_up nD, upd_same⟩ (fun i H2 _ h => ofL (h.1 _ _ hp)) ?_ ?_
    · rintro i y H2 hi ⟨s2, hD⟩
      obtain ⟨dd, hdd, hy⟩ := dpGet hxs hi
      rw [List.getElem?_map] at hdd
      obtain ⟨t, et, rfl⟩ := Option.map_eq_some_iff.mp hdd
      obtain ⟨b, rfl, hb⟩ := tm_at hy
      obtain ⟨t0, t1, t2, _⟩ := told_ok kk (List.mem_of_getElem? et)
      refine ⟨b, _, rfl, Same.sqT s2 hb, rfl, _, _, rfl, _, _, rfl, rfl, rfl, ?_⟩
      refine ⟨_, rfl, _, rfl, t, rfl, Int.le_of_lt t0, t1, t2, _, hD, ?_, ?_, ?_⟩
      · have := told_len kk
        rw [List.length_map, List.length_map, List.length_take, sizeLine_eq]; omega
      · exact fun a o e => by rw [upd_ne (ne_of_none e nD)]; exact s2 _ _ e
      · rw [upd_same, List.take_add_one, et, List.map_append, List.map_append]
        rfl
    · rintro H2 ⟨s2, hD⟩
      rw [hl, List.take_length] at hD
      have hls : (((told kvs).map tT).map (·.length)).sum ≤ ((told kvs).map tT).length * 46 := sum_le 46 _ fun y hy => by
        obtain ⟨t, ht, rfl⟩ := List.mem_map.mp hy
        exact (tT_len kk ht).1
      have htl := told_len kk
      rw [List.length_map] at hls
      have p1 : ("+" : Str).length = 1 := by decide +kernel
      refine ⟨_, D, (told kvs).map tT, rfl, rfl, .inl (ofL hD), by rw [List.length_map, p1]; omega, ?_⟩
      have ss := s1.trans s2
      have jl := join_len_le "+" ((told kvs).map tT)
      rw [List.length_map, p1] at jl
      refine ⟨_, ⟨by rw [sizeLine_eq]; omega, rfl⟩, ?_⟩
      unfold txt at q
      cases e : told kvs with
      | nil =>
        rw [e, if_pos rfl] at q
        have : (Txt.join "+" (([] : List Tm).map tT)).length = 0 := by decide +kernel
        rw [this]
        exact ⟨_, rfl, q H2 ss⟩
      | cons t r =>
        rw [e, if_neg (by intro z; cases z)] at q
        have hp0 : 0 < (Txt.join "+" ((t :: r).map tT)).length := join_len_pos _ _ _ (tT_len kk (by rw [e]; exact List.mem_cons_self)).2
        have hb : (((Txt.join "+" ((t :: r).map tT)).length : Int) != 0) = true := bne_iff_ne.mpr (by omega)
        rw [hb]
        exact ⟨_, rfl, q H2 ss⟩
end
end Cr

namespace Cr
open PySem L2
/-! ### texts that may be laid -/
theorem sok_of (s : String) : PyData.strOk (Str.ofString s) = true := by
  rw [Str.ofString_eq_toList]
  unfold PyData.strOk
  rw [Array.all_eq_true']
  intro x hx
  have hx : x ∈ s.toList.map (fun c : Char => c.toNat) := by simpa using hx
  obtain ⟨c, _, rfl⟩ := List.mem_map.mp hx
  have := c.valid
  simp only [decide_eq_true_eq]
  rcases this with h | h
  · have : c.toNat < 0xd800 := h
    omega
  · have : c.toNat < 0x110000 := h.2
    omega
theorem sok_app {x y : Str} (h1 : PyData.strOk x = true) (h2 : PyData.strOk y = true) : PyData.strOk (x ++ y) = true := by
  unfold PyData.strOk at h1 h2 ⊢
  show (x.cps ++ y.cps).all _ = true
  rw [Array.all_append, h1, h2]
  rfl
theorem dpStrs {K : PySem.W.Frag} {H : Hp} : ∀ zs : List Str, DpAll K H (zs.map V.str) (zs.map PyData.str)
  | [] => .nil
  | z :: r => .cons (.str z) (dpStrs r)
theorem shStrs {zs : List Str} (h : ∀ z ∈ zs, PyData.strOk z = true) : SeqAt.shaped (.list (zs.map PyData.str)) = true := by
  have h1 : PyData.canLayAll0 (zs.map PyData.str) = true := by
    induction zs with
    | nil => rfl
    | cons z r ih => simp [PyData.canLayAll0, PyData.canLay0, h z List.mem_cons_self, ih fun y hy => h y (List.mem_cons_of_mem _ hy)]
  have h2 : PyData.depthAll (zs.map PyData.str) ≤ 1 := by
    clear h h1
    induction zs with
    | nil => simp [PyData.depthAll]
    | cons z r ih => simp [PyData.depthAll, PyData.depth]; omega
  unfold SeqAt.shaped
  rw [show PyData.canLay0 (.list (zs.map PyData.str)) = true by rw [PyData.canLay0]; exact h1]
  simp [PyData.depth]
  omega
/-! ### the law's words -/
def wd (kvs : List (Key × V)) (z : Str) : Str := (if 1 < gI kvs z then nT (gI kvs z) else "") ++ z
def wdsA (kvs : List (Key × V)) (l : List Str) : List Str := (l.filter neE).map (wd kvs)
def wds (kvs : List (Key × V)) : List Str := wdsA kvs (srtL (kvs.map keyS)) ++ (if hasK kvs "" = true then [nT (gI kvs "")] else [])
theorem has_key {kvs : List (Key × V)} (h : KvOk kvs) {z : Str} (hz : z ∈ kvs.map keyS) : hasK kvs z = true := by
  obtain ⟨p, hp, rfl⟩ := List.mem_map.mp hz
  obtain ⟨y, n, rfl, _⟩ := h.ok.each p hp
  unfold hasK
  rw [show valV kvs (.inr (keyS (Sum.inr y, V.int n))) = some (.int n) from val_nodup h.ok.nd _ hp]
  rfl
theorem gI_pos {kvs : List (Key × V)} (h : KvOk kvs) {z : Str} (hh : hasK kvs z = true) : 0 < gI kvs z := by
  unfold hasK at hh
  obtain ⟨v, hv⟩ := Option.isSome_iff_exists.mp hh
  have e := getD_gI h.ok z
  rw [hv] at e
  have e : v = .int (gI kvs z) := e
  unfold valV at hv
  obtain ⟨kv, hkv, e2⟩ := Option.map_eq_some_iff.mp hv
  have hpos := h.pos kv (List.mem_of_find?_eq_some hkv)
  rw [e2, e] at hpos
  simpa [posV] using hpos
theorem wds_told {kvs : List (Key × V)} (h : KvOk kvs) : wds kvs = (told kvs).map tT := by
  unfold wds wdsA told toldK
  rw [srtL_filter, List.filter_append, List.map_append, List.map_append]
  have e1 : (srtL ((kvs.map keyS).filter neE)).filter (hasK kvs) = srtL ((kvs.map keyS).filter neE) := by
    refine List.filter_eq_self.mpr fun z hz => has_key h ?_
    exact (List.mem_filter.mp ((srtL_perm _).mem_iff.mp hz)).1
  rw [e1]
  congr 1
  · rw [List.map_map]
    refine List.map_congr_left fun z hz => ?_
    obtain ⟨h1, h2⟩ := List.mem_filter.mp ((srtL_perm _).mem_iff.mp hz)
    have hne : ¬ z = "" := by simpa [neE] using h2
    have hp := gI_pos h (has_key h h1)
    show wd kvs z = tT (gI kvs z, z)
    unfold wd tT
    rw [if_neg hne]
    by_cases e : gI kvs z = 1
    · rw [if_neg (by omega), if_pos e, e_app]
    · rw [if_pos (by omega), if_neg e]
  · rw [List.filter_cons]
    cases hasK kvs "" with
    | false => rfl
    | true => simp [tT]
theorem wdsA_snoc (kvs : List (Key × V)) (l : List Str) (z : Str) : wdsA kvs (l ++ [z]) = wdsA kvs l ++ (if neE z = true then [wd kvs z] else []) := by
  unfold wdsA
  rw [List.filter_append, List.map_append, List.filter_cons]
  split <;> rfl
theorem wd_sok (kvs : List (Key × V)) {z : Str} (h : PyData.strOk z = true) : PyData.strOk (wd kvs z) = true := by
  unfold wd
  refine sok_app ?_ h
  split
  · exact sok_of _
  · decide +kernel
section
variable {P : Program} {w : World} {K : PySem.W.Frag} {mg : Str → Option Value} {base : Heap}
def spText : Sp := fun vs H Q _ => ∃ (d : Addr) (kvs : List (Key × V)), vs = [.ref d] ∧ H d = some (.dK kvs) ∧ KvOk kvs ∧ ∀ H' : Hp, Same H H' → Q (.str (txt kvs)) H'
theorem ok__law_text (T : Tx K mg) : FnOk P w K mg base CX0 1 T._law_text.f T._law_text.fd ["_law_table_here"] spText := by
  refine T._law_text.F.ok sc__law_text (fun vs H Q E h => ?_) (fun cdv A outer s H vs Q E hr h => ?_)
  · obtain ⟨d, kvs, rfl, _⟩ := h
    rfl
  · obtain ⟨d, kvs, rfl, hd, kk, q⟩ := h
    have hu := hu_of hr
    refine ⟨_, (pss_cons (ps_set (i := 1) sc__law_text.nd rfl (Or.inl rfl) (pe_lst pa_nil))
 (pss_cons (ps_for PassesOwn.never rfl (pi_list (pe_callB (call_sortedD (by rfl)) (by rfl) T.b_sorted (by decide +kernel) (pa_cons (pv 0) pa_nil))) (pg_name (i := 2) sc__law_text.nd rfl (Or.inl rfl))
 (pss_one (ps_if (pt_cmpR op_ne (pv 2) pe_str (nomark _))
 (pss_one (ps_expr (pe_bm PySem.F.plainAttrs_list PySem.F.slot_list_append PySem.F.type_list_append mt_append (pv 1) (pa_cons (pe_op op_add_str (pe_ix ix_list (pe_lst (pa_cons pe_str (pa_cons (pe_callTy call_str_int (by rfl) T.b_str (by decide +kernel) (pa_cons (pe_dget hu (pv 0) (pv 2) (fun _ _ => rfl)) pa_nil)) pa_nil))) (pe_callTy call_int1 (by rfl) T.b_int (by decide +kernel) (pa_cons (pe_cmpR op_gt (pe_dget hu (pv 0) (pv 2) (fun _ _ => rfl)) pe_int (nomark _)) pa_nil)) (fun _ _ => rfl)) (pv 2)) pa_nil))))
 pss_nil)))
 (pss_cut (ps_if (pt_cmp (pc_din hu pe_str (pv 0)))
 (pss_one (ps_expr (pe_bm PySem.F.plainAttrs_list PySem.F.slot_list_append PySem.F.type_list_append mt_append (pv 1) (pa_cons (pe_callTy call_str_int (by rfl) T.b_str (by decide +kernel) (pa_cons (pe_dget hu (pv 0) pe_str (fun _ _ => rfl)) pa_nil)) pa_nil))))
 pss_nil)
 (pss_one (ps_ret (pe_ifExp (pt_cmpR (op_neD hr.units) (pv 1) (pe_lst pa_nil) (nomark _)) (pe_join pe_str (pv 1)) pe_str)))))), ?_⟩
    refine ⟨Nat.zero_le _, fun p np => ?_⟩
    have s1 : Same H (upd H p (.lst [])) := same_up np
    have hp1 : (upd H p (.lst [])) p = some (.lst []) := upd_same
    generalize upd H p (.lst []) = H1 at s1 hp1
    have ek : kvs.map (·.1) = (kvs.map keyS).map Sum.inr := by
      rw [List.map_map]
      refine List.map_congr_left fun p hp => ?_
      obtain ⟨y, n, rfl, _⟩ := kk.ok.each p hp
      rfl
    have hlk : (kvs.map keyS).length ≤ 9 := by rw [List.length_map]; exact kk.len
    refine ⟨_, rfl, d, kvs, kvs.map keyS, rfl, .inl (s1 _ _ hd), ek, by omega, fun ys sp pm so nsp => ?_⟩
    rw [sorted_is pm so]
    generalize hL : srtL (kvs.map keyS) = L
    have hLk : ∀ z ∈ L, z ∈ kvs.map keyS := fun z hz => by rw [← hL] at hz; exact (srtL_perm _).mem_iff.mp hz
    have hLl : L.length ≤ 9 := by rw [← hL, (srtL_perm _).length_eq]; exact hlk
    have hLo : ∀ z ∈ L, z.length ≤ 6 ∧ PyData.strOk z = true := fun z hz => by
      obtain ⟨p, hp, rfl⟩ := List.mem_map.mp (hLk z hz)
      obtain ⟨y, n, rfl, _, _, yl, yo⟩ := kk.ok.each p hp
      exact ⟨yl, lets_ok yo⟩
    have s2 : Same H1 (upd H1 sp (.lst (L.map V.str))) := same_up nsp
    have hsp : (upd H1 sp (.lst (L.map V.str))) sp = some (.lst (L.map V.str)) := upd_same
    have nps : p ≠ sp := ne_of_none hp1 nsp
    generalize upd H1 sp (.lst (L.map V.str)) = H2 at s2 hsp
    have hwl : ∀ i, (wdsA kvs (L.take i)).length ≤ 9 := fun i => by
      unfold wdsA
      rw [List.length_map]
      exact Nat.le_trans (List.length_filter_le _ _) (by rw [List.length_take]; omega)
    refine ⟨sp, rfl, ⟨_, ofL hsp⟩, for_list (K := K) (a := sp) (xs := L.map V.str) (fun i σ H' => ∃ v2, σ = [some (.ref d), some (.ref p), v2] ∧ Same H H' ∧ H' sp = some (.lst (L.map V.str)) ∧ H' p = some (.lst ((wdsA kvs (L.take i)).map V.str)))
      ⟨none, rfl, s1.trans s2, hsp, s2 _ _ hp1⟩ (fun i σ H' _ ⟨_, _, _, e, _⟩ => ofL e) ?_ ?_⟩
    · rintro i x σ H3 hi ⟨v2, rfl, s3, hs3, hp3⟩
      rw [List.getElem?_map] at hi
      obtain ⟨z, ez, rfl⟩ := Option.map_eq_some_iff.mp hi
      have et : wdsA kvs (L.take (i + 1)) = wdsA kvs (L.take i) ++ (if neE z = true then [wd kvs z] else []) := by
        rw [List.take_add_one, ez]
        exact wdsA_snoc _ _ _
      have hzL := List.mem_of_getElem? ez
      have hh := has_key kk (hLk z hzL)
      refine ⟨_, rfl, rfl, _, rfl, ?_⟩
      refine ite2 (fun hne => ?_) (fun he => ?_)
      · have hz : neE z = true := by simpa [neE] using hne
        have hd3 := s3 _ _ hd
        have hv : valV kvs (.inr z) = some (.int (gI kvs z)) := by
          have := getD_gI kk.ok z
          obtain ⟨v, hv⟩ := Option.isSome_iff_exists.mp hh
          rw [hv] at this ⊢
          rw [show v = .int (gI kvs z) from this]
        have dg : ∀ H' : Hp, H' d = some (.dK kvs) → DGet H' d (.str z) (some (.int (gI kvs z))) := fun H' e => by
          have q := DGet.k (k := .inr z) e
          rw [hv] at q
          exact q
        obtain ⟨g0, g1⟩ := gI_rng kk.ok (by decide) z
        have lg : (gI kvs z).natAbs.log2 < 1920 := log_ok g0 (Int.lt_trans g1 BT_lt)
        refine ⟨_, rfl, .inl ⟨rfl, _, ofL hp3⟩, _, rfl, _, rfl, d, _, rfl, dg _ hd3, _, rfl, lg, ?_⟩
        refine ⟨by show 2 ≤ sizeLine; decide, fun p2 np2 => ?_⟩
        have s4 : Same H3 (upd H3 p2 (.lst [.str "", .str (nT (gI kvs z))])) := same_up np2
        have hp4 : (upd H3 p2 (.lst [.str "", .str (nT (gI kvs z))])) p2 = some (.lst [.str "", .str (nT (gI kvs z))]) := upd_same
        generalize upd H3 p2 (.lst [.str "", .str (nT (gI kvs z))]) = H4 at s4 hp4
        refine ⟨_, rfl, _, rfl, d, _, rfl, dg _ (s4 _ _ hd3), _, _, rfl, rfl, .inr ⟨_, rfl, ?_⟩⟩
        refine ⟨p2, _, _, .str (if 1 < gI kvs z then nT (gI kvs z) else ""), rfl, rfl, ofL hp4, ?_, ?_⟩
        · by_cases c : 1 < gI kvs z
          · simp [c]; rfl
          · simp [c]; rfl
        have wl : (if 1 < gI kvs z then nT (gI kvs z) else ("" : Str)).length ≤ 40 := by
          split
          · exact nT_len g0 g1
          · rw [e0len]; omega
        refine ⟨_, rfl, _, _, rfl, rfl, by rw [sizeLine_eq]; have := (hLo z hzL).1; omega, ?_⟩
        have hp5 := s4 _ _ hp3
        refine ⟨p, _, _, rfl, rfl, hp5, by rw [List.length_map, sizeLine_eq]; have := hwl i; omega, ?_⟩
        refine ⟨_, rfl, Same.put (s3.trans s4) np, by rw [upd_ne nps.symm]; exact s4 _ _ hs3, ?_⟩
        rw [upd_same, et, if_pos hz, List.map_append]
        rfl
      · have hz : ¬ neE z = true := by simpa [neE] using he
        refine ⟨_, rfl, s3, hs3, ?_⟩
        rw [et, if_neg hz, List.append_nil]
        exact hp3
    · rintro σ H3 ⟨v2, rfl, s3, hs3, hp3⟩
      rw [List.length_map, List.take_length] at hp3
      have hw := hwl L.length
      rw [List.take_length] at hw
      have hd3 := s3 _ _ hd
      refine ⟨fun σ' H' => ∃ v2, σ' = [some (.ref d), some (.ref p), v2] ∧ Same H H' ∧ H' p = some (.lst ((wds kvs).map V.str)), ?_, ?_⟩
      · refine ⟨_, rfl, d, _, rfl, DGet.k (k := .inr "") hd3, _, rfl, ?_⟩
        refine ite2 (fun hh => ?_) (fun hh => ?_)
        · have hh : hasK kvs "" = true := hh
          have hv : valV kvs (.inr "") = some (.int (gI kvs "")) := by
            have := getD_gI kk.ok ""
            obtain ⟨v, hv⟩ := Option.isSome_iff_exists.mp hh
            rw [hv] at this ⊢
            rw [show v = .int (gI kvs "") from this]
          have dg : DGet H3 d (.str "") (some (.int (gI kvs ""))) := by
            have q := DGet.k (k := .inr "") hd3
            rw [hv] at q
            exact q
          obtain ⟨g0, g1⟩ := gI_rng kk.ok (by decide) ""
          have lg : (gI kvs "").natAbs.log2 < 1920 := log_ok g0 (Int.lt_trans g1 BT_lt)
          refine ⟨_, rfl, .inl ⟨rfl, _, ofL hp3⟩, _, rfl, d, _, rfl, dg, _, rfl, lg, ?_⟩
          refine ⟨p, _, _, rfl, rfl, hp3, by rw [List.length_map, sizeLine_eq]; omega, ?_⟩
          refine ⟨_, rfl, Same.put s3 np, ?_⟩
          unfold wds
          rw [upd_same, hL, if_pos hh, List.map_append]
          rfl
        · have hh : ¬ hasK kvs "" = true := hh
          refine ⟨_, rfl, s3, ?_⟩
          unfold wds
          rw [hL, if_neg hh, List.append_nil]
          exact hp3
      · rintro σ' H4 ⟨v2, rfl, s4, hp4⟩
        rw [wds_told kk] at hp4
        have wok : ∀ z ∈ (told kvs).map tT, PyData.strOk z = true := by
          rw [← wds_told kk]
          intro z hz
          unfold wds wdsA at hz
          rcases List.mem_append.mp hz with hz | hz
          · obtain ⟨y, hy, rfl⟩ := List.mem_map.mp hz
            rw [hL] at hy
            exact wd_sok kvs (hLo y (List.mem_filter.mp hy).1).2
          · split at hz
            · rw [List.mem_singleton.mp hz]; exact sok_of _
            · cases hz
        refine ⟨_, rfl, Nat.zero_le _, fun pe npe => ?_⟩
        have hpe : (upd H4 pe (.lst [])) pe = some (.lst []) := upd_same
        have s5 : Same H4 (upd H4 pe (.lst [])) := same_up npe
        generalize upd H4 pe (.lst []) = H5 at s5 hpe
        have hp5 := s5 _ _ hp4
        refine ⟨.list (((told kvs).map tT).map PyData.str), .list [], .lst (ofL hp5) (dpStrs _), .lst (ofL hpe) .nil, shStrs wok, (by rfl), _, rfl, ?_⟩
        have hls : (((told kvs).map tT).map (·.length)).sum ≤ ((told kvs).map tT).length * 46 := sum_le 46 _ fun y hy => by
          obtain ⟨t, ht, rfl⟩ := List.mem_map.mp hy
          exact (tT_len kk ht).1
        have htl := told_len kk
        rw [List.length_map] at hls
        have p1 : ("+" : Str).length = 1 := by decide +kernel
        have qq := q H5 (s4.trans s5)
        unfold txt at qq
        refine ite2 (fun hn => ?_) (fun hn => ?_)
        · have hne : ¬ told kvs = [] := fun e => by
            rw [e] at hn
            exact absurd hn (by decide)
          rw [if_neg hne] at qq
          exact ⟨⟨_, rfl⟩, _, rfl, _, p, (told kvs).map tT, rfl, rfl, .inl (ofL hp5), by rw [List.length_map, p1]; omega, qq⟩
        · have he : told kvs = [] := by
            cases e : told kvs with
            | nil => rfl
            | cons t r =>
              rw [e] at hn
              exact absurd rfl hn
          rw [if_pos he] at qq
          exact qq
end
end Cr

namespace Cr
open PySem L2
theorem dpTake {K : PySem.W.Frag} {G : Hp} : ∀ {vs : List V} {ds : List PyData} (i : Nat), DpAll K G vs ds → DpAll K G (vs.take i) (ds.take i)
  | _, _, 0, _ => by simp; exact .nil
  | _, _, _ + 1, .nil => .nil
  | _, _, i + 1, .cons a b => .cons a (dpTake i b)
theorem dpDrop {K : PySem.W.Frag} {G : Hp} : ∀ {vs : List V} {ds : List PyData} (i : Nat), DpAll K G vs ds → DpAll K G (vs.drop i) (ds.drop i)
  | _, _, 0, h => h
  | _, _, _ + 1, .nil => .nil
  | _, _, i + 1, .cons a b => dpDrop i b
theorem dpRev {K : PySem.W.Frag} {G : Hp} : ∀ {vs : List V} {ds : List PyData}, DpAll K G vs ds → DpAll K G vs.reverse ds.reverse
  | _, _, .nil => .nil
  | _, _, .cons a b => by
    rw [List.reverse_cons, List.reverse_cons]
    exact dpApp (dpRev b) (.cons a .nil)
theorem cut_to (xs : List V) (i : Nat) (h : i ≤ xs.length) : cutV xs none (some (i : Int)) = xs.take i := by
  unfold cutV
  rw [HT.sIx_none, HT.sIx_nat, Nat.min_eq_left h]
  simp
theorem cut_from (xs : List V) (i : Nat) : cutV xs (some (i : Int)) none = xs.drop i := by
  unfold cutV
  rw [HT.sIx_none, HT.sIx_nat]
  apply List.ext_getElem?
  intro j
  rw [List.getElem?_take]
  simp only [List.getElem?_drop]
  by_cases c : i ≤ xs.length
  · rw [Nat.min_eq_left c]
    split
    · rfl
    · rw [List.getElem?_eq_none]; omega
  · rw [Nat.min_eq_right (by omega)]
    rw [if_neg (by omega), List.getElem?_eq_none]
    omega
theorem cutS1_lets {z : Str} (h : lets z) (lo hi : Option Int) : lets (cutS z lo hi) := by
  intro c hc
  unfold cutS at hc
  exact h c (List.mem_of_mem_drop (List.mem_of_mem_take (by simpa using hc)))
theorem cutS_len (z : Str) (lo hi : Option Int) : (cutS z lo hi).length ≤ z.length := by
  show ((z.cps.toList.drop _).take _).toArray.size ≤ z.cps.size
  simp
  omega
theorem lets_app {x y : Str} (h1 : lets x) (h2 : lets y) : lets (x ++ y) := by
  intro c hc
  have hc : c ∈ (x.cps ++ y.cps).toList := hc
  rw [Array.toList_append] at hc
  rcases List.mem_append.mp hc with h | h
  · exact h1 c h
  · exact h2 c h
section
variable {P : Program} {w : World} {K : PySem.W.Frag} {mg : Str → Option Value} {base : Heap}
def spNear (K : PySem.W.Frag) : Sp := fun vs H Q _ => ∃ (G : Hp) (f c : Addr) (k : Nat) (a : Addr) (xs : List V) (ts : List Tm), vs = [.ref f, .ref a] ∧ Wo G H f c k ∧ k < 536870912 ∧ G a = some (.lst xs) ∧ DpAll K G xs (ts.map tmD) ∧ ts.length ≤ 7 ∧ (∀ t ∈ ts, okT 5 (2 ^ 99) t) ∧
  ∀ (p : Addr) (xs' : List V) (ts' : List Tm) (G' H' : Hp), Same G G' → Wo G' H' f c (k + 2) → G p = none → G' p = some (.lst xs') → DpAll K G' xs' (ts'.map tmD) → TsOk ts' → Q (.ref p) H'
theorem ok__law_near (T : Tx K mg) : FnOk P w K mg base CX0 2 T._law_near.f T._law_near.fd ["_law_feed_here", "_law_a_terms"] (spNear K) := by
  refine T._law_near.F.ok sc__law_near (fun vs H Q E h => ?_) (fun cdv A outer s H vs Q E hr h => ?_)
  · obtain ⟨G, f, c, k, a, xs, ts, rfl, _⟩ := h
    rfl
  · obtain ⟨G, f, c, k, a, xs, ts, rfl, W, kb, ga, hxs, tl, tok, q⟩ := h
    have xl : xs.length = ts.length := by rw [dpLen hxs, List.length_map]
    refine ⟨_, (pss_cons (ps_par (i := 2) (j := 3) (by rfl) sc__law_near.nd rfl rfl (by decide) rfl rfl (pa_cons (pe_call (ok__law_draw T) (hr.mono (by decide)) (by rfl) T._law_draw.mg T._law_draw.F.kp T._law_draw.b .nil pass0 (pa_cons (pv 0) (pa_cons (pe_op op_add (pe_callB call_len_seq (by rfl) T.b_len (by decide +kernel) (pa_cons (pv 1) pa_nil)) pe_int) pa_nil))) (pa_cons (pe_call (ok__law_draw T) (hr.mono (by decide)) (by rfl) T._law_draw.mg T._law_draw.F.kp T._law_draw.b .nil pass0 (pa_cons (pv 0) (pa_cons pe_int pa_nil))) pa_nil)) (by rfl))
 (pss_cons (ps_asg (pe_ix ix_list (pe_op op_cat (pv 1) (pe_lst (pa_cons (pe_tup (pa_cons pe_int (pa_cons pe_str pa_nil))) pa_nil))) (pv 2) (fun _ _ => rfl)) (pg_tup rfl (pgs_cons (pg_name (i := 4) sc__law_near.nd rfl (Or.inl rfl)) (pgs_cons (pg_name (i := 5) sc__law_near.nd rfl (Or.inl rfl)) pgs_nil))))
 (pss_cons (ps_par (i := 6) (j := 7) (by rfl) sc__law_near.nd rfl rfl (by decide) rfl rfl (pa_cons (pe_slice sl_list (pv 1) po_none (po_some (pv 2))) (pa_cons (pe_slice sl_list (pv 1) (po_some (pe_op op_add (pv 2) pe_int)) po_none) pa_nil)) (by rfl))
 (pss_cons (ps_if (pt_cmpR op_eq (pv 3) pe_int (nomark _))
 (pss_one (ps_ret (pe_revL (pv 1))))
 pss_nil)
 (pss_cons (ps_if (pt_cmpR op_eq (pv 3) pe_int (nomark _))
 (pss_one (ps_ret (pe_op op_cat (pe_op op_cat (pv 6) (pe_lst (pa_cons (pe_tup (pa_cons (pe_op op_fdivN (pv 4) pe_int) (pa_cons (pe_revS (pv 5)) pa_nil))) (pa_cons (pe_tup (pa_cons (pe_op op_sub (pv 4) (pe_op op_fdivN (pv 4) pe_int)) (pa_cons (pv 5) pa_nil))) pa_nil)))) (pv 7))))
 pss_nil)
 (pss_cons (ps_if (pt_cmpR op_eq (pv 3) pe_int (nomark _))
 (pss_one (ps_ret (pe_op op_cat (pe_lst (pa_cons (pe_tup (pa_cons pe_int (pa_cons pe_str pa_nil))) pa_nil)) (pv 1))))
 pss_nil)
 (pss_cons (ps_if (pt_cmpR op_eq (pv 3) pe_int (nomark _))
 (pss_one (ps_ret (pe_op op_cat (pe_op op_cat (pv 6) (pe_lst (pa_cons (pe_tup (pa_cons (pe_op op_add (pv 4) pe_int) (pa_cons (pv 5) pa_nil))) pa_nil))) (pv 7))))
 pss_nil)
 (pss_cons (ps_if (pt_cmpR op_eq (pv 3) pe_int (nomark _))
 (pss_one (ps_ret (pe_op op_cat (pv 6) (pv 7))))
 pss_nil)
 (pss_one (ps_ret (pe_op op_cat (pe_op op_cat (pv 6) (pe_lst (pa_cons (pe_tup (pa_cons (pv 4) (pa_cons (pe_ix ix_list (pe_lst (pa_cons (pe_op op_add_str (pv 5) pe_str) (pa_cons (pe_slice sl_str (pv 5) (po_some pe_int) po_none) pa_nil))) (pe_op op_sub (pv 3) pe_int) (fun _ _ => rfl)) pa_nil))) pa_nil))) (pv 7)))))))))))), ?_⟩
    refine ⟨_, rfl, _, rfl, a, _, rfl, .inl (ofL (W.same _ _ ga)), _, _, rfl, rfl, G, f, c, k, _, rfl, by omega, by omega, W, by omega, fun d H1 d0 d1 W1 => ?_⟩
    refine ⟨_, rfl, G, f, c, _, 7, rfl, by decide, by decide, W1, by omega, fun dw H2 w0 w1 W2 => ?_⟩
    obtain ⟨i, rfl⟩ := Int.eq_ofNat_of_zero_le d0
    have hi : i ≤ xs.length := by omega
    -- (a + [(1, 'n')])[at]
    refine ⟨_, _, rfl, _, rfl, by show 2 ≤ sizeLine; decide, fun tp ntp => ?_⟩
    have W3 := W2.new (o := .tup [.int 1, .str "n"]) ntp
    have gtp : G tp = none := W2.same.free ntp
    have s3 : Same G (upd G tp (.tup [.int 1, .str "n"])) := same_up gtp
    have htp : (upd G tp (.tup [.int 1, .str "n"])) tp = some (.tup [.int 1, .str "n"]) := upd_same
    generalize upd G tp (.tup [.int 1, .str "n"]) = G3 at W3 s3 htp
    generalize upd H2 tp (.tup [.int 1, .str "n"]) = H3 at W3
    refine ⟨by show 1 ≤ sizeLine; decide, fun p1 np1 => ?_⟩
    have W4 := W3.new (o := .lst [.ref tp]) np1
    have s4 : Same G3 (upd G3 p1 (.lst [.ref tp])) := same_up (W3.same.free np1)
    have hp1 : (upd G3 p1 (.lst [.ref tp])) p1 = some (.lst [.ref tp]) := upd_same
    generalize upd G3 p1 (.lst [.ref tp]) = G4 at W4 s4 hp1
    generalize upd H3 p1 (.lst [.ref tp]) = H4 at W4
    have sg4 := s3.trans s4
    refine ⟨a, p1, xs, _, rfl, rfl, W4.same _ _ (sg4 _ _ ga), W4.same _ _ hp1, by show xs.length + 1 ≤ sizeLine; rw [sizeLine_eq]; omega, fun p2 np2 => ?_⟩
    have W5 := W4.new (o := .lst (xs ++ [.ref tp])) np2
    have s5 : Same G4 (upd G4 p2 (.lst (xs ++ [.ref tp]))) := same_up (W4.same.free np2)
    have hp2 : (upd G4 p2 (.lst (xs ++ [.ref tp]))) p2 = some (.lst (xs ++ [.ref tp])) := upd_same
    generalize upd G4 p2 (.lst (xs ++ [.ref tp])) = G5 at W5 s5 hp2
    generalize upd H4 p2 (.lst (xs ++ [.ref tp])) = H5 at W5
    have sg5 := sg4.trans s5
    have hx2 : DpAll K G5 (xs ++ [.ref tp]) ((ts ++ [((1 : Int), ("n" : Str))]).map tmD) := by
      rw [List.map_append]
      exact dpApp (dpUps sg5 hxs) (.cons (.tup (ofT (s5 _ _ (s4 _ _ htp))) (.cons (.int _) (.cons (.str _) .nil))) .nil)
    have hn : lets "n" := by unfold lets; decide +kernel
    have n1 : ("n" : Str).length = 1 := by decide +kernel
    have hil : i < (xs ++ [V.ref tp]).length := by rw [List.length_append]; show i < xs.length + 1; omega
    obtain ⟨dd, hdd, hy⟩ := dpGet hx2 (List.getElem?_eq_getElem hil)
    rw [List.getElem?_map] at hdd
    obtain ⟨t, et, rfl⟩ := Option.map_eq_some_iff.mp hdd
    obtain ⟨b, eb, hb⟩ := tm_at hy
    have tk : okT 5 (2 ^ 99) t := by
      rcases List.mem_append.mp (List.mem_of_getElem? et) with h | h
      · exact tok t h
      · rw [List.mem_singleton.mp h]
        exact ⟨by show (0 : Int) ≤ 1; decide, by show (1 : Int) < 2 ^ 99; decide, by show ("n" : Str).length ≤ 5; rw [n1]; omega, hn⟩
    obtain ⟨t0, t1, t2, t3⟩ := tk
    refine ⟨_, rfl, p2, _, _, .ref b, rfl, rfl, ofL (W5.same _ _ hp2), atI_nat (by rw [List.getElem?_eq_getElem hil, eb]), b, _, rfl, Same.sqT W5.same hb, rfl, _, _, rfl, _, _, rfl, rfl, ?_⟩
    -- ahead, behind
    have ga5 := sg5 _ _ ga
    refine ⟨_, rfl, _, rfl, _, rfl, a, xs, rfl, ofL (W5.same _ _ ga5), fun p3 np3 => ?_⟩
    rw [cut_to xs i hi]
    have W6 := W5.new (o := .lst (xs.take i)) np3
    have s6 : Same G5 (upd G5 p3 (.lst (xs.take i))) := same_up (W5.same.free np3)
    have hp3 : (upd G5 p3 (.lst (xs.take i))) p3 = some (.lst (xs.take i)) := upd_same
    generalize upd G5 p3 (.lst (xs.take i)) = G6 at W6 s6 hp3
    generalize upd H5 p3 (.lst (xs.take i)) = H6 at W6
    refine ⟨_, rfl, _, rfl, _, _, rfl, rfl, _, rfl, a, xs, rfl, ofL (W6.same _ _ (s6 _ _ ga5)), fun p4 np4 => ?_⟩
    rw [show cutV xs (some ((i : Int) + 1)) none = xs.drop (i + 1) from cut_from xs (i + 1)]
    have W7 := W6.new (o := .lst (xs.drop (i + 1))) np4
    have s7 : Same G6 (upd G6 p4 (.lst (xs.drop (i + 1)))) := same_up (W6.same.free np4)
    have hp4 : (upd G6 p4 (.lst (xs.drop (i + 1)))) p4 = some (.lst (xs.drop (i + 1))) := upd_same
    generalize upd G6 p4 (.lst (xs.drop (i + 1))) = G7 at W7 s7 hp4
    generalize upd H6 p4 (.lst (xs.drop (i + 1))) = H7 at W7
    have sg7 : Same G G7 := (sg5.trans s6).trans s7
    have ga7 := sg7 _ _ ga
    have hp37 := s7 _ _ hp3
    have da := dpTake i (dpUps sg7 hxs)
    have db := dpDrop (i + 1) (dpUps sg7 hxs)
    rw [← List.map_take] at da
    rw [← List.map_drop] at db
    have up6 : ∀ u : Tm, okT 5 (2 ^ 99) u → okT 6 (2 ^ 100) u := fun u ⟨a, b, c, d⟩ => ⟨a, Int.lt_trans b (by decide), by omega, d⟩
    clear W W1 W2 W3 W4 W5 W6 ntp np1 np2 np3 np4
    have okA : ∀ u ∈ ts.take i, okT 6 (2 ^ 100) u := fun u hu => up6 u (tok u (List.mem_of_mem_take hu))
    have okB : ∀ u ∈ ts.drop (i + 1), okT 6 (2 ^ 100) u := fun u hu => up6 u (tok u (List.mem_of_mem_drop hu))
    have lA : (ts.take i).length ≤ 7 := by rw [List.length_take]; omega
    have lB : (ts.take i).length + (ts.drop (i + 1)).length ≤ 7 := by rw [List.length_take, List.length_drop]; omega
    have xA : (xs.take i).length ≤ 7 := by rw [List.length_take]; omega
    have xB : (xs.drop (i + 1)).length ≤ 7 := by rw [List.length_drop]; omega
    -- ahead + mid + behind
    have join3 : ∀ (G8 H8 : Hp) (pm : Addr) (ms : List V) (us : List Tm), Same G7 G8 → Wo G8 H8 f c (k + 2) → G8 pm = some (.lst ms) → DpAll K G8 ms (us.map tmD) → us.length ≤ 2 → (∀ u ∈ us, okT 6 (2 ^ 100) u) →
        ∃ l b xs' zs', V.ref p3 = .ref l ∧ V.ref pm = .ref b ∧ H8 l = some (.lst xs') ∧ H8 b = some (.lst zs') ∧ xs'.length + zs'.length ≤ sizeLine ∧ ∀ p, H8 p = none →
          ∃ y, ([some (.ref f), some (.ref a), some (.int i), some (.int dw), some (.int t.1), some (.str t.2), some (.ref p3), some (.ref p4)] : List (Option V))[7]? = some (some y) ∧
            ∃ l b xs zs, V.ref p = .ref l ∧ y = .ref b ∧ (upd H8 p (.lst (xs' ++ zs'))) l = some (.lst xs) ∧ (upd H8 p (.lst (xs' ++ zs'))) b = some (.lst zs) ∧ xs.length + zs.length ≤ sizeLine ∧ ∀ p', (upd H8 p (.lst (xs' ++ zs'))) p' = none → Q (.ref p') (upd (upd H8 p (.lst (xs' ++ zs'))) p' (.lst (xs ++ zs))) := by
      intro G8 H8 pm ms us s8 W8 hpm hms ul uok
      have msl : ms.length ≤ 2 := by rw [dpLen hms, List.length_map]; exact ul
      refine ⟨p3, pm, _, _, rfl, rfl, W8.same _ _ (s8 _ _ hp37), W8.same _ _ hpm, by rw [sizeLine_eq]; omega, fun p np => ?_⟩
      have W9 := W8.new (o := .lst (xs.take i ++ ms)) np
      have s9 : Same G8 (upd G8 p (.lst (xs.take i ++ ms))) := same_up (W8.same.free np)
      have hp9 : (upd G8 p (.lst (xs.take i ++ ms))) p = some (.lst (xs.take i ++ ms)) := upd_same
      generalize upd G8 p (.lst (xs.take i ++ ms)) = G9 at W9 s9 hp9
      generalize upd H8 p (.lst (xs.take i ++ ms)) = H9 at W9
      refine ⟨_, rfl, p, p4, _, _, rfl, rfl, W9.same _ _ hp9, W9.same _ _ (s9 _ _ (s8 _ _ hp4)), by rw [List.length_append, sizeLine_eq]; omega, fun p' np' => ?_⟩
      have s10 : Same G9 (upd G9 p' (.lst (xs.take i ++ ms ++ xs.drop (i + 1)))) := same_up (W9.same.free np')
      refine q p' _ (ts.take i ++ us ++ ts.drop (i + 1)) _ _ ((sg7.trans s8).trans (s9.trans s10)) (W9.new np') ((sg7.trans (s8.trans s9)).free (W9.same.free np')) upd_same ?_ ⟨?_, fun u hu => ?_⟩
      · rw [List.map_append, List.map_append]
        exact dpUps s10 (dpApp (dpApp (dpUps (s8.trans s9) da) (dpUps s9 hms)) (dpUps (s8.trans s9) db))
      · rw [List.length_append, List.length_append]; omega
      · rcases List.mem_append.mp hu with hu | hu
        · rcases List.mem_append.mp hu with hu | hu
          · exact okA u hu
          · exact uok u hu
        · exact okB u hu
    have fd0 : 0 ≤ t.1.fdiv 2 ∧ t.1.fdiv 2 ≤ t.1 := by
      rw [Int.fdiv_eq_ediv_of_nonneg _ (by decide)]
      omega
    -- way == 0
    refine ⟨_, _, rfl, _, rfl, rfl, _, rfl, ite2 (fun _ => ?_) (fun e0 => ?_)⟩
    · refine ⟨_, rfl, a, xs, rfl, ofL (W7.same _ _ ga7), fun p np => ?_⟩
      have s8 : Same G7 (upd G7 p (.lst xs.reverse)) := same_up (W7.same.free np)
      refine q p _ ts.reverse _ _ (sg7.trans s8) (W7.new np) (sg7.free (W7.same.free np)) upd_same ?_ ⟨by rw [List.length_reverse]; omega, fun u hu => up6 u (tok u (List.mem_reverse.mp hu))⟩
      rw [List.map_reverse]
      exact dpUps s8 (dpRev (dpUps sg7 hxs))
    -- way == 1
    refine ⟨_, rfl, rfl, _, rfl, ite2 (fun _ => ?_) (fun e1 => ?_)⟩
    · refine ⟨_, rfl, _, rfl, _, _, rfl, rfl, ⟨by decide, by decide⟩, _, rfl, t.2, rfl, by rw [sizeLine_eq]; omega, by show 2 ≤ sizeLine; decide, fun q1 nq1 => ?_⟩
      have W8 := W7.new (o := .tup [.int (t.1.fdiv 2), .str (revS t.2)]) nq1
      have s8 : Same G7 (upd G7 q1 (.tup [.int (t.1.fdiv 2), .str (revS t.2)])) := same_up (W7.same.free nq1)
      have h8 : (upd G7 q1 (.tup [.int (t.1.fdiv 2), .str (revS t.2)])) q1 = some (.tup [.int (t.1.fdiv 2), .str (revS t.2)]) := upd_same
      generalize upd G7 q1 (.tup [.int (t.1.fdiv 2), .str (revS t.2)]) = G8 at W8 s8 h8
      generalize upd H7 q1 (.tup [.int (t.1.fdiv 2), .str (revS t.2)]) = H8 at W8
      refine ⟨_, rfl, _, rfl, _, _, rfl, rfl, ⟨by decide, by decide⟩, _, _, rfl, rfl, _, rfl, by show 2 ≤ sizeLine; decide, fun q2 nq2 => ?_⟩
      have W9 := W8.new (o := .tup [.int (t.1 - t.1.fdiv 2), .str t.2]) nq2
      have s9 : Same G8 (upd G8 q2 (.tup [.int (t.1 - t.1.fdiv 2), .str t.2])) := same_up (W8.same.free nq2)
      have h9 : (upd G8 q2 (.tup [.int (t.1 - t.1.fdiv 2), .str t.2])) q2 = some (.tup [.int (t.1 - t.1.fdiv 2), .str t.2]) := upd_same
      generalize upd G8 q2 (.tup [.int (t.1 - t.1.fdiv 2), .str t.2]) = G9 at W9 s9 h9
      generalize upd H8 q2 (.tup [.int (t.1 - t.1.fdiv 2), .str t.2]) = H9 at W9
      refine ⟨by show 2 ≤ sizeLine; decide, fun pm npm => ?_⟩
      have sA : Same G9 (upd G9 pm (.lst [.ref q1, .ref q2])) := same_up (W9.same.free npm)
      refine join3 _ _ pm _ [(t.1.fdiv 2, revS t.2), (t.1 - t.1.fdiv 2, t.2)] ((s8.trans s9).trans sA) (W9.new npm) upd_same ?_ (Nat.le_refl 2) ?_
      · exact .cons (.tup (ofT (sA _ _ (s9 _ _ h8))) (.cons (.int _) (.cons (.str _) .nil))) (.cons (.tup (ofT (sA _ _ h9)) (.cons (.int _) (.cons (.str _) .nil))) .nil)
      · intro u hu
        rcases List.mem_cons.mp hu with rfl | hu
        · exact up6 _ ⟨fd0.1, by show t.1.fdiv 2 < 2 ^ 99; omega, by show (revS t.2).length ≤ 5; rw [revS_length]; exact t2, lets_rev t3⟩
        · rw [List.mem_singleton.mp hu]
          exact up6 _ ⟨by show 0 ≤ t.1 - t.1.fdiv 2; omega, by show t.1 - t.1.fdiv 2 < 2 ^ 99; omega, t2, t3⟩
    -- way == 2
    refine ⟨_, rfl, rfl, _, rfl, ite2 (fun _ => ?_) (fun e2 => ?_)⟩
    · refine ⟨by show 2 ≤ sizeLine; decide, fun q1 nq1 => ?_⟩
      have W8 := W7.new (o := .tup [.int 0, .str "x"]) nq1
      have s8 : Same G7 (upd G7 q1 (.tup [.int 0, .str "x"])) := same_up (W7.same.free nq1)
      have h8 : (upd G7 q1 (.tup [.int 0, .str "x"])) q1 = some (.tup [.int 0, .str "x"]) := upd_same
      generalize upd G7 q1 (.tup [.int 0, .str "x"]) = G8 at W8 s8 h8
      generalize upd H7 q1 (.tup [.int 0, .str "x"]) = H8 at W8
      refine ⟨by show 1 ≤ sizeLine; decide, fun pm npm => ?_⟩
      have W9 := W8.new (o := .lst [.ref q1]) npm
      have s9 : Same G8 (upd G8 pm (.lst [.ref q1])) := same_up (W8.same.free npm)
      have h9 : (upd G8 pm (.lst [.ref q1])) pm = some (.lst [.ref q1]) := upd_same
      generalize upd G8 pm (.lst [.ref q1]) = G9 at W9 s9 h9
      generalize upd H8 pm (.lst [.ref q1]) = H9 at W9
      refine ⟨_, rfl, pm, a, _, _, rfl, rfl, W9.same _ _ h9, W9.same _ _ (s9 _ _ (s8 _ _ ga7)), by show 1 + xs.length ≤ sizeLine; rw [sizeLine_eq]; omega, fun p np => ?_⟩
      have sA : Same G9 (upd G9 p (.lst ([.ref q1] ++ xs))) := same_up (W9.same.free np)
      refine q p _ ((0, "x") :: ts) _ _ (sg7.trans (s8.trans (s9.trans sA))) (W9.new np) ((sg7.trans (s8.trans s9)).free (W9.same.free np)) upd_same ?_ ⟨by rw [List.length_cons]; omega, fun u hu => ?_⟩
      · exact .cons (.tup (ofT (sA _ _ (s9 _ _ h8))) (.cons (.int _) (.cons (.str _) .nil))) (dpUps ((sg7.trans s8).trans (s9.trans sA)) hxs)
      · rcases List.mem_cons.mp hu with rfl | hu
        · exact ⟨by show (0 : Int) ≤ 0; decide, by show (0 : Int) < 2 ^ 100; decide, by show ("x" : Str).length ≤ 6; decide +kernel, by show lets "x"; unfold lets; decide +kernel⟩
        · exact up6 u (tok u hu)
    -- way == 3
    refine ⟨_, rfl, rfl, _, rfl, ite2 (fun _ => ?_) (fun e3 => ?_)⟩
    · refine ⟨_, rfl, _, rfl, _, _, rfl, rfl, _, rfl, by show 2 ≤ sizeLine; decide, fun q1 nq1 => ?_⟩
      have W8 := W7.new (o := .tup [.int (t.1 + 1), .str t.2]) nq1
      have s8 : Same G7 (upd G7 q1 (.tup [.int (t.1 + 1), .str t.2])) := same_up (W7.same.free nq1)
      have h8 : (upd G7 q1 (.tup [.int (t.1 + 1), .str t.2])) q1 = some (.tup [.int (t.1 + 1), .str t.2]) := upd_same
      generalize upd G7 q1 (.tup [.int (t.1 + 1), .str t.2]) = G8 at W8 s8 h8
      generalize upd H7 q1 (.tup [.int (t.1 + 1), .str t.2]) = H8 at W8
      refine ⟨by show 1 ≤ sizeLine; decide, fun pm npm => ?_⟩
      have sA : Same G8 (upd G8 pm (.lst [.ref q1])) := same_up (W8.same.free npm)
      refine join3 _ _ pm _ [(t.1 + 1, t.2)] (s8.trans sA) (W8.new npm) upd_same ?_ (by show 1 ≤ 2; decide) ?_
      · exact .cons (.tup (ofT (sA _ _ h8)) (.cons (.int _) (.cons (.str _) .nil))) .nil
      · intro u hu
        rw [List.mem_singleton.mp hu]
        have : (2 : Int) ^ 99 + 1 < 2 ^ 100 := by decide
        exact ⟨by show 0 ≤ t.1 + 1; omega, by show t.1 + 1 < 2 ^ 100; omega, by show t.2.length ≤ 6; omega, t3⟩
    -- way == 4
    refine ⟨_, rfl, rfl, _, rfl, ite2 (fun _ => ?_) (fun e4 => ?_)⟩
    · refine ⟨_, rfl, _, rfl, p3, p4, _, _, rfl, rfl, W7.same _ _ hp37, W7.same _ _ hp4, by rw [sizeLine_eq]; omega, fun p np => ?_⟩
      have sA : Same G7 (upd G7 p (.lst (xs.take i ++ xs.drop (i + 1)))) := same_up (W7.same.free np)
      refine q p _ (ts.take i ++ ts.drop (i + 1)) _ _ (sg7.trans sA) (W7.new np) (sg7.free (W7.same.free np)) upd_same ?_ ⟨by rw [List.length_append]; omega, fun u hu => ?_⟩
      · rw [List.map_append]
        exact dpUps sA (dpApp da db)
      · rcases List.mem_append.mp hu with hu | hu
        · exact okA u hu
        · exact okB u hu
    have hw : dw = 5 ∨ dw = 6 := by
      have : ¬ dw = 0 := by simpa using e0
      have : ¬ dw = 1 := by simpa using e1
      have : ¬ dw = 2 := by simpa using e2
      have : ¬ dw = 3 := by simpa using e3
      have : ¬ dw = 4 := by simpa using e4
      omega
    have a1 : ("a" : Str).length = 1 := by decide +kernel
    have la : lets "a" := by unfold lets; decide +kernel
    refine ⟨_, rfl, _, rfl, _, rfl, _, _, rfl, rfl, by rw [a1, sizeLine_eq]; omega, _, rfl, 1, rfl, t.2, rfl, by rw [sizeLine_eq]; omega, by show 2 ≤ sizeLine; decide, fun q0 nq0 => ?_⟩
    have W8 := W7.new (o := .lst [.str (t.2 ++ "a"), .str (cutS t.2 (some 1) none)]) nq0
    have s8 : Same G7 (upd G7 q0 (.lst [.str (t.2 ++ "a"), .str (cutS t.2 (some 1) none)])) := same_up (W7.same.free nq0)
    have h8 : (upd G7 q0 (.lst [.str (t.2 ++ "a"), .str (cutS t.2 (some 1) none)])) q0 = some (.lst [.str (t.2 ++ "a"), .str (cutS t.2 (some 1) none)]) := upd_same
    generalize upd G7 q0 (.lst [.str (t.2 ++ "a"), .str (cutS t.2 (some 1) none)]) = G8 at W8 s8 h8
    generalize upd H7 q0 (.lst [.str (t.2 ++ "a"), .str (cutS t.2 (some 1) none)]) = H8 at W8
    obtain ⟨z, hz, zl, zo⟩ : ∃ z : Str, atI [V.str (t.2 ++ "a"), .str (cutS t.2 (some 1) none)] (dw - 5) = some (.str z) ∧ z.length ≤ 6 ∧ lets z := by
      rcases hw with rfl | rfl
      · exact ⟨t.2 ++ "a", rfl, by rw [app_len, a1]; omega, lets_app t3 la⟩
      · exact ⟨cutS t.2 (some 1) none, rfl, Nat.le_trans (cutS_len _ _ _) (by omega), cutS1_lets t3 _ _⟩
    refine ⟨_, rfl, _, _, rfl, rfl, q0, _, _, _, rfl, rfl, ofL (W8.same _ _ h8), hz, by show 2 ≤ sizeLine; decide, fun q1 nq1 => ?_⟩
    have W9 := W8.new (o := .tup [.int t.1, .str z]) nq1
    have s9 : Same G8 (upd G8 q1 (.tup [.int t.1, .str z])) := same_up (W8.same.free nq1)
    have h9 : (upd G8 q1 (.tup [.int t.1, .str z])) q1 = some (.tup [.int t.1, .str z]) := upd_same
    generalize upd G8 q1 (.tup [.int t.1, .str z]) = G9 at W9 s9 h9
    generalize upd H8 q1 (.tup [.int t.1, .str z]) = H9 at W9
    refine ⟨by show 1 ≤ sizeLine; decide, fun pm npm => ?_⟩
    have sA : Same G9 (upd G9 pm (.lst [.ref q1])) := same_up (W9.same.free npm)
    refine join3 _ _ pm _ [(t.1, z)] ((s8.trans s9).trans sA) (W9.new npm) upd_same ?_ (by show 1 ≤ 2; decide) ?_
    · exact .cons (.tup (ofT (sA _ _ h9)) (.cons (.int _) (.cons (.str _) .nil))) .nil
    · intro u hu
      rw [List.mem_singleton.mp hu]
      exact ⟨t0, Int.lt_trans t1 (by decide), zl, zo⟩
end
end Cr

namespace Cr
open PySem L2
/-! ### == of two tables is even -/
theorem sub_back {α : Type} [DecidableEq α] : ∀ {l m : List α}, l.Nodup → (∀ x ∈ l, x ∈ m) → m.length ≤ l.length → ∀ x ∈ m, x ∈ l
  | [], m, _, _, hl, x, hx => by
    have : m = [] := List.eq_nil_of_length_eq_zero (by simpa using hl)
    rw [this] at hx; cases hx
  | a :: r, m, nd, hs, hl, x, hx => by
    obtain ⟨na, nr⟩ := List.nodup_cons.mp nd
    have ha := hs a List.mem_cons_self
    have e1 := List.length_erase_of_mem ha
    have hp := List.length_pos_of_mem ha
    by_cases c : x = a
    · rw [c]; exact List.mem_cons_self
    · refine List.mem_cons_of_mem _ (sub_back (m := m.erase a) nr (fun y hy => ?_) ?_ x ((List.mem_erase_of_ne c).mpr hx))
      · exact (List.mem_erase_of_ne (fun e : y = a => na (e ▸ hy))).mpr (hs y (List.mem_cons_of_mem _ hy))
      · rw [List.length_cons] at hl; omega
theorem val_mem {kvs : List (Key × V)} {k : Key} {v : V} (h : valV kvs k = some v) : (k, v) ∈ kvs := by
  unfold valV at h
  obtain ⟨kv, hkv, rfl⟩ := Option.map_eq_some_iff.mp h
  have e : kv.1 = k := by simpa using List.find?_some hkv
  have := List.mem_of_find?_eq_some hkv
  rw [← e]
  exact this
theorem dEq_imp {ks ls : List (Key × V)} (h1 : KvOk ks) (h2 : KvOk ls) (h : dEq ks ls = true) : dEq ls ks = true := by
  unfold dEq at h ⊢
  rw [Bool.and_eq_true] at h ⊢
  obtain ⟨hl, ha⟩ := h
  have hl : ks.length = ls.length := by simpa using hl
  have each : ∀ p ∈ ks, p ∈ ls := fun p hp => by
    have q := List.all_eq_true.mp ha p hp
    obtain ⟨z, n, rfl, _⟩ := h1.ok.each p hp
    cases e : valV ls (.inr z) with
    | none => simp only [e] at q; cases q
    | some v =>
      simp only [e] at q
      have hm := val_mem e
      obtain ⟨z', n', ee, _⟩ := h2.ok.each _ hm
      cases ee
      have : n = n' := by simpa [eqV] using q
      rw [this]; exact hm
  refine ⟨by simpa using hl.symm, List.all_eq_true.mpr fun p hp => ?_⟩
  have nk : ks.Nodup := by
    have := h1.ok.nd
    exact List.Pairwise.of_map (·.1) (fun a b h e => h (by rw [e])) this
  have hb := sub_back nk each (by omega) p hp
  obtain ⟨z, n, rfl, _⟩ := h2.ok.each p hp
  rw [show valV ks (.inr z) = some (.int n) from val_nodup h1.ok.nd _ hb]
  simp [eqV]
theorem dEq_comm {ks ls : List (Key × V)} (h1 : KvOk ks) (h2 : KvOk ls) : dEq ls ks = dEq ks ls := by
  cases e : dEq ks ls with
  | true => exact dEq_imp h1 h2 e
  | false =>
    cases e2 : dEq ls ks with
    | false => rfl
    | true => rw [dEq_imp h2 h1 e2] at e; cases e
section
variable {P : Program} {w : World} {K : PySem.W.Frag} {mg : Str → Option Value} {base : Heap}
theorem kw_init {f : Addr} {fd : FuncData} (F : Fun K "__init__" "Size.__init__" s_Size___init__ f fd) : KBn K fd ["self", "terms"] 1 ["terms"] (fun us ws => us ++ ws) (fun vs zs => vs ++ zs) := by
  obtain ⟨oc, od, kV, doc, pm, an, cdv, ct, osl, rfl, lk, hcd⟩ := F.ex
  refine ⟨fun s us ws X l1 l2 => BindsTo.of_looks fun M => ?_, fun r1 r2 => r1.append r2⟩
  match us, ws, l1, l2 with
  | [u], [w], _, _ => exact .of_pure rfl
/-- a new Size beside the ghost part -/
theorem mk_wo {C : Addr} {G H : Hp} {f c a : Addr} {k : Nat} {xs : List V} {ts : List Tm} {Q : Addr → Hp → Prop} {E : XK} (W : Wo G H f c k) (ha : SqL K H a xs) (hx : DpAll K H xs (ts.map tmD)) (tok : TsOk ts)
    (q : ∀ (x : Addr) (G' H' : Hp), Same G G' → Same H H' → H x = none → Wo G' H' f c k → SzAt C G' x (tab ts) → (∀ b, G b = none → H b ≠ none → G' b = none) → Q x H') :
    ∀ x dx, H x = none → H dx = none → dx ≠ x → spInit K C [.ref x, .ref a] (upd (upd H dx (.own x)) x (.ins C dx [])) (fun v H2 => v = .non ∧ Q x H2) E := by
  intro x dx nx ndx nex
  have s1 : Same H (upd (upd H dx (.own x)) x (.ins C dx [])) := fun b o e => by
    rw [upd_ne (ne_of_none e nx), upd_ne (ne_of_none e ndx)]
    exact e
  refine ⟨x, dx, a, xs, ts, rfl, upd_same, s1.seq ha, dpUps s1 hx, tok, fun p H' st np hx' hp => ⟨rfl, ?_⟩⟩
  have s2 : Same H H' := fun b o e => st b o (ne_of_none e nx) (s1 b o e)
  have np0 : H p = none := s1.free np
  have npx : p ≠ x := fun e => by rw [e, upd_same] at np; cases np
  have W1 := W.keep s2
  have gx : G x = none := W.same.free nx
  have gp : G p = none := W.same.free np0
  have W2 := (W1.add hx' (W.ne nx) gx).add hp (W.ne np0) (by rw [upd_ne npx]; exact gp)
  refine q x _ H' ((same_up gx).trans (same_up (by rw [upd_ne npx]; exact gp))) s2 nx W2 ⟨dx, p, by rw [upd_ne npx.symm, upd_same], upd_same⟩ fun b gb hb => ?_
  have nbx : b ≠ x := fun e => hb (e ▸ nx)
  have nbp : b ≠ p := fun e => hb (e ▸ np0)
  rw [upd_ne nbp, upd_ne nbx]; exact gb
/-! ### things that are no Size -/
inductive Thing (G : Hp) : V → Prop where
  | non : Thing G .non
  | int (i : Int) : Thing G (.int i)
  | str (z : Str) : Thing G (.str z)
  | lst {a : Addr} {xs : List V} (h : G a = some (.lst xs)) : Thing G (.ref a)
  | tup {a : Addr} {xs : List V} (h : G a = some (.tup xs)) : Thing G (.ref a)
  | dK {a : Addr} {kvs : List (Key × V)} (h : G a = some (.dK kvs)) : Thing G (.ref a)
theorem kit_no {C : Addr} {t : String} (kc : ((PySem.W.clsIn K C).isSome && PySem.W.typeIn K (.ref C) == some (.type "type")) = true) (e : PySem.W.subIn K (.type t) (.ref C) = some false) : PySem.W.kitOne K (.type t) (.ref C) = some false := by
  unfold PySem.W.kitOne PySem.W.kitCls
  rw [if_neg (by rw [show (Value.type t == Value.ref C) = false from rfl]; exact Bool.false_ne_true)]
  simp only [kc, if_true, e]
theorem thing_at {C : Addr} {G H : Hp} {y : V} (kc : ((PySem.W.clsIn K C).isSome && PySem.W.typeIn K (.ref C) == some (.type "type")) = true) (h : Thing G y) (s : Same G H) :
    Bk K H y ∧ ∃ t, TyX K H y t ∧ PySem.W.notFirst K C t = true ∧ PySem.W.kitOne K t (.ref C) = some false := by
  cases h with
  | non => exact ⟨.non, _, .base .non, by rfl, kit_no kc rfl⟩
  | int i => exact ⟨.int i, _, .base (.int i), by rfl, kit_no kc rfl⟩
  | str z => exact ⟨.str z, _, .base (.str z), by rfl, kit_no kc rfl⟩
  | lst h => exact ⟨.lst (ofL (s _ _ h)), _, .base (.lst (s _ _ h)), by rfl, kit_no kc rfl⟩
  | tup h => exact ⟨.tup (ofT (s _ _ h)), _, .base (.tup (s _ _ h)), by rfl, kit_no kc rfl⟩
  | dK h => exact ⟨.dK (s _ _ h), _, .base (.dK (s _ _ h)), by rfl, kit_no kc rfl⟩
theorem nf_own (C : Addr) : PySem.W.notFirst K C (.ref C) = true := by simp [PySem.W.notFirst]
end
end Cr

namespace Cr
open PySem L2
section
theorem units66 {A : Around} {k : Nat} (hr : Room k A) : A.units + 66 < cLine := by have := hr.un; omega
variable {P : Program} {w : World} {K : PySem.W.Frag} {mg : Str → Option Value} {base : Heap}
def spLaw (K : PySem.W.Frag) : Sp := fun vs H Q _ => ∃ (a : Addr) (ns : List Int), vs = [.ref a] ∧ SqL K H a (ns.map V.int) ∧ ∀ H', Q (.bl true) H'
theorem ok_law (T : Tx K mg) {f : Addr} {fd : FuncData} (F : Fun K "law" "law" s_law f fd) : FnG P w K mg base CX0 5 f fd ["_law_script"] (spLaw K) := by
  refine okG F sc_law (fun vs H Q E h => ?_) (fun cdv A outer s H vs Q E hr hg h => ?_)
  · obtain ⟨a, ns, rfl, _⟩ := h
    rfl
  · obtain ⟨a, ns, rfl, hS, q⟩ := h
    have hu66 := units66 hr
    refine ⟨_, (pss_cons (ps_set (i := 1) sc_law.nd rfl (Or.inl rfl) (pe_call (ok__law_feed T) (hr.mono (by decide)) (by rfl) T._law_feed.mg T._law_feed.F.kp T._law_feed.b .nil pass0 (pa_cons (pv 0) pa_nil)))
 (pss_cons (ps_for PassesOwn.never rfl (pi_range1 (by rfl) T.b_range (pa_cons pe_int pa_nil)) (pg_name (i := 2) sc_law.nd rfl (Or.inl rfl))
 (pss_cons (ps_set (i := 3) sc_law.nd rfl (Or.inl rfl) (pe_call (ok__law_terms T) (hr.mono (by decide)) (by rfl) T._law_terms.mg T._law_terms.F.kp T._law_terms.b .nil pass0 (pa_cons (pv 1) (pa_cons pe_int pa_nil))))
 (pss_cons (ps_set (i := 4) sc_law.nd rfl (Or.inl rfl) (pe_call (ok__law_near T) (hr.mono (by decide)) (by rfl) T._law_near.mg T._law_near.F.kp T._law_near.b .nil pass0 (pa_cons (pv 1) (pa_cons (pv 3) pa_nil))))
 (pss_cons (ps_set (i := 5) sc_law.nd rfl (Or.inl rfl) (pe_callTy call_list_of (by rfl) T.b_list (by decide +kernel) (pa_cons (pv 3) pa_nil)))
 (pss_cons (ps_par (i := 6) (j := 7) (by rfl) sc_law.nd rfl rfl (by decide) rfl rfl (pa_cons (pe_make T.Size.mkk (ok_Size___init__ T) (hr.mono (by decide)) (by rfl) T.Size.mg T.Size___init__.b .nil pass0 (pa_cons (pv 5) pa_nil)) (pa_cons (pe_makeK0 T.Size.mkk (ok_Size___init__ T) (hr.mono (by decide)) (by rfl) T.Size.mg (kw_init T.Size___init__.F) pass0 (pk_cons (pv 4) pk_nil)) pa_nil)) (by rfl))
 (pss_cons (ps_if (pt_cmpR (op_neD hr.units) (pv 5) (pv 3) (nomark _))
 (pss_one (ps_ret pe_bl))
 pss_nil)
 (pss_cons (ps_expr (pe_bm PySem.F.plainAttrs_list PySem.F.slot_list_append PySem.F.type_list_append mt_append (pv 5) (pa_cons (pe_tup (pa_cons pe_int (pa_cons pe_str pa_nil))) pa_nil)))
 (pss_cons (ps_expr (pe_bm0 PySem.F.plainAttrs_list PySem.F.slot_list_reverse PySem.F.type_list_reverse mt_reverse (pv 5)))
 (pss_cons (ps_par (i := 8) (j := 9) (by rfl) sc_law.nd rfl rfl (by decide) rfl rfl (pa_cons (pe_call (ok__law_table T) (hr.mono (by decide)) (by rfl) T._law_table.mg T._law_table.F.kp T._law_table.b .nil pass0 (pa_cons (pv 3) pa_nil)) (pa_cons (pe_call (ok__law_table T) (hr.mono (by decide)) (by rfl) T._law_table.mg T._law_table.F.kp T._law_table.b .nil pass0 (pa_cons (pv 4) pa_nil)) pa_nil)) (by rfl))
 (pss_cons (ps_for PassesOwn.never rfl (pi_range1 (by rfl) T.b_range (pa_cons pe_int pa_nil)) (pg_name (i := 10) sc_law.nd rfl (Or.inl rfl))
 (pss_one (ps_if (PW.pt (pw_or (pt_cmpR op_ne (pe_callTy (call_strO T.Size___str__.m.at_ T.Size___str__.m.fn (ok_Size___str__ T) T.Size___str__.b (hr.mono (by decide))) (by rfl) T.b_str (by decide +kernel) (pa_cons (pv 6) pa_nil)) (pe_call (ok__law_text T) (hr.mono (by decide)) (by rfl) T._law_text.mg T._law_text.F.kp T._law_text.b .nil pass0 (pa_cons (pv 8) pa_nil)) (nomark _)) (pw_or1 (pt_cmpR op_ne (pe_callTy (call_strO T.Size___str__.m.at_ T.Size___str__.m.fn (ok_Size___str__ T) T.Size___str__.b (hr.mono (by decide))) (by rfl) T.b_str (by decide +kernel) (pa_cons (pv 7) pa_nil)) (pe_call (ok__law_text T) (hr.mono (by decide)) (by rfl) T._law_text.mg T._law_text.F.kp T._law_text.b .nil pass0 (pa_cons (pv 9) pa_nil)) (nomark _)))))
 (pss_one (ps_ret pe_bl))
 pss_nil)))
 (pss_cons (ps_set (i := 11) sc_law.nd rfl (Or.inl rfl) (pe_cmpR (op_eqDK hr.units0) (pv 8) (pv 9) (nomark _)))
 (pss_cons (ps_set (i := 12) sc_law.nd rfl (Or.inl rfl) (pe_lst (pa_cons (pe_cmpR (op_eqO T.ow (ok_Size___eq__ T) T.Size___eq__.b (hr.mono (by decide))) (pv 6) (pv 7) (nomark _)) (pa_cons (pe_cmpR (op_eqO T.ow (ok_Size___eq__ T) T.Size___eq__.b (hr.mono (by decide))) (pv 7) (pv 6) (nomark _)) (pa_cons (pe_not (pe_cmpR (op_neO T.ow (ok_Size___eq__ T) T.Size___eq__.b (hr.mono (by decide))) (pv 6) (pv 7) (nomark _))) (pa_cons (pe_cmpR (op_inO T.ow T.ot (ok_Size___eq__ T) T.Size___eq__.b (hr.mono (by decide))) (pv 6) (pe_lst (pa_cons (pv 7) pa_nil)) (by rfl)) (pa_cons (pe_cmpR (op_inO T.ow T.ot (ok_Size___eq__ T) T.Size___eq__.b (hr.mono (by decide))) (pv 7) (pe_lst (pa_cons (pv 6) (pa_cons (pv 6) pa_nil))) (by rfl)) pa_nil)))))))
 (pss_cons (ps_if (PW.pt (pw_or (pt_cmpR op_ne (pe_callB (call_reprD hg hu66) (by rfl) T.b_repr (by decide +kernel) (pa_cons (pv 12) pa_nil)) (pe_callB (call_reprD hg hu66) (by rfl) T.b_repr (by decide +kernel) (pa_cons (pe_op op_rep (pe_lst (pa_cons (pv 11) pa_nil)) pe_int) pa_nil)) (nomark _)) (pw_or1 (pt_cmpR op_ne (pe_bm PySem.F.plainAttrs_list PySem.F.slot_list_index PySem.F.type_list_index (mt_indexO T.ow T.ot (ok_Size___eq__ T) T.Size___eq__.b (hr.mono (by decide))) (pe_lst (pa_cons (pv 7) (pa_cons (pv 6) pa_nil))) (pa_cons (pv 6) pa_nil)) (pe_callTy call_int1 (by rfl) T.b_int (by decide +kernel) (pa_cons (pe_not (pv 11)) pa_nil)) (nomark _)))))
 (pss_one (ps_ret pe_bl))
 pss_nil)
 (pss_one (ps_for PassesOwn.never rfl (pi_list (pe_lst (pa_cons (pv 3) (pa_cons (pe_callTy (call_strO T.Size___str__.m.at_ T.Size___str__.m.fn (ok_Size___str__ T) T.Size___str__.b (hr.mono (by decide))) (by rfl) T.b_str (by decide +kernel) (pa_cons (pv 6) pa_nil)) (pa_cons pe_non (pa_cons pe_int (pa_cons pe_int (pa_cons (pv 8) (pa_cons (pe_callTy call_tuple_of (by rfl) T.b_tuple (by decide +kernel) (pa_cons (pv 3) pa_nil)) pa_nil))))))))) (pg_name (i := 13) sc_law.nd rfl (Or.inl rfl))
 (pss_one (ps_if (PW.pt (pw_or (pt_cmpR (op_eqO T.ow (ok_Size___eq__ T) T.Size___eq__.b (hr.mono (by decide))) (pv 6) (pv 13) (nomark _)) (pw_or (pt_not (pt_cmpR (op_neO T.ow (ok_Size___eq__ T) T.Size___eq__.b (hr.mono (by decide))) (pv 6) (pv 13) (nomark _))) (pw_or1 (pt_cmpR (op_eqB T.ow (ok_Size___eq__ T) T.Size___eq__.b (hr.mono (by decide))) (pv 13) (pv 6) (nomark _))))))
 (pss_one (ps_ret pe_bl))
 pss_nil)))))))))))))))))
 (pss_one (ps_ret (pe_and (pe_cmpR op_eq (pe_callTy (call_strO T.Size___str__.m.at_ T.Size___str__.m.fn (ok_Size___str__ T) T.Size___str__.b (hr.mono (by decide))) (by rfl) T.b_str (by decide +kernel) (pa_cons (pe_make T.Size.mkk (ok_Size___init__ T) (hr.mono (by decide)) (by rfl) T.Size.mg T.Size___init__.b .nil pass0 (pa_cons (pe_lst pa_nil) pa_nil)) pa_nil)) pe_str (nomark _)) (pe_and (pe_cmpR (op_eqO T.ow (ok_Size___eq__ T) T.Size___eq__.b (hr.mono (by decide))) (pe_make T.Size.mkk (ok_Size___init__ T) (hr.mono (by decide)) (by rfl) T.Size.mg T.Size___init__.b .nil pass0 (pa_cons (pe_lst pa_nil) pa_nil)) (pe_make T.Size.mkk (ok_Size___init__ T) (hr.mono (by decide)) (by rfl) T.Size.mg T.Size___init__.b .nil pass0 (pa_cons (pe_lst (pa_cons (pe_tup (pa_cons pe_int (pa_cons pe_str pa_nil))) pa_nil)) pa_nil)) (nomark _)) (pe_one (pe_cmpR (op_neO T.ow (ok_Size___eq__ T) T.Size___eq__.b (hr.mono (by decide))) (pe_make T.Size.mkk (ok_Size___init__ T) (hr.mono (by decide)) (by rfl) T.Size.mg T.Size___init__.b .nil pass0 (pa_cons (pe_lst (pa_cons (pe_tup (pa_cons pe_int (pa_cons pe_str pa_nil))) pa_nil)) pa_nil)) (pe_make T.Size.mkk (ok_Size___init__ T) (hr.mono (by decide)) (by rfl) T.Size.mg T.Size___init__.b .nil pass0 (pa_cons (pe_lst (pa_cons (pe_tup (pa_cons pe_int (pa_cons pe_str pa_nil))) pa_nil)) pa_nil)) (nomark _))))))))), ?_⟩
    refine ⟨_, rfl, a, ns, rfl, hS, fun f c G H1 s0 nf W0 => ?_⟩
    refine ⟨6, rfl, by decide, by decide, for_range (lo := 0) (n := 6) (fun i σ H' => ∃ (G : Hp) (v2 v3 v4 v5 v6 v7 v8 v9 v10 v11 v12 v13 : Option V), σ = [some (.ref a), some (.ref f), v2, v3, v4, v5, v6, v7, v8, v9, v10, v11, v12, v13] ∧ Wo G H' f c (202 * i))
      ⟨G, none, none, none, none, none, none, none, none, none, none, none, none, rfl, W0⟩ ?_ ?_⟩
    · rintro i σ H2 hi ⟨G, v2, v3, v4, v5, v6, v7, v8, v9, v10, v11, v12, v13, rfl, W⟩
      refine ⟨_, rfl, G, f, c, _, 8, rfl, by decide, by decide, W, by omega, fun p xs ts G1 H3 s1 W1 np hp hxs tl tok => ?_⟩
      have ts9 : TsOk ts := ⟨by omega, fun t ht => by obtain ⟨b1, b2, b3, b4⟩ := tok t ht; exact ⟨b1, Int.lt_trans b2 (by decide), by omega, b4⟩⟩
      refine ⟨_, rfl, _, rfl, G1, f, c, _, p, xs, ts, rfl, W1, by omega, hp, hxs, tl, tok, fun p2 xs2 ts2 G2 H4 s2 W2 np2 hp2 hxs2 tok2 => ?_⟩
      have gp := s2 _ _ hp
      have gxs := dpUps s2 hxs
      -- handed = list(a_terms)
      refine ⟨_, rfl, p, xs, rfl, .inl (ofL (W2.same _ _ gp)), fun h nh => ?_⟩
      have W3 := W2.fresh (o := .lst xs) nh
      have gh : G2 h = none := W2.same.free nh
      have nfh : f ≠ h := W2.ne nh
      have hh : (upd H4 h (.lst xs)) h = some (.lst xs) := upd_same
      generalize upd H4 h (.lst xs) = H5 at W3 hh
      -- one, other = (Size(handed), Size(terms=near))
      refine ⟨_, rfl, mk_wo W3 (ofL hh) (dpUps W3.same gxs) ts9 fun o1 G3 H6 s3 sh3 no1 W4 z1 k3 => ?_⟩
      have gh3 := k3 h gh (by rw [hh]; exact fun e => nomatch e)
      have hh6 := sh3 _ _ hh
      have gxs2 := dpUps s3 hxs2
      refine ⟨_, rfl, rfl, rfl, mk_wo W4 (ofL (W4.same _ _ (s3 _ _ hp2))) (dpUps W4.same gxs2) tok2 fun o2 G4 H7 s4 sh4 no2 W5 z2 k4 => ?_⟩
      have gh4 := k4 h gh3 (by rw [hh6]; exact fun e => nomatch e)
      have hh7 := sh4 _ _ hh6
      have n12 : o1 ≠ o2 := by
        obtain ⟨dx, d, e1, _⟩ := id z1
        exact ne_of_none (W4.same _ _ e1) no2
      have z1 := z1.up s4
      have sg4 : Same G2 G4 := s3.trans s4
      have gp4 := sg4 _ _ gp
      have gp24 := sg4 _ _ hp2
      have gxs4 := dpUps sg4 gxs
      have gxs24 := dpUps s4 gxs2
      have sh4 := W5.same
      have let1 : ∀ t ∈ ts, lets t.2 := fun t ht => (tok t ht).2.2.2
      have shd := shTms let1
      -- if handed != a_terms: return False
      refine ⟨_, _, rfl, _, rfl, _, rfl, .list (ts.map tmD), .list (ts.map tmD), .lst (ofL hh7) (dpUps sh4 gxs4), .lst (ofL (sh4 _ _ gp4)) (dpUps sh4 gxs4), shd, shd, _, rfl, ?_⟩
      have eqd : PyData.eqv (.list (ts.map tmD)) (.list (ts.map tmD)) = true := PySem.SeqAt.eqv_refl _ (by rw [PyData.canLay0]; exact canTms ts let1)
      rw [eqd]
      -- handed.append((1, 'y')); handed.reverse()
      refine ⟨_, rfl, .inl ⟨rfl, _, ofL hh7⟩, by show 2 ≤ sizeLine; decide, fun tp ntp => ?_⟩
      have nhp : h ≠ tp := ne_of_none hh7 ntp
      have xl : xs.length = ts.length := by rw [dpLen hxs, List.length_map]
      refine ⟨h, xs, _, rfl, rfl, by rw [upd_ne nhp]; exact hh7, by rw [sizeLine_eq]; omega, ?_⟩
      have W6 := (W5.fresh (o := .tup [.int 1, .str "y"]) ntp).put (o := .lst (xs ++ [.ref tp])) gh4 nfh
      have hh8 : (upd (upd H7 tp (.tup [.int 1, .str "y"])) h (.lst (xs ++ [.ref tp]))) h = some (.lst (xs ++ [.ref tp])) := upd_same
      generalize upd (upd H7 tp (.tup [.int 1, .str "y"])) h (.lst (xs ++ [.ref tp])) = H8 at W6 hh8
      refine ⟨_, rfl, .inl ⟨rfl, _, ofL hh8⟩, h, _, rfl, rfl, hh8, ?_⟩
      have W7 := W6.put (o := .lst (xs ++ [V.ref tp]).reverse) gh4 nfh
      generalize upd H8 h (.lst (xs ++ [V.ref tp]).reverse) = H9 at W7
      -- the tables
      refine ⟨_, rfl, p, xs, ts, rfl, ofL (W7.same _ _ gp4), dpUps W7.same gxs4, ts9, fun t1 H10 sA nt1 ht1 => ?_⟩
      have W8 := (W7.keep sA).add ht1 (W7.ne nt1) (W7.same.free nt1)
      have s5 : Same G4 (upd G4 t1 (.dK (tab ts))) := same_up (W7.same.free nt1)
      have gt1 : (upd G4 t1 (.dK (tab ts))) t1 = some (.dK (tab ts)) := upd_same
      generalize upd G4 t1 (.dK (tab ts)) = G5 at W8 s5 gt1
      refine ⟨_, rfl, p2, xs2, ts2, rfl, ofL (W8.same _ _ (s5 _ _ gp24)), dpUps (s5.trans W8.same) gxs24, tok2, fun t2 H11 sB nt2 ht2 => ?_⟩
      have W9 := (W8.keep sB).add ht2 (W8.ne nt2) (W8.same.free nt2)
      have s6 : Same G5 (upd G5 t2 (.dK (tab ts2))) := same_up (W8.same.free nt2)
      have gt2 : (upd G5 t2 (.dK (tab ts2))) t2 = some (.dK (tab ts2)) := upd_same
      generalize upd G5 t2 (.dK (tab ts2)) = G6 at W9 s6 gt2
      have sg6 := s5.trans s6
      have gt1 := s6 _ _ gt1
      have z1 := z1.up sg6
      have z2 := z2.up sg6
      have gp6 := sg6 _ _ gp4
      have k1 := ts9.kv
      have k2 := tok2.kv
      clear W1 W2 W3 W4 W5 W6 W7 W8 W gp24 gxs24 gp4 gxs4 hh hh6 hh7 hh8
      -- for again in range(2)
      refine ⟨_, _, rfl, 2, rfl, by decide, by decide, for_range (lo := 0) (n := 2) (fun j σ H' => ∃ v10, σ = [some (.ref a), some (.ref f), some (.int (0 + (i : Int))), some (.ref p), some (.ref p2), some (.ref h), some (.ref o1), some (.ref o2), some (.ref t1), some (.ref t2), v10, v11, v12, v13] ∧ Wo G6 H' f c (202 * i + 200 + 2))
        ⟨_, rfl, W9⟩ ?_ ?_⟩
      · rintro j σ H12 hj ⟨v10, rfl, W⟩
        obtain ⟨dx1, d1, e1, _⟩ := id (z1.up W.same)
        obtain ⟨dx2, d2, e2, _⟩ := id (z2.up W.same)
        refine ⟨_, rfl, o1, dx1, _, rfl, e1, o1, _, rfl, z1.up W.same, k1, fun H13 u1 => ⟨_, rfl, ?_⟩⟩
        have W := W.keep u1
        refine ⟨_, rfl, t1, _, rfl, W.same _ _ gt1, k1, fun H14 u2 => ?_⟩
        have W := W.keep u2
        refine ⟨rfl, _, rfl, ite2 (fun e => by simp at e) (fun _ => ?_)⟩
        obtain ⟨dx2, d2, e2, _⟩ := id (z2.up W.same)
        refine ⟨_, rfl, o2, dx2, _, rfl, e2, o2, _, rfl, z2.up W.same, k2, fun H15 u3 => ⟨_, rfl, ?_⟩⟩
        have W := W.keep u3
        refine ⟨_, rfl, t2, _, rfl, W.same _ _ gt2, k2, fun H16 u4 => ?_⟩
        have W := W.keep u4
        refine ⟨rfl, _, rfl, ite2 (fun e => by simp at e) (fun _ => ?_)⟩
        exact ⟨_, rfl, W⟩
      · rintro σ H12 ⟨v10, rfl, W⟩
        -- due = table_here == beside
        refine ⟨_, rfl, _, rfl, t1, t2, _, _, rfl, rfl, W.same _ _ gt1, W.same _ _ gt2, k1.flat, k2.flat, ?_⟩
        have dc : dEq (tab ts2) (tab ts) = dEq (tab ts) (tab ts2) := dEq_comm k1 k2
        generalize hdue : dEq (tab ts) (tab ts2) = due at dc
        -- what == says at any later heap
        have eq12 : ∀ (H' : Hp) (Kk : Bool → Hp → Prop), Same G6 H' → Kk due H' → spEq K T.C [.ref o1, .ref o2] H' (OwnB Kk) E0 := fun H' Kk u hk =>
          ⟨o1, _, _, rfl, z1.up u, k1, .inl ⟨o2, _, rfl, z2.up u, k2, ⟨_, rfl, by rw [hdue]; exact hk⟩⟩⟩
        have eq21 : ∀ (H' : Hp) (Kk : Bool → Hp → Prop), Same G6 H' → Kk due H' → spEq K T.C [.ref o2, .ref o1] H' (OwnB Kk) E0 := fun H' Kk u hk =>
          ⟨o2, _, _, rfl, z2.up u, k2, .inl ⟨o1, _, rfl, z1.up u, k1, ⟨_, rfl, by rw [dc]; exact hk⟩⟩⟩
        obtain ⟨dx1, d1, e1, _⟩ := id z1
        obtain ⟨dx2, d2, e2, _⟩ := id z2
        have u := W.same
        -- found
        refine ⟨_, rfl, _, rfl, o1, dx1, _, _, rfl, u _ _ e1, T.ot.ty (u _ _ e2), nf_own _, eq12 _ _ u ?_⟩
        refine ⟨_, rfl, _, rfl, o2, dx2, _, _, rfl, u _ _ e2, T.ot.ty (u _ _ e1), nf_own _, eq21 _ _ u ?_⟩
        refine ⟨_, rfl, _, rfl, o1, dx1, _, _, rfl, u _ _ e1, T.ot.ty (u _ _ e2), nf_own _, eq12 _ _ u ⟨_, rfl, ?_⟩⟩
        rw [Bool.not_not]
        -- one in [other]
        refine ⟨_, rfl, _, rfl, by show 1 ≤ sizeLine; decide, fun l1 nl1 => ?_⟩
        have W := W.fresh (o := .lst [.ref o2]) nl1
        have hl1 : (upd H12 l1 (.lst [.ref o2])) l1 = some (.lst [.ref o2]) := upd_same
        generalize upd H12 l1 (.lst [.ref o2]) = H13 at W hl1
        have u := W.same
        have in1 : ∀ {Qq : VK}, Qq (.bl due) H13 → inW (spEq K T.C) T.C l1 [.ref o2] (.ref o1) [.ref o2] H13 Qq := fun {Qq} hq =>
          ⟨o2, o1, dx2, dx1, _, _, rfl, rfl, u _ _ e2, u _ _ e1, fun e => absurd e n12.symm, fun _ => eq21 _ _ u ⟨fun e => by rw [e] at hq; exact hq, fun e => ⟨hl1, by rw [e] at hq; exact hq⟩⟩⟩
        refine ⟨l1, _, rfl, hl1, in1 ?_⟩
        -- other in [one, one]
        refine ⟨_, rfl, _, rfl, _, rfl, by show 2 ≤ sizeLine; decide, fun l2 nl2 => ?_⟩
        have W := W.fresh (o := .lst [.ref o1, .ref o1]) nl2
        have hl2 : (upd H13 l2 (.lst [.ref o1, .ref o1])) l2 = some (.lst [.ref o1, .ref o1]) := upd_same
        generalize upd H13 l2 (.lst [.ref o1, .ref o1]) = H14 at W hl2
        have u := W.same
        have in2 : ∀ {Qq : VK}, Qq (.bl due) H14 → inW (spEq K T.C) T.C l2 [.ref o1, .ref o1] (.ref o2) [.ref o1, .ref o1] H14 Qq := fun {Qq} hq => by
          refine ⟨o1, o2, dx1, dx2, _, _, rfl, rfl, u _ _ e1, u _ _ e2, fun e => absurd e n12, fun _ => eq12 _ _ u ⟨fun e => by rw [e] at hq; exact hq, fun e => ⟨hl2, ?_⟩⟩⟩
          refine ⟨o1, o2, dx1, dx2, _, _, rfl, rfl, u _ _ e1, u _ _ e2, fun e => absurd e n12, fun _ => eq12 _ _ u ⟨fun e => by rw [e] at hq; exact hq, fun e => ⟨hl2, ?_⟩⟩⟩
          rw [e] at hq
          exact hq
        refine ⟨l2, _, rfl, hl2, in2 ?_⟩
        refine ⟨by show 5 ≤ sizeLine; decide, fun l3 nl3 => ?_⟩
        have W := W.fresh (o := .lst [.bl due, .bl due, .bl due, .bl due, .bl due]) nl3
        have hl3 : (upd H14 l3 (.lst [.bl due, .bl due, .bl due, .bl due, .bl due])) l3 = some (.lst [.bl due, .bl due, .bl due, .bl due, .bl due]) := upd_same
        generalize upd H14 l3 (.lst [.bl due, .bl due, .bl due, .bl due, .bl due]) = H15 at W hl3
        have b5 : ∀ H' : Hp, DpAll K H' [.bl due, .bl due, .bl due, .bl due, .bl due] [.bool due, .bool due, .bool due, .bool due, .bool due] := fun H' => .cons (.bl _) (.cons (.bl _) (.cons (.bl _) (.cons (.bl _) (.cons (.bl _) .nil))))
        have sh5 : (PyData.list [.bool due, .bool due, .bool due, .bool due, .bool due]).showable = true := by cases due <;> decide
        have sd5 : (PyData.list [.bool due, .bool due, .bool due, .bool due, .bool due]).hasDict = false := by cases due <;> decide
        have sp5 : (PyData.list [.bool due, .bool due, .bool due, .bool due, .bool due]).depth ≤ 64 := by cases due <;> decide
        have sl5 : (PyData.list [.bool due, .bool due, .bool due, .bool due, .bool due]).shown.length ≤ sizeLine := by cases due <;> decide +kernel
        -- repr(found) != repr([due] * 5)
        refine ⟨_, rfl, l3, _, rfl, .lst (ofL hl3) (b5 _), sh5, sd5, sp5, sl5, ?_⟩
        refine ⟨_, rfl, by show 1 ≤ sizeLine; decide, fun l4 nl4 => ?_⟩
        refine ⟨l4, _, _, rfl, rfl, upd_same, by decide, by decide, by show 1 * 5 ≤ sizeLine; decide, fun l5 nl5 => ?_⟩
        rw [show (List.replicate (Int.toNat 5) [V.bl due]).flatten = [.bl due, .bl due, .bl due, .bl due, .bl due] from rfl]
        have W := (W.fresh nl4).fresh (o := .lst [.bl due, .bl due, .bl due, .bl due, .bl due]) nl5
        refine ⟨l5, _, rfl, .lst (ofL upd_same) (b5 _), sh5, sd5, sp5, sl5, ?_⟩
        refine ⟨rfl, _, rfl, ite2 (fun e => by simp at e) (fun _ => ?_)⟩
        generalize upd (upd H15 l4 (.lst [.bl due])) l5 (.lst [.bl due, .bl due, .bl due, .bl due, .bl due]) = H16 at W
        -- [other, one].index(one) != int(not due)
        refine ⟨_, rfl, _, rfl, by show 2 ≤ sizeLine; decide, fun l6 nl6 => ?_⟩
        have W := W.fresh (o := .lst [.ref o2, .ref o1]) nl6
        have hl6 : (upd H16 l6 (.lst [.ref o2, .ref o1])) l6 = some (.lst [.ref o2, .ref o1]) := upd_same
        generalize upd H16 l6 (.lst [.ref o2, .ref o1]) = H17 at W hl6
        have u := W.same
        have ix : ∀ {Qq : VK}, Qq (.int (if !due then 1 else 0)) H17 → ixW (spEq K T.C) T.C l6 [.ref o2, .ref o1] (.ref o1) 0 [.ref o2, .ref o1] H17 Qq := fun {Qq} hq => by
          refine ⟨o2, o1, dx2, dx1, _, _, rfl, rfl, u _ _ e2, u _ _ e1, fun e => absurd e n12.symm, fun _ => eq21 _ _ u ⟨fun e => by rw [e] at hq; exact hq, fun e => ⟨hl6, ?_⟩⟩⟩
          refine ⟨o1, o1, dx1, dx1, _, _, rfl, rfl, u _ _ e1, u _ _ e1, fun _ => ⟨fun _ => ?_, fun e => nomatch e⟩, fun e => absurd rfl e⟩
          rw [e] at hq
          exact hq
        refine ⟨.inl ⟨rfl, _, ofL hl6⟩, _, rfl, l6, _, _, rfl, rfl, hl6, ix ?_⟩
        refine ⟨_, rfl, _, rfl, .inr ⟨_, rfl, ?_⟩⟩
        refine ⟨rfl, _, rfl, ite2 (fun e => by simp at e) (fun _ => ?_)⟩
        -- for thing in ..
        refine ⟨_, rfl, _, rfl, o1, dx1, _, rfl, u _ _ e1, o1, _, rfl, z1.up u, k1, fun H18 u1 => ⟨_, rfl, ?_⟩⟩
        have W := W.keep u1
        refine ⟨_, rfl, _, rfl, p, xs, rfl, .inl ⟨ofL (W.same _ _ gp6), fun tq ntq => ?_⟩⟩
        have s7 : Same G6 (upd G6 tq (.tup xs)) := same_up (W.same.free ntq)
        have gtq : (upd G6 tq (.tup xs)) tq = some (.tup xs) := upd_same
        have W := W.new (o := .tup xs) ntq
        generalize upd G6 tq (.tup xs) = G7 at W s7 gtq
        generalize upd H18 tq (.tup xs) = H19 at W
        generalize txt (tab ts) = sx
        refine ⟨by show 7 ≤ sizeLine; decide, fun l7 nl7 => ?_⟩
        generalize hTh : ([.ref p, .str sx, .non, .int 0, .int 1, .ref t1, .ref tq] : List V) = th
        have thg : ∀ y ∈ th, Thing G7 y := by
          rw [← hTh]
          intro y hy
          rcases List.mem_cons.mp hy with rfl | hy
          · exact .lst (s7 _ _ gp6)
          rcases List.mem_cons.mp hy with rfl | hy
          · exact .str _
          rcases List.mem_cons.mp hy with rfl | hy
          · exact .non
          rcases List.mem_cons.mp hy with rfl | hy
          · exact .int _
          rcases List.mem_cons.mp hy with rfl | hy
          · exact .int _
          rcases List.mem_cons.mp hy with rfl | hy
          · exact .dK (s7 _ _ gt1)
          · rw [List.mem_singleton.mp hy]; exact .tup gtq
        have s8 : Same G7 (upd G7 l7 (.lst th)) := same_up (W.same.free nl7)
        have gl7 : (upd G7 l7 (.lst th)) l7 = some (.lst th) := upd_same
        have W := W.new (o := .lst th) nl7
        generalize upd G7 l7 (.lst th) = G8 at W s8 gl7
        generalize upd H19 l7 (.lst th) = H20 at W
        have sg8 := s7.trans s8
        refine ⟨l7, rfl, ⟨_, ofL (W.same _ _ gl7)⟩, for_list (K := K) (a := l7) (xs := th) (fun j σ H' => ∃ v13, σ = [some (.ref a), some (.ref f), some (.int (0 + (i : Int))), some (.ref p), some (.ref p2), some (.ref h), some (.ref o1), some (.ref o2), some (.ref t1), some (.ref t2), v10, some (.bl due), some (.ref l3), v13] ∧ Wo G8 H' f c (202 * i + 200 + 2))
          ⟨_, rfl, W⟩ (fun j σ H' _ ⟨_, _, W⟩ => ofL (W.same _ _ gl7)) ?_ ?_⟩
        · rintro j y σ H21 hy ⟨v13, rfl, W⟩
          have u := sg8.trans W.same
          obtain ⟨bk, t, ty, nf, ko⟩ := thing_at (K := K) (C := T.C) T.kc (thg y (List.mem_of_getElem? hy)) (s8.trans W.same)
          have eqT : ∀ (Kk : Bool → Hp → Prop), Kk false H21 → spEq K T.C [.ref o1, y] H21 (OwnB Kk) E0 := fun Kk hk => ⟨o1, _, _, rfl, z1.up u, k1, .inr ⟨t, ty, ko, ⟨_, rfl, hk⟩⟩⟩
          refine ⟨_, rfl, _, rfl, o1, dx1, _, t, rfl, u _ _ e1, ty, nf, eqT _ ?_⟩
          refine ⟨_, rfl, ?_⟩
          refine ⟨_, rfl, _, rfl, o1, dx1, _, t, rfl, u _ _ e1, ty, nf, eqT _ ?_⟩
          refine ⟨_, rfl, ?_⟩
          refine ⟨_, rfl, _, rfl, o1, dx1, _, rfl, u _ _ e1, bk, eqT _ ?_⟩
          refine ⟨_, rfl, ?_⟩
          exact ⟨_, rfl, W⟩
        · rintro σ H21 ⟨v13, rfl, W⟩
          exact ⟨G8, _, _, _, _, _, _, _, _, _, _, _, _, rfl, W.mono (by omega)⟩
    · rintro σ H2 ⟨G, v2, v3, v4, v5, v6, v7, v8, v9, v10, v11, v12, v13, rfl, W⟩
      have le : lets "" := by unfold lets; decide +kernel
      have ln : lets "n" := by unfold lets; decide +kernel
      have tk0 : TsOk [] := ⟨Nat.zero_le _, fun t h => nomatch h⟩
      have tk1 : ∀ (n : Int) (z : Str), 0 ≤ n → n < 2 ^ 100 → z.length ≤ 6 → lets z → TsOk [(n, z)] := fun n z n0 n1 zl zo => ⟨by show 1 ≤ 9; decide, fun t ht => by rw [List.mem_singleton.mp ht]; exact ⟨n0, n1, zl, zo⟩⟩
      have tkA := tk1 0 "n" (by decide) (by decide) (by decide +kernel) ln
      have tkB := tk1 1 "" (by decide) (by decide) (by decide +kernel) le
      have tkC := tk1 1 "n" (by decide) (by decide) (by decide +kernel) ln
      have dp1 : ∀ (H' : Hp) (tp : Addr) (n : Int) (z : Str), H' tp = some (.tup [.int n, .str z]) → DpAll K H' [.ref tp] ([(n, z)].map tmD) := fun H' tp n z e => .cons (.tup (ofT e) (.cons (.int _) (.cons (.str _) .nil))) .nil
      -- str(Size([])) == '0'
      refine ⟨Nat.zero_le _, fun p0 n0 => ?_⟩
      refine mk_wo (W.fresh n0) (ofL upd_same) .nil tk0 fun x1 G1 H3 _ _ _ W z1 _ => ?_
      obtain ⟨dx1, _, e1, _⟩ := id z1
      refine ⟨x1, dx1, _, rfl, W.same _ _ e1, x1, _, rfl, z1.up W.same, tk0.kv, fun H4 u => ⟨_, rfl, ?_⟩⟩
      have W := W.keep u
      have e0 : txt (tab []) = "0" := by decide +kernel
      rw [e0]
      refine ⟨rfl, _, rfl, ?_⟩
      rw [if_pos (by simp)]
      -- Size([]) == Size([(0, 'n')])
      refine ⟨Nat.zero_le _, fun p1 n1 => ?_⟩
      refine mk_wo (W.fresh n1) (ofL upd_same) .nil tk0 fun x2 G2 H5 _ _ _ W z2 _ => ?_
      refine ⟨by show 2 ≤ sizeLine; decide, fun q1 nq1 => ⟨by show 1 ≤ sizeLine; decide, fun p2 n2 => ?_⟩⟩
      have ht : (upd (upd H5 q1 (.tup [.int 0, .str "n"])) p2 (.lst [.ref q1])) q1 = some (.tup [.int 0, .str "n"]) := by
        rw [upd_ne (fun e => by rw [← e, upd_same] at n2; cases n2), upd_same]
      refine mk_wo ((W.fresh nq1).fresh n2) (ofL upd_same) (dp1 _ _ _ _ ht) tkA fun x3 G3 H6 s3 _ _ W z3 _ => ?_
      have z2 := (z2.up s3).up W.same
      have z3 := z3.up W.same
      obtain ⟨dx2, _, e2, _⟩ := id z2
      obtain ⟨dx3, _, e3, _⟩ := id z3
      refine ⟨x2, dx2, _, _, rfl, e2, T.ot.ty e3, nf_own _, x2, _, _, rfl, z2, tk0.kv, .inl ⟨x3, _, rfl, z3, tkA.kv, ⟨_, rfl, ?_⟩⟩⟩
      rw [show dEq (tab []) (tab [(0, "n")]) = true by decide +kernel]
      refine ⟨_, rfl, ?_⟩
      -- Size([(1, '')]) != Size([(1, 'n')])
      refine ⟨by show 2 ≤ sizeLine; decide, fun q2 nq2 => ⟨by show 1 ≤ sizeLine; decide, fun p3 n3 => ?_⟩⟩
      have ht : (upd (upd H6 q2 (.tup [.int 1, .str ""])) p3 (.lst [.ref q2])) q2 = some (.tup [.int 1, .str ""]) := by
        rw [upd_ne (fun e => by rw [← e, upd_same] at n3; cases n3), upd_same]
      refine mk_wo ((W.fresh nq2).fresh n3) (ofL upd_same) (dp1 _ _ _ _ ht) tkB fun x4 G4 H7 _ _ _ W z4 _ => ?_
      refine ⟨by show 2 ≤ sizeLine; decide, fun q3 nq3 => ⟨by show 1 ≤ sizeLine; decide, fun p4 n4 => ?_⟩⟩
      have ht : (upd (upd H7 q3 (.tup [.int 1, .str "n"])) p4 (.lst [.ref q3])) q3 = some (.tup [.int 1, .str "n"]) := by
        rw [upd_ne (fun e => by rw [← e, upd_same] at n4; cases n4), upd_same]
      refine mk_wo ((W.fresh nq3).fresh n4) (ofL upd_same) (dp1 _ _ _ _ ht) tkC fun x5 G5 H8 s5 _ _ W z5 _ => ?_
      have z4 := (z4.up s5).up W.same
      have z5 := z5.up W.same
      obtain ⟨dx4, _, e4, _⟩ := id z4
      obtain ⟨dx5, _, e5, _⟩ := id z5
      refine ⟨x4, dx4, _, _, rfl, e4, T.ot.ty e5, nf_own _, x4, _, _, rfl, z4, tkB.kv, .inl ⟨x5, _, rfl, z5, tkC.kv, ⟨_, rfl, ?_⟩⟩⟩
      rw [show dEq (tab [(1, "")]) (tab [(1, "n")]) = false by decide +kernel]
      exact q _
end
end Cr

namespace Cr
open PySem L2
theorem kit_yes {K : PySem.W.Frag} {C : Addr} (h1 : PySem.W.isClsIn K C = true) (h2 : PySem.W.typeIn K (.ref C) = some (.type "type")) : ((PySem.W.clsIn K C).isSome && PySem.W.typeIn K (.ref C) == some (.type "type")) = true := by
  unfold PySem.W.isClsIn at h1
  rw [h1, h2]
  rfl
theorem all_mk {l : PySem.W.OpenLaw} {w : World} {K : PySem.W.Frag} {h : Heap} {mg : Str → Option Value} {fa : Addr} (X : K.In h) (G : h.Ns mainGlobals mg) (hfa : mg "law" = some (.ref fa))
    {f0 : Addr} {od0 an0 : Option Addr} {sl0 : Array (Option Value)} {oc0 kV0 dc0 pm0 cd0 ct0 : Value}
    {f1 : Addr} {od1 an1 : Option Addr} {sl1 : Array (Option Value)} {oc1 kV1 dc1 pm1 cd1 ct1 : Value}
    {f2 : Addr} {od2 an2 : Option Addr} {sl2 : Array (Option Value)} {oc2 kV2 dc2 pm2 cd2 ct2 : Value}
    {f3 : Addr} {od3 an3 : Option Addr} {sl3 : Array (Option Value)} {oc3 kV3 dc3 pm3 cd3 ct3 : Value}
    {f4 : Addr} {od4 an4 : Option Addr} {sl4 : Array (Option Value)} {oc4 kV4 dc4 pm4 cd4 ct4 : Value}
    {f5 : Addr} {od5 an5 : Option Addr} {sl5 : Array (Option Value)} {oc5 kV5 dc5 pm5 cd5 ct5 : Value}
    {f6 : Addr} {od6 an6 : Option Addr} {sl6 : Array (Option Value)} {oc6 kV6 dc6 pm6 cd6 ct6 : Value}
    {f7 : Addr} {od7 an7 : Option Addr} {sl7 : Array (Option Value)} {oc7 kV7 dc7 pm7 cd7 ct7 : Value}
    {f8 : Addr} {od8 an8 : Option Addr} {sl8 : Array (Option Value)} {oc8 kV8 dc8 pm8 cd8 ct8 : Value}
    {C_Size : Addr}
    {f9 : Addr} {od9 an9 : Option Addr} {sl9 : Array (Option Value)} {oc9 kV9 dc9 pm9 cd9 ct9 : Value}
    {f10 : Addr} {od10 an10 : Option Addr} {sl10 : Array (Option Value)} {oc10 kV10 dc10 pm10 cd10 ct10 : Value}
    {f11 : Addr} {od11 an11 : Option Addr} {sl11 : Array (Option Value)} {oc11 kV11 dc11 pm11 cd11 ct11 : Value}
    {f12 : Addr} {od12 an12 : Option Addr} {sl12 : Array (Option Value)} {oc12 kV12 dc12 pm12 cd12 ct12 : Value}
    (a0 : PySem.W.nsIn K mainGlobals "term_text" = some (some (.ref f0)))
    (l0 : K.lookup f0 = some ⟨oc0, od0, .func (PySem.W.fnOf "term_text" "term_text" (defArgs s_term_text) (defBody s_term_text) (defScope s_term_text) .none kV0 dc0 pm0 an0 cd0 ct0), sl0⟩)
    (c0 : PySem.W.codeIn K cd0 "term_text" = true)
    (k0 : PySem.W.keepIn K (.ref f0) = true)
    (a1 : PySem.W.nsIn K mainGlobals "_law_feed" = some (some (.ref f1)))
    (l1 : K.lookup f1 = some ⟨oc1, od1, .func (PySem.W.fnOf "_law_feed" "_law_feed" (defArgs s__law_feed) (defBody s__law_feed) (defScope s__law_feed) .none kV1 dc1 pm1 an1 cd1 ct1), sl1⟩)
    (c1 : PySem.W.codeIn K cd1 "_law_feed" = true)
    (k1 : PySem.W.keepIn K (.ref f1) = true)
    (a2 : PySem.W.nsIn K mainGlobals "_law_draw" = some (some (.ref f2)))
    (l2 : K.lookup f2 = some ⟨oc2, od2, .func (PySem.W.fnOf "_law_draw" "_law_draw" (defArgs s__law_draw) (defBody s__law_draw) (defScope s__law_draw) .none kV2 dc2 pm2 an2 cd2 ct2), sl2⟩)
    (c2 : PySem.W.codeIn K cd2 "_law_draw" = true)
    (k2 : PySem.W.keepIn K (.ref f2) = true)
    (a3 : PySem.W.nsIn K mainGlobals "_law_of" = some (some (.ref f3)))
    (l3 : K.lookup f3 = some ⟨oc3, od3, .func (PySem.W.fnOf "_law_of" "_law_of" (defArgs s__law_of) (defBody s__law_of) (defScope s__law_of) .none kV3 dc3 pm3 an3 cd3 ct3), sl3⟩)
    (c3 : PySem.W.codeIn K cd3 "_law_of" = true)
    (k3 : PySem.W.keepIn K (.ref f3) = true)
    (a4 : PySem.W.nsIn K mainGlobals "_law_terms" = some (some (.ref f4)))
    (l4 : K.lookup f4 = some ⟨oc4, od4, .func (PySem.W.fnOf "_law_terms" "_law_terms" (defArgs s__law_terms) (defBody s__law_terms) (defScope s__law_terms) .none kV4 dc4 pm4 an4 cd4 ct4), sl4⟩)
    (c4 : PySem.W.codeIn K cd4 "_law_terms" = true)
    (k4 : PySem.W.keepIn K (.ref f4) = true)
    (a5 : PySem.W.nsIn K mainGlobals "_law_table" = some (some (.ref f5)))
    (l5 : K.lookup f5 = some ⟨oc5, od5, .func (PySem.W.fnOf "_law_table" "_law_table" (defArgs s__law_table) (defBody s__law_table) (defScope s__law_table) .none kV5 dc5 pm5 an5 cd5 ct5), sl5⟩)
    (c5 : PySem.W.codeIn K cd5 "_law_table" = true)
    (k5 : PySem.W.keepIn K (.ref f5) = true)
    (a6 : PySem.W.nsIn K mainGlobals "_law_text" = some (some (.ref f6)))
    (l6 : K.lookup f6 = some ⟨oc6, od6, .func (PySem.W.fnOf "_law_text" "_law_text" (defArgs s__law_text) (defBody s__law_text) (defScope s__law_text) .none kV6 dc6 pm6 an6 cd6 ct6), sl6⟩)
    (c6 : PySem.W.codeIn K cd6 "_law_text" = true)
    (k6 : PySem.W.keepIn K (.ref f6) = true)
    (a7 : PySem.W.nsIn K mainGlobals "_law_near" = some (some (.ref f7)))
    (l7 : K.lookup f7 = some ⟨oc7, od7, .func (PySem.W.fnOf "_law_near" "_law_near" (defArgs s__law_near) (defBody s__law_near) (defScope s__law_near) .none kV7 dc7 pm7 an7 cd7 ct7), sl7⟩)
    (c7 : PySem.W.codeIn K cd7 "_law_near" = true)
    (k7 : PySem.W.keepIn K (.ref f7) = true)
    (a8 : PySem.W.nsIn K mainGlobals "law" = some (some (.ref f8)))
    (l8 : K.lookup f8 = some ⟨oc8, od8, .func (PySem.W.fnOf "law" "law" (defArgs s_law) (defBody s_law) (defScope s_law) .none kV8 dc8 pm8 an8 cd8 ct8), sl8⟩)
    (c8 : PySem.W.codeIn K cd8 "law" = true)
    (k8 : PySem.W.keepIn K (.ref f8) = true)
    (a_Size : PySem.W.nsIn K mainGlobals "Size" = some (some (.ref C_Size)))
    (a9 : PySem.W.findIn K (.ref C_Size) "__init__" = some (some (.ref f9)))
    (i9 : PySem.W.isFn K (.ref f9) = true)
    (l9 : K.lookup f9 = some ⟨oc9, od9, .func (PySem.W.fnOf "__init__" "Size.__init__" (defArgs s_Size___init__) (defBody s_Size___init__) (defScope s_Size___init__) .none kV9 dc9 pm9 an9 cd9 ct9), sl9⟩)
    (c9 : PySem.W.codeIn K cd9 "Size.__init__" = true)
    (k9 : PySem.W.keepIn K (.ref f9) = true)
    (a10 : PySem.W.findIn K (.ref C_Size) "__eq__" = some (some (.ref f10)))
    (i10 : PySem.W.isFn K (.ref f10) = true)
    (l10 : K.lookup f10 = some ⟨oc10, od10, .func (PySem.W.fnOf "__eq__" "Size.__eq__" (defArgs s_Size___eq__) (defBody s_Size___eq__) (defScope s_Size___eq__) .none kV10 dc10 pm10 an10 cd10 ct10), sl10⟩)
    (c10 : PySem.W.codeIn K cd10 "Size.__eq__" = true)
    (k10 : PySem.W.keepIn K (.ref f10) = true)
    (a11 : PySem.W.findIn K (.ref C_Size) "__str__" = some (some (.ref f11)))
    (i11 : PySem.W.isFn K (.ref f11) = true)
    (l11 : K.lookup f11 = some ⟨oc11, od11, .func (PySem.W.fnOf "__str__" "Size.__str__" (defArgs s_Size___str__) (defBody s_Size___str__) (defScope s_Size___str__) .none kV11 dc11 pm11 an11 cd11 ct11), sl11⟩)
    (c11 : PySem.W.codeIn K cd11 "Size.__str__" = true)
    (k11 : PySem.W.keepIn K (.ref f11) = true)
    (a12 : PySem.W.findIn K (.ref C_Size) "terms_told" = some (some (.ref f12)))
    (i12 : PySem.W.isFn K (.ref f12) = true)
    (l12 : K.lookup f12 = some ⟨oc12, od12, .func (PySem.W.fnOf "terms_told" "Size.terms_told" (defArgs s_Size_terms_told) (defBody s_Size_terms_told) (defScope s_Size_terms_told) .none kV12 dc12 pm12 an12 cd12 ct12), sl12⟩)
    (c12 : PySem.W.codeIn K cd12 "Size.terms_told" = true)
    (k12 : PySem.W.keepIn K (.ref f12) = true)
    (pg_Size : PySem.W.plainGet K C_Size Str.empty = true)
    (hd_Size : PySem.W.hasDictIn K C_Size = true)
    (po_Size : PySem.W.plainOver K C_Size = true)
    (sa_Size : PySem.W.findIn K (.ref C_Size) "__setattr__" = some (some (.builtin "object.__setattr__")))
    (mk_Size : PySem.W.makesIn K C_Size = true)
    (kp_Size : PySem.W.keepIn K (.ref C_Size) = true)
    (ne_Size : PySem.W.findIn K (.ref C_Size) "__ne__" = some (some (.builtin "object.__ne__")))
    (ob_Size : PySem.W.mroIn K C_Size (.type "object") = some true)
    (nolist_Size : PySem.W.mroIn K C_Size (.type "list") = some false)
    (notuple_Size : PySem.W.mroIn K C_Size (.type "tuple") = some false)
    (nodict_Size : PySem.W.mroIn K C_Size (.type "dict") = some false)
    (nostr_Size : PySem.W.mroIn K C_Size (.type "str") = some false)
    (noint_Size : PySem.W.mroIn K C_Size (.type "int") = some false)
    (nobool_Size : PySem.W.mroIn K C_Size (.type "bool") = some false)
    (noNoneType_Size : PySem.W.mroIn K C_Size (.type "NoneType") = some false)
    (ca_Size : PySem.W.findIn K (.ref C_Size) "__class__" = some (some (.builtin "object.__class__")))
    (cn_Size : PySem.W.specialIn K (.builtin "object.__class__") "__get__" = some (some (.builtin "getset_descriptor.__get__")))
    (ct_Size : PySem.W.takesIn K (.builtin "object.__class__") = some true)
    (nC_Size : PySem.W.findIn K (.ref C_Size) "counts" = some none)
    (ci_Size : PySem.W.isClsIn K C_Size = true)
    (ti_Size : PySem.W.typeIn K (.ref C_Size) = some (.type "type"))
    (z_len : PySem.W.nsIn K mainGlobals "len" = some none)
    (z_list : PySem.W.nsIn K mainGlobals "list" = some none)
    (z_range : PySem.W.nsIn K mainGlobals "range" = some none)
    (z_sorted : PySem.W.nsIn K mainGlobals "sorted" = some none)
    (z_dict : PySem.W.nsIn K mainGlobals "dict" = some none)
    (z_str : PySem.W.nsIn K mainGlobals "str" = some none)
    (z_int : PySem.W.nsIn K mainGlobals "int" = some none)
    (z_isinstance : PySem.W.nsIn K mainGlobals "isinstance" = some none)
    (z_repr : PySem.W.nsIn K mainGlobals "repr" = some none)
    (z_tuple : PySem.W.nsIn K mainGlobals "tuple" = some none) :
    ∃ fd : FuncData, (∀ (s : Shared) (v : Value), BindsTo s fd ⟨[v], []⟩ [("_law_script", v)]) ∧ ∀ base : Heap, K.In base → base.Ns mainGlobals mg → FnG l.prog w K mg base CX0 5 fa fd ["_law_script"] (spLaw K) := by
  have e := hfa.symm.trans (PySem.W.mg_of X G a8)
  cases e
  have cl : Cls K C_Size := ⟨pg_Size, hd_Size, po_Size, sa_Size⟩
  let init : MtAt K C_Size "__init__" "Size.__init__" s_Size___init__ ["self", "terms"] := ⟨f9, _, (fun_mk (st := s_Size___init__) l9 c9 k9), (fun_mk (st := s_Size___init__) l9 c9 k9).binds (ps := ["self", "terms"]) fun _ _ _ _ _ _ us hl => match us, hl with | [_, _], _ => rfl, ⟨a9, i9, k9⟩⟩
  let eqm : MtAt K C_Size "__eq__" "Size.__eq__" s_Size___eq__ ["self", "other"] := ⟨f10, _, (fun_mk (st := s_Size___eq__) l10 c10 k10), (fun_mk (st := s_Size___eq__) l10 c10 k10).binds (ps := ["self", "other"]) fun _ _ _ _ _ _ us hl => match us, hl with | [_, _], _ => rfl, ⟨a10, i10, k10⟩⟩
  have T : Tx K mg := {
    C := C_Size
    term_text := ⟨f0, _, (fun_mk (st := s_term_text) l0 c0 k0), (fun_mk (st := s_term_text) l0 c0 k0).binds (ps := ["many", "letters"]) fun _ _ _ _ _ _ us hl => match us, hl with | [_, _], _ => rfl, PySem.W.mg_of X G a0⟩
    Size___init__ := init
    Size___eq__ := eqm
    Size___str__ := ⟨f11, _, (fun_mk (st := s_Size___str__) l11 c11 k11), (fun_mk (st := s_Size___str__) l11 c11 k11).binds (ps := ["self"]) fun _ _ _ _ _ _ us hl => match us, hl with | [_], _ => rfl, ⟨a11, i11, k11⟩⟩
    Size_terms_told := ⟨f12, _, (fun_mk (st := s_Size_terms_told) l12 c12 k12), (fun_mk (st := s_Size_terms_told) l12 c12 k12).binds (ps := ["self"]) fun _ _ _ _ _ _ us hl => match us, hl with | [_], _ => rfl, ⟨a12, i12, k12⟩⟩
    Size := ⟨⟨mk_Size, init.m.at_, init.m.fn, kp_Size⟩, cl, PySem.W.mg_of X G a_Size⟩
    ow := ⟨eqm.m.at_, eqm.m.fn, ne_Size, ob_Size, nolist_Size, notuple_Size, nodict_Size, nostr_Size, noint_Size, nobool_Size, noNoneType_Size⟩
    ot := ⟨cl, fun h => .base (.ins h cl ca_Size cn_Size ct_Size ob_Size)⟩
    nC := nC_Size
    _law_feed := ⟨f1, _, (fun_mk (st := s__law_feed) l1 c1 k1), (fun_mk (st := s__law_feed) l1 c1 k1).binds (ps := ["_law_script"]) fun _ _ _ _ _ _ us hl => match us, hl with | [_], _ => rfl, PySem.W.mg_of X G a1⟩
    _law_draw := ⟨f2, _, (fun_mk (st := s__law_draw) l2 c2 k2), (fun_mk (st := s__law_draw) l2 c2 k2).binds (ps := ["_law_feed_here", "_law_many"]) fun _ _ _ _ _ _ us hl => match us, hl with | [_, _], _ => rfl, PySem.W.mg_of X G a2⟩
    _law_of := ⟨f3, _, (fun_mk (st := s__law_of) l3 c3 k3), (fun_mk (st := s__law_of) l3 c3 k3).binds (ps := ["_law_feed_here", "_law_some"]) fun _ _ _ _ _ _ us hl => match us, hl with | [_, _], _ => rfl, PySem.W.mg_of X G a3⟩
    _law_terms := ⟨f4, _, (fun_mk (st := s__law_terms) l4 c4 k4), (fun_mk (st := s__law_terms) l4 c4 k4).binds (ps := ["_law_feed_here", "_law_most"]) fun _ _ _ _ _ _ us hl => match us, hl with | [_, _], _ => rfl, PySem.W.mg_of X G a4⟩
    _law_table := ⟨f5, _, (fun_mk (st := s__law_table) l5 c5 k5), (fun_mk (st := s__law_table) l5 c5 k5).binds (ps := ["_law_a_terms"]) fun _ _ _ _ _ _ us hl => match us, hl with | [_], _ => rfl, PySem.W.mg_of X G a5⟩
    _law_text := ⟨f6, _, (fun_mk (st := s__law_text) l6 c6 k6), (fun_mk (st := s__law_text) l6 c6 k6).binds (ps := ["_law_table_here"]) fun _ _ _ _ _ _ us hl => match us, hl with | [_], _ => rfl, PySem.W.mg_of X G a6⟩
    _law_near := ⟨f7, _, (fun_mk (st := s__law_near) l7 c7 k7), (fun_mk (st := s__law_near) l7 c7 k7).binds (ps := ["_law_feed_here", "_law_a_terms"]) fun _ _ _ _ _ _ us hl => match us, hl with | [_, _], _ => rfl, PySem.W.mg_of X G a7⟩
    b_len := PySem.W.mg_none_of X G z_len
    b_list := PySem.W.mg_none_of X G z_list
    b_range := PySem.W.mg_none_of X G z_range
    b_sorted := PySem.W.mg_none_of X G z_sorted
    b_dict := PySem.W.mg_none_of X G z_dict
    b_str := PySem.W.mg_none_of X G z_str
    b_int := PySem.W.mg_none_of X G z_int
    b_isinstance := PySem.W.mg_none_of X G z_isinstance
    b_repr := PySem.W.mg_none_of X G z_repr
    b_tuple := PySem.W.mg_none_of X G z_tuple
    kc := kit_yes ci_Size ti_Size }
  exact ⟨PySem.W.fnOf "law" "law" (defArgs s_law) (defBody s_law) (defScope s_law) .none kV8 dc8 pm8 an8 cd8 ct8, fun s v => .of_eq rfl, fun base _ _ => ok_law T (fun_mk (st := s_law) l8 c8 k8)⟩
theorem walk {l : PySem.W.OpenLaw} {q : Program} {loose : List Str} {XP : (Str → Option Value) → Heap → Prop} {YP : World → Heap → Prop} {d : DefRec} {K : Params → PySem.W.Frag} (hn : l.most = some 63) (hdf : d.params.defaults = [])
    (hY : ∀ (w : World) (h : Heap), YP w h → (K w.params).In h)
    (F : ∀ (w : World) (mg : Str → Option Value) (fa : Addr) (h : Heap), (K w.params).In h → h.Ns mainGlobals mg → mg d.name = some (.ref fa) →
      ∃ fd : FuncData, (∀ (s : Shared) (u : Value), BindsTo s fd ⟨[u], []⟩ [("_law_script", u)]) ∧ ∀ base : Heap, (K w.params).In base → base.Ns mainGlobals mg → FnG l.prog w (K w.params) mg base CX0 5 fa fd ["_law_script"] (spLaw (K w.params))) :
    PySem.W.WalkO q loose XP YP l.row.toRowW d [] (fun f vs => PySem.call f vs) :=
  endG (n := 63) (k := 5) (x := "_law_script") (sp := fun w => spLaw (K w.params)) hn (by decide) hdf ⟨rfl, by decide, by decide⟩ hY F fun w H a ns hl _ hS => ⟨a, ns, rfl, hS, fun _ => rfl⟩
end Cr
open PySem PySem.W PyProof.Rows in
set_option maxRecDepth 100000 in
set_option maxHeartbeats 0 in
theorem PySem.Challenge.cw_cellranks_k23_sizes_in_letters_holds : PySem.Challenge.rw_cellranks_k23_sizes_in_letters.Holds := by
  w_on; o_law; k_head; (case hw => w_witness2)
  k_fill
  refine Cr.walk (l := PySem.Challenge.rw_cellranks_k23_sizes_in_letters) rfl rfl (fun w h Y => PySem.W.kIn_of Y) ?F
  case F =>
    intro w mg fa h KX G hmg
    refine' Cr.all_mk KX G hmg ?a0 ?l0 ?c0 ?k0 ?a1 ?l1 ?c1 ?k1 ?a2 ?l2 ?c2 ?k2 ?a3 ?l3 ?c3 ?k3 ?a4 ?l4 ?c4 ?k4 ?a5 ?l5 ?c5 ?k5 ?a6 ?l6 ?c6 ?k6 ?a7 ?l7 ?c7 ?k7 ?a8 ?l8 ?c8 ?k8 ?a_Size ?a9 ?i9 ?l9 ?c9 ?k9 ?a10 ?i10 ?l10 ?c10 ?k10 ?a11 ?i11 ?l11 ?c11 ?k11 ?a12 ?i12 ?l12 ?c12 ?k12 ?pg_Size ?hd_Size ?po_Size ?sa_Size ?mk_Size ?kp_Size ?ne_Size ?ob_Size ?nolist_Size ?notuple_Size ?nodict_Size ?nostr_Size ?noint_Size ?nobool_Size ?noNoneType_Size ?ca_Size ?cn_Size ?ct_Size ?nC_Size ?ci_Size ?ti_Size ?z_len ?z_list ?z_range ?z_sorted ?z_dict ?z_str ?z_int ?z_isinstance ?z_repr ?z_tuple
    (case a0 => k_is)
    (case l0 => k_is)
    (case c0 => k_is)
    (case k0 => k_is)
    (case a1 => k_is)
    (case l1 => k_is)
    (case c1 => k_is)
    (case k1 => k_is)
    (case a2 => k_is)
    (case l2 => k_is)
    (case c2 => k_is)
    (case k2 => k_is)
    (case a3 => k_is)
    (case l3 => k_is)
    (case c3 => k_is)
    (case k3 => k_is)
    (case a4 => k_is)
    (case l4 => k_is)
    (case c4 => k_is)
    (case k4 => k_is)
    (case a5 => k_is)
    (case l5 => k_is)
    (case c5 => k_is)
    (case k5 => k_is)
    (case a6 => k_is)
    (case l6 => k_is)
    (case c6 => k_is)
    (case k6 => k_is)
    (case a7 => k_is)
    (case l7 => k_is)
    (case c7 => k_is)
    (case k7 => k_is)
    (case a8 => k_is)
    (case l8 => k_is)
    (case c8 => k_is)
    (case k8 => k_is)
    (case a_Size => k_is)
    (case a9 => k_is)
    (case i9 => k_is)
    (case l9 => k_is)
    (case c9 => k_is)
    (case k9 => k_is)
    (case a10 => k_is)
    (case i10 => k_is)
    (case l10 => k_is)
    (case c10 => k_is)
    (case k10 => k_is)
    (case a11 => k_is)
    (case i11 => k_is)
    (case l11 => k_is)
    (case c11 => k_is)
    (case k11 => k_is)
    (case a12 => k_is)
    (case i12 => k_is)
    (case l12 => k_is)
    (case c12 => k_is)
    (case k12 => k_is)
    (case pg_Size => k_is)
    (case hd_Size => k_is)
    (case po_Size => k_is)
    (case sa_Size => k_is)
    (case mk_Size => k_is)
    (case kp_Size => k_is)
    (case ne_Size => k_is)
    (case ob_Size => k_is)
    (case nolist_Size => k_is)
    (case notuple_Size => k_is)
    (case nodict_Size => k_is)
    (case nostr_Size => k_is)
    (case noint_Size => k_is)
    (case nobool_Size => k_is)
    (case noNoneType_Size => k_is)
    (case ca_Size => k_is)
    (case cn_Size => k_is)
    (case ct_Size => k_is)
    (case nC_Size => k_is)
    (case ci_Size => k_is)
    (case ti_Size => k_is)
    (case z_len => k_is)
    (case z_list => k_is)
    (case z_range => k_is)
    (case z_sorted => k_is)
    (case z_dict => k_is)
    (case z_str => k_is)
    (case z_int => k_is)
    (case z_isinstance => k_is)
    (case z_repr => k_is)
    (case z_tuple => k_is)
